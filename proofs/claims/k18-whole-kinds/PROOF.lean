import PyProof.Rows.All
import Wide.All
import OpenK.AllK
import Wide.FinOn
import HandS.ForMost
import HandS.Flow
import HandS.Style
import HandS.IsInst
import HandS.Deep
import HandS.Star
import HandS.Conv
import HandS.Walk
import HandS.TupSets
import KE.DatumOrd
import KE.SortData
import KE.KDictKeyed
import KE.KeyNested
import KE.KDictDisplayH
import KE.GoesEnum
import HandS.TupMul
import HandS.Codes
import PySem.Challenge.RW_dartwebs_k18_whole_kinds

section
set_option Elab.async false
set_option linter.all false
set_option maxRecDepth 100000
/-! Layer A: data that never changes (ints, texts, None, tuples of such), known by its key; what keeps it. -/
namespace L2.DL
open PySem PySem.Spec PyProof.Rows

mutual
/-- the value v is the unchanging thing k -/
inductive Im (K : PySem.W.Frag) (H : Hp) : V → NestedKey → Prop
  | non : Im K H .non .none
  | int (i : Int) : Im K H (.int i) (.num i)
  | str (x : Str) : Im K H (.str x) (.text x)
  | tup {a : Addr} {xs : List V} {ks : List NestedKey} (h : SqT K H a xs) (t : ImAll K H xs ks) : Im K H (.ref a) (.tup ks)
inductive ImAll (K : PySem.W.Frag) (H : Hp) : List V → List NestedKey → Prop
  | nil : ImAll K H [] []
  | cons {v : V} {vs : List V} {k : NestedKey} {ks : List NestedKey} (h : Im K H v k) (t : ImAll K H vs ks) : ImAll K H (v :: vs) (k :: ks)
end
/-- every tuple is kept -/
def TEx (H H' : Hp) : Prop := ∀ a xs, Rd H a (.tup xs) → Rd H' a (.tup xs)
section
variable {K : PySem.W.Frag} {H H' H'' : Hp}
theorem TEx.refl (H : Hp) : TEx H H := fun _ _ h => h
theorem TEx.trans (a : TEx H H') (b : TEx H' H'') : TEx H H'' := fun x xs h => b x xs (a x xs h)
theorem TEx.same (e : Same H H') : TEx H H' := fun a xs h => by
  rcases h with h | ⟨o, h⟩
  · exact .inl (e _ _ h)
  · exact .inr ⟨o, e _ _ h⟩
theorem TEx.upd {l : Addr} {o : HO} (h : H l = none ∨ ∃ ys, H l = some (.lst ys)) : TEx H (upd H l o) := fun a xs r => by
  have ne : a ≠ l := fun e => by
    rw [e] at r
    rcases h with h | ⟨ys, h⟩ <;> rcases r with r | ⟨o, r⟩ <;> rw [h] at r <;> cases r
  rcases r with r | ⟨u, r⟩
  · exact .inl (by rw [upd_ne ne]; exact r)
  · exact .inr ⟨u, by rw [upd_ne ne]; exact r⟩
theorem TEx.sq (e : TEx H H') {a : Addr} {xs : List V} (h : SqT K H a xs) : SqT K H' a xs := by
  rcases h with h | h
  · exact .inl (e _ _ h)
  · exact .inr h
mutual
theorem Im.mono (e : TEx H H') : ∀ (k : NestedKey) (v : V), Im K H v k → Im K H' v k
  | .none, _, h => by cases h; exact .non
  | .num i, _, h => by cases h; exact .int i
  | .text x, _, h => by cases h; exact .str x
  | .tup ks, _, h => by
    cases h with
    | tup h t => exact .tup (e.sq h) (ImAll.mono e ks _ t)
theorem ImAll.mono (e : TEx H H') : ∀ (ks : List NestedKey) (vs : List V), ImAll K H vs ks → ImAll K H' vs ks
  | [], _, h => by cases h; exact .nil
  | k :: ks, _, h => by
    cases h with
    | cons h t => exact .cons (Im.mono e k _ h) (ImAll.mono e ks _ t)
end
mutual
theorem Im.dp : ∀ (k : NestedKey) (v : V), Im K H v k → Dp K H v k.data
  | .none, _, h => by cases h; exact .non
  | .num i, _, h => by cases h; exact .int i
  | .text x, _, h => by cases h; exact .str x
  | .tup ks, _, h => by
    cases h with
    | tup h t => exact .tup h (ImAll.dp ks _ t)
theorem ImAll.dp : ∀ (ks : List NestedKey) (vs : List V), ImAll K H vs ks → DpAll K H vs (NestedKey.datas ks)
  | [], _, h => by cases h; exact .nil
  | k :: ks, _, h => by
    cases h with
    | cons h t => exact .cons (Im.dp k _ h) (ImAll.dp ks _ t)
end
theorem datas_map : ∀ ks : List NestedKey, NestedKey.datas ks = ks.map NestedKey.data
  | [] => rfl
  | k :: ks => by rw [NestedKey.datas, datas_map ks]; rfl
theorem Im.num_inv {v : V} {i : Int} (h : Im K H v (.num i)) : v = .int i := by cases h; rfl
theorem Im.text_inv {v : V} {x : Str} (h : Im K H v (.text x)) : v = .str x := by cases h; rfl
theorem Im.tup_inv {v : V} {ks : List NestedKey} (h : Im K H v (.tup ks)) : ∃ a xs, v = .ref a ∧ SqT K H a xs ∧ ImAll K H xs ks := by
  cases h with
  | tup h t => exact ⟨_, _, rfl, h, t⟩
theorem ImAll.length : ∀ {xs : List V} {ks : List NestedKey}, ImAll K H xs ks → xs.length = ks.length
  | _, _, .nil => rfl
  | _, _, .cons _ t => by rw [List.length_cons, List.length_cons, ImAll.length t]
theorem ImAll.get : ∀ {xs : List V} {ks : List NestedKey} {i : Nat} {k : NestedKey}, ImAll K H xs ks → ks[i]? = some k → ∃ x, xs[i]? = some x ∧ Im K H x k
  | _, _, _, _, .nil, e => by simp at e
  | _, _, 0, _, .cons h _, e => by simp at e; subst e; exact ⟨_, rfl, h⟩
  | _, _, i + 1, k, .cons _ t, e => by
    obtain ⟨x, h1, h2⟩ := ImAll.get (i := i) (k := k) t (by simpa using e)
    exact ⟨x, by simpa using h1, h2⟩
theorem ImAll.at : ∀ {xs : List V} {ks : List NestedKey} {i : Nat} {x : V}, ImAll K H xs ks → xs[i]? = some x → ∃ k, ks[i]? = some k ∧ Im K H x k
  | _, _, _, _, .nil, e => by simp at e
  | _, _, 0, _, .cons h _, e => by simp at e; subst e; exact ⟨_, rfl, h⟩
  | _, _, i + 1, x, .cons _ t, e => by
    obtain ⟨k, h1, h2⟩ := ImAll.at (i := i) (x := x) t (by simpa using e)
    exact ⟨k, by simpa using h1, h2⟩
theorem ImAll.append : ∀ {xs ys : List V} {ks js : List NestedKey}, ImAll K H xs ks → ImAll K H ys js → ImAll K H (xs ++ ys) (ks ++ js)
  | _, _, _, _, .nil, h => h
  | _, _, _, _, .cons h t, u => .cons h (ImAll.append t u)
theorem ImAll.snoc {xs : List V} {ks : List NestedKey} {x : V} {k : NestedKey} (h : ImAll K H xs ks) (hx : Im K H x k) : ImAll K H (xs ++ [x]) (ks ++ [k]) := h.append (.cons hx .nil)
theorem ImAll.dropLast : ∀ {xs : List V} {ks : List NestedKey}, ImAll K H xs ks → ImAll K H xs.dropLast ks.dropLast
  | _, _, .nil => .nil
  | _, _, .cons _ .nil => .nil
  | _, _, .cons h (.cons h' t) => .cons h (ImAll.dropLast (.cons h' t))
theorem im_ints : ∀ (ns : List Int), ImAll K H (ns.map V.int) (ns.map NestedKey.num)
  | [] => .nil
  | n :: ns => .cons (.int n) (im_ints ns)
theorem im_ints_inv : ∀ {ns : List Int} {xs : List V}, ImAll K H xs (ns.map NestedKey.num) → xs = ns.map V.int
  | [], _, h => by cases h; rfl
  | n :: ns, _, h => by
    cases h with
    | cons h t => rw [im_ints_inv t, h.num_inv]; rfl
theorem im_strs_inv : ∀ {ns : List Str} {xs : List V}, ImAll K H xs (ns.map NestedKey.text) → xs = ns.map V.str
  | [], _, h => by cases h; rfl
  | n :: ns, _, h => by
    cases h with
    | cons h t => rw [im_strs_inv t, h.text_inv]; rfl
end
section
variable {X : Cx} {pins : List (Addr × Obj)} {σ : St} {H : Hp} {s : Shared}
mutual
theorem Im.nested (I : Inv X pins σ H s) : ∀ (k : NestedKey) (v : V) (u : Value), Im X.K H v k → RelV v u → NestedIs s.heap k u
  | .none, _, _, h, r => by cases h; cases r; exact .none
  | .num i, _, _, h, r => by cases h; obtain ⟨t, rfl⟩ := r; exact .int i t
  | .text x, _, _, h, r => by cases h; obtain ⟨t, rfl⟩ := r; exact .text x t
  | .tup ks, _, _, h, r => by
    cases h with
    | tup h t =>
      cases r
      obtain ⟨its, rv, ⟨o, ho, hc, n, hd⟩, _⟩ := I.tuple h
      exact .tup ho hc hd (by simpa using ImAll.nested I ks _ its t rv)
theorem ImAll.nested (I : Inv X pins σ H s) : ∀ (ks : List NestedKey) (vs : List V) (us : List Value), ImAll X.K H vs ks → Vals vs us → NestedAll s.heap ks us
  | [], _, _, h, r => by cases h; cases r; exact .nil
  | k :: ks, _, _, h, r => by
    cases h with
    | cons h t =>
      cases r with
      | cons r1 r2 => exact .cons (Im.nested I k _ _ h r1) (ImAll.nested I ks _ _ t r2)
end
theorem ImAll.reads (I : Inv X pins σ H s) {ks : List NestedKey} {vs : List V} {us : List Value} (h : ImAll X.K H vs ks) (r : Vals vs us) : ∃ as, ReadsAll s.heap us (ks.map NestedKey.data) as := by
  rw [← datas_map]
  exact Dp.readsAll I _ _ _ (ImAll.dp ks vs h) r
end
end L2.DL
end

section
set_option Elab.async false
set_option linter.all false
set_option maxRecDepth 100000
/-! Layer B: sorted and min of lists of unchanging data. -/
namespace L2.DL
open PySem PySem.Spec PyProof.Rows
section
variable {X : Cx} {pins : List (Addr × Obj)} {σ : St} {H : Hp} {s : Shared}
/-- a value of the heap stands for the thing k -/
def RK (K : PySem.W.Frag) (H : Hp) (u : Value) (k : NestedKey) : Prop := ∃ x, RelV x u ∧ Im K H x k
theorem each_rk {K : PySem.W.Frag} : ∀ {xs : List V} {us : List Value} {ks : List NestedKey}, Vals xs us → ImAll K H xs ks → PySem.W.EachIs (RK K H) us ks
  | _, _, _, .nil, .nil => .nil
  | _, _, _, .cons r rs, .cons h t => .cons ⟨_, r, h⟩ (each_rk rs t)
theorem rk_each {K : PySem.W.Frag} : ∀ {us : List Value} {ks : List NestedKey}, PySem.W.EachIs (RK K H) us ks → ∃ xs, Vals xs us ∧ ImAll K H xs ks
  | _, _, .nil => ⟨[], .nil, .nil⟩
  | _, _, .cons ⟨x, r, h⟩ t => by
    obtain ⟨xs, r', h'⟩ := rk_each t
    exact ⟨x :: xs, .cons r r', .cons h h'⟩
theorem each_reads (I : Inv X pins σ H s) : ∀ {us : List Value} {ks : List NestedKey}, PySem.W.EachIs (RK X.K H) us ks → PySem.W.EachIs (fun v k => ∃ as, Reads s.heap v (NestedKey.data k) as) us ks
  | _, _, .nil => .nil
  | _, _, .cons ⟨x, r, h⟩ t => .cons (Dp.reads I _ _ _ (Im.dp _ _ h) r) (each_reads I t)
def rSortK (K : PySem.W.Frag) : List V → Hp → VK → Prop := fun vs H Q => ∃ (a : Addr) (xs : List V) (ks : List NestedKey), vs = [.ref a] ∧ SqL K H a xs ∧ ImAll K H xs ks ∧
  PySem.W.AllAlike (ks.map NestedKey.data) ∧ PySem.W.Sortable (ks.map NestedKey.data) ∧ ks.length ≤ 10000 ∧ (∀ k ∈ ks, k.data.depth ≤ 8) ∧
  ∀ p ys, H p = none → ImAll K H ys (ks.mergeSort (PySem.W.dataLe false NestedKey.data)) → Q (.ref p) (upd H p (.lst ys))
theorem cr_sortedK (hu : X.A.units + 64 < cLine) : CallR X (.builtin "sorted") (rSortK X.K) := by
  intro pins s σ H vs us Q I r h
  obtain ⟨a, xs, ks, rfl, hs, him, hal, hso, hn, hd, q⟩ := h
  obtain ⟨its, rv, hl, _⟩ := I.list hs
  rw [Vals.ref1 r]
  have e := each_rk rv him
  refine PySem.W.sorted_data (R := RK X.K H) (enc := NestedKey.data) hl.isList e (each_reads I e) hal hso (by rw [sizeLine_eq]; omega) (fun k hk => by have := hd k hk; omega) fun out hlen eo => ?_
  obtain ⟨ys, ry, hy⟩ := rk_each eo
  obtain ⟨ep, he⟩ := PyProof.Rows.sortedAll_at s.heap its (List.toArray out)
  have hly : ys.length ≤ sizeLine := by rw [ry.length, hlen, sizeLine_eq]; omega
  exact ⟨.ref _, upd H (s.heap.objs.size + 1) (.lst ys), I.laid (t' := s.toks) (fun _ _ => PyProof.Rows.sortedAll_old) (Nat.le_succ _) ⟨hly, out, ep, ry, he⟩, rfl, q _ ys (I.hok.fresh (Nat.le_succ _)) hy⟩
def rMinD (K : PySem.W.Frag) : List V → Hp → VK → Prop := fun vs H Q => ∃ (a : Addr) (xs : List V) (k : NestedKey) (ks : List NestedKey), vs = [.ref a] ∧ SqL K H a xs ∧ ImAll K H xs (k :: ks) ∧
  PySem.W.AlikeAll ((k :: ks).map NestedKey.data) ∧ PyData.depthAll ((k :: ks).map NestedKey.data) ≤ 8 ∧
  ∀ (x : V) (j : NestedKey), j ∈ k :: ks → Im K H x j → j.data = PySem.W.minD k.data (ks.map NestedKey.data) → Q x H
theorem cr_minD (hc : X.calm = true) (hu : X.A.units + 64 < cLine) : CallR X (.builtin "min") (rMinD X.K) := by
  intro pins s σ H vs us Q I r h
  obtain ⟨a, xs, k, ks, rfl, hs, him, hal, hd, q⟩ := h
  obtain ⟨its, rv, hl, _⟩ := I.list hs
  rw [Vals.ref1 r]
  obtain ⟨as, hr⟩ := ImAll.reads I him rv
  have hr' : ReadsAll s.heap its.toArray.toList (k.data :: ks.map NestedKey.data) as := hr
  refine PySem.W.min_list_data (I.ok.hd hc) hl.isList hr' hal (by have : X.A.units + 1 + 8 < cLine := by omega
                                                                  exact Nat.lt_of_le_of_lt (Nat.add_le_add_left hd _) this) fun i v h' tk bs hi hm hk => ?_
  have hi' : its[i]? = some v := by simpa using hi
  obtain ⟨x, j, hx, hj, rx, hxj⟩ : ∃ x j, xs[i]? = some x ∧ (k :: ks)[i]? = some j ∧ RelV x v ∧ Im X.K H x j := by
    cases e : xs[i]? with
    | none => rw [rv.none_of e] at hi'; cases hi'
    | some x =>
      obtain ⟨u, eu, ru⟩ := rv.get e
      rw [eu] at hi'
      cases hi'
      obtain ⟨j, ej, hxj⟩ := him.at e
      exact ⟨x, j, rfl, ej, ru, hxj⟩
  have I' : Inv X pins σ H { s with heap := h', toks := tk } := I.kept hk
  obtain ⟨cs, hc2⟩ := Dp.reads I' _ _ _ (Im.dp _ _ hxj) rx
  have hjm : j ∈ k :: ks := List.mem_of_getElem? hj
  have hmin : PySem.W.minD k.data (ks.map NestedKey.data) ∈ (k :: ks).map NestedKey.data := by
    have key : ∀ (l : List PyData) (d : PyData), l.foldl (fun a y => if PySem.W.dataLt y a then y else a) d ∈ d :: l := by
      intro l
      induction l with
      | nil => intro d; simp
      | cons b l ih =>
        intro d
        rw [List.foldl_cons]
        rcases List.mem_cons.mp (ih (if PySem.W.dataLt b d then b else d)) with e | e
        · rw [e]; split <;> simp
        · exact List.mem_cons_of_mem _ (List.mem_cons_of_mem _ e)
    exact key (ks.map NestedKey.data) k.data
  have e := PySem.W.alike_unique _ _ _ _ _ (hal.1 _ (List.mem_map.mpr ⟨j, hjm, rfl⟩) _ hmin) hc2 hm
  exact ⟨x, H, I', rx, q x j hjm hxj e⟩
end
end L2.DL
end

section
set_option linter.all false
set_option autoImplicit false
/-! Part A of the plain law: strict orders, sorting by insertion, the least of a list, places, lists without repetition. -/
namespace DW
class LO (α : Type) [DecidableEq α] where
  lt : α → α → Bool
  irr : ∀ a, lt a a = false
  trans : ∀ a b c, lt a b = true → lt b c = true → lt a c = true
  tri : ∀ a b, a ≠ b → lt a b = true ∨ lt b a = true
open LO
section
variable {α β : Type} [DecidableEq α] [LO α] [DecidableEq β] [LO β]
theorem asym {a b : α} (h : lt a b = true) : lt b a = false := by
  cases e : lt b a with
  | false => rfl
  | true => exact absurd ((LO.irr a).symm.trans (LO.trans a b a h e)) (by simp)
theorem eq_of_not {a b : α} (h1 : lt a b = false) (h2 : lt b a = false) : a = b := by
  by_cases h : a = b
  · exact h
  · rcases LO.tri a b h with q | q <;> simp_all
theorem le_trans {a b c : α} (h1 : lt b a = false) (h2 : lt c b = false) : lt c a = false := by
  cases e : lt c a with
  | false => rfl
  | true =>
    by_cases h : a = b
    · subst h; rw [h2] at e; cases e
    · rcases LO.tri a b h with q | q
      · have := LO.trans c a b e q; rw [h2] at this; cases this
      · rw [h1] at q; cases q

/-! ### the orders -/
instance : LO Int where
  lt a b := decide (a < b)
  irr a := by simp
  trans a b c h1 h2 := by simp at *; omega
  tri a b h := by simp; omega
def ltP (p q : α × β) : Bool := if p.1 = q.1 then lt p.2 q.2 else lt p.1 q.1
instance : LO (α × β) where
  lt := ltP
  irr p := by simp [ltP, LO.irr]
  trans p q r h1 h2 := by
    unfold ltP at *
    by_cases a : p.1 = q.1
    · by_cases b : q.1 = r.1
      · rw [if_pos a] at h1; rw [if_pos b] at h2; rw [if_pos (a.trans b)]; exact LO.trans _ _ _ h1 h2
      · rw [if_neg b] at h2
        rw [if_neg (fun e => b (a.symm.trans e)), a]; exact h2
    · rw [if_neg a] at h1
      by_cases b : q.1 = r.1
      · rw [if_neg (fun e => a (e.trans b.symm)), ← b]; exact h1
      · rw [if_neg b] at h2
        have h := LO.trans _ _ _ h1 h2
        by_cases c : p.1 = r.1
        · rw [c, LO.irr] at h; cases h
        · rw [if_neg c]; exact h
  tri p q h := by
    unfold ltP
    by_cases a : p.1 = q.1
    · have : p.2 ≠ q.2 := fun e => h (Prod.ext a e)
      rw [if_pos a, if_pos a.symm]; exact LO.tri _ _ this
    · rw [if_neg a, if_neg (Ne.symm a)]; exact LO.tri _ _ a
def ltL : List α → List α → Bool
  | [], [] => false
  | [], _ :: _ => true
  | _ :: _, [] => false
  | x :: xs, y :: ys => if x = y then ltL xs ys else lt x y
theorem ltL_irr : ∀ xs : List α, ltL xs xs = false
  | [] => rfl
  | x :: xs => by rw [ltL, if_pos rfl]; exact ltL_irr xs
theorem ltL_trans : ∀ xs ys zs : List α, ltL xs ys = true → ltL ys zs = true → ltL xs zs = true
  | [], [], _, h, _ => by simp [ltL] at h
  | [], _ :: _, [], _, h => by simp [ltL] at h
  | [], _ :: _, _ :: _, _, _ => rfl
  | _ :: _, [], _, h, _ => by simp [ltL] at h
  | _ :: _, _ :: _, [], _, h => by simp [ltL] at h
  | x :: xs, y :: ys, z :: zs, h1, h2 => by
    rw [ltL] at *
    by_cases a : x = y
    · subst a
      rw [if_pos rfl] at h1
      by_cases b : x = z
      · subst b; rw [if_pos rfl] at h2 ⊢; exact ltL_trans _ _ _ h1 h2
      · rw [if_neg b] at h2 ⊢; exact h2
    · rw [if_neg a] at h1
      by_cases b : y = z
      · subst b; rw [if_neg a]; exact h1
      · rw [if_neg b] at h2
        have h := LO.trans _ _ _ h1 h2
        by_cases c : x = z
        · rw [c, LO.irr] at h; cases h
        · rw [if_neg c]; exact h
theorem ltL_tri : ∀ xs ys : List α, xs ≠ ys → ltL xs ys = true ∨ ltL ys xs = true
  | [], [], h => absurd rfl h
  | [], _ :: _, _ => .inl rfl
  | _ :: _, [], _ => .inr rfl
  | x :: xs, y :: ys, h => by
    rw [ltL, ltL]
    by_cases a : x = y
    · subst a
      rw [if_pos rfl, if_pos rfl]; exact ltL_tri xs ys fun e => h (by rw [e])
    · rw [if_neg a, if_neg (Ne.symm a)]; exact LO.tri _ _ a
instance : LO (List α) where
  lt := ltL
  irr := ltL_irr
  trans := ltL_trans
  tri := ltL_tri

/-! ### sorting -/
def ins (x : α) : List α → List α
  | [] => [x]
  | y :: ys => if lt y x = true then y :: ins x ys else x :: y :: ys
def isort : List α → List α
  | [] => []
  | x :: xs => ins x (isort xs)
def Asc (l : List α) : Prop := l.Pairwise fun a b => lt b a = false
theorem ins_perm (x : α) : ∀ l : List α, (ins x l).Perm (x :: l)
  | [] => List.Perm.refl _
  | y :: ys => by
    rw [ins]
    split
    · exact ((ins_perm x ys).cons y).trans (List.Perm.swap x y ys)
    · exact List.Perm.refl _
theorem isort_perm : ∀ l : List α, (isort l).Perm l
  | [] => List.Perm.refl _
  | x :: xs => (ins_perm x _).trans ((isort_perm xs).cons x)
theorem ins_asc (x : α) : ∀ l : List α, Asc l → Asc (ins x l)
  | [], _ => by simp [ins, Asc]
  | y :: ys, h => by
    rw [ins]
    have h' := List.pairwise_cons.mp h
    split
    · rename_i q
      refine List.pairwise_cons.mpr ⟨fun z hz => ?_, ins_asc x ys h'.2⟩
      rcases List.mem_cons.mp ((ins_perm x ys).mem_iff.mp hz) with rfl | hz
      · exact asym q
      · exact h'.1 z hz
    · rename_i q
      have q' : lt y x = false := by simpa using q
      refine List.pairwise_cons.mpr ⟨fun z hz => ?_, h⟩
      rcases List.mem_cons.mp hz with rfl | hz
      · exact q'
      · exact le_trans q' (h'.1 z hz)
theorem isort_asc : ∀ l : List α, Asc (isort l)
  | [] => List.Pairwise.nil
  | x :: xs => ins_asc x _ (isort_asc xs)
theorem asc_unique {l l' : List α} (p : l.Perm l') (h : Asc l) (h' : Asc l') : l = l' :=
  List.Perm.eq_of_pairwise (le := fun a b => lt b a = false) (fun a b _ _ h1 h2 => eq_of_not h2 h1) h h' p
theorem isort_eq {l l' : List α} (p : l.Perm l') : isort l = isort l' :=
  asc_unique ((isort_perm l).trans (p.trans (isort_perm l').symm)) (isort_asc l) (isort_asc l')
theorem asc_isort {l l' : List α} (p : l.Perm l') (h : Asc l) : l = isort l' :=
  asc_unique (p.trans (isort_perm l').symm) h (isort_asc l')

/-! ### the least -/
def least [Inhabited α] : List α → α
  | [] => default
  | x :: xs => xs.foldl (fun a y => if lt y a = true then y else a) x
theorem fold_least : ∀ (xs : List α) (x : α), (xs.foldl (fun a y => if lt y a = true then y else a) x) ∈ x :: xs ∧ ∀ y ∈ x :: xs, lt y (xs.foldl (fun a y => if lt y a = true then y else a) x) = false
  | [], x => by
    refine ⟨by simp, fun y hy => ?_⟩
    have : y = x := by simpa using hy
    subst this; exact LO.irr y
  | z :: zs, x => by
    rw [List.foldl_cons]
    by_cases q : lt z x = true
    · rw [if_pos q]
      obtain ⟨h1, h2⟩ := fold_least zs z
      refine ⟨List.mem_cons_of_mem _ h1, fun y hy => ?_⟩
      rcases List.mem_cons.mp hy with rfl | hy
      · exact le_trans (h2 z (List.mem_cons_self ..)) (asym q)
      · exact h2 y hy
    · rw [if_neg q]
      have q' : lt z x = false := by simpa using q
      obtain ⟨h1, h2⟩ := fold_least zs x
      refine ⟨?_, fun y hy => ?_⟩
      · rcases List.mem_cons.mp h1 with e | e
        · rw [e]; exact List.mem_cons_self ..
        · exact List.mem_cons_of_mem _ (List.mem_cons_of_mem _ e)
      · rcases List.mem_cons.mp hy with rfl | hy
        · exact h2 y (List.mem_cons_self ..)
        · rcases List.mem_cons.mp hy with rfl | hy
          · exact le_trans (h2 x (List.mem_cons_self ..)) q'
          · exact h2 y (List.mem_cons_of_mem _ hy)
theorem least_mem [Inhabited α] {l : List α} (h : l ≠ []) : least l ∈ l := by
  cases l with
  | nil => exact absurd rfl h
  | cons x xs => exact (fold_least xs x).1
theorem least_le [Inhabited α] {l : List α} {y : α} (h : y ∈ l) : lt y (least l) = false := by
  cases l with
  | nil => cases h
  | cons x xs => exact (fold_least xs x).2 y h
theorem least_same [Inhabited α] {l l' : List α} (h : l ≠ []) (hm : ∀ x, x ∈ l ↔ x ∈ l') : least l = least l' := by
  have h' : l' ≠ [] := fun e => by
    subst e
    exact absurd ((hm _).mp (least_mem h)) (by simp)
  exact eq_of_not (least_le ((hm _).mp (least_mem h))) (least_le ((hm _).mpr (least_mem h'))) 
end

/-! ### places, no repetition -/
section
variable {α : Type} [DecidableEq α]
def pos (x : α) : List α → Nat
  | [] => 0
  | y :: ys => if y = x then 0 else pos x ys + 1
theorem pos_get : ∀ {l : List α} {x : α}, x ∈ l → l[pos x l]? = some x
  | [], _, h => by cases h
  | y :: ys, x, h => by
    rw [pos]
    split
    · rename_i e; rw [e]; rfl
    · rename_i e
      have : x ∈ ys := by
        rcases List.mem_cons.mp h with q | q
        · exact absurd q.symm e
        · exact q
      simpa using pos_get this
theorem pos_lt {l : List α} {x : α} (h : x ∈ l) : pos x l < l.length := (List.getElem?_eq_some_iff.mp (pos_get h)).1
theorem pos_first : ∀ {l : List α} {x z : α} {m : Nat}, m < pos x l → l[m]? = some z → z ≠ x
  | [], _, _, _, _, h => by simp at h
  | y :: ys, x, z, m, hm, h => by
    rw [pos] at hm
    split at hm
    · omega
    · rename_i e
      cases m with
      | zero => have : y = z := by simpa using h
                rw [← this]; exact e
      | succ m => exact pos_first (l := ys) (m := m) (by omega) (by simpa using h)
theorem pos_nodup {l : List α} (hn : l.Nodup) {i : Nat} {x : α} (h : l[i]? = some x) : pos x l = i := by
  obtain ⟨h1, e1⟩ := List.getElem?_eq_some_iff.mp h
  obtain ⟨h2, e2⟩ := List.getElem?_eq_some_iff.mp (pos_get (List.mem_of_getElem? h))
  exact (List.getElem_inj hn).mp (e2.trans e1.symm)
def dd : List α → List α
  | [] => []
  | x :: xs => if x ∈ xs then dd xs else x :: dd xs
theorem dd_mem : ∀ {l : List α} {x : α}, x ∈ dd l ↔ x ∈ l
  | [], _ => Iff.rfl
  | y :: ys, x => by
    rw [dd]
    split
    · rename_i h
      rw [dd_mem, List.mem_cons]
      exact ⟨.inr, fun q => q.elim (fun e => by rw [e]; exact h) id⟩
    · rw [List.mem_cons, List.mem_cons, dd_mem]
theorem dd_nodup : ∀ l : List α, (dd l).Nodup
  | [] => List.Pairwise.nil
  | y :: ys => by
    rw [dd]
    split
    · exact dd_nodup ys
    · rename_i h
      exact List.nodup_cons.mpr ⟨fun q => h (dd_mem.mp q), dd_nodup ys⟩
theorem nodup_perm {l l' : List α} (h : l.Nodup) (h' : l'.Nodup) (hm : ∀ x, x ∈ l ↔ x ∈ l') : l.Perm l' := by
  refine List.perm_iff_count.mpr fun a => ?_
  by_cases q : a ∈ l
  · rw [List.Nodup.count h, List.Nodup.count h', if_pos q, if_pos ((hm a).mp q)]
  · rw [List.count_eq_zero.mpr q, List.count_eq_zero.mpr fun z => q ((hm a).mpr z)]
theorem nodup_len : ∀ {l l' : List α}, l.Nodup → (∀ x ∈ l, x ∈ l') → l.length ≤ l'.length
  | [], _, _, _ => Nat.zero_le _
  | x :: xs, l', hn, h => by
    have h' := List.nodup_cons.mp hn
    have hx : x ∈ l' := h x (List.mem_cons_self ..)
    have ih := nodup_len (l' := l'.erase x) h'.2 fun y hy => (List.mem_erase_of_ne (fun e => h'.1 (by rw [← e]; exact hy))).mpr (h y (List.mem_cons_of_mem _ hy))
    have e := List.length_erase_of_mem hx
    have : 0 < l'.length := List.length_pos_of_mem hx
    simp only [List.length_cons]
    omega
theorem nodup_map {β : Type} {f : α → β} : ∀ {l : List α}, l.Nodup → (∀ x ∈ l, ∀ y ∈ l, f x = f y → x = y) → (l.map f).Nodup
  | [], _, _ => List.Pairwise.nil
  | x :: xs, hn, h => by
    have h' := List.nodup_cons.mp hn
    rw [List.map_cons]
    refine List.nodup_cons.mpr ⟨fun q => ?_, nodup_map h'.2 fun a ha b hb => h a (List.mem_cons_of_mem _ ha) b (List.mem_cons_of_mem _ hb)⟩
    obtain ⟨y, hy, e⟩ := List.mem_map.mp q
    have := h y (List.mem_cons_of_mem _ hy) x (List.mem_cons_self ..) e
    exact h'.1 (this ▸ hy)
end
end DW
end

section
set_option linter.all false
set_option autoImplicit false
/-! Part B of the plain law: webs, names, turns, marks, orders, the plain name and that it does not hang on names. -/
namespace DW
open LO
abbrev Web := List (List Int)
def at2 (W : Web) (y z : Nat) : Int := (W.getD y []).getD z 0
def mk (n : Nat) (f : Nat → Nat → Int) : Web := (List.range n).map fun y => (List.range n).map fun z => f y z
structure Sh (n : Nat) (W : Web) : Prop where
  len : W.length = n
  row : ∀ r ∈ W, r.length = n
theorem getD_of {α : Type} {l : List α} {i : Nat} {x d : α} (h : l[i]? = some x) : l.getD i d = x := by
  rw [List.getD_eq_getElem?_getD, h]; rfl
theorem map_range_get {α : Type} {n i : Nat} {f : Nat → α} (h : i < n) : ((List.range n).map f)[i]? = some (f i) := by
  rw [List.getElem?_map, List.getElem?_range h]; rfl
theorem map_range_getD {α : Type} {n i : Nat} {f : Nat → α} {d : α} (h : i < n) : ((List.range n).map f).getD i d = f i := getD_of (map_range_get h)
theorem mk_at {n : Nat} {f : Nat → Nat → Int} {y z : Nat} (hy : y < n) (hz : z < n) : at2 (mk n f) y z = f y z := by
  unfold at2 mk
  rw [map_range_getD hy, map_range_getD hz]
theorem mk_sh (n : Nat) (f : Nat → Nat → Int) : Sh n (mk n f) := by
  refine ⟨by simp [mk], fun r hr => ?_⟩
  obtain ⟨y, _, rfl⟩ := List.mem_map.mp hr
  simp
theorem sh_get {n : Nat} {W : Web} (h : Sh n W) {y : Nat} (hy : y < n) : ∃ r, W[y]? = some r ∧ r.length = n ∧ W.getD y [] = r := by
  have hl : y < W.length := by rw [h.len]; exact hy
  exact ⟨W[y], List.getElem?_eq_getElem hl, h.row _ (List.getElem_mem hl), getD_of (List.getElem?_eq_getElem hl)⟩
theorem sh_at {n : Nat} {W : Web} (h : Sh n W) {y z : Nat} (hy : y < n) (hz : z < n) {r : List Int} (hr : W[y]? = some r) : r[z]? = some (at2 W y z) := by
  obtain ⟨r', e, l, e2⟩ := sh_get h hy
  rw [hr] at e
  cases e
  have hl : z < r.length := by rw [l]; exact hz
  unfold at2
  rw [e2, getD_of (List.getElem?_eq_getElem hl)]
  exact List.getElem?_eq_getElem hl
theorem sh_ext {n : Nat} {W V : Web} (h : Sh n W) (h' : Sh n V) (e : ∀ y, y < n → ∀ z, z < n → at2 W y z = at2 V y z) : W = V := by
  apply List.ext_getElem?
  intro y
  by_cases hy : y < n
  · obtain ⟨r, e1, l1, _⟩ := sh_get h hy
    obtain ⟨r', e2, l2, _⟩ := sh_get h' hy
    rw [e1, e2]
    congr 1
    apply List.ext_getElem?
    intro z
    by_cases hz : z < n
    · rw [sh_at h hy hz e1, sh_at h' hy hz e2, e y hy z hz]
    · rw [List.getElem?_eq_none (by omega), List.getElem?_eq_none (by omega)]
  · rw [List.getElem?_eq_none (by rw [h.len]; omega), List.getElem?_eq_none (by rw [h'.len]; omega)]
theorem mk_self {n : Nat} {W : Web} (h : Sh n W) : mk n (at2 W) = W := sh_ext (mk_sh _ _) h fun y hy z hz => mk_at hy hz

/-! ### orders -/
structure IsOrd (n : Nat) (o : List Nat) : Prop where
  len : o.length = n
  nd : o.Nodup
  lt : ∀ v ∈ o, v < n
abbrev og (o : List Nat) (x : Nat) : Nat := o.getD x 0
section
variable {n : Nat} {o : List Nat}
theorem IsOrd.perm (h : IsOrd n o) : o.Perm (List.range n) := by
  refine nodup_perm h.nd List.nodup_range fun x => ⟨fun q => List.mem_range.mpr (h.lt x q), fun q => ?_⟩
  by_cases hx : x ∈ o
  · exact hx
  · have h1 : (x :: o).Nodup := List.nodup_cons.mpr ⟨hx, h.nd⟩
    have h2 := nodup_len (l' := List.range n) h1 fun y hy => by
      rcases List.mem_cons.mp hy with rfl | hy
      · exact q
      · exact List.mem_range.mpr (h.lt y hy)
    have := h.len
    simp at h2
    omega
theorem IsOrd.mem (h : IsOrd n o) {v : Nat} (hv : v < n) : v ∈ o := h.perm.mem_iff.mpr (List.mem_range.mpr hv)
theorem IsOrd.get (h : IsOrd n o) {x : Nat} (hx : x < n) : o[x]? = some (og o x) := by
  have hl : x < o.length := by rw [h.len]; exact hx
  rw [og, getD_of (List.getElem?_eq_getElem hl)]
  exact List.getElem?_eq_getElem hl
theorem IsOrd.og_lt (h : IsOrd n o) {x : Nat} (hx : x < n) : og o x < n := h.lt _ (List.mem_of_getElem? (h.get hx))
theorem IsOrd.pos_og (h : IsOrd n o) {x : Nat} (hx : x < n) : pos (og o x) o = x := pos_nodup h.nd (h.get hx)
theorem IsOrd.og_pos (h : IsOrd n o) {v : Nat} (hv : v < n) : og o (pos v o) = v := getD_of (pos_get (h.mem hv))
theorem IsOrd.pos_lt (h : IsOrd n o) {v : Nat} (hv : v < n) : pos v o < n := by
  have := DW.pos_lt (h.mem hv)
  rw [h.len] at this
  exact this
theorem IsOrd.map (h : IsOrd n o) : (List.range n).map (og o) = o := by
  apply List.ext_getElem?
  intro i
  by_cases hi : i < n
  · rw [map_range_get hi, h.get hi]
  · rw [List.getElem?_eq_none (by simp; omega), List.getElem?_eq_none (by rw [h.len]; omega)]
theorem IsOrd.over {α : Type} (h : IsOrd n o) (f : Nat → Option α) : ((List.range n).filterMap f).Perm ((List.range n).filterMap fun z => f (og o z)) := by
  refine List.Perm.trans (List.Perm.filterMap f h.perm.symm) (List.Perm.of_eq ?_)
  refine (congrArg (List.filterMap f) h.map).symm.trans ?_
  rw [List.filterMap_map]
  rfl
theorem IsOrd.overM {α : Type} (h : IsOrd n o) (f : Nat → α) : ((List.range n).map f).Perm ((List.range n).map fun z => f (og o z)) := by
  refine List.Perm.trans (List.Perm.map f h.perm.symm) (List.Perm.of_eq ?_)
  refine (congrArg (List.map f) h.map).symm.trans ?_
  rw [List.map_map]
  rfl
theorem ord_id (n : Nat) : IsOrd n (List.range n) := ⟨by simp, List.nodup_range, fun v hv => List.mem_range.mp hv⟩
theorem og_id {n x : Nat} (hx : x < n) : og (List.range n) x = x := getD_of (List.getElem?_range hx)
def invO (n : Nat) (o : List Nat) : List Nat := (List.range n).map fun a => pos a o
theorem ord_of {f : Nat → Nat} (hf : ∀ x, x < n → f x < n) (hi : ∀ x, x < n → ∀ y, y < n → f x = f y → x = y) : IsOrd n ((List.range n).map f) := by
  refine ⟨by simp, nodup_map List.nodup_range fun x hx y hy e => hi x (List.mem_range.mp hx) y (List.mem_range.mp hy) e, fun v hv => ?_⟩
  obtain ⟨x, hx, rfl⟩ := List.mem_map.mp hv
  exact hf x (List.mem_range.mp hx)
theorem ord_inv (h : IsOrd n o) : IsOrd n (invO n o) := ord_of (fun x hx => h.pos_lt hx) fun x hx y hy e => by rw [← h.og_pos hx, ← h.og_pos hy, e]
theorem og_inv {x : Nat} (hx : x < n) : og (invO n o) x = pos x o := map_range_getD hx
def compO (n : Nat) (o p : List Nat) : List Nat := (List.range n).map fun x => og o (og p x)
theorem ord_comp {p : List Nat} (h : IsOrd n o) (h' : IsOrd n p) : IsOrd n (compO n o p) := ord_of (fun x hx => h.og_lt (h'.og_lt hx)) fun x hx y hy e => by
  have e1 : og p x = og p y := by rw [← h.pos_og (h'.og_lt hx), ← h.pos_og (h'.og_lt hy), e]
  rw [← h'.pos_og hx, ← h'.pos_og hy, e1]
theorem og_comp {p : List Nat} {x : Nat} (hx : x < n) : og (compO n o p) x = og o (og p x) := map_range_getD hx
end

/-! ### names -/
def nameW (W : Web) (o : List Nat) : Web := mk W.length fun a b => at2 W (pos a o) (pos b o)
section
variable {n : Nat} {W V : Web} {o p : List Nat}
theorem name_sh (h : Sh n W) : Sh n (nameW W o) := by
  have := mk_sh W.length fun a b => at2 W (pos a o) (pos b o)
  rw [h.len] at this
  unfold nameW
  rw [h.len]
  exact this
theorem name_at' (h : Sh n W) {a b : Nat} (ha : a < n) (hb : b < n) : at2 (nameW W o) a b = at2 W (pos a o) (pos b o) := by
  unfold nameW
  rw [h.len]
  exact mk_at ha hb
theorem name_at (h : Sh n W) (ho : IsOrd n o) {x y : Nat} (hx : x < n) (hy : y < n) : at2 (nameW W o) (og o x) (og o y) = at2 W x y := by
  rw [name_at' h (ho.og_lt hx) (ho.og_lt hy), ho.pos_og hx, ho.pos_og hy]
theorem name_unique (h : Sh n W) (hv : Sh n V) (ho : IsOrd n o) (e : ∀ x, x < n → ∀ y, y < n → at2 V (og o x) (og o y) = at2 W x y) : V = nameW W o := by
  refine sh_ext hv (name_sh h) fun a ha b hb => ?_
  have := e _ (ho.pos_lt ha) _ (ho.pos_lt hb)
  rw [ho.og_pos ha, ho.og_pos hb] at this
  rw [this, name_at' h ha hb]
theorem name_id (h : Sh n W) : nameW W (List.range n) = W :=
  (name_unique h h (ord_id n) fun x hx y hy => by rw [og_id hx, og_id hy]).symm
theorem name_comp (h : Sh n W) (ho : IsOrd n o) (hp : IsOrd n p) : nameW (nameW W p) o = nameW W (compO n o p) :=
  name_unique h (name_sh (name_sh h)) (ord_comp ho hp) fun x hx y hy => by
    rw [og_comp hx, og_comp hy, name_at (name_sh h) ho (hp.og_lt hx) (hp.og_lt hy), name_at h hp hx hy]
theorem comp_inv (ho : IsOrd n o) : compO n (invO n o) o = List.range n := by
  have h1 := ord_comp (ord_inv ho) ho
  refine h1.map.symm.trans (Eq.trans ?_ (ord_id n).map)
  refine List.map_congr_left fun x hx => ?_
  have hx := List.mem_range.mp hx
  rw [og_comp hx, og_inv (ho.og_lt hx), ho.pos_og hx, og_id hx]
theorem name_inv (h : Sh n W) (ho : IsOrd n o) : nameW (nameW W o) (invO n o) = W := by
  rw [name_comp h (ord_inv ho) ho, comp_inv ho, name_id h]
end
/-- one comes of the other by renaming -/
def Iso (n : Nat) (W V : Web) : Prop := ∃ o, IsOrd n o ∧ V = nameW W o
section
variable {n : Nat} {W V U : Web}
theorem iso_refl (h : Sh n W) : Iso n W W := ⟨_, ord_id n, (name_id h).symm⟩
theorem iso_sh (h : Sh n W) (i : Iso n W V) : Sh n V := by
  obtain ⟨o, _, rfl⟩ := i
  exact name_sh h
theorem iso_symm (h : Sh n W) (i : Iso n W V) : Iso n V W := by
  obtain ⟨o, ho, rfl⟩ := i
  exact ⟨_, ord_inv ho, (name_inv h ho).symm⟩
theorem iso_trans (h : Sh n W) (i : Iso n W V) (j : Iso n V U) : Iso n W U := by
  obtain ⟨o, ho, rfl⟩ := i
  obtain ⟨p, hp, rfl⟩ := j
  exact ⟨_, ord_comp hp ho, name_comp h hp ho⟩
end

/-! ### turns -/
def added (l r : Int) : Int := ((l.natAbs : Int) * r + l * (r.natAbs : Int)) / 2
def turnW (W : Web) (x : Nat) : Web := mk W.length fun y z => if x = y ∨ x = z then - at2 W y z else at2 W y z + added (at2 W y x) (at2 W x z)
section
variable {n : Nat} {W V : Web} {o : List Nat}
theorem turn_sh (h : Sh n W) {x : Nat} : Sh n (turnW W x) := by
  unfold turnW
  rw [h.len]
  exact mk_sh _ _
theorem turn_at (h : Sh n W) {x y z : Nat} (hy : y < n) (hz : z < n) : at2 (turnW W x) y z = if x = y ∨ x = z then - at2 W y z else at2 W y z + added (at2 W y x) (at2 W x z) := by
  unfold turnW
  rw [h.len]
  exact mk_at hy hz
theorem turn_name (h : Sh n W) (ho : IsOrd n o) {x : Nat} (hx : x < n) : turnW (nameW W o) (og o x) = nameW (turnW W x) o := by
  refine name_unique (turn_sh h) (turn_sh (name_sh h)) ho fun y hy z hz => ?_
  rw [turn_at (name_sh h) (ho.og_lt hy) (ho.og_lt hz), turn_at h hy hz, name_at h ho hy hz, name_at h ho hy hx, name_at h ho hx hz]
  have e : ∀ {a}, a < n → (og o x = og o a ↔ x = a) := fun {a} ha => ⟨fun q => by rw [← ho.pos_og hx, ← ho.pos_og ha, q], fun q => by rw [q]⟩
  simp only [e hy, e hz]
theorem turn_iso (h : Sh n W) (i : Iso n W V) {x : Nat} (hx : x < n) : ∃ x', x' < n ∧ Iso n (turnW W x') (turnW V x) := by
  obtain ⟨o, ho, rfl⟩ := i
  refine ⟨pos x o, ho.pos_lt hx, o, ho, ?_⟩
  rw [← turn_name h ho (ho.pos_lt hx), ho.og_pos hx]
end

/-! ### marks -/
def around (W : Web) (m : List Int) (x : Nat) : List (Int × Int) := (List.range W.length).filterMap fun z => if at2 W x z = 0 then none else some (at2 W x z, m.getD z 0)
def told (W : Web) (m : List Int) : List (Int × List (Int × Int)) := (List.range W.length).map fun x => (m.getD x 0, isort (around W m x))
def refined (W : Web) (m : List Int) : List Int := (told W m).map fun t => ((pos t (isort (dd (told W m))) : Nat) : Int)
def marksN (W : Web) : Nat → List Int
  | 0 => List.replicate W.length 0
  | k + 1 => refined W (marksN W k)
def marksOf (W : Web) : List Int := marksN W W.length
section
variable {n : Nat} {W : Web} {o : List Nat} {m m' : List Int}
theorem refined_len : (refined W m).length = W.length := by simp [refined, told]
theorem marksN_len (W : Web) : ∀ k, (marksN W k).length = W.length
  | 0 => by simp [marksN]
  | k + 1 => refined_len
/-- the marks follow the names -/
def MR (n : Nat) (o : List Nat) (m m' : List Int) : Prop := ∀ x, x < n → m'.getD (og o x) 0 = m.getD x 0
theorem around_ren (h : Sh n W) (ho : IsOrd n o) (e : MR n o m m') {x : Nat} (hx : x < n) : (around (nameW W o) m' (og o x)).Perm (around W m x) := by
  unfold around
  rw [(name_sh (o := o) h).len, h.len]
  refine List.Perm.trans (ho.over _) (List.Perm.of_eq ?_)
  have : ∀ l : List Nat, (∀ z ∈ l, z < n) → (l.filterMap fun z => if at2 (nameW W o) (og o x) (og o z) = 0 then none else some (at2 (nameW W o) (og o x) (og o z), m'.getD (og o z) 0)) =
      l.filterMap fun z => if at2 W x z = 0 then none else some (at2 W x z, m.getD z 0) := by
    intro l
    induction l with
    | nil => intro _; rfl
    | cons z zs ih =>
      intro hz
      have hz0 := hz z (List.mem_cons_self ..)
      rw [List.filterMap_cons, List.filterMap_cons, ih fun y hy => hz y (List.mem_cons_of_mem _ hy), name_at h ho hx hz0, e z hz0]
  exact this _ fun z hz => List.mem_range.mp hz
theorem told_ren (h : Sh n W) (ho : IsOrd n o) (e : MR n o m m') {x : Nat} (hx : x < n) : (m'.getD (og o x) 0, isort (around (nameW W o) m' (og o x))) = (m.getD x 0, isort (around W m x)) := by
  rw [e x hx, isort_eq (around_ren h ho e hx)]
theorem told_perm (h : Sh n W) (ho : IsOrd n o) (e : MR n o m m') : (told (nameW W o) m').Perm (told W m) := by
  unfold told
  rw [(name_sh (o := o) h).len, h.len]
  refine List.Perm.trans (ho.overM _) ?_
  refine List.Perm.of_eq (List.map_congr_left fun x hx => ?_)
  exact told_ren h ho e (List.mem_range.mp hx)
theorem dd_told (h : Sh n W) (ho : IsOrd n o) (e : MR n o m m') : isort (dd (told (nameW W o) m')) = isort (dd (told W m)) :=
  isort_eq (nodup_perm (dd_nodup _) (dd_nodup _) fun x => by rw [dd_mem, dd_mem]; exact (told_perm h ho e).mem_iff)
theorem refined_ren (h : Sh n W) (ho : IsOrd n o) (e : MR n o m m') : MR n o (refined W m) (refined (nameW W o) m') := by
  intro x hx
  have key : ∀ (V : Web) (q : List Int) (y : Nat), y < V.length → (refined V q).getD y 0 = ((pos (q.getD y 0, isort (around V q y)) (isort (dd (told V q))) : Nat) : Int) := by
    intro V q y hy
    unfold refined
    refine getD_of ?_
    rw [List.getElem?_map]
    have : (told V q)[y]? = some (q.getD y 0, isort (around V q y)) := map_range_get hy
    rw [this]
    rfl
  rw [key _ _ _ (by rw [(name_sh (o := o) h).len]; exact ho.og_lt hx), key _ _ _ (by rw [h.len]; exact hx), told_ren h ho e hx, dd_told h ho e]
theorem marksN_ren (h : Sh n W) (ho : IsOrd n o) : ∀ k, MR n o (marksN W k) (marksN (nameW W o) k)
  | 0 => fun x hx => by
    have a : ∀ (k y : Nat), y < k → (List.replicate k (0 : Int)).getD y 0 = 0 := fun k y hy => getD_of (by simp [hy])
    rw [marksN, marksN, a _ _ (by rw [(name_sh (o := o) h).len]; exact ho.og_lt hx), a _ _ (by rw [h.len]; exact hx)]
  | k + 1 => refined_ren h ho (marksN_ren h ho k)
theorem marks_ren (h : Sh n W) (ho : IsOrd n o) : MR n o (marksOf W) (marksOf (nameW W o)) := by
  unfold marksOf
  rw [(name_sh (o := o) h).len, h.len]
  exact marksN_ren h ho n
theorem marks_len : (marksOf W).length = W.length := marksN_len W _
end

/-! ### orders by marks -/
def longer (places : List Int) (v : Int) (o : List Nat) : List (List Nat) := (List.range places.length).filterMap fun a => if places.getD a 0 = v ∧ ¬ a ∈ o then some (o ++ [a]) else none
def ordersN (m : List Int) : Nat → List (List Nat)
  | 0 => [[]]
  | k + 1 => (ordersN m k).flatMap (longer (isort m) (m.getD k 0))
def ordersBy (m : List Int) : List (List Nat) := ordersN m m.length
structure Fit (m : List Int) (k : Nat) (o : List Nat) : Prop where
  len : o.length = k
  nd : o.Nodup
  lt : ∀ v ∈ o, v < m.length
  at_ : ∀ x, x < k → (isort m).getD (og o x) 0 = m.getD x 0
theorem isort_len {α : Type} [DecidableEq α] [LO α] (l : List α) : (isort l).length = l.length := (isort_perm l).length_eq
theorem og_append_lt {o : List Nat} {a x : Nat} (h : x < o.length) : og (o ++ [a]) x = og o x := by
  have e1 : (o ++ [a])[x]? = some o[x] := by rw [List.getElem?_append_left h, List.getElem?_eq_getElem h]
  unfold og
  rw [getD_of e1, getD_of (List.getElem?_eq_getElem h)]
theorem og_append_eq {o : List Nat} {a : Nat} : og (o ++ [a]) o.length = a := getD_of (by simp)
theorem mem_ordersN (m : List Int) : ∀ k o, o ∈ ordersN m k ↔ Fit m k o
  | 0, o => by
    rw [ordersN]
    constructor
    · intro h
      have : o = [] := by simpa using h
      subst this
      exact ⟨rfl, List.Pairwise.nil, fun v hv => by simp at hv, fun x hx => by omega⟩
    · intro h
      have : o = [] := List.eq_nil_of_length_eq_zero h.len
      rw [this]; simp
  | k + 1, o => by
    rw [ordersN, List.mem_flatMap]
    constructor
    · rintro ⟨p, hp, ho⟩
      have f := (mem_ordersN m k p).mp hp
      obtain ⟨a, ha, e⟩ := List.mem_filterMap.mp ho
      split at e
      · rename_i c
        cases e
        rw [List.mem_range, isort_len] at ha
        refine ⟨by simp [f.len], List.nodup_append.mpr ⟨f.nd, by simp, fun u hu v hv => ?_⟩, fun v hv => ?_, fun x hx => ?_⟩
        · have : v = a := by simpa using hv
          subst this
          exact fun q => c.2 (q ▸ hu)
        · rcases List.mem_append.mp hv with hv | hv
          · exact f.lt v hv
          · have : v = a := by simpa using hv
            omega
        · by_cases q : x < k
          · rw [og_append_lt (by rw [f.len]; exact q)]; exact f.at_ x q
          · have : x = p.length := by have := f.len; omega
            subst this
            rw [og_append_eq, f.len]; exact c.1
      · cases e
    · intro f
      have hl := f.len
      obtain ⟨p, a, rfl⟩ : ∃ p a, o = p ++ [a] := by
        cases h : o.reverse with
        | nil =>
          have : o = [] := by simpa using h
          subst this; simp at hl
        | cons a r => exact ⟨r.reverse, a, by rw [← List.reverse_reverse o, h]; simp⟩
      have hp : p.length = k := by simpa using hl
      have nd := List.nodup_append.mp f.nd
      refine ⟨p, (mem_ordersN m k p).mpr ⟨hp, nd.1, fun v hv => f.lt v (by simp [hv]), fun x hx => ?_⟩, List.mem_filterMap.mpr ⟨a, ?_, ?_⟩⟩
      · have := f.at_ x (by omega)
        rw [og_append_lt (by omega)] at this
        exact this
      · rw [List.mem_range, isort_len]; exact f.lt a (by simp)
      · have := f.at_ k (by omega)
        rw [← hp, og_append_eq] at this
        rw [if_pos ⟨by rw [← hp]; exact this, fun q => nd.2.2 a q a (by simp) rfl⟩]
theorem ordersBy_ord {m : List Int} {o : List Nat} (h : o ∈ ordersBy m) : IsOrd m.length o ∧ ∀ x, x < m.length → (isort m).getD (og o x) 0 = m.getD x 0 := by
  have f := (mem_ordersN m _ o).mp h
  exact ⟨⟨f.len, f.nd, f.lt⟩, f.at_⟩
theorem ordersBy_of {m : List Int} {o : List Nat} (h : IsOrd m.length o) (e : ∀ x, x < m.length → (isort m).getD (og o x) 0 = m.getD x 0) : o ∈ ordersBy m :=
  (mem_ordersN m _ o).mpr ⟨h.len, h.nd, h.lt, e⟩
/-- two lists that are the same but for the order: a row of places -/
theorem perm_places {α : Type} {l l' : List α} (p : l.Perm l') : ∃ o, IsOrd l.length o ∧ ∀ x, x < l.length → l'[og o x]? = l[x]? := by
  induction p with
  | nil => exact ⟨[], ⟨rfl, List.Pairwise.nil, fun v hv => by simp at hv⟩, fun x hx => by simp at hx⟩
  | @cons a l l' _ ih =>
    obtain ⟨o, h, e⟩ := ih
    refine ⟨(List.range (l.length + 1)).map fun x => if x = 0 then 0 else og o (x - 1) + 1, ord_of (fun x hx => ?_) fun x hx y hy q => ?_, fun x hx => ?_⟩
    · simp only [List.length_cons] at *
      split
      · omega
      · rename_i q
        have := h.og_lt (x := x - 1) (by omega)
        omega
    · simp only [List.length_cons] at hx hy
      split at q <;> split at q
      · omega
      · omega
      · omega
      · have e' : og o (x - 1) = og o (y - 1) := by omega
        have := h.pos_og (x := x - 1) (by omega)
        have := h.pos_og (x := y - 1) (by omega)
        rw [e'] at *
        omega
    · simp only [List.length_cons] at hx
      rw [og, map_range_getD hx]
      split
      · rename_i q; subst q; rfl
      · rename_i q
        obtain ⟨y, rfl⟩ : ∃ y, x = y + 1 := ⟨x - 1, by omega⟩
        have := e y (by omega)
        simpa using this
  | @swap a b l =>
    refine ⟨(List.range (l.length + 2)).map fun x => if x = 0 then 1 else if x = 1 then 0 else x, ord_of (fun x hx => ?_) fun x hx y hy q => ?_, fun x hx => ?_⟩
    · simp only [List.length_cons] at *
      split
      · omega
      · split <;> omega
    · simp only [List.length_cons] at *
      split at q <;> split at q <;> (try split at q) <;> (try split at q) <;> omega
    · simp only [List.length_cons] at hx
      rw [og, map_range_getD (by omega)]
      match x with
      | 0 => rfl
      | 1 => rfl
      | x + 2 => simp
  | @trans l₁ l₂ l₃ p1 p2 ih1 ih2 =>
    obtain ⟨o, h, e⟩ := ih1
    obtain ⟨o', h', e'⟩ := ih2
    have hl := p1.length_eq
    rw [← hl] at h' e'
    refine ⟨compO l₁.length o' o, ord_comp h' h, fun x hx => ?_⟩
    rw [og_comp hx, e' _ (h.og_lt hx), e x hx]
theorem ordersBy_ne (m : List Int) : ordersBy m ≠ [] := by
  obtain ⟨o, h, e⟩ := perm_places (isort_perm m).symm
  have : o ∈ ordersBy m := ordersBy_of h fun x hx => by
    have q := e x hx
    rw [List.getElem?_eq_getElem hx] at q
    rw [getD_of q, getD_of (List.getElem?_eq_getElem hx)]
  exact fun z => by rw [z] at this; cases this

/-! ### the plain name -/
def plainName (W : Web) : Web := least ((ordersBy (marksOf W)).map (nameW W))
section
variable {n : Nat} {W V : Web}
theorem plain_ne (W : Web) : (ordersBy (marksOf W)).map (nameW W) ≠ [] := by
  intro h
  exact ordersBy_ne _ (List.map_eq_nil_iff.mp h)
theorem plain_iso (h : Sh n W) : Iso n W (plainName W) := by
  obtain ⟨o, ho, e⟩ := List.mem_map.mp (least_mem (plain_ne W))
  have := (ordersBy_ord ho).1
  rw [marks_len, h.len] at this
  exact ⟨o, this, e.symm⟩
theorem plain_name {o : List Nat} (h : Sh n W) (ho : IsOrd n o) : plainName (nameW W o) = plainName W := by
  have hl : (marksOf W).length = n := by rw [marks_len, h.len]
  have hl' : (marksOf (nameW W o)).length = n := by rw [marks_len, (name_sh h).len]
  have mr := marks_ren h ho
  have pm : (marksOf (nameW W o)).Perm (marksOf W) := by
    have a : ∀ q : List Int, q.length = n → q = (List.range n).map fun x => q.getD x 0 := by
      intro q hq
      apply List.ext_getElem?
      intro i
      by_cases hi : i < n
      · rw [map_range_get hi, List.getElem?_eq_getElem (by omega), getD_of (List.getElem?_eq_getElem (by omega))]
      · rw [List.getElem?_eq_none (by omega), List.getElem?_eq_none (by simp; omega)]
    rw [a _ hl', a _ hl]
    refine List.Perm.trans (ho.overM _) ?_
    refine List.Perm.of_eq (List.map_congr_left fun x hx => ?_)
    exact mr x (List.mem_range.mp hx)
  have pl : isort (marksOf (nameW W o)) = isort (marksOf W) := isort_eq pm
  refine least_same (plain_ne _) fun V => ?_
  rw [List.mem_map, List.mem_map]
  constructor
  · rintro ⟨p, hp, rfl⟩
    obtain ⟨ip, ep⟩ := ordersBy_ord hp
    rw [hl'] at ip ep
    refine ⟨compO n p o, ordersBy_of ?_ fun x hx => ?_, ?_⟩
    · rw [hl]; exact ord_comp ip ho
    · rw [hl] at hx
      rw [og_comp hx, ← pl, ep _ (ho.og_lt hx), mr x hx]
    · exact (name_comp h ip ho).symm
  · rintro ⟨p, hp, rfl⟩
    obtain ⟨ip, ep⟩ := ordersBy_ord hp
    rw [hl] at ip ep
    refine ⟨compO n p (invO n o), ordersBy_of ?_ fun x hx => ?_, ?_⟩
    · rw [hl']; exact ord_comp ip (ord_inv ho)
    · rw [hl'] at hx
      rw [og_comp hx, og_inv hx, pl, ep _ (ho.pos_lt hx), ← mr _ (ho.pos_lt hx), ho.og_pos hx]
    · rw [← name_comp (name_sh h) ip (ord_inv ho), name_inv h ho]
theorem plain_of_iso (h : Sh n W) (i : Iso n W V) : plainName V = plainName W := by
  obtain ⟨o, ho, rfl⟩ := i
  exact plain_name h ho
theorem plain_plain (h : Sh n W) : plainName (plainName W) = plainName W := plain_of_iso h (plain_iso h)
end
end DW
end

section
set_option linter.all false
set_option autoImplicit false
/-! Part C of the plain law: good webs, classes, what hangs together, trees, webs side by side. -/
namespace DW
open LO
structure Good (n : Nat) (W : Web) : Prop where
  sh : Sh n W
  anti : ∀ y, y < n → ∀ z, z < n → at2 W y z = - at2 W z y
  one : ∀ y, y < n → ∀ z, z < n → at2 W y z ≤ 1
section
variable {n : Nat} {W V : Web} {o : List Nat}
theorem Good.low (h : Good n W) {y z : Nat} (hy : y < n) (hz : z < n) : -1 ≤ at2 W y z := by
  have a := h.anti y hy z hz
  have b := h.one z hz y hy
  omega
theorem Good.diag (h : Good n W) {y : Nat} (hy : y < n) : at2 W y y = 0 := by
  have a := h.anti y hy y hy
  omega
theorem Good.name (h : Good n W) (ho : IsOrd n o) : Good n (nameW W o) where
  sh := name_sh h.sh
  anti y hy z hz := by rw [name_at' h.sh hy hz, name_at' h.sh hz hy]; exact h.anti _ (ho.pos_lt hy) _ (ho.pos_lt hz)
  one y hy z hz := by rw [name_at' h.sh hy hz]; exact h.one _ (ho.pos_lt hy) _ (ho.pos_lt hz)
theorem Good.iso (h : Good n W) (i : Iso n W V) : Good n V := by
  obtain ⟨o, ho, rfl⟩ := i
  exact h.name ho

/-! ### what hangs together -/
def Conn (n : Nat) (W : Web) : Prop := ∀ S : Nat → Prop, (∃ y, y < n ∧ S y) → (∀ y, y < n → S y → ∀ z, z < n → at2 W y z ≠ 0 → S z) → ∀ y, y < n → S y
def grow (n : Nat) (W : Web) (l : List Nat) : List Nat := (List.range n).filter fun z => decide (z ∈ l) || l.any fun y => decide (y < n) && at2 W y z != 0
def growN (n : Nat) (W : Web) : Nat → List Nat
  | 0 => [0]
  | k + 1 => grow n W (growN n W k)
theorem growN_in {S : Nat → Prop} (h0 : S 0) (hs : ∀ y, y < n → S y → ∀ z, z < n → at2 W y z ≠ 0 → S z) : ∀ k, ∀ y ∈ growN n W k, S y
  | 0, y, hy => by
    have : y = 0 := by simpa [growN] using hy
    rw [this]; exact h0
  | k + 1, y, hy => by
    obtain ⟨h1, h2⟩ := List.mem_filter.mp hy
    rw [Bool.or_eq_true] at h2
    rcases h2 with h2 | h2
    · exact growN_in h0 hs k y (of_decide_eq_true h2)
    · obtain ⟨z, hz, e⟩ := List.any_eq_true.mp h2
      rw [Bool.and_eq_true] at e
      exact hs z (of_decide_eq_true e.1) (growN_in h0 hs k z hz) y (List.mem_range.mp h1) (by simpa using e.2)
theorem conn_of (g : Good n W) (h : growN n W n = List.range n) : Conn n W := by
  have key : ∀ S : Nat → Prop, S 0 → (∀ y, y < n → S y → ∀ z, z < n → at2 W y z ≠ 0 → S z) → ∀ y, y < n → S y := fun S h0 hs y hy =>
    growN_in h0 hs n y (by rw [h]; exact List.mem_range.mpr hy)
  intro S ⟨b, hb, sb⟩ hs y hy
  by_cases h0 : S 0
  · exact key S h0 hs y hy
  · have := key (fun y => ¬ S y) h0 (fun y hy ny z hz e sz => ny (hs z hz sz y hy (by rw [g.anti z hz y hy]; omega))) b hb
    exact absurd sb this
theorem Conn.iso (hs : Sh n W) (h : Conn n W) (i : Iso n W V) : Conn n V := by
  obtain ⟨o, ho, rfl⟩ := i
  intro S ⟨b, hb, sb⟩ st y hy
  have := h (fun x => S (og o x)) ⟨pos b o, ho.pos_lt hb, by rw [ho.og_pos hb]; exact sb⟩ (fun x hx sx z hz e => st _ (ho.og_lt hx) sx _ (ho.og_lt hz) (by rw [name_at hs ho hx hz]; exact e)) (pos y o) (ho.pos_lt hy)
  rw [ho.og_pos hy] at this
  exact this

/-! ### arrows, neighbours, kinds of trees -/
def many (n : Nat) (W : Web) : Nat := (((List.range n).flatMap fun y => (List.range n).filterMap fun z => if 0 < at2 W y z then some (y, z) else none)).length
def near (n : Nat) (W : Web) (x : Nat) : List Nat := (List.range n).filter fun z => at2 W x z != 0
def deg (n : Nat) (W : Web) (x : Nat) : Nat := (near n W x).length
def ends (n : Nat) (W : Web) (x : Nat) : Nat := ((near n W x).filter fun z => deg n W z == 1).length
/-- 0, 1, 2 for A, D, E -/
def letter (n : Nat) (W : Web) : Nat := match (List.range n).find? fun x => deg n W x == 3 with
  | some x => if 1 < ends n W x then 1 else 2
  | none => 0
def isTree (n : Nat) (W : Web) : Bool := many n W == n - 1
theorem filter_len (p : Nat → Bool) (ho : IsOrd n o) : ((List.range n).filter p).length = ((List.range n).filter fun x => p (og o x)).length := by
  rw [← List.countP_eq_length_filter, ← List.countP_eq_length_filter, (ho.perm.symm).countP_eq]
  refine (congrArg (List.countP p) ho.map).symm.trans ?_
  rw [List.countP_map]
  rfl
theorem deg_name (h : Sh n W) (ho : IsOrd n o) {x : Nat} (hx : x < n) : deg n (nameW W o) (og o x) = deg n W x := by
  unfold deg near
  rw [filter_len _ ho]
  congr 1
  refine List.filter_congr fun z hz => ?_
  rw [name_at h ho hx (List.mem_range.mp hz)]
theorem ends_name (h : Sh n W) (ho : IsOrd n o) {x : Nat} (hx : x < n) : ends n (nameW W o) (og o x) = ends n W x := by
  unfold ends near
  rw [List.filter_filter, List.filter_filter, filter_len _ ho]
  congr 1
  refine List.filter_congr fun z hz => ?_
  have hz := List.mem_range.mp hz
  rw [name_at h ho hx hz, deg_name h ho hz]
/-- no node of three neighbours; or some, each with two ends at least -/
def isA (n : Nat) (W : Web) : Bool := (List.range n).all fun x => deg n W x != 3
def isD (n : Nat) (W : Web) : Bool := (List.range n).any (fun x => deg n W x == 3) && (List.range n).all fun x => deg n W x != 3 || decide (1 < ends n W x)
theorem letter_A (h : isA n W = true) : letter n W = 0 := by
  unfold letter
  have : (List.range n).find? (fun x => deg n W x == 3) = none := by
    rw [List.find?_eq_none]
    intro x hx
    have := List.all_eq_true.mp h x hx
    simpa using this
  rw [this]
theorem letter_D (h : isD n W = true) : letter n W = 1 := by
  unfold isD at h
  rw [Bool.and_eq_true] at h
  obtain ⟨x, hx, e⟩ := List.any_eq_true.mp h.1
  unfold letter
  cases q : (List.range n).find? (fun x => deg n W x == 3) with
  | none =>
    rw [List.find?_eq_none] at q
    exact absurd e (q x hx)
  | some y =>
    have d := List.find?_some q
    have m := List.mem_of_find?_eq_some q
    have := List.all_eq_true.mp h.2 y m
    rw [Bool.or_eq_true] at this
    rcases this with t | t
    · simp_all
    · show (if 1 < ends n W y then 1 else 2) = 1
      rw [if_pos (of_decide_eq_true t)]
theorem isA_name (h : Sh n W) (ho : IsOrd n o) (a : isA n W = true) : isA n (nameW W o) = true := by
  refine List.all_eq_true.mpr fun x hx => ?_
  have hx := List.mem_range.mp hx
  have := List.all_eq_true.mp a (pos x o) (List.mem_range.mpr (ho.pos_lt hx))
  rw [← deg_name h ho (ho.pos_lt hx), ho.og_pos hx] at this
  exact this
theorem isD_name (h : Sh n W) (ho : IsOrd n o) (a : isD n W = true) : isD n (nameW W o) = true := by
  unfold isD at *
  rw [Bool.and_eq_true] at *
  constructor
  · obtain ⟨x, hx, e⟩ := List.any_eq_true.mp a.1
    have hx := List.mem_range.mp hx
    exact List.any_eq_true.mpr ⟨og o x, List.mem_range.mpr (ho.og_lt hx), by rw [deg_name h ho hx]; exact e⟩
  · refine List.all_eq_true.mpr fun x hx => ?_
    have hx := List.mem_range.mp hx
    have := List.all_eq_true.mp a.2 (pos x o) (List.mem_range.mpr (ho.pos_lt hx))
    rw [← deg_name h ho (ho.pos_lt hx), ← ends_name h ho (ho.pos_lt hx), ho.og_pos hx] at this
    exact this
end

/-! ### classes -/
structure Cl (n : Nat) (C : Web → Prop) (L : List Web) : Prop where
  good : ∀ W, C W → Good n W
  turn : ∀ W, C W → ∀ x, x < n → C (turnW W x)
  iso : ∀ W V, C W → Iso n W V → C V
  mem : ∀ W, C W → plainName W ∈ L
  few : L.length ≤ 100
structure Fnd (n : Nat) (C : Web → Prop) (W : Web) (fs : List Web) : Prop where
  nd : fs.Nodup
  all : ∀ f ∈ fs, C f ∧ plainName f = f
  root : plainName W ∈ fs
  step : ∀ f ∈ fs, ∀ x, x < n → plainName (turnW f x) ∈ fs
theorem Cl.plain {n : Nat} {C : Web → Prop} {L : List Web} (c : Cl n C L) {W : Web} (h : C W) : C (plainName W) ∧ plainName (plainName W) = plainName W :=
  ⟨c.iso _ _ h (plain_iso (c.good _ h).sh), plain_plain (c.good _ h).sh⟩
theorem Cl.len {n : Nat} {C : Web → Prop} {L : List Web} (c : Cl n C L) {fs : List Web} (hn : fs.Nodup) (h : ∀ f ∈ fs, C f ∧ plainName f = f) : fs.length ≤ L.length :=
  nodup_len hn fun f hf => by
    have := h f hf
    rw [← this.2]
    exact c.mem _ this.1
/-- a table of plain webs, closed by turns, of one piece -/
structure Kd (n : Nat) (R : List Web) (k : Nat) : Prop where
  nd : R.Nodup
  few : R.length ≤ 30
  good : ∀ r ∈ R, Good n r
  plain : ∀ r ∈ R, plainName r = r
  step : ∀ r ∈ R, ∀ x, x < n → plainName (turnW r x) ∈ R
  whole : ∀ S : Web → Prop, (∃ r, r ∈ R ∧ S r) → (∀ r, r ∈ R → S r → ∀ x, x < n → S (plainName (turnW r x))) → ∀ r, r ∈ R → S r
  conn : ∀ r ∈ R, Conn n r
  tree : ∀ r ∈ R, isTree n r = true → letter n r = k
  some : ∃ r, r ∈ R ∧ isTree n r = true
def InK (n : Nat) (R : List Web) (W : Web) : Prop := ∃ r, r ∈ R ∧ Iso n r W
section
variable {n k : Nat} {R : List Web} {W V : Web}
theorem Kd.inGood (c : Kd n R k) (h : InK n R W) : Good n W := by
  obtain ⟨r, hr, i⟩ := h
  exact (c.good r hr).iso i
theorem Kd.inConn (c : Kd n R k) (h : InK n R W) : Conn n W := by
  obtain ⟨r, hr, i⟩ := h
  exact (c.conn r hr).iso (c.good r hr).sh i
theorem Kd.inIso (c : Kd n R k) (h : InK n R W) (j : Iso n W V) : InK n R V := by
  obtain ⟨r, hr, i⟩ := h
  exact ⟨r, hr, iso_trans (c.good r hr).sh i j⟩
theorem Kd.inPlain (c : Kd n R k) (h : InK n R W) : plainName W ∈ R := by
  obtain ⟨r, hr, i⟩ := h
  rw [plain_of_iso (c.good r hr).sh i, c.plain r hr]
  exact hr
theorem Kd.inTurn (c : Kd n R k) (h : InK n R W) {x : Nat} (hx : x < n) : InK n R (turnW W x) := by
  obtain ⟨r, hr, i⟩ := h
  have g := c.good r hr
  obtain ⟨x', hx', j⟩ := turn_iso g.sh i hx
  have h2 := plain_iso (turn_sh (x := x') g.sh)
  exact ⟨_, c.step r hr x' hx', iso_trans (iso_sh (turn_sh g.sh) h2) (iso_symm (turn_sh g.sh) h2) j⟩
theorem Kd.cl (c : Kd n R k) : Cl n (InK n R) R where
  good _ h := c.inGood h
  turn _ h _ hx := c.inTurn h hx
  iso _ _ h i := c.inIso h i
  mem _ h := c.inPlain h
  few := Nat.le_trans c.few (by decide)
theorem Kd.found (c : Kd n R k) (hW : InK n R W) {fs : List Web} (f : Fnd n (InK n R) W fs) : fs.Perm R := by
  refine nodup_perm f.nd c.nd fun r => ⟨fun h => ?_, fun h => ?_⟩
  · obtain ⟨h1, h2⟩ := f.all r h
    rw [← h2]
    exact c.inPlain h1
  · exact c.whole (fun r => r ∈ fs) ⟨_, c.inPlain hW, f.root⟩ (fun r _ hr x hx => f.step r hr x hx) r h
end

/-! ### side by side -/
def joinW (W V : Web) : Web := (W.map fun r => r ++ List.replicate V.length 0) ++ V.map fun r => List.replicate W.length 0 ++ r
section
variable {n m : Nat} {W V : Web}
theorem join_sh (h : Sh n W) (h' : Sh m V) : Sh (n + m) (joinW W V) := by
  refine ⟨by simp [joinW, h.len, h'.len], fun r hr => ?_⟩
  rcases List.mem_append.mp hr with q | q
  · obtain ⟨r', e, rfl⟩ := List.mem_map.mp q
    simp [h.row r' e, h'.len]
  · obtain ⟨r', e, rfl⟩ := List.mem_map.mp q
    simp [h'.row r' e, h.len]
theorem join_at (h : Sh n W) (h' : Sh m V) {y z : Nat} (hy : y < n + m) (hz : z < n + m) :
    at2 (joinW W V) y z = if y < n then (if z < n then at2 W y z else 0) else if z < n then 0 else at2 V (y - n) (z - n) := by
  by_cases a : y < n
  · obtain ⟨r, e, l, _⟩ := sh_get h a
    have e1 : (joinW W V)[y]? = some (r ++ List.replicate V.length 0) := by
      unfold joinW
      rw [List.getElem?_append_left (by simp [h.len, a]), List.getElem?_map, e]
      rfl
    rw [if_pos a]
    unfold at2
    rw [getD_of e1]
    by_cases b : z < n
    · rw [if_pos b, getD_of e]
      rw [List.getD_eq_getElem?_getD, List.getElem?_append_left (by omega), ← List.getD_eq_getElem?_getD]
    · rw [if_neg b]
      refine getD_of ?_
      rw [List.getElem?_append_right (by omega), List.getElem?_replicate, if_pos (by rw [h'.len]; omega)]
  · obtain ⟨r, e, l, _⟩ := sh_get h' (y := y - n) (by omega)
    have e1 : (joinW W V)[y]? = some (List.replicate W.length 0 ++ r) := by
      unfold joinW
      rw [List.getElem?_append_right (by simp [h.len]; omega), List.getElem?_map]
      simp only [List.length_map, h.len]
      rw [e]
      rfl
    rw [if_neg a]
    unfold at2
    rw [getD_of e1]
    by_cases b : z < n
    · rw [if_pos b]
      refine getD_of ?_
      rw [List.getElem?_append_left (by simp [h.len, b]), List.getElem?_replicate, if_pos (by rw [h.len]; omega)]
    · rw [if_neg b, getD_of e]
      rw [List.getD_eq_getElem?_getD, List.getElem?_append_right (by simp [h.len]; omega), ← List.getD_eq_getElem?_getD]
      simp [h.len]
theorem added0 (r : Int) : added 0 r = 0 := by simp [added]
theorem added0' (l : Int) : added l 0 = 0 := by simp [added]
theorem join_good (g : Good n W) (g' : Good m V) : Good (n + m) (joinW W V) := by
  refine ⟨join_sh g.sh g'.sh, fun y hy z hz => ?_, fun y hy z hz => ?_⟩
  · rw [join_at g.sh g'.sh hy hz, join_at g.sh g'.sh hz hy]
    by_cases a : y < n <;> by_cases b : z < n <;> simp only [a, b, if_true, if_false]
    · exact g.anti y a z b
    · rfl
    · rfl
    · exact g'.anti _ (by omega) _ (by omega)
  · rw [join_at g.sh g'.sh hy hz]
    by_cases a : y < n <;> by_cases b : z < n <;> simp only [a, b, if_true, if_false]
    · exact g.one y a z b
    · decide
    · decide
    · exact g'.one _ (by omega) _ (by omega)
theorem join_turn_left (h : Sh n W) (h' : Sh m V) {x : Nat} (hx : x < n) : turnW (joinW W V) x = joinW (turnW W x) V := by
  refine sh_ext (turn_sh (join_sh h h')) (join_sh (turn_sh h) h') fun y hy z hz => ?_
  rw [turn_at (join_sh h h') hy hz, join_at (turn_sh h) h' hy hz, join_at h h' hy hz, join_at h h' hy (by omega), join_at h h' (by omega) hz]
  simp only [hx, if_true]
  by_cases a : y < n <;> by_cases b : z < n <;> simp only [a, b, if_true, if_false]
  · rw [turn_at h a b]
  · rw [added0']; split <;> rfl
  · rw [added0]; split <;> rfl
  · rw [added0, if_neg (by omega)]; simp
theorem join_turn_right (h : Sh n W) (h' : Sh m V) {x : Nat} (hx : x < m) : turnW (joinW W V) (n + x) = joinW W (turnW V x) := by
  refine sh_ext (turn_sh (join_sh h h')) (join_sh h (turn_sh h')) fun y hy z hz => ?_
  rw [turn_at (join_sh h h') hy hz, join_at h (turn_sh h') hy hz, join_at h h' hy hz, join_at h h' hy (by omega), join_at h h' (by omega) hz]
  have e0 : ¬ n + x < n := by omega
  simp only [e0, if_false]
  by_cases a : y < n <;> by_cases b : z < n <;> simp only [a, b, if_true, if_false]
  · rw [added0, if_neg (by omega)]; simp
  · rw [added0]; split <;> rfl
  · rw [added0']; split <;> rfl
  · rw [turn_at h' (by omega) (by omega), show n + x - n = x by omega]
    have e1 : (n + x = y ∨ n + x = z) ↔ (x = y - n ∨ x = z - n) := by omega
    simp only [e1]
theorem join_iso {W' V' : Web} (h : Sh n W) (h' : Sh m V) (i : Iso n W W') (j : Iso m V V') : Iso (n + m) (joinW W V) (joinW W' V') := by
  obtain ⟨o, ho, rfl⟩ := i
  obtain ⟨p, hp, rfl⟩ := j
  have iq : IsOrd (n + m) ((List.range (n + m)).map fun x => if x < n then og o x else n + og p (x - n)) := by
    refine ord_of (fun x hx => ?_) fun x hx y hy e => ?_
    · split
      · rename_i q; have := ho.og_lt q; omega
      · have := hp.og_lt (x := x - n) (by omega); omega
    · split at e <;> split at e
      · rename_i a b
        have h1 := ho.pos_og a
        have h2 := ho.pos_og b
        rw [e] at h1
        omega
      · rename_i a b
        have := ho.og_lt a
        omega
      · rename_i a b
        have := ho.og_lt b
        omega
      · have h1 := hp.pos_og (x := x - n) (by omega)
        have h2 := hp.pos_og (x := y - n) (by omega)
        have h3 : og p (x - n) = og p (y - n) := by omega
        rw [h3] at h1
        omega
  refine ⟨_, iq, name_unique (join_sh h h') (join_sh (name_sh h) (name_sh h')) iq fun x hx y hy => ?_⟩
  have eo : ∀ z, z < n + m → og ((List.range (n + m)).map fun x => if x < n then og o x else n + og p (x - n)) z = if z < n then og o z else n + og p (z - n) := fun z hz => map_range_getD hz
  rw [join_at h h' hx hy, join_at (name_sh h) (name_sh h') (iq.og_lt hx) (iq.og_lt hy), eo x hx, eo y hy]
  by_cases a : x < n <;> by_cases b : y < n <;> simp only [a, b, if_true, if_false]
  · rw [if_pos (ho.og_lt a), if_pos (ho.og_lt b), name_at h ho a b]
  · rw [if_pos (ho.og_lt a), if_neg (by omega)]
  · rw [if_neg (by omega), if_pos (ho.og_lt b)]
  · rw [if_neg (by omega), if_neg (by omega), show n + og p (x - n) - n = og p (x - n) by omega, show n + og p (y - n) - n = og p (y - n) by omega, name_at h' hp (by omega) (by omega)]
end
/-- two classes side by side, under any names -/
def InP (n m : Nat) (R S : List Web) (W : Web) : Prop := ∃ A B, InK n R A ∧ InK m S B ∧ Iso (n + m) (joinW A B) W
def tabP (R S : List Web) : List Web := R.flatMap fun r => S.map fun s => plainName (joinW r s)
section
variable {n m k j : Nat} {R S : List Web}
theorem tabP_len (R S : List Web) : (tabP R S).length = R.length * S.length := by
  unfold tabP
  induction R with
  | nil => simp
  | cons r R ih =>
    rw [List.flatMap_cons, List.length_append, ih, List.length_map, List.length_cons, Nat.succ_mul, Nat.add_comm]
theorem Cl.pair (c : Kd n R k) (d : Kd m S j) (few : R.length * S.length ≤ 100) : Cl (n + m) (InP n m R S) (tabP R S) where
  good W h := by
    obtain ⟨A, B, hA, hB, i⟩ := h
    exact (join_good (c.inGood hA) (d.inGood hB)).iso i
  turn W h x hx := by
    obtain ⟨A, B, hA, hB, i⟩ := h
    have gA := (c.inGood hA).sh
    have gB := (d.inGood hB).sh
    obtain ⟨x', hx', i'⟩ := turn_iso (join_sh gA gB) i hx
    by_cases q : x' < n
    · rw [join_turn_left gA gB q] at i'
      exact ⟨_, _, c.inTurn hA q, hB, i'⟩
    · have e : x' = n + (x' - n) := by omega
      rw [e, join_turn_right gA gB (by omega)] at i'
      exact ⟨_, _, hA, d.inTurn hB (by omega), i'⟩
  iso W V h i := by
    obtain ⟨A, B, hA, hB, i'⟩ := h
    exact ⟨A, B, hA, hB, iso_trans (join_sh (c.inGood hA).sh (d.inGood hB).sh) i' i⟩
  mem W h := by
    obtain ⟨A, B, ⟨r, hr, i1⟩, ⟨s, hs, i2⟩, i⟩ := h
    have g1 := (c.good r hr).sh
    have g2 := (d.good s hs).sh
    have i3 := join_iso g1 g2 i1 i2
    rw [plain_of_iso (iso_sh (join_sh g1 g2) i3) i, plain_of_iso (join_sh g1 g2) i3]
    exact List.mem_flatMap.mpr ⟨r, hr, List.mem_map.mpr ⟨s, hs, rfl⟩⟩
  few := by rw [tabP_len]; exact few
end

/-! ### the tables, held by the kernel -/
def okGood (n : Nat) (W : Web) : Bool := (W.length == n && W.all fun r => r.length == n) && (List.range n).all fun y => (List.range n).all fun z => at2 W y z == - at2 W z y && decide (at2 W y z ≤ 1)
theorem good_ok {n : Nat} {W : Web} (h : okGood n W = true) : Good n W := by
  unfold okGood at h
  rw [Bool.and_eq_true, Bool.and_eq_true] at h
  obtain ⟨⟨h1, h2⟩, h3⟩ := h
  have key : ∀ y, y < n → ∀ z, z < n → at2 W y z = - at2 W z y ∧ at2 W y z ≤ 1 := fun y hy z hz => by
    have a := List.all_eq_true.mp h3 y (List.mem_range.mpr hy)
    have b := List.all_eq_true.mp a z (List.mem_range.mpr hz)
    rw [Bool.and_eq_true] at b
    exact ⟨by simpa using b.1, of_decide_eq_true b.2⟩
  exact ⟨⟨by simpa using h1, fun r hr => by simpa using List.all_eq_true.mp h2 r hr⟩, fun y hy z hz => (key y hy z hz).1, fun y hy z hz => (key y hy z hz).2⟩
def okOrd (n : Nat) (o : List Nat) : Bool := (o.length == n && decide o.Nodup) && o.all fun v => decide (v < n)
theorem ord_ok {n : Nat} {o : List Nat} (h : okOrd n o = true) : IsOrd n o := by
  unfold okOrd at h
  rw [Bool.and_eq_true, Bool.and_eq_true] at h
  exact ⟨by simpa using h.1.1, of_decide_eq_true h.1.2, fun v hv => of_decide_eq_true (List.all_eq_true.mp h.2 v hv)⟩
/-- cs: for each web, for each node the place of the web behind the turn there and the order that names it so -/
def okStep (n : Nat) (R : List Web) (r : Web) (c : List (Nat × List Nat)) : Bool := c.length == n && (List.range n).all fun x => match c[x]? with
  | some (j, o) => okOrd n o && R[j]? == some (nameW (turnW r x) o)
  | none => false
def okTab (n k : Nat) (R : List Web) (cs : List (List (Nat × List Nat))) : Bool :=
  ((cs.length == R.length && (decide R.Nodup && decide (R.length ≤ 30))) && (R.all fun r => (okGood n r && plainName r == r) && (growN n r n == List.range n && (!isTree n r || letter n r == k)))) &&
  ((R.any fun r => isTree n r) && (((R.zip cs).all fun p => okStep n R p.1 p.2) &&
    ((List.range cs.length).all fun i => i == 0 || ((cs.getD i []).any (fun p => decide (p.1 < i)) && (cs.take i).any fun c => c.any fun p => p.1 == i))))
theorem kd_of {n k : Nat} {R : List Web} {cs : List (List (Nat × List Nat))} (h : okTab n k R cs = true) : Kd n R k := by
  unfold okTab at h
  simp only [Bool.and_eq_true] at h
  obtain ⟨⟨⟨h1, h2, h3⟩, h4⟩, h5, h6, h7⟩ := h
  have h1 : cs.length = R.length := by simpa using h1
  have each : ∀ r ∈ R, (okGood n r = true ∧ plainName r = r) ∧ growN n r n = List.range n ∧ (isTree n r = true → letter n r = k) := fun r hr => by
    have q := List.all_eq_true.mp h4 r hr
    simp only [Bool.and_eq_true, Bool.or_eq_true] at q
    refine ⟨⟨q.1.1, by simpa using q.1.2⟩, by simpa using q.2.1, fun t => ?_⟩
    rcases q.2.2 with z | z
    · rw [t] at z; cases z
    · simpa using z
  have good : ∀ r ∈ R, Good n r := fun r hr => good_ok (each r hr).1.1
  have plain : ∀ r ∈ R, plainName r = r := fun r hr => (each r hr).1.2
  have cert : ∀ (i : Nat) (r : Web), R[i]? = some r → ∃ c, cs[i]? = some c ∧ c.length = n ∧ ∀ x, x < n → ∃ j o, c[x]? = some (j, o) ∧ R[j]? = some (plainName (turnW r x)) := fun i r hr => by
    obtain ⟨hi, _⟩ := List.getElem?_eq_some_iff.mp hr
    have hc : cs[i]? = some (cs[i]'(by omega)) := List.getElem?_eq_getElem (by omega)
    have hm : (r, cs[i]'(by omega)) ∈ R.zip cs := List.mem_of_getElem? (i := i) (by rw [List.getElem?_zip_eq_some]; exact ⟨hr, hc⟩)
    have q := List.all_eq_true.mp h6 _ hm
    unfold okStep at q
    rw [Bool.and_eq_true] at q
    refine ⟨_, hc, by simpa using q.1, fun x hx => ?_⟩
    have q2 := List.all_eq_true.mp q.2 x (List.mem_range.mpr hx)
    split at q2
    · rename_i j o e
      rw [Bool.and_eq_true] at q2
      have e2 : R[j]? = some (nameW (turnW r x) o) := by simpa using q2.2
      have m2 := List.mem_of_getElem? e2
      have e3 := plain _ m2
      rw [plain_name (turn_sh (good r (List.mem_of_getElem? hr)).sh) (ord_ok q2.1)] at e3
      exact ⟨j, o, e, by rw [e2, e3]⟩
    · cases q2
  refine ⟨of_decide_eq_true h2, of_decide_eq_true h3, good, plain, fun r hr x hx => ?_, fun S hS hs => ?_, fun r hr => conn_of (good r hr) (each r hr).2.1, fun r hr => (each r hr).2.2, ?_⟩
  · obtain ⟨i, hi⟩ := List.mem_iff_getElem?.mp hr
    obtain ⟨c, _, _, f⟩ := cert i r hi
    obtain ⟨j, o, _, e⟩ := f x hx
    exact List.mem_of_getElem? e
  · -- from any place down to the first, from the first up to any place
    have go : ∀ (i : Nat) (r : Web), R[i]? = some r → S r → ∀ p ∈ cs.getD i [], ∀ r', R[p.1]? = some r' → S r' := fun i r hr sr p hp r' hr' => by
      obtain ⟨c, e1, l1, f⟩ := cert i r hr
      rw [getD_of e1] at hp
      obtain ⟨x, hx⟩ := List.mem_iff_getElem?.mp hp
      obtain ⟨hxl, _⟩ := List.getElem?_eq_some_iff.mp hx
      obtain ⟨j, o, e2, e3⟩ := f x (by omega)
      rw [hx] at e2
      cases e2
      rw [e3] at hr'
      cases hr'
      exact hs r (List.mem_of_getElem? hr) sr x (by omega)
    have h7' : ∀ i, i < cs.length → i ≠ 0 → (∃ p ∈ cs.getD i [], p.1 < i) ∧ ∃ j, j < i ∧ ∃ p ∈ cs.getD j [], p.1 = i := fun i hi h0 => by
      have q := List.all_eq_true.mp h7 i (List.mem_range.mpr hi)
      rw [Bool.or_eq_true] at q
      rcases q with q | q
      · exact absurd (by simpa using q) h0
      · rw [Bool.and_eq_true] at q
        constructor
        · obtain ⟨p, hp, e⟩ := List.any_eq_true.mp q.1
          exact ⟨p, hp, of_decide_eq_true e⟩
        · obtain ⟨c, hc, e⟩ := List.any_eq_true.mp q.2
          obtain ⟨p, hp, e2⟩ := List.any_eq_true.mp e
          obtain ⟨j, hj⟩ := List.mem_iff_getElem?.mp hc
          have hjl : j < i := by
            have := (List.getElem?_eq_some_iff.mp hj).1
            simp at this
            omega
          rw [List.getElem?_take_of_lt hjl] at hj
          exact ⟨j, hjl, p, by rw [getD_of hj]; exact hp, by simpa using e2⟩
    have down : ∀ (i : Nat) (r : Web), R[i]? = some r → S r → ∀ r0, R[0]? = some r0 → S r0 := by
      intro i
      induction i using Nat.strongRecOn with
      | _ i ih =>
        intro r hr sr r0 h0
        by_cases z : i = 0
        · subst z
          rw [hr] at h0
          cases h0
          exact sr
        · obtain ⟨hi, _⟩ := List.getElem?_eq_some_iff.mp hr
          obtain ⟨⟨p, hp, hlt⟩, _⟩ := h7' i (by omega) z
          have hpl : p.1 < R.length := by omega
          exact ih p.1 hlt _ (List.getElem?_eq_getElem hpl) (go i r hr sr p hp _ (List.getElem?_eq_getElem hpl)) r0 h0
    have up : (∀ r0, R[0]? = some r0 → S r0) → ∀ (i : Nat) (r : Web), R[i]? = some r → S r := by
      intro h0 i
      induction i using Nat.strongRecOn with
      | _ i ih =>
        intro r hr
        by_cases z : i = 0
        · subst z
          exact h0 r hr
        · obtain ⟨hi, _⟩ := List.getElem?_eq_some_iff.mp hr
          obtain ⟨_, j, hj, p, hp, e⟩ := h7' i (by omega) z
          have hjl : j < R.length := by omega
          exact go j _ (List.getElem?_eq_getElem hjl) (ih j hj _ (List.getElem?_eq_getElem hjl)) p hp r (by rw [e]; exact hr)
    obtain ⟨r1, hr1, s1⟩ := hS
    obtain ⟨i, hi⟩ := List.mem_iff_getElem?.mp hr1
    intro r hr
    obtain ⟨j, hj⟩ := List.mem_iff_getElem?.mp hr
    exact up (down i r1 hi s1) j r hj
  · obtain ⟨r, hr, e⟩ := List.any_eq_true.mp h5
    exact ⟨r, hr, e⟩
end DW
end

section
set_option linter.all false
set_option autoImplicit false
set_option maxRecDepth 100000
/-! Part D of the plain law: the tables of plain webs of the kinds A1 to A5, D4, D5, with orders that show where each turn leads (printed by wip/gen.py); the trees that the law draws. -/
namespace DW
def tA1 : List Web := [
  [[0]]]
def cA1 : List (List (Nat × List Nat)) := [
  [(0, [0])]]
theorem kA1 : Kd 1 tA1 0 := kd_of (cs := cA1) (by decide +kernel)
def tA2 : List Web := [
  [[0, -1], [1, 0]]]
def cA2 : List (List (Nat × List Nat)) := [
  [(0, [1, 0]), (0, [1, 0])]]
theorem kA2 : Kd 2 tA2 0 := kd_of (cs := cA2) (by decide +kernel)
def tA3 : List Web := [
  [[0, -1, 0], [1, 0, -1], [0, 1, 0]],
  [[0, -1, -1], [1, 0, 0], [1, 0, 0]],
  [[0, -1, 1], [1, 0, -1], [-1, 1, 0]],
  [[0, 0, -1], [0, 0, -1], [1, 1, 0]]]
def cA3 : List (List (Nat × List Nat)) := [
  [(1, [1, 0, 2]), (2, [0, 2, 1]), (3, [0, 2, 1])],
  [(3, [2, 0, 1]), (0, [1, 0, 2]), (0, [1, 2, 0])],
  [(0, [1, 0, 2]), (0, [2, 1, 0]), (0, [0, 2, 1])],
  [(0, [2, 0, 1]), (0, [0, 2, 1]), (1, [1, 2, 0])]]
theorem kA3 : Kd 3 tA3 0 := kd_of (cs := cA3) (by decide +kernel)
def tA4 : List Web := [
  [[0, -1, 0, 0], [1, 0, -1, 0], [0, 1, 0, -1], [0, 0, 1, 0]],
  [[0, -1, -1, 0], [1, 0, 0, -1], [1, 0, 0, 0], [0, 1, 0, 0]],
  [[0, 1, -1, -1], [-1, 0, 1, 0], [1, -1, 0, 0], [1, 0, 0, 0]],
  [[0, 0, 0, -1], [0, 0, -1, 1], [0, 1, 0, -1], [1, -1, 1, 0]],
  [[0, 0, -1, 0], [0, 0, 0, -1], [1, 0, 0, -1], [0, 1, 1, 0]],
  [[0, 0, 0, -1], [0, 0, -1, -1], [0, 1, 0, 0], [1, 1, 0, 0]]]
def cA4 : List (List (Nat × List Nat)) := [
  [(1, [2, 0, 1, 3]), (2, [1, 2, 0, 3]), (3, [0, 3, 2, 1]), (4, [0, 2, 3, 1])],
  [(5, [3, 1, 0, 2]), (2, [0, 1, 3, 2]), (0, [1, 2, 0, 3]), (5, [1, 3, 2, 0])],
  [(3, [3, 1, 0, 2]), (1, [0, 1, 3, 2]), (0, [2, 0, 1, 3]), (3, [3, 2, 1, 0])],
  [(2, [3, 2, 1, 0]), (4, [1, 2, 0, 3]), (0, [0, 3, 2, 1]), (2, [2, 1, 3, 0])],
  [(5, [2, 0, 1, 3]), (0, [0, 3, 1, 2]), (3, [2, 0, 1, 3]), (5, [0, 2, 3, 1])],
  [(1, [3, 0, 2, 1]), (4, [0, 3, 1, 2]), (4, [1, 2, 0, 3]), (1, [2, 1, 3, 0])]]
theorem kA4 : Kd 4 tA4 0 := kd_of (cs := cA4) (by decide +kernel)
def tA5 : List Web := [
  [[0, -1, 0, 0, 0], [1, 0, -1, 0, 0], [0, 1, 0, -1, 0], [0, 0, 1, 0, -1], [0, 0, 0, 1, 0]],
  [[0, -1, 0, -1, 0], [1, 0, -1, 0, 0], [0, 1, 0, 0, -1], [1, 0, 0, 0, 0], [0, 0, 1, 0, 0]],
  [[0, 1, -1, -1, 0], [-1, 0, 1, 0, 0], [1, -1, 0, 0, 0], [1, 0, 0, 0, -1], [0, 0, 0, 1, 0]],
  [[0, 0, 0, -1, 0], [0, 0, -1, 1, -1], [0, 1, 0, -1, 0], [1, -1, 1, 0, 0], [0, 1, 0, 0, 0]],
  [[0, 0, -1, 0, 0], [0, 0, 0, -1, 1], [1, 0, 0, 0, -1], [0, 1, 0, 0, -1], [0, -1, 1, 1, 0]],
  [[0, 0, -1, 0, 0], [0, 0, 0, 0, -1], [1, 0, 0, -1, 0], [0, 0, 1, 0, -1], [0, 1, 0, 1, 0]],
  [[0, 0, 0, 0, -1], [0, 0, -1, 0, -1], [0, 1, 0, -1, 0], [0, 0, 1, 0, 0], [1, 1, 0, 0, 0]],
  [[0, -1, 1, -1, 0], [1, 0, -1, 0, -1], [-1, 1, 0, 0, 0], [1, 0, 0, 0, 0], [0, 1, 0, 0, 0]],
  [[0, 0, 0, -1, -1], [0, 0, -1, 1, 0], [0, 1, 0, -1, 0], [1, -1, 1, 0, 0], [1, 0, 0, 0, 0]],
  [[0, 0, 0, 0, -1], [0, 0, -1, -1, 0], [0, 1, 0, 0, -1], [0, 1, 0, 0, 0], [1, 0, 1, 0, 0]],
  [[0, 0, 0, -1, 0], [0, 0, 1, -1, -1], [0, -1, 0, 1, 0], [1, 1, -1, 0, 0], [0, 1, 0, 0, 0]],
  [[0, -1, -1, 0, 0], [1, 0, 0, -1, 0], [1, 0, 0, 0, -1], [0, 1, 0, 0, 0], [0, 0, 1, 0, 0]],
  [[0, 1, 1, -1, -1], [-1, 0, 0, 0, 1], [-1, 0, 0, 1, 0], [1, 0, -1, 0, 0], [1, -1, 0, 0, 0]],
  [[0, 0, 0, 0, -1], [0, 0, 1, -1, -1], [0, -1, 0, 1, 0], [0, 1, -1, 0, 0], [1, 1, 0, 0, 0]],
  [[0, 0, 0, -1, 0], [0, 0, 0, 0, -1], [0, 0, 0, 1, -1], [1, 0, -1, 0, 1], [0, 1, 1, -1, 0]],
  [[0, 0, -1, 0, 0], [0, 0, 0, -1, 0], [1, 0, 0, 0, -1], [0, 1, 0, 0, -1], [0, 0, 1, 1, 0]],
  [[0, 0, -1, 0, 0], [0, 0, 0, -1, -1], [1, 0, 0, 0, -1], [0, 1, 0, 0, 0], [0, 1, 1, 0, 0]],
  [[0, 0, 0, -1, 0], [0, 0, 0, 0, -1], [0, 0, 0, -1, -1], [1, 0, 1, 0, 0], [0, 1, 1, 0, 0]],
  [[0, 0, -1, 0, -1], [0, 0, 0, -1, -1], [1, 0, 0, 0, 0], [0, 1, 0, 0, 0], [1, 1, 0, 0, 0]]]
def cA5 : List (List (Nat × List Nat)) := [
  [(1, [3, 0, 1, 2, 4]), (2, [1, 2, 0, 3, 4]), (3, [0, 3, 2, 1, 4]), (4, [0, 2, 4, 3, 1]), (5, [0, 2, 3, 4, 1])],
  [(6, [4, 1, 2, 0, 3]), (7, [0, 2, 1, 3, 4]), (8, [0, 3, 2, 4, 1]), (0, [1, 2, 3, 0, 4]), (9, [1, 2, 4, 3, 0])],
  [(10, [3, 2, 0, 1, 4]), (11, [0, 1, 3, 2, 4]), (0, [2, 0, 1, 3, 4]), (12, [0, 1, 4, 2, 3]), (13, [1, 2, 3, 4, 0])],
  [(7, [3, 1, 2, 0, 4]), (14, [0, 4, 1, 3, 2]), (0, [0, 3, 2, 1, 4]), (7, [2, 0, 4, 1, 3]), (14, [1, 3, 2, 4, 0])],
  [(8, [4, 1, 0, 2, 3]), (15, [0, 3, 2, 1, 4]), (12, [1, 3, 4, 2, 0]), (0, [0, 4, 1, 3, 2]), (10, [0, 2, 3, 4, 1])],
  [(9, [3, 0, 1, 2, 4]), (0, [0, 4, 1, 2, 3]), (13, [2, 0, 3, 1, 4]), (14, [1, 0, 4, 2, 3]), (16, [0, 3, 2, 4, 1])],
  [(11, [3, 0, 2, 4, 1]), (16, [0, 4, 1, 3, 2]), (13, [0, 1, 2, 3, 4]), (17, [0, 2, 4, 1, 3]), (1, [3, 1, 2, 4, 0])],
  [(8, [3, 0, 1, 2, 4]), (3, [1, 3, 0, 4, 2]), (1, [0, 2, 1, 3, 4]), (3, [3, 1, 2, 0, 4]), (10, [1, 3, 2, 4, 0])],
  [(13, [4, 3, 2, 1, 0]), (16, [1, 2, 0, 4, 3]), (1, [0, 4, 2, 1, 3]), (7, [1, 2, 3, 0, 4]), (4, [2, 1, 3, 4, 0])],
  [(1, [4, 0, 1, 3, 2]), (17, [0, 4, 2, 1, 3]), (10, [0, 1, 2, 4, 3]), (5, [1, 2, 3, 0, 4]), (18, [2, 1, 4, 3, 0])],
  [(7, [4, 0, 2, 1, 3]), (4, [0, 4, 1, 2, 3]), (9, [0, 1, 2, 4, 3]), (2, [2, 3, 1, 0, 4]), (14, [0, 4, 2, 3, 1])],
  [(18, [4, 0, 1, 2, 3]), (2, [0, 1, 3, 2, 4]), (2, [0, 3, 1, 4, 2]), (6, [1, 4, 2, 0, 3]), (6, [1, 2, 4, 3, 0])],
  [(12, [0, 3, 4, 2, 1]), (2, [0, 3, 1, 2, 4]), (2, [0, 1, 3, 4, 2]), (4, [4, 3, 0, 2, 1]), (4, [4, 0, 3, 1, 2])],
  [(2, [4, 0, 1, 2, 3]), (14, [1, 3, 2, 0, 4]), (6, [0, 1, 2, 3, 4]), (5, [1, 3, 0, 2, 4]), (8, [4, 3, 2, 1, 0])],
  [(3, [4, 0, 2, 1, 3]), (10, [0, 4, 2, 3, 1]), (5, [1, 0, 3, 4, 2]), (13, [3, 0, 2, 1, 4]), (3, [0, 2, 4, 3, 1])],
  [(16, [3, 0, 1, 2, 4]), (16, [0, 3, 2, 1, 4]), (4, [3, 0, 1, 2, 4]), (4, [0, 3, 2, 1, 4]), (17, [0, 1, 3, 4, 2])],
  [(18, [2, 1, 0, 3, 4]), (5, [0, 4, 2, 1, 3]), (8, [2, 0, 1, 4, 3]), (15, [0, 3, 2, 1, 4]), (6, [0, 2, 4, 3, 1])],
  [(6, [3, 0, 1, 2, 4]), (6, [0, 3, 1, 4, 2]), (15, [0, 1, 4, 2, 3]), (9, [3, 0, 2, 1, 4]), (9, [0, 3, 2, 4, 1])],
  [(9, [4, 1, 0, 3, 2]), (9, [1, 4, 3, 0, 2]), (16, [2, 1, 0, 3, 4]), (16, [1, 2, 3, 0, 4]), (11, [1, 2, 3, 4, 0])]]
theorem kA5 : Kd 5 tA5 0 := kd_of (cs := cA5) (by decide +kernel)
def tD4 : List Web := [
  [[0, 0, -1, 0], [0, 0, -1, 0], [1, 1, 0, -1], [0, 0, 1, 0]],
  [[0, -1, 0, 0], [1, 0, -1, -1], [0, 1, 0, 0], [0, 1, 0, 0]],
  [[0, -1, -1, 1], [1, 0, 0, -1], [1, 0, 0, -1], [-1, 1, 1, 0]],
  [[0, 0, 0, -1], [0, 0, 0, -1], [0, 0, 0, -1], [1, 1, 1, 0]],
  [[0, -1, -1, -1], [1, 0, 0, 0], [1, 0, 0, 0], [1, 0, 0, 0]],
  [[0, -1, 0, 1], [1, 0, -1, 0], [0, 1, 0, -1], [-1, 0, 1, 0]]]
def cD4 : List (List (Nat × List Nat)) := [
  [(1, [2, 0, 1, 3]), (1, [0, 2, 1, 3]), (2, [1, 2, 0, 3]), (3, [0, 1, 3, 2])],
  [(4, [1, 0, 2, 3]), (2, [0, 3, 1, 2]), (0, [0, 2, 1, 3]), (0, [0, 2, 3, 1])],
  [(0, [2, 0, 1, 3]), (5, [0, 3, 1, 2]), (5, [0, 1, 3, 2]), (1, [0, 2, 3, 1])],
  [(0, [3, 0, 1, 2]), (0, [0, 3, 1, 2]), (0, [0, 1, 3, 2]), (4, [1, 2, 3, 0])],
  [(3, [3, 0, 1, 2]), (1, [1, 0, 2, 3]), (1, [1, 2, 0, 3]), (1, [1, 2, 3, 0])],
  [(2, [1, 0, 2, 3]), (2, [3, 1, 0, 2]), (2, [1, 3, 2, 0]), (2, [0, 1, 3, 2])]]
theorem kD4 : Kd 4 tD4 1 := kd_of (cs := cD4) (by decide +kernel)
def tD5 : List Web := [
  [[0, 0, -1, 0, 0], [0, 0, 0, -1, 0], [1, 0, 0, -1, 0], [0, 1, 1, 0, -1], [0, 0, 0, 1, 0]],
  [[0, 0, -1, 0, 0], [0, 0, -1, -1, 0], [1, 1, 0, 0, -1], [0, 1, 0, 0, 0], [0, 0, 1, 0, 0]],
  [[0, 0, -1, 0, 0], [0, 0, 1, -1, -1], [1, -1, 0, 0, 0], [0, 1, 0, 0, 0], [0, 1, 0, 0, 0]],
  [[0, -1, 0, 0, 0], [1, 0, 1, -1, -1], [0, -1, 0, 1, 0], [0, 1, -1, 0, 0], [0, 1, 0, 0, 0]],
  [[0, 0, 0, 0, -1], [0, 0, -1, 1, -1], [0, 1, 0, -1, 0], [0, -1, 1, 0, 1], [1, 1, 0, -1, 0]],
  [[0, 0, 0, -1, 0], [0, 0, 0, 0, -1], [0, 0, 0, 0, -1], [1, 0, 0, 0, -1], [0, 1, 1, 1, 0]],
  [[0, -1, -1, 0, 0], [1, 0, 0, -1, -1], [1, 0, 0, 0, 0], [0, 1, 0, 0, 0], [0, 1, 0, 0, 0]],
  [[0, 0, -1, 0, 0], [0, 0, 0, 0, -1], [1, 0, 0, -1, -1], [0, 0, 1, 0, 0], [0, 1, 1, 0, 0]],
  [[0, -1, -1, 1, 0], [1, 0, 0, -1, -1], [1, 0, 0, -1, 0], [-1, 1, 1, 0, 0], [0, 1, 0, 0, 0]],
  [[0, 0, 0, 0, -1], [0, 0, 0, 0, -1], [0, 0, 0, -1, -1], [0, 0, 1, 0, 0], [1, 1, 1, 0, 0]],
  [[0, -1, 0, 0, 0], [1, 0, -1, -1, 1], [0, 1, 0, 0, -1], [0, 1, 0, 0, -1], [0, -1, 1, 1, 0]],
  [[0, 1, -1, -1, -1], [-1, 0, 1, 0, 0], [1, -1, 0, 0, 0], [1, 0, 0, 0, 0], [1, 0, 0, 0, 0]],
  [[0, 1, -1, 0, -1], [-1, 0, 1, -1, 1], [1, -1, 0, 0, 0], [0, 1, 0, 0, -1], [1, -1, 0, 1, 0]],
  [[0, -1, 0, 0, 0], [1, 0, -1, -1, 0], [0, 1, 0, 0, -1], [0, 1, 0, 0, 0], [0, 0, 1, 0, 0]],
  [[0, 0, 0, 0, -1], [0, 0, 0, 0, -1], [0, 0, 0, -1, 1], [0, 0, 1, 0, -1], [1, 1, -1, 1, 0]],
  [[0, 0, 0, 0, -1], [0, 0, 1, -1, 0], [0, -1, 0, 0, 1], [0, 1, 0, 0, -1], [1, 0, -1, 1, 0]],
  [[0, -1, -1, 0, 1], [1, 0, 0, -1, 0], [1, 0, 0, 0, -1], [0, 1, 0, 0, -1], [-1, 0, 1, 1, 0]],
  [[0, 0, 0, 0, -1], [0, 0, -1, -1, -1], [0, 1, 0, 0, 0], [0, 1, 0, 0, 0], [1, 1, 0, 0, 0]],
  [[0, -1, -1, 1, -1], [1, 0, 0, -1, 0], [1, 0, 0, -1, 0], [-1, 1, 1, 0, 0], [1, 0, 0, 0, 0]],
  [[0, 0, 0, -1, 0], [0, 0, 0, -1, 0], [0, 0, 0, 0, -1], [1, 1, 0, 0, -1], [0, 0, 1, 1, 0]],
  [[0, 1, -1, 0, -1], [-1, 0, 0, 1, 0], [1, 0, 0, -1, 0], [0, -1, 1, 0, 0], [1, 0, 0, 0, 0]],
  [[0, -1, -1, -1, 0], [1, 0, 0, 0, -1], [1, 0, 0, 0, 0], [1, 0, 0, 0, 0], [0, 1, 0, 0, 0]],
  [[0, 1, -1, -1, 0], [-1, 0, 1, 1, -1], [1, -1, 0, 0, 0], [1, -1, 0, 0, 0], [0, 1, 0, 0, 0]],
  [[0, 0, 0, 0, -1], [0, 0, -1, -1, 1], [0, 1, 0, 0, -1], [0, 1, 0, 0, -1], [1, -1, 1, 1, 0]],
  [[0, 0, 0, -1, 0], [0, 0, 0, -1, 0], [0, 0, 0, 1, -1], [1, 1, -1, 0, 0], [0, 0, 1, 0, 0]],
  [[0, -1, 0, 0, 1], [1, 0, -1, 0, 0], [0, 1, 0, -1, 0], [0, 0, 1, 0, -1], [-1, 0, 0, 1, 0]]]
def cD5 : List (List (Nat × List Nat)) := [
  [(1, [3, 0, 1, 2, 4]), (2, [0, 3, 2, 1, 4]), (3, [2, 0, 3, 1, 4]), (4, [0, 2, 4, 1, 3]), (5, [0, 1, 3, 4, 2])],
  [(6, [3, 0, 1, 2, 4]), (7, [0, 4, 2, 1, 3]), (8, [2, 1, 0, 4, 3]), (0, [1, 2, 3, 0, 4]), (9, [0, 2, 4, 3, 1])],
  [(6, [2, 1, 0, 3, 4]), (10, [0, 4, 1, 2, 3]), (11, [1, 0, 2, 3, 4]), (0, [0, 3, 2, 1, 4]), (0, [0, 3, 2, 4, 1])],
  [(11, [3, 0, 1, 2, 4]), (12, [0, 1, 3, 2, 4]), (13, [0, 1, 2, 4, 3]), (0, [1, 3, 0, 2, 4]), (14, [0, 4, 3, 2, 1])],
  [(8, [4, 0, 2, 3, 1]), (0, [0, 3, 1, 4, 2]), (15, [0, 3, 1, 2, 4]), (7, [1, 0, 3, 2, 4]), (16, [2, 1, 3, 4, 0])],
  [(9, [3, 0, 1, 2, 4]), (0, [0, 4, 1, 2, 3]), (0, [0, 1, 4, 2, 3]), (14, [3, 0, 1, 2, 4]), (17, [0, 2, 3, 4, 1])],
  [(17, [4, 1, 0, 2, 3]), (18, [0, 3, 4, 1, 2]), (2, [2, 1, 0, 3, 4]), (1, [1, 2, 3, 0, 4]), (1, [1, 2, 3, 4, 0])],
  [(17, [2, 0, 1, 3, 4]), (13, [0, 4, 1, 3, 2]), (4, [1, 0, 3, 2, 4]), (19, [0, 2, 3, 1, 4]), (1, [0, 3, 2, 4, 1])],
  [(1, [2, 1, 0, 4, 3]), (16, [0, 4, 1, 3, 2]), (20, [1, 0, 3, 2, 4]), (13, [0, 2, 3, 1, 4]), (4, [1, 4, 2, 3, 0])],
  [(1, [4, 0, 1, 3, 2]), (1, [0, 4, 1, 3, 2]), (19, [0, 1, 4, 2, 3]), (5, [1, 2, 3, 0, 4]), (21, [2, 3, 1, 4, 0])],
  [(18, [4, 0, 1, 2, 3]), (22, [0, 1, 2, 3, 4]), (15, [0, 4, 3, 2, 1]), (15, [0, 4, 2, 3, 1]), (2, [0, 2, 3, 4, 1])],
  [(23, [4, 1, 0, 2, 3]), (21, [0, 1, 4, 2, 3]), (2, [1, 0, 2, 3, 4]), (3, [1, 2, 3, 0, 4]), (3, [1, 2, 3, 4, 0])],
  [(15, [4, 2, 0, 1, 3]), (3, [0, 1, 3, 2, 4]), (16, [3, 0, 1, 2, 4]), (16, [0, 4, 2, 3, 1]), (20, [2, 1, 3, 4, 0])],
  [(21, [2, 0, 1, 3, 4]), (8, [0, 3, 1, 2, 4]), (3, [0, 1, 2, 4, 3]), (24, [0, 3, 2, 1, 4]), (7, [0, 2, 4, 3, 1])],
  [(3, [4, 0, 3, 2, 1]), (3, [0, 4, 3, 2, 1]), (5, [1, 2, 3, 0, 4]), (24, [0, 1, 4, 2, 3]), (18, [1, 2, 3, 4, 0])],
  [(20, [4, 3, 2, 1, 0]), (4, [0, 2, 3, 1, 4]), (23, [0, 1, 2, 3, 4]), (10, [0, 4, 2, 3, 1]), (12, [2, 3, 1, 4, 0])],
  [(4, [4, 1, 0, 2, 3]), (12, [1, 2, 3, 0, 4]), (25, [0, 1, 4, 2, 3]), (12, [0, 4, 2, 3, 1]), (8, [0, 2, 4, 3, 1])],
  [(21, [4, 0, 2, 3, 1]), (5, [0, 4, 1, 2, 3]), (7, [1, 2, 0, 3, 4]), (7, [1, 2, 3, 0, 4]), (6, [2, 1, 3, 4, 0])],
  [(14, [4, 0, 1, 2, 3]), (20, [0, 1, 2, 3, 4]), (20, [0, 2, 1, 3, 4]), (6, [0, 3, 4, 1, 2]), (10, [1, 2, 3, 4, 0])],
  [(7, [3, 0, 1, 2, 4]), (7, [0, 3, 1, 2, 4]), (24, [0, 1, 4, 3, 2]), (23, [2, 3, 0, 1, 4]), (9, [0, 1, 3, 4, 2])],
  [(12, [4, 1, 0, 2, 3]), (18, [0, 1, 2, 3, 4]), (22, [1, 2, 3, 0, 4]), (8, [1, 0, 3, 2, 4]), (15, [4, 3, 2, 1, 0])],
  [(9, [4, 2, 0, 1, 3]), (11, [0, 1, 3, 4, 2]), (13, [1, 2, 0, 3, 4]), (13, [1, 2, 3, 0, 4]), (17, [1, 4, 2, 3, 0])],
  [(24, [3, 2, 0, 1, 4]), (10, [0, 1, 2, 3, 4]), (20, [3, 0, 2, 1, 4]), (20, [3, 0, 1, 2, 4]), (23, [1, 4, 2, 3, 0])],
  [(22, [4, 0, 2, 3, 1]), (19, [2, 3, 0, 1, 4]), (15, [0, 1, 2, 3, 4]), (15, [0, 1, 3, 2, 4]), (11, [2, 1, 3, 4, 0])],
  [(13, [3, 0, 2, 1, 4]), (13, [0, 3, 2, 1, 4]), (14, [0, 1, 3, 4, 2]), (22, [2, 3, 1, 0, 4]), (19, [0, 1, 4, 3, 2])],
  [(16, [2, 0, 1, 3, 4]), (16, [4, 2, 0, 1, 3]), (16, [3, 4, 2, 0, 1]), (16, [1, 3, 4, 2, 0]), (16, [0, 1, 3, 4, 2])]]
theorem kD5 : Kd 5 tD5 1 := kd_of (cs := cD5) (by decide +kernel)
end DW
end

section
set_option linter.all false
set_option autoImplicit false
set_option maxRecDepth 100000
/-! Part E of the plain law: the trees that the law draws, and what is known of each. -/
namespace DW
def edge (l : List ((Nat × Nat) × Int)) (y z : Nat) : Int := l.foldl (fun v e => if e.1.1 = y ∧ e.1.2 = z then e.2 else if e.1.1 = z ∧ e.1.2 = y then - e.2 else v) 0
def treeW (n : Nat) (l : List ((Nat × Nat) × Int)) : Web := mk n (edge l)
def pairsA (n : Nat) : List (Nat × Nat) := (List.range (n - 1)).map fun x => (x, x + 1)
def pairsD (n : Nat) : List (Nat × Nat) := (List.range (n - 2)).map (fun x => (x, x + 1)) ++ [(1, n - 1)]
def signs : Nat → List (List Int)
  | 0 => [[]]
  | k + 1 => (signs k).flatMap fun s => [1 :: s, -1 :: s]
theorem mem_signs : ∀ {k : Nat} {s : List Int}, s.length = k → (∀ v ∈ s, v = 1 ∨ v = -1) → s ∈ signs k
  | 0, s, h, _ => by
    have : s = [] := List.eq_nil_of_length_eq_zero h
    rw [this]; simp [signs]
  | k + 1, [], h, _ => by simp at h
  | k + 1, v :: s, h, hv => by
    rw [signs, List.mem_flatMap]
    refine ⟨s, mem_signs (by simpa using h) fun u hu => hv u (List.mem_cons_of_mem _ hu), ?_⟩
    rcases hv v (List.mem_cons_self ..) with rfl | rfl <;> simp
/-- the tables by the number of nodes and the letter -/
def tabOf (n k : Nat) : List Web := match n, k with
  | 1, 0 => tA1 | 2, 0 => tA2 | 3, 0 => tA3 | 4, 0 => tA4 | 5, 0 => tA5 | 4, 1 => tD4 | 5, 1 => tD5 | _, _ => []
inductive Nk : Nat → Nat → Prop
  | a1 : Nk 1 0 | a2 : Nk 2 0 | a3 : Nk 3 0 | a4 : Nk 4 0 | a5 : Nk 5 0 | d4 : Nk 4 1 | d5 : Nk 5 1
theorem kd_nk {n k : Nat} (h : Nk n k) : Kd n (tabOf n k) k := by
  cases h
  · exact kA1
  · exact kA2
  · exact kA3
  · exact kA4
  · exact kA5
  · exact kD4
  · exact kD5
def pairsOf (n k : Nat) : List (Nat × Nat) := if k = 0 then pairsA n else pairsD n
def okTree (n k : Nat) (R : List Web) (s : List Int) : Bool := (if k = 0 then isA n (treeW n ((pairsOf n k).zip s)) else isD n (treeW n ((pairsOf n k).zip s))) && (okGood n (treeW n ((pairsOf n k).zip s)) && decide (plainName (treeW n ((pairsOf n k).zip s)) ∈ R))
theorem trees : ∀ {n k : Nat}, Nk n k → ∀ s ∈ signs (n - 1), okTree n k (tabOf n k) s = true := by
  have h : ∀ p ∈ ([(1, 0), (2, 0), (3, 0), (4, 0), (5, 0), (4, 1), (5, 1)] : List (Nat × Nat)), ((signs (p.1 - 1)).all fun s => okTree p.1 p.2 (tabOf p.1 p.2) s) = true := by decide +kernel
  intro n k hn s hs
  have q : (n, k) ∈ ([(1, 0), (2, 0), (3, 0), (4, 0), (5, 0), (4, 1), (5, 1)] : List (Nat × Nat)) := by cases hn <;> decide
  exact List.all_eq_true.mp (h (n, k) q) s hs
/-- a tree as the law draws it: its class and its letter -/
def Drawn (n k : Nat) (W : Web) : Prop := Nk n k ∧ InK n (tabOf n k) W ∧ letter n W = k
theorem drawn_of {n k : Nat} (h : Nk n k) {s : List Int} (hl : s.length = n - 1) (hv : ∀ v ∈ s, v = 1 ∨ v = -1) {o : List Nat} (ho : IsOrd n o) : Drawn n k (nameW (treeW n ((pairsOf n k).zip s)) o) := by
  have q := trees h s (mem_signs hl hv)
  unfold okTree at q
  simp only [Bool.and_eq_true] at q
  obtain ⟨q1, q2, q3⟩ := q
  have g := good_ok q2
  refine ⟨h, ⟨_, of_decide_eq_true q3, ?_⟩, ?_⟩
  · have i := plain_iso g.sh
    exact iso_trans (iso_sh g.sh i) (iso_symm g.sh i) ⟨o, ho, rfl⟩
  · by_cases z : k = 0
    · rw [if_pos z] at q1
      rw [letter_A (isA_name g.sh ho q1), z]
    · rw [if_neg z] at q1
      rw [letter_D (isD_name g.sh ho q1)]
      cases h <;> first | rfl | exact absurd rfl z
end DW
end

section
set_option Elab.async false
set_option linter.all false
set_option maxRecDepth 100000
/-! Layer C: things with a Lean type as keys; sorted and min say the plain law's isort and least. -/
namespace L2.DL
open PySem PySem.Spec PyProof.Rows
structure EncO {β : Type} [DecidableEq β] [DW.LO β] (enc : β → NestedKey) : Prop where
  alike : ∀ a b, PySem.W.alike (enc a).data (enc b).data = true
  lt : ∀ a b, PySem.W.dataLt (enc a).data (enc b).data = DW.LO.lt a b
  notNone : ∀ a, (enc a).data ≠ .none
  dep : ∀ a, (enc a).data.depth ≤ 6
section
variable {β : Type} [DecidableEq β] [DW.LO β] {enc : β → NestedKey}
theorem EncO.inj (E : EncO enc) {a b : β} (h : (enc a).data = (enc b).data) : a = b := by
  have h1 := E.lt a b
  have h2 := E.lt b a
  rw [h, PySem.W.dataLt_self] at h1
  rw [← h, PySem.W.dataLt_self] at h2
  exact DW.eq_of_not h1.symm h2.symm
def leB (a b : β) : Bool := !DW.LO.lt b a
theorem leB_total : PySem.W.TotalLe (leB (β := β)) where
  trans a b c h1 h2 := by
    unfold leB at *
    have h1' : DW.LO.lt b a = false := by simpa using h1
    have h2' : DW.LO.lt c b = false := by simpa using h2
    rw [DW.le_trans h1' h2']; rfl
  total a b := by
    unfold leB
    cases h : DW.LO.lt b a with
    | false => exact .inl rfl
    | true => rw [DW.asym h]; exact .inr rfl
theorem merge_isort (bs : List β) : bs.mergeSort leB = DW.isort bs := by
  refine DW.asc_isort (List.mergeSort_perm bs leB) ?_
  refine List.Pairwise.imp (fun {a b} h => ?_) (PySem.W.sort_pairwise leB_total bs)
  unfold leB at h
  simpa using h
theorem EncO.sort (E : EncO enc) (bs : List β) : (bs.map enc).mergeSort (PySem.W.dataLe false NestedKey.data) = (DW.isort bs).map enc := by
  rw [← merge_isort]
  refine (PySem.W.sort_maps (r := leB) (s := PySem.W.dataLe false NestedKey.data) enc fun a _ b _ => ?_).symm
  rw [PySem.W.dataLe_eq]
  show leB a b = !PySem.W.dataLt (enc b).data (enc a).data
  rw [E.lt]
  rfl
theorem EncO.allAlike (E : EncO enc) (bs : List β) : PySem.W.AllAlike ((bs.map enc).map NestedKey.data) := by
  intro d hd d' hd'
  simp only [List.map_map, List.mem_map, Function.comp_apply] at hd hd'
  obtain ⟨b, _, rfl⟩ := hd
  obtain ⟨b', _, rfl⟩ := hd'
  exact E.alike b b'
theorem EncO.alikeAll (E : EncO enc) (bs : List β) : PySem.W.AlikeAll ((bs.map enc).map NestedKey.data) := by
  refine ⟨E.allAlike bs, fun d hd => ?_⟩
  simp only [List.map_map, List.mem_map, Function.comp_apply] at hd
  obtain ⟨b, _, rfl⟩ := hd
  exact E.notNone b
theorem EncO.depths (E : EncO enc) : ∀ bs : List β, PyData.depthAll ((bs.map enc).map NestedKey.data) ≤ 6
  | [] => by simp [PyData.depthAll]
  | b :: bs => by
    have h1 := E.dep b
    have h2 := E.depths bs
    simp only [List.map_cons, PyData.depthAll]
    omega
theorem EncO.minD [Inhabited β] (E : EncO enc) (b : β) (bs : List β) : PySem.W.minD (enc b).data ((bs.map enc).map NestedKey.data) = (enc (DW.least (b :: bs))).data := by
  show _ = (enc (bs.foldl (fun a y => if DW.LO.lt y a = true then y else a) b)).data
  unfold PySem.W.minD
  induction bs generalizing b with
  | nil => rfl
  | cons c bs ih =>
    rw [List.map_cons, List.map_cons, List.foldl_cons, List.foldl_cons, E.lt c b]
    cases DW.LO.lt c b with
    | true => exact ih c
    | false => exact ih b
end
section
variable {X : Cx} {β : Type} [DecidableEq β] [DW.LO β] {enc : β → NestedKey}
/-- sorted(list), items by enc -/
def rSortE (K : PySem.W.Frag) (enc : β → NestedKey) : List V → Hp → VK → Prop := fun vs H Q => ∃ (a : Addr) (xs : List V) (bs : List β), vs = [.ref a] ∧ SqL K H a xs ∧ ImAll K H xs (bs.map enc) ∧
  PySem.W.Sortable ((bs.map enc).map NestedKey.data) ∧ bs.length ≤ 10000 ∧ ∀ p ys, H p = none → ImAll K H ys ((DW.isort bs).map enc) → Q (.ref p) (upd H p (.lst ys))
theorem cr_sortE (E : EncO enc) (hu : X.A.units + 64 < cLine) : CallR X (.builtin "sorted") (rSortE X.K enc) := by
  intro pins s σ H vs us Q I r h
  obtain ⟨a, xs, bs, rfl, hs, him, hso, hn, q⟩ := h
  refine cr_sortedK hu pins s σ H _ us Q I r ⟨a, xs, bs.map enc, rfl, hs, him, E.allAlike bs, hso, by simpa using hn, fun k hk => ?_, fun p ys hp hy => ?_⟩
  · obtain ⟨b, _, rfl⟩ := List.mem_map.mp hk
    have := E.dep b
    omega
  · rw [E.sort] at hy
    exact q p ys hp hy
/-- min(list), items by enc -/
def rMinE [Inhabited β] (K : PySem.W.Frag) (enc : β → NestedKey) : List V → Hp → VK → Prop := fun vs H Q => ∃ (a : Addr) (xs : List V) (bs : List β), vs = [.ref a] ∧ SqL K H a xs ∧ ImAll K H xs (bs.map enc) ∧
  bs ≠ [] ∧ ∀ x, Im K H x (enc (DW.least bs)) → Q x H
theorem cr_minE [Inhabited β] (E : EncO enc) (hc : X.calm = true) (hu : X.A.units + 64 < cLine) : CallR X (.builtin "min") (rMinE X.K enc) := by
  intro pins s σ H vs us Q I r h
  obtain ⟨a, xs, bs, rfl, hs, him, hne, q⟩ := h
  cases bs with
  | nil => exact absurd rfl hne
  | cons b bs =>
    refine cr_minD hc hu pins s σ H _ us Q I r ⟨a, xs, enc b, bs.map enc, rfl, hs, him, E.alikeAll (b :: bs), Nat.le_trans (E.depths (b :: bs)) (by decide), fun x j hj hx e => ?_⟩
    obtain ⟨c, _, rfl⟩ := List.mem_map.mp (show j ∈ (b :: bs).map enc from hj)
    rw [E.minD] at e
    rw [E.inj e] at hx
    exact q x hx
end
/-! ### the encodings -/
def pairK (p : Int × Int) : NestedKey := .tup [.num p.1, .num p.2]
def rowK (r : List Int) : NestedKey := .tup (r.map .num)
def webK (W : DW.Web) : NestedKey := .tup (W.map rowK)
def toldK (t : Int × List (Int × Int)) : NestedKey := .tup [.num t.1, .tup (t.2.map pairK)]
theorem data_rows (r : List Int) : NestedKey.datas (r.map .num) = r.map PyData.int := by
  rw [datas_map, List.map_map]; rfl
theorem listLt_ltL {α : Type} [DecidableEq α] [PySem.W.DatumOrd α] {γ : Type} [DecidableEq γ] [DW.LO γ] (f : γ → α) (hi : ∀ a b, f a = f b → a = b) (hl : ∀ a b, PySem.W.DatumOrd.lt (f a) (f b) = DW.LO.lt a b) :
    ∀ xs ys : List γ, PySem.W.listLt (xs.map f) (ys.map f) = DW.ltL xs ys
  | [], [] => rfl
  | [], _ :: _ => rfl
  | _ :: _, [] => rfl
  | x :: xs, y :: ys => by
    rw [List.map_cons, List.map_cons, PySem.W.listLt, DW.ltL]
    by_cases e : x = y
    · subst e; rw [if_pos rfl, if_pos rfl]; exact listLt_ltL f hi hl xs ys
    · rw [if_neg e, if_neg fun q => e (hi _ _ q), hl]
theorem enc_int : EncO NestedKey.num where
  alike a b := PySem.W.DatumOrd.alike a b
  lt a b := PySem.W.DatumOrd.lt_eq a b
  notNone a := PySem.W.DatumOrd.notNone a
  dep a := by simp [NestedKey.data, PyData.depth]
theorem pair_toD (p : Int × Int) : (pairK p).data = PySem.W.Datum.toD p := by
  show PyData.tuple (NestedKey.datas [.num p.1, .num p.2]) = _
  rfl
theorem enc_pair : EncO pairK where
  alike a b := by rw [pair_toD, pair_toD]; exact PySem.W.DatumOrd.alike a b
  lt a b := by rw [pair_toD, pair_toD]; exact PySem.W.DatumOrd.lt_eq a b
  notNone a := by rw [pair_toD]; exact PySem.W.DatumOrd.notNone a
  dep a := by rw [pair_toD]; exact Nat.le_trans (PySem.W.Datum.depth_le a) (by decide)
abbrev rowT (r : List Int) : PySem.W.Tup Int := ⟨r⟩
abbrev webT (W : DW.Web) : PySem.W.Tup (PySem.W.Tup Int) := ⟨W.map rowT⟩
theorem rowT_inj (a b : List Int) (h : rowT a = rowT b) : a = b := congrArg PySem.W.Tup.items h
theorem row_toD (r : List Int) : (rowK r).data = PySem.W.Datum.toD (rowT r) := by
  show PyData.tuple (NestedKey.datas (r.map .num)) = PyData.tuple (r.map PySem.W.Datum.toD)
  rw [data_rows]; rfl
theorem row_lt (a b : List Int) : PySem.W.DatumOrd.lt (rowT a) (rowT b) = DW.LO.lt a b := by
  have := listLt_ltL (α := Int) (γ := Int) id (fun _ _ h => h) (fun _ _ => rfl) a b
  rw [List.map_id, List.map_id] at this
  exact this
theorem web_toD (W : DW.Web) : (webK W).data = PySem.W.Datum.toD (webT W) := by
  show PyData.tuple (NestedKey.datas (W.map rowK)) = PyData.tuple ((W.map rowT).map PySem.W.Datum.toD)
  rw [datas_map, List.map_map, List.map_map]
  congr 1
  exact List.map_congr_left fun r _ => row_toD r
theorem enc_web : EncO webK where
  alike a b := by rw [web_toD, web_toD]; exact PySem.W.DatumOrd.alike _ _
  lt a b := by
    rw [web_toD, web_toD, PySem.W.DatumOrd.lt_eq]
    exact (listLt_ltL (γ := List Int) rowT rowT_inj row_lt a b : PySem.W.listLt (List.map rowT a) (List.map rowT b) = DW.ltL a b)
  notNone a := by rw [web_toD]; exact PySem.W.DatumOrd.notNone _
  dep a := by rw [web_toD]; exact Nat.le_trans (PySem.W.Datum.depth_le _) (by decide)
abbrev toldT (t : Int × List (Int × Int)) : Int × PySem.W.Tup (Int × Int) := (t.1, ⟨t.2⟩)
theorem told_toD (t : Int × List (Int × Int)) : (toldK t).data = PySem.W.Datum.toD (toldT t) := by
  show PyData.tuple (NestedKey.datas [.num t.1, .tup (t.2.map pairK)]) = _
  simp only [NestedKey.datas, NestedKey.data]
  rw [datas_map, List.map_map]
  rfl
theorem enc_told : EncO toldK where
  alike a b := by rw [told_toD, told_toD]; exact PySem.W.DatumOrd.alike _ _
  lt a b := by
    rw [told_toD, told_toD, PySem.W.DatumOrd.lt_eq]
    show (if a.1 = b.1 then PySem.W.listLt a.2 b.2 else decide (a.1 < b.1)) = DW.ltP a b
    unfold DW.ltP
    have := listLt_ltL (α := Int × Int) (γ := Int × Int) id (fun _ _ h => h) (fun _ _ => rfl) a.2 b.2
    rw [List.map_id, List.map_id] at this
    rw [this]
    rfl
  notNone a := by rw [told_toD]; exact PySem.W.DatumOrd.notNone _
  dep a := by rw [told_toD]; exact Nat.le_trans (PySem.W.Datum.depth_le _) (by decide)
theorem sort_nums (ns : List Int) : PySem.W.Sortable ((ns.map NestedKey.num).map NestedKey.data) := .inr fun d hd => by
  simp only [List.map_map, List.mem_map, Function.comp_apply] at hd
  obtain ⟨b, _, rfl⟩ := hd
  exact ⟨fun e => (by cases e), fun xs e => (by cases e)⟩
theorem sort_tups {β : Type} {enc : β → NestedKey} {bs : List β} (h : ∀ b ∈ bs, ∃ k ks, enc b = .tup (k :: ks)) : PySem.W.Sortable ((bs.map enc).map NestedKey.data) := .inl fun d hd => by
  simp only [List.map_map, List.mem_map, Function.comp_apply] at hd
  obtain ⟨b, hb, rfl⟩ := hd
  obtain ⟨k, ks, e⟩ := h b hb
  rw [e]
  exact ⟨_, _, rfl⟩
end L2.DL
end

section
set_option Elab.async false
set_option linter.all false
set_option maxRecDepth 100000
/-! Layer D: a set by its rows (hash, value), whatever the values are: the search, the adding. What is asked of a new value stands in Asks. The table's own laws are the library's (TabOk and its kin). -/
namespace L2.DL
open PySem PySem.Spec PyProof.Rows
/-- a table and its entries, the rows in the entries' order -/
structure Lay (w : World) (t : SetTable) (es : Array (Int × Value)) (rows : List (Int × Value)) : Prop where
  es : es.toList = rows
  tab : TabOk t (rows.map Prod.fst)
  plain : t.plain = true
  led : w.params.followText "set-order" = true ∨ t.led = true
  room : rows.length * 5 < t.mask * 3
  mask : t.mask = 7 ∨ t.mask = 31
def SetR (w : World) (h : Heap) (a : Addr) (rows : List (Int × Value)) : Prop :=
  ∃ (o : Obj) (es : Array (Int × Value)) (ep : Nat) (t : SetTable), h.get? a = some o ∧ o.ExactSet ∧ o.data = .set es ep t ∧ Lay w t es rows
structure Asks (P : Program) (w : World) (A : Around) (s : Shared) (x : Value) (hx : Int) (rows : List (Int × Value)) (same : Value → Bool) : Prop where
  isRef : ∃ b, x = .ref b
  refs : ∀ r ∈ rows, ∃ b, r.2 = Value.ref b
  eq : ∀ r ∈ rows, ∀ (E : Value → Shared → Prop) (Q : Bool → Shared → Prop), Q (same r.2) s → wpAny (model P w) A (eqBool r.2 x) Q E s
  seen : ∀ ys : List Value, (∀ y ∈ ys, ∃ r ∈ rows, y = r.2) → ∀ (E : Value → Shared → Prop) (Q : Bool → Shared → Prop), Q false s → wpAny (model P w) A (searchCouldBeSeen x ys) Q E s
  byv : ∀ (E : Value → Shared → Prop) (Q : Bool → Shared → Prop), Q true s → wpAny (model P w) A (hashByValue 8 x) Q E s
  hash : ∀ r ∈ rows, same r.2 = true → r.1 = hx
section
variable {P : Program} {w : World} {A : Around} {E : Value → Shared → Prop} {s : Shared} {a : Addr} {o : Obj} {es : Array (Int × Value)} {ep : Nat} {t : SetTable} {rows : List (Int × Value)} {x : Value} {hx : Int} {same : Value → Bool}
theorem Lay.size (L : Lay w t es rows) : es.size = rows.length := by
  rw [← Array.length_toList, L.es]
theorem Lay.placed (L : Lay w t es rows) : t.place.toList.length = rows.length := by
  have := L.tab.sz
  rw [List.length_map] at this
  rw [Array.length_toList, this]
theorem Lay.fits (L : Lay w t es rows) : t.fits es.size = true := by
  have h1 := L.placed
  have h2 := L.size
  have h3 := L.room
  rw [Array.length_toList] at h1
  unfold SetTable.fits SetTable.fill
  rw [L.tab.dm, Bool.and_eq_true]
  refine ⟨?_, ?_⟩
  · rw [beq_iff_eq]; omega
  · rw [decide_eq_true_eq]; show t.place.size + 0 ≤ t.mask; omega
theorem Lay.entry (L : Lay w t es rows) {i : Nat} {r : Int × Value} (h : rows[i]? = some r) : es[i]? = some r := by
  rw [← Array.getElem?_toList, L.es]; exact h
theorem Lay.steady (L : Lay w t es rows) : ¬ t.gaveWay = true := by
  unfold SetTable.gaveWay
  rcases L.mask with e | e <;> rw [e] <;> decide
abbrev from0 (t : SetTable) (hx : Int) : SetTable.Probe := runAt t.mask (SetTable.bits hx % (t.mask + 1)) (SetTable.bits hx)
theorem no_dummy (m : Nat) : ∀ (k : Nat) (p : SetTable.Probe), p.dummy = none → (nth m p k).dummy = none
  | 0, _, h => h
  | k + 1, p, h => no_dummy m k (adv m p) (by unfold adv; split <;> exact h)
/-- the search from the c-th step of the way; K: the first empty step -/
theorem seek (ho : s.heap.get? a = some o) (hd : o.data = .set es ep t) (L : Lay w t es rows) (B : Asks P w A s x hx rows same) {K : Nat} (hKf : K < 10 * SetTable.turns t.mask)
    (hK : way t.mask hx K ∉ t.place.toList) (hKb : ∀ c, c < K → way t.mask hx c ∈ t.place.toList) {Q : SetFound → Shared → Prop}
    (hin : (∃ r ∈ rows, same r.2 = true) → Q (.there none) s) (hout : (∀ r ∈ rows, same r.2 = false) → Q (.free (way t.mask hx K) false) s) :
    ∀ (fuel c : Nat) (stand : Option SetTable.Probe), stand.getD (t.probeStart hx) = nth t.mask (from0 t hx) c → c ≤ K → K - c < fuel →
      (∀ (i : Nat) r, rows[i]? = some r → same r.2 = true → ∃ d, c ≤ d ∧ d < K ∧ t.place.toList[i]? = some (way t.mask hx d)) →
      wpAny (model P w) A (setSearchFrom a x hx true fuel stand) Q E s := by
  intro fuel
  induction fuel with
  | zero => intro c stand _ _ hf; omega
  | succ fuel ih =>
    intro c stand hst hc hf hre
    have at_ : ∀ d, (nth t.mask (nth t.mask (from0 t hx) c) d) = nth t.mask (from0 t hx) (c + d) := fun d => (nth_add t.mask c _ d).symm
    have jat : ∀ d, (nth t.mask (nth t.mask (from0 t hx) c) d).j = way t.mask hx (c + d) := fun d => by rw [at_ d]
    have hEnd : c + (K - c) = K := by omega
    rw [setSearchFrom_succ]
    refine wpAny_bind (wpAny_setState_of ho hd L.fits ?_)
    dsimp only
    refine wp_if_neg L.steady ?_
    try refine wpAny_bind (wpAny_pure ?_)
    have hashOf : ∀ (i : Nat) r, rows[i]? = some r → (es[i]?.map (·.1)).getD 0 = r.1 := fun i r hr => by rw [L.entry hr]; rfl
    rcases go_spec t L.tab.ris L.tab.dm (fun i => (es[i]?.map (·.1)).getD 0) hx (10 * SetTable.turns t.mask) (K - c) _ (no_dummy t.mask c _ rfl) (by omega)
      (fun d hd => by rw [jat]; exact hKb _ (by omega)) (by rw [jat, hEnd]; exact hK) with ⟨d, i, hdl, hi, hh, hno, hgo⟩ | ⟨hno, hgo⟩
    · have hprobe : t.probe (fun i => (es[i]?.map (·.1)).getD 0) hx (stand.getD (t.probeStart hx)) = some (.candidate (way t.mask hx (c + d)) i (nth t.mask (from0 t hx) (c + (d + 1)))) := by
        rw [hst, ← jat, ← at_]; exact hgo
      rw [hprobe]
      dsimp only
      rw [jat] at hi
      have hir : i < rows.length := by
        have := (List.getElem?_eq_some_iff.mp hi).1
        rw [L.placed] at this
        exact this
      obtain ⟨r, hr⟩ : ∃ r, rows[i]? = some r := ⟨_, List.getElem?_eq_getElem hir⟩
      have hmem : r ∈ rows := List.mem_of_getElem? hr
      obtain ⟨b, hb⟩ := B.refs r hmem
      have tail : wpAny (model P w) A (searchRest a x hx true fuel es t (way t.mask hx (c + d)) i (nth t.mask (from0 t hx) (c + (d + 1)))) Q E s := by
        unfold searchRest
        rw [L.entry hr]
        dsimp only
        refine wpAny_bind (wpAny_holding (B.eq r hmem _ _ ?_))
        refine wpAny_bind (wpAny_setState_of ho hd L.fits ?_)
        dsimp only
        cases hsm : same r.2 with
        | true =>
          refine wp_if_pos (by simp) ?_
          exact wpAny_pure (hin ⟨r, hmem, hsm⟩)
        | false =>
          refine wp_if_neg (by simp) ?_
          try refine wpAny_bind (wpAny_pure ?_)
          rw [sameMem]
          dsimp only
          have hlive : t.slot (way t.mask hx (c + d)) = .live i := slot_live L.tab.ris hi
          simp only [if_true, hlive, L.entry hr]
          rw [hb]
          refine wpAny_bind (wpAny_isSame_ref_self (wpAny_bind (wpAny_pure ?_)))
          simp only [if_true]
          refine wp_if_neg (by simp) ?_
          refine ih (c + (d + 1)) _ rfl (by omega) (by omega) fun i0 r0 h0 hs0 => ?_
          obtain ⟨e, e1, e2, e3⟩ := hre i0 r0 h0 hs0
          refine ⟨e, ?_, e2, e3⟩
          have hne : e ≠ c + d := fun q => by
            rw [q] at e3
            have h1 := slot_live L.tab.ris e3
            rw [hlive] at h1
            cases h1
            rw [hr] at h0
            cases h0
            rw [hsm] at hs0
            cases hs0
          have hge : ¬ e < c + d := fun q => by
            refine hno (e - c) i0 (by omega) (by rw [jat, show c + (e - c) = e by omega]; exact e3) ?_
            show (es[i0]?.map (·.1)).getD 0 = hx
            rw [hashOf i0 r0 h0]
            exact B.hash r0 (List.mem_of_getElem? h0) hs0
          omega
      by_cases hl : t.led = true
      · refine wp_if_neg (by simp [hl]) ?_
        try refine wpAny_bind (wpAny_pure ?_)
        exact tail
      · refine wp_if_pos (by simp [hl]) ?_
        refine wpAny_bind (B.seen _ (fun y hy => ?_) _ _ ?_)
        · obtain ⟨e, he, ee⟩ := List.mem_map.mp hy
          have he2 : e ∈ es.toList := by
            have q : e ∈ es ∧ e.1 = hx := by simpa using he
            simpa using q.1
          rw [L.es] at he2
          exact ⟨e, he2, ee.symm⟩
        · refine wp_if_neg (by decide) ?_
          try refine wpAny_bind (wpAny_pure ?_)
          exact tail
    · have hprobe : t.probe (fun i => (es[i]?.map (·.1)).getD 0) hx (stand.getD (t.probeStart hx)) = some (.empty (way t.mask hx K) none) := by
        have e2 : way t.mask hx K = (nth t.mask (nth t.mask (from0 t hx) c) (K - c)).j := by rw [jat, hEnd]
        rw [hst, e2]; exact hgo
      rw [hprobe]
      dsimp only
      refine wpAny_pure (hout fun r hr => ?_)
      cases hsm : same r.2 with
      | false => rfl
      | true =>
        obtain ⟨i, hi⟩ := List.mem_iff_getElem?.mp hr
        obtain ⟨e, e1, e2, e3⟩ := hre i r hi hsm
        refine absurd ?_ (hno (e - c) i (by omega) (by rw [jat, show c + (e - c) = e by omega]; exact e3))
        show (es[i]?.map (·.1)).getD 0 = hx
        rw [hashOf i r hi]
        exact B.hash r hr hsm
/-- the search as adding asks for it -/
theorem seek0 (ho : s.heap.get? a = some o) (hd : o.data = .set es ep t) (L : Lay w t es rows) (B : Asks P w A s x hx rows same) {Q : SetFound → Shared → Prop}
    (hin : (∃ r ∈ rows, same r.2 = true) → Q (.there none) s)
    (hout : ∀ K, (∀ r ∈ rows, same r.2 = false) → way t.mask hx K ∉ t.place.toList → (∀ c, c < K → way t.mask hx c ∈ t.place.toList) → Q (.free (way t.mask hx K) false) s) :
    wpAny (model P w) A (setSearch a x hx true) Q E s := by
  obtain ⟨K, hKf, hK, hKb⟩ := L.tab.first (by have := L.room; rw [List.length_map]; omega) hx
  have few : K < 100000 := by
    have : 10 * SetTable.turns t.mask ≤ 1420 := by
      unfold SetTable.turns
      rcases L.mask with e | e <;> rw [e] <;> decide
    omega
  unfold setSearch
  refine seek ho hd L B hKf hK hKb hin (fun h => hout K h hK hKb) 100000 0 none rfl (Nat.zero_le _) (by omega) fun i r hi hs => ?_
  have hir : i < t.place.toList.length := by
    rw [L.placed]
    exact (List.getElem?_eq_some_iff.mp hi).1
  have hj := List.getElem?_eq_getElem hir
  have hh : (rows.map Prod.fst)[i]? = some hx := by
    rw [List.getElem?_map, hi]
    exact congrArg some (B.hash r (List.mem_of_getElem? hi) hs)
  obtain ⟨c, hc, e⟩ := L.tab.before hK hh hj
  exact ⟨c, Nat.zero_le _, hc, by rw [hj, e]⟩
end
end L2.DL
end

section
set_option Elab.async false
set_option linter.all false
set_option maxRecDepth 100000
/-! Layer E: a row put into a set of few rows, the table laid anew where it is too full. -/
namespace L2.DL
open PySem PySem.Spec PyProof.Rows
theorem pick_map {α : Type} (d : α) (rows : List α) : ∀ l : List Nat, (∀ i ∈ l, i < rows.length) → l.filterMap (fun i => rows[i]?) = l.map fun i => rows.getD i d
  | [], _ => rfl
  | i :: l, h => by
    have hi := h i (List.mem_cons_self ..)
    rw [List.filterMap_cons, List.getElem?_eq_getElem hi, List.map_cons, pick_map d rows l fun j hj => h j (List.mem_cons_of_mem _ hj), DW.getD_of (List.getElem?_eq_getElem hi)]
theorem pick_all {α : Type} (d : α) (rows : List α) : (List.range rows.length).map (fun i => rows.getD i d) = rows := by
  apply List.ext_getElem?
  intro i
  by_cases hi : i < rows.length
  · rw [DW.map_range_get hi, DW.getD_of (List.getElem?_eq_getElem hi), List.getElem?_eq_getElem hi]
  · rw [List.getElem?_eq_none (by simp; omega), List.getElem?_eq_none (by omega)]
section
variable {P : Program} {w : World} {A : Around} {E : Value → Shared → Prop} {s : Shared} {a : Addr} {o : Obj} {es : Array (Int × Value)} {ep : Nat} {t : SetTable} {rows : List (Int × Value)} {x : Value} {hx : Int} {same : Value → Bool}
theorem relay32 (ho : s.heap.get? a = some o) (hex : o.ExactSet) (hd : o.data = .set es ep t) (hes : es.toList = rows) (hpl : t.place.size = es.size) (hdm : t.dummies = #[]) (hfit : es.size ≤ t.mask) (pl : t.plain = true)
    (led : w.params.followText "set-order" = true ∨ t.led = true) (few : rows.length ≤ 18) {wanted : Nat} (hw : SetTable.sizeAbove wanted = 32) {Q : Unit → Shared → Prop}
    (hQ : ∀ h' rows', Heap.SameBut a s.heap h' → SetR w h' a rows' → rows'.Perm rows → Q () { s with heap := h' }) : wpAny (model P w) A (setRelay a wanted) Q E s := by
  have hsz : es.size = rows.length := by rw [← Array.length_toList, hes]
  have hfits : t.fits es.size = true := by
    unfold SetTable.fits SetTable.fill
    rw [hdm, Bool.and_eq_true]
    refine ⟨?_, ?_⟩
    · rw [beq_iff_eq]; exact hpl
    · rw [decide_eq_true_eq]; show t.place.size + 0 ≤ t.mask; omega
  have hM : SetTable.sizeAbove wanted - 1 = 31 := by rw [hw]
  obtain ⟨t', order, e, hp, T, em, el, epl, edm⟩ := relaid_ok t (hs := es.map (·.1)) (wanted := wanted) hM (.inr (.inl rfl)) (by rw [Array.size_map]; omega)
  rw [Array.size_map, hsz] at hp
  have hin : ∀ i ∈ order.toList, i < rows.length := fun i hi => List.mem_range.mp (hp.mem_iff.mp hi)
  have hlist : (order.filterMap (es[·]?)).toList = order.toList.map fun i => rows.getD i ((0 : Int), Value.none) := by
    rw [Array.toList_filterMap, ← pick_map _ rows _ hin]
    congr 1
    funext i
    rw [← Array.getElem?_toList, hes]
  have hperm : (order.toList.map fun i => rows.getD i ((0 : Int), Value.none)).Perm rows := by
    have h1 := hp.map fun i => rows.getD i ((0 : Int), Value.none)
    rw [pick_all] at h1
    exact h1
  have hT : (order.toList.map fun i => (es.map (·.1)).getD i 0) = (order.toList.map fun i => rows.getD i ((0 : Int), Value.none)).map Prod.fst := by
    rw [List.map_map]
    refine List.map_congr_left fun i hi => ?_
    have hil := hin i hi
    have e1 : (es.map (·.1))[i]? = some (rows[i]).1 := by
      rw [Array.getElem?_map, ← Array.getElem?_toList, hes, List.getElem?_eq_getElem hil]; rfl
    have e2 : (es.map (·.1)).getD i 0 = (rows[i]).1 := by simp [Array.getD_eq_getD_getElem?, e1]
    rw [e2, Function.comp_apply, DW.getD_of (List.getElem?_eq_getElem hil)]
  rw [hT] at T
  have hnew : (order.filterMap (es[·]?)).size = es.size := by rw [← Array.length_toList, hlist, hperm.length_eq, hsz]
  rw [setRelay_eq]
  refine wpAny_bind (wpAny_setState_of ho hd hfits ?_)
  dsimp only
  refine wp_if_neg (by rw [hw, sizeLine_eq]; omega) ?_
  try refine wpAny_bind (wpAny_pure ?_)
  rw [e]
  dsimp only
  refine wpAny_bind ?_
  refine wp_if_neg (by rw [hnew]; simp) ?_
  try refine wpAny_bind (wpAny_pure ?_)
  refine wpAny_pure ?_
  dsimp only
  refine wpAny_storeSet_of ho hd ?_ (by rw [hnew, sizeLine_eq]; omega)
  refine hQ _ _ (Heap.SameBut.update ..) ⟨_, _, _, _, store_at ho hd, ⟨hex.1, hex.2.1, hex.2.2⟩, rfl, hlist, T, by rw [epl]; exact pl, by rw [el]; exact led, ?_, .inr em⟩ hperm
  rw [hperm.length_eq, em]
  omega
/-- adding -/
theorem put_in (R : SetR w s.heap a rows) (B : Asks P w A s x hx rows same) (few : rows.length + 1 ≤ 12) {Q : Bool → Shared → Prop}
    (hQ : ∀ b h' rows', Heap.SameBut a s.heap h' → SetR w h' a rows' → ((∃ r ∈ rows, same r.2 = true) → rows' = rows) → ((∀ r ∈ rows, same r.2 = false) → rows'.Perm ((hx, x) :: rows)) → Q b { s with heap := h' }) :
    wpAny (model P w) A (setAddHashed a x hx) Q E s := by
  obtain ⟨o, es, ep, t, ho, hex, hd, L⟩ := id R
  obtain ⟨b, rfl⟩ := B.isRef
  unfold setAddHashed
  refine wpAny_holding ?_
  rw [show (100000 : Nat) = 99999 + 1 from rfl, setAddHashedIn_succ]
  refine wpAny_bind (wpAny_setState_of ho hd L.fits ?_)
  dsimp only
  refine wp_if_neg (by simp [byScan, Value.scannable]) ?_
  try refine wpAny_bind (wpAny_pure ?_)
  refine wpAny_bind (seek0 ho hd L B (fun hm => ?_) fun K hm hK hb => ?_)
  · dsimp only
    refine wpAny_pure (hQ false s.heap rows (Heap.SameBut.refl a s.heap) R (fun _ => rfl) fun z => ?_)
    obtain ⟨r, hr, e⟩ := hm
    rw [z r hr] at e
    cases e
  · dsimp only
    refine wpAny_bind (wpAny_setState_of ho hd L.fits ?_)
    dsimp only
    obtain ⟨q1, q2, q3, q4, q5, q6, _, _, q9⟩ := L.tab.put hK hb
    have pl1 : (t.put (way t.mask hx K)).1.plain = true := by rw [q6]; exact L.plain
    generalize hput : t.put (way t.mask hx K) = tp at q1 q3 q4 q5 q9 pl1 ⊢
    obtain ⟨t1, p⟩ := tp
    dsimp only at q1 q3 q4 q5 q9 pl1 ⊢
    subst q1
    first
      | (refine wpAny_bind ?_; refine wp_if_pos pl1 ?_; refine B.byv _ _ ?_)
      | refine wp_if_pos pl1 (wpAny_bind (B.byv _ _ ?_))
    simp only [if_true]
    generalize hat : SetTable.below t.place (way t.mask hx K) = k at q2 q3 ⊢
    rw [List.length_map] at q2 q9
    have hrows : (rows.take k ++ (hx, Value.ref b) :: rows.drop k).Perm ((hx, Value.ref b) :: rows) := by
      have h1 : (rows.take k ++ (hx, Value.ref b) :: rows.drop k).Perm ((hx, Value.ref b) :: (rows.take k ++ rows.drop k)) := List.perm_middle
      rw [List.take_append_drop] at h1
      exact h1
    have hfst : (rows.map Prod.fst).take k ++ hx :: (rows.map Prod.fst).drop k = (rows.take k ++ (hx, Value.ref b) :: rows.drop k).map Prod.fst := by
      rw [List.map_append, List.map_cons, List.map_take, List.map_drop]
    rw [hfst] at q3
    have hes1 : (SetTable.insertAt es k (hx, Value.ref b)).toList = rows.take k ++ (hx, Value.ref b) :: rows.drop k := by rw [SetTable.toList_insertAt, L.es]
    generalize SetTable.insertAt es k (hx, Value.ref b) = es1 at hes1 ⊢
    generalize rows.take k ++ (hx, Value.ref b) :: rows.drop k = rows1 at hrows q3 hes1
    have hlen : rows1.length = rows.length + 1 := hrows.length_eq
    have hsz1 : es1.size = rows1.length := by rw [← Array.length_toList, hes1]
    refine wpAny_bind (wpAny_storeSet_of ho hd ?_ (by rw [hsz1, hlen, sizeLine_eq]; omega))
    have sb : Heap.SameBut a s.heap (s.heap.update a (Obj.putSet es1 t1)) := Heap.SameBut.update ..
    have ho1 := store_at (es' := es1) (t' := t1) ho hd
    generalize s.heap.update a (Obj.putSet es1 t1) = h1 at sb ho1 ⊢
    have no : ¬ ∃ r ∈ rows, same r.2 = true := fun ⟨r, hr, e⟩ => by rw [hm r hr] at e; cases e
    have hroom := L.room
    by_cases hf : t1.tooFull = true
    · first
        | (refine wpAny_bind ?_; refine wp_if_pos (by simp [hf]) ?_)
        | (refine wp_if_pos (by simp [hf]) ?_; refine wpAny_bind ?_)
      have hfull : (rows.length + 1) * 5 ≥ t1.mask * 3 := by
        unfold SetTable.tooFull at hf
        rw [decide_eq_true_eq, q9] at hf
        exact hf
      have h4 : rows.length = 4 := by
        rcases L.mask with e | e
        · rw [q4, e] at hfull; rw [e] at hroom; omega
        · rw [q4, e] at hfull; omega
      rw [L.size, h4]
      refine relay32 (s := { s with heap := h1 }) ho1 ⟨hex.1, hex.2.1, hex.2.2⟩ rfl hes1 ?_ q3.dm (by rw [hsz1, hlen, q4]; rcases L.mask with e | e <;> omega) pl1 (by rw [q5]; exact L.led) (by omega) size_20 fun h2 rows2 sb2 R2 pm2 => ?_
      · have := q3.sz
        rw [List.length_map] at this
        rw [this, hsz1]
      · exact wpAny_pure (hQ true h2 rows2 (sb.trans sb2) R2 (fun z => absurd z no) fun _ => pm2.trans hrows)
    · first
        | refine wp_if_neg (by simp [hf]) ?_
        | (refine wpAny_bind ?_; refine wp_if_neg (by simp [hf]) ?_; refine wpAny_pure ?_)
      have hroom1 : rows1.length * 5 < t1.mask * 3 := by
        unfold SetTable.tooFull at hf
        rw [decide_eq_true_eq, q9] at hf
        omega
      exact wpAny_pure (hQ true h1 rows1 sb ⟨_, es1, _, t1, ho1, ⟨hex.1, hex.2.1, hex.2.2⟩, rfl, hes1, q3, pl1, by rw [q5]; exact L.led, hroom1, by rw [q4]; exact L.mask⟩ (fun z => absurd z no) fun _ => hrows)
end
end L2.DL
end

section
set_option Elab.async false
set_option linter.all false
set_option maxRecDepth 100000
/-! Layer F: what a set asks of a new key that is a tuple of ints and such tuples. -/
namespace L2.DL
open PySem PySem.Spec PyProof.Rows
mutual
/-- ints and None alone, in tuples -/
def textless : NestedKey → Bool
  | .none => true
  | .num _ => true
  | .text _ => false
  | .tup ks => textlessAll ks
def textlessAll : List NestedKey → Bool
  | [] => true
  | k :: ks => textless k && textlessAll ks
end
section
variable {P : Program} {w : World} {A : Around} {E : Value → Shared → Prop} {s : Shared}
/-- asking v is answered b, whatever is wanted behind -/
def Answered (P : Program) (w : World) (s : Shared) (m : Sem Bool) (b : Bool) : Prop := ∀ (A : Around) (E : Value → Shared → Prop) (Q : Bool → Shared → Prop), Q b s → wpAny (model P w) A m Q E s
theorem Answered.pure (b : Bool) : Answered P w s (Pure.pure b) b := fun _ _ _ h => wpAny_pure h
mutual
theorem ofa_key : ∀ (k : NestedKey) (v : Value) (n : Nat), NestedIs s.heap k v → k.depth ≤ n → Answered P w s (ofAClassStatement n v) false
  | .none, _, n, h, _ => by cases h; cases n <;> exact .pure false
  | .num i, _, n, h, _ => by cases h <;> cases n <;> exact .pure false
  | .text x, _, n, h, _ => by cases h; cases n <;> exact .pure false
  | .tup ks, _, n, h, hn => by
    intro A E Q q
    cases h with
    | @tup a o vs m _ ho hc hd hk =>
      simp only [NestedKey.depth] at hn
      cases n with
      | zero => omega
      | succ n =>
        have hT : s.TypeIs (.ref a) "tuple" := ⟨o, ho, hc⟩
        have items := ofa_keys ks vs.toList n hk (by omega)
        unfold ofAClassStatement
        refine wpAny_bind (wpAny_typeOf hT ?_)
        dsimp only
        have e : (("tuple" : String) == "tuple") = true := by decide
        simp only [e, if_true, Bool.not_true, Bool.false_eq_true, if_false]
        try refine wpAny_bind (wpAny_pure ?_)
        try simp only [Bool.not_true, Bool.false_eq_true, if_false]
        show wpAny _ _ (seqItems? (.ref a) >>= _) _ _ s
        refine wpAny_bind (wpAny_seqItems ho hd ?_)
        dsimp only
        refine wpAny_bind ?_
        show wpAny _ _ (forIn vs _ _) _ _ s
        rw [← Array.forIn_toList]
        refine wpAny_forIn_list _ (fun left r s' => r.1 = none ∧ s' = s ∧ ∀ v ∈ left, Answered P w s (ofAClassStatement n v) false) _ ?_ ?_ _ _ ⟨rfl, rfl, items⟩
        · rintro v left r s' ⟨hr, rfl, hall⟩
          refine wpAny_bind (hall v List.mem_cons_self _ _ _ ?_)
          simp only [Bool.false_eq_true, if_false]
          exact wpAny_pure ⟨rfl, rfl, fun u hu => hall u (List.mem_cons_of_mem _ hu)⟩
        · rintro ⟨r1, r2⟩ s' ⟨hr, rfl, _⟩
          simp only at hr
          subst hr
          exact wpAny_pure q
theorem ofa_keys : ∀ (ks : List NestedKey) (vs : List Value) (n : Nat), NestedAll s.heap ks vs → NestedKey.depthAll ks ≤ n → ∀ v ∈ vs, Answered P w s (ofAClassStatement n v) false
  | [], _, _, h, _ => by cases h; intro v hv; cases hv
  | k :: ks, _, n, h, hn => by
    cases h with
    | cons h t =>
      simp only [NestedKey.depthAll] at hn
      intro v hv
      rcases List.mem_cons.mp hv with e | hv
      · rw [e]; exact ofa_key k _ n h (by omega)
      · exact ofa_keys ks _ n t (by omega) v hv
end
mutual
theorem hby_key : ∀ (k : NestedKey) (v : Value) (n : Nat), NestedIs s.heap k v → k.depth ≤ n → textless k = true → Answered P w s (hashByValue n v) true
  | .none, _, n, h, _, _ => by cases h; cases n <;> exact .pure true
  | .num i, _, n, h, _, _ => by cases h <;> cases n <;> exact .pure true
  | .text x, _, n, h, _, ht => by simp [textless] at ht
  | .tup ks, _, n, h, hn, ht => by
    intro A E Q q
    cases h with
    | @tup a o vs m _ ho hc hd hk =>
      simp only [NestedKey.depth] at hn
      simp only [textless] at ht
      cases n with
      | zero => omega
      | succ n =>
        have hT : s.TypeIs (.ref a) "tuple" := ⟨o, ho, hc⟩
        have items := hby_keys ks vs.toList n hk (by omega) ht
        unfold hashByValue
        refine wpAny_bind (wpAny_specialOf hT F.slot_tuple_hash.lookup ?_)
        show wpAny _ _ (seqItems? (.ref a) >>= _) _ _ s
        refine wpAny_bind (wpAny_seqItems ho hd ?_)
        refine wpAny_bind ?_
        show wpAny _ _ (forIn vs _ _) _ _ s
        rw [← Array.forIn_toList]
        refine wpAny_forIn_list _ (fun left r s' => r.1 = none ∧ s' = s ∧ ∀ v ∈ left, Answered P w s (hashByValue n v) true) _ ?_ ?_ _ _ ⟨rfl, rfl, items⟩
        · rintro v left r s' ⟨hr, rfl, hall⟩
          refine wpAny_bind (hall v List.mem_cons_self _ _ _ ?_)
          simp only [Bool.not_true, Bool.false_eq_true, if_false]
          exact wpAny_pure ⟨rfl, rfl, fun u hu => hall u (List.mem_cons_of_mem _ hu)⟩
        · rintro ⟨r1, r2⟩ s' ⟨hr, rfl, _⟩
          simp only at hr
          subst hr
          exact wpAny_pure q
theorem hby_keys : ∀ (ks : List NestedKey) (vs : List Value) (n : Nat), NestedAll s.heap ks vs → NestedKey.depthAll ks ≤ n → textlessAll ks = true → ∀ v ∈ vs, Answered P w s (hashByValue n v) true
  | [], _, _, h, _, _ => by cases h; intro v hv; cases hv
  | k :: ks, _, n, h, hn, ht => by
    cases h with
    | cons h t =>
      simp only [NestedKey.depthAll] at hn
      simp only [textlessAll, Bool.and_eq_true] at ht
      intro v hv
      rcases List.mem_cons.mp hv with e | hv
      · rw [e]; exact hby_key k _ n h (by omega) ht.1
      · exact hby_keys ks _ n t (by omega) ht.2 v hv
end
/-- a search among such tuples shows nothing -/
theorem unseen {k : NestedKey} {b : Addr} (hk : NestedIs s.heap k (.ref b)) (hd : k.depth ≤ 8) {ys : List Value} (hy : ∀ y ∈ ys, ∃ j c, y = Value.ref c ∧ NestedIs s.heap j (.ref c) ∧ j.depth ≤ 8) : Answered P w s (searchCouldBeSeen (.ref b) ys) false := by
  intro A E Q q
  unfold searchCouldBeSeen
  refine wpAny_bind ?_
  refine wpAny_forIn_list _ (fun left r s' => r.1 = none ∧ s' = s ∧ ∀ y ∈ left, ∃ j c, y = Value.ref c ∧ NestedIs s.heap j (.ref c) ∧ j.depth ≤ 8) _ ?_ ?_ _ _ ⟨rfl, rfl, hy⟩
  · rintro v left r s' ⟨hr, rfl, hall⟩
    obtain ⟨j, c, rfl, hj, hjd⟩ := hall v List.mem_cons_self
    have more : ∀ y ∈ left, ∃ j c, y = Value.ref c ∧ NestedIs s'.heap j (.ref c) ∧ j.depth ≤ 8 := fun u hu => hall u (List.mem_cons_of_mem _ hu)
    dsimp only
    by_cases hv : (b == c || (carriedByValue (.ref b) && carriedByValue (.ref c))) = true
    · exact wp_if_pos hv (wpAny_pure ⟨rfl, rfl, more⟩)
    · refine wp_if_neg hv ?_
      refine wpAny_bind (quiet_key k _ 8 s' hk hd _ _ _ ?_)
      simp only [Bool.not_true, Bool.false_eq_true, if_false]
      refine wpAny_bind (quiet_key j _ 8 s' hj hjd _ _ _ ?_)
      simp only [Bool.not_true, Bool.false_eq_true, if_false]
      refine wpAny_bind (ofa_key k _ 8 hk hd _ _ _ ?_)
      simp only [Bool.false_eq_true, if_false]
      refine wpAny_bind (ofa_key j _ 8 hj hjd _ _ _ ?_)
      simp only [Bool.false_eq_true, if_false]
      exact wpAny_pure ⟨rfl, rfl, more⟩
  · rintro ⟨r1, r2⟩ s' ⟨hr, rfl, _⟩
    simp only at hr
    subst hr
    exact wpAny_pure q
/-- which key a value of the heap is -/
def keyAt (h : Heap) (v : Value) (k : NestedKey) : Prop := NestedIs h k v ∧ k.depth ≤ 8 ∧ textless k = true ∧ ∃ b, v = .ref b
/-- the rows of keys -/
def rowsK (w : World) (L : List (NestedKey × Value)) : List (Int × Value) := L.map fun p => (p.1.hash w, p.2)
theorem asks_keys {L : List (NestedKey × Value)} (hL : ∀ p ∈ L, keyAt s.heap p.2 p.1) {k : NestedKey} {b : Addr} (hk : keyAt s.heap (.ref b) k) (hu : A.units + 8 < cLine) (one : ∀ p ∈ L, ∀ q ∈ L, p.2 = q.2 → p.1 = q.1) :
    ∃ same, Asks P w A s (.ref b) (k.hash w) (rowsK w L) same ∧ ∀ p ∈ L, same p.2 = decide (p.1 = k) := by
  obtain ⟨key, hkey⟩ : ∃ key : Value → NestedKey, ∀ p ∈ L, key p.2 = p.1 := by
    classical
    exact ⟨fun v => if h : ∃ p, p ∈ L ∧ p.2 = v then h.choose.1 else .none, fun p hp => by
      have h : ∃ q, q ∈ L ∧ q.2 = p.2 := ⟨p, hp, rfl⟩
      show (if h : ∃ q, q ∈ L ∧ q.2 = p.2 then h.choose.1 else NestedKey.none) = p.1
      rw [dif_pos h]
      exact one _ h.choose_spec.1 p hp h.choose_spec.2⟩
  have mem : ∀ r ∈ rowsK w L, ∃ p ∈ L, r = (p.1.hash w, p.2) := fun r hr => by
    obtain ⟨p, hp, e⟩ := List.mem_map.mp hr
    exact ⟨p, hp, e.symm⟩
  refine ⟨fun v => decide (key v = k), ⟨⟨b, rfl⟩, fun r hr => ?_, fun r hr E Q q => ?_, fun ys hy => ?_, ?_, fun r hr e => ?_⟩, fun p hp => by show decide (key p.2 = k) = _; rw [hkey p hp]⟩
  · obtain ⟨p, hp, rfl⟩ := mem r hr
    exact (hL p hp).2.2.2
  · obtain ⟨p, hp, rfl⟩ := mem r hr
    have h1 := hL p hp
    have q' : Q (decide (p.1 = k)) s := by
      rw [← hkey p hp]; exact q
    rw [NestedKey.decide_eq] at q'
    exact eqAt_key p.1 k A s _ _ h1.1 hk.1 (by have := Nat.min_le_left p.1.depth k.depth; have := h1.2.1; omega) _ _ _ _ q'
  · refine (unseen hk.1 hk.2.1 fun y hyy => ?_ : Answered P w s (searchCouldBeSeen (.ref b) ys) false) A
    obtain ⟨r, hr, rfl⟩ := hy y hyy
    obtain ⟨p, hp, rfl⟩ := mem r hr
    obtain ⟨h1, h2, _, c, h3⟩ := hL p hp
    refine ⟨p.1, c, h3, ?_, h2⟩
    rw [h3] at h1
    exact h1
  · exact fun E Q q => hby_key k _ 8 hk.1 hk.2.1 hk.2.2.1 _ _ _ q
  · obtain ⟨p, hp, rfl⟩ := mem r hr
    have := of_decide_eq_true e
    rw [hkey p hp] at this
    show p.1.hash w = k.hash w
    rw [this]
end
end L2.DL
end

section
set_option Elab.async false
set_option linter.all false
set_option maxRecDepth 100000
/-! Layer G: set(list of keys). -/
namespace L2.DL
open PySem PySem.Spec PyProof.Rows
/-- l' is a list's image but for the order: it is the image of the list in another order -/
theorem perm_image {α β : Type} (f : α → β) {l1 l2 : List β} (p : l1.Perm l2) : ∀ l : List α, l.map f = l2 → ∃ l' : List α, l'.Perm l ∧ l'.map f = l1 := by
  induction p with
  | nil => intro l h; exact ⟨[], by rw [List.map_eq_nil_iff.mp h], rfl⟩
  | @cons x l1 l2 _ ih =>
    intro l h
    cases l with
    | nil => cases h
    | cons y l =>
      rw [List.map_cons, List.cons.injEq] at h
      obtain ⟨l', h1, h2⟩ := ih l h.2
      exact ⟨y :: l', h1.cons y, by rw [List.map_cons, h.1, h2]⟩
  | @swap x y l0 =>
    intro l h
    match l, h with
    | a :: b :: l, h =>
      simp only [List.map_cons, List.cons.injEq] at h
      exact ⟨b :: a :: l, List.Perm.swap .., by simp only [List.map_cons]; rw [h.1, h.2.1, h.2.2]⟩
  | trans _ _ ih1 ih2 =>
    intro l h
    obtain ⟨l', h1, h2⟩ := ih2 l h
    obtain ⟨l'', h3, h4⟩ := ih1 l' h2
    exact ⟨l'', h3.trans h1, h4⟩
/-- the object of a new set -/
abbrev setNew (w : World) : Obj := { cls := .type "set", dict := none, data := .set #[] 0 (.fresh 0 0 (!w.params.followText "set-order")) }
section
variable {P : Program} {w : World} {A : Around} {E : Value → Shared → Prop} {s : Shared}
theorem keyAt.keep {h h' : Heap} {v : Value} {k : NestedKey} (x : keyAt h v k) (kp : ∀ b o, h.get? b = some o → h'.get? b = some o) : keyAt h' v k :=
  ⟨NestedIs.at (fun b o _ _ e _ => kp b o e) _ _ x.1, x.2⟩
theorem SetR.keep {h h' : Heap} {a : Addr} {rows : List (Int × Value)} (R : SetR w h a rows) (kp : ∀ o, h.get? a = some o → h'.get? a = some o) : SetR w h' a rows := by
  obtain ⟨o, es, ep, t, ho, r⟩ := R
  exact ⟨o, es, ep, t, kp o ho, r⟩
theorem setR_new {h : Heap} {a : Addr} (ho : h.get? a = some (setNew w)) : SetR w h a [] :=
  ⟨_, _, _, _, ho, ⟨rfl, rfl, rfl⟩, rfl, rfl, ⟨List.Pairwise.nil, rfl, rfl, .inl rfl, fun x hx => (by cases hx), fun i h j hi => (by simp at hi)⟩, rfl, (by
    show _ ∨ (!w.params.followText "set-order") = true
    cases w.params.followText "set-order"
    · exact .inr rfl
    · exact .inl rfl), (by show 0 * 5 < 7 * 3; decide), .inl rfl⟩
/-- what the set at S has of the first i items -/
def Part (w : World) (S : Addr) (its : List (NestedKey × Value)) (i : Nat) (h : Heap) : Prop := ∃ L : List (NestedKey × Value), SetR w h S (rowsK w L) ∧ (L.map (·.1)).Nodup ∧ (∀ p ∈ L, p ∈ its.take i) ∧ (∀ p ∈ its.take i, p.1 ∈ L.map (·.1)) ∧ L.length ≤ i
theorem Part.keep {S : Addr} {its : List (NestedKey × Value)} {i : Nat} {h h' : Heap} (p : Part w S its i h) (kp : ∀ o, h.get? S = some o → h'.get? S = some o) : Part w S its i h' := by
  obtain ⟨L, R, r⟩ := p
  exact ⟨L, R.keep kp, r⟩
/-- one item more -/
theorem Part.step {S : Addr} {its : List (NestedKey × Value)} {i : Nat} {k : NestedKey} {b : Addr} (p : Part w S its i s.heap) (hi : its[i]? = some (k, .ref b)) (hk : ∀ p ∈ its, keyAt s.heap p.2 p.1) (few : its.length ≤ 11) (hu : A.units + 8 < cLine)
    {Q : Bool → Shared → Prop} (hQ : ∀ c h', Heap.SameBut S s.heap h' → Part w S its (i + 1) h' → Q c { s with heap := h' }) : wpAny (model P w) A (setAddHashed S (.ref b) (k.hash w)) Q E s := by
  obtain ⟨L, R, nd, hsub, hall, hlen⟩ := p
  have hil : i < its.length := (List.getElem?_eq_some_iff.mp hi).1
  have take1 : its.take (i + 1) = its.take i ++ [(k, .ref b)] := by rw [List.take_succ, hi]; rfl
  have hL : ∀ p ∈ L, keyAt s.heap p.2 p.1 := fun p hp => hk p (List.mem_of_mem_take (hsub p hp))
  have hkb := hk _ (List.mem_of_getElem? hi)
  obtain ⟨same, B, hs⟩ := asks_keys (P := P) (w := w) (A := A) hL hkb hu fun p hp q hq e => by
    have h1 := (hL p hp).1
    have h2 := (hL q hq).1
    rw [e] at h1
    exact NestedIs.inj _ _ _ h1 h2
  have hrow : (rowsK w L).length = L.length := by simp [rowsK]
  refine put_in R B (by rw [hrow]; omega) fun c h' rows' sb R' hyes hno => hQ c h' sb ?_
  by_cases hm : k ∈ L.map (·.1)
  · obtain ⟨p, hp, e⟩ := List.mem_map.mp hm
    have := hyes ⟨_, List.mem_map.mpr ⟨p, hp, rfl⟩, by show same p.2 = true; rw [hs p hp]; exact decide_eq_true e⟩
    rw [this] at R'
    refine ⟨L, R', nd, fun p hp => ?_, fun p hp => ?_, Nat.le_succ_of_le hlen⟩
    · rw [take1]; exact List.mem_append_left _ (hsub p hp)
    · rw [take1] at hp
      rcases List.mem_append.mp hp with z | z
      · exact hall p z
      · rw [List.mem_singleton.mp z]; exact hm
  · have pm := hno fun r hr => by
      obtain ⟨p, hp, rfl⟩ := List.mem_map.mp hr
      show same p.2 = false
      rw [hs p hp]
      exact decide_eq_false fun e => hm (List.mem_map.mpr ⟨p, hp, e⟩)
    obtain ⟨L', pL, eL⟩ := perm_image (fun p : NestedKey × Value => (p.1.hash w, p.2)) pm ((k, .ref b) :: L) rfl
    have eL' : rowsK w L' = rows' := eL
    rw [← eL'] at R'
    refine ⟨L', R', ?_, fun p hp => ?_, fun p hp => ?_, ?_⟩
    · refine (pL.map (·.1)).nodup_iff.mpr ?_
      rw [List.map_cons]
      exact List.nodup_cons.mpr ⟨hm, nd⟩
    · rw [take1]
      rcases List.mem_cons.mp (pL.mem_iff.mp hp) with e | z
      · rw [e]; exact List.mem_append_right _ (List.mem_singleton.mpr rfl)
      · exact List.mem_append_left _ (hsub p z)
    · refine (pL.map (·.1)).mem_iff.mpr ?_
      rw [List.map_cons]
      rw [take1] at hp
      rcases List.mem_append.mp hp with z | z
      · exact List.mem_cons_of_mem _ (hall p z)
      · rw [List.mem_singleton.mp z]; exact List.mem_cons_self
    · rw [pL.length_eq, List.length_cons]; omega
/-- set.update's loop over a walk of the items -/
theorem fill_loop {I : Addr} {fp wr : List Addr} {G : Array GenState → Array GenState → Prop} {n : Nat} {Pv : Nat → Value → Prop} {St : Nat → Shared → Prop} {R : Result → Shared → Prop}
    (W : WalksS P w A.in1 I fp wr G n Pv St) {S : Addr} (hSf : S ∉ fp) {its : List (NestedKey × Value)} (hn : n = its.length) (few : its.length ≤ 11) (hval : ∀ i v, Pv i v → ∃ p, its[i]? = some p ∧ v = p.2) {h0 : Heap} (hk : ∀ p ∈ its, keyAt h0 p.2 p.1)
    (hS0 : h0.get? S = none) (hw0 : ∀ b ∈ wr, h0.get? b = none) (hu : A.in1.units + 8 < cLine) (left : Nat) : ∀ (i : Nat) (s : Shared), n - i = left → i ≤ n → St i s → (∀ b o, h0.get? b = some o → s.heap.get? b = some o) → Part w S its i s.heap →
      (∀ s', Moved (S :: wr) G s s' → Part w S its n s'.heap → (∀ b o, h0.get? b = some o → s'.heap.get? b = some o) → R (.ok (.ret .none)) s') → codeAny (model P w) A (.builtin "set.update.loop" ⟨[.ref S, .ref I], []⟩) R s := by
  have hSw : S ∉ wr := fun z => hSf (W.sub _ z)
  have wide : ∀ b ∈ wr, b ∈ S :: wr := fun b hb => List.mem_cons_of_mem _ hb
  have kept : ∀ {s s' : Shared}, Moved wr G s s' → (∀ b o, h0.get? b = some o → s.heap.get? b = some o) → ∀ b o, h0.get? b = some o → s'.heap.get? b = some o := fun m kp b o e =>
    m.heap b o (fun z => by rw [hw0 b z] at e; cases e) (kp b o e)
  induction left with
  | zero =>
    intro i s hl hi st kp pt done
    obtain rfl : i = n := by omega
    refine codeAny_builtin F.entry_set_update_loop ?_
    rw [Around.under_plainId F.plain_set_update_loop _]
    show wpAny _ A.in1 (pyNext (.ref I) >>= _) _ _ s
    refine wpAny_bind (W.done s _ _ st fun s' m => ?_)
    show wpAny _ A.in1 (ret Value.none) _ _ s'
    exact wpAny_pure (done s' (m.mono wide) (pt.keep fun o e => m.heap S o hSw e) (kept m kp))
  | succ left ih =>
    intro i s hl hi st kp pt done
    have hlt : i < n := by omega
    refine codeAny_builtin F.entry_set_update_loop ?_
    rw [Around.under_plainId F.plain_set_update_loop _]
    show wpAny _ A.in1 (pyNext (.ref I) >>= _) _ _ s
    refine wpAny_bind (W.item i s _ _ hlt st fun v s' hP st' m => ?_)
    obtain ⟨⟨k, v'⟩, hp, rfl⟩ := hval i v hP
    have kp' := kept m kp
    have hk' : ∀ p ∈ its, keyAt s'.heap p.2 p.1 := fun p hp => (hk p hp).keep kp'
    have hkv := hk' _ (List.mem_of_getElem? hp)
    obtain ⟨b, hb⟩ := hkv.2.2.2
    dsimp only at hb hkv
    subst hb
    show wpAny _ A.in1 (holding [Value.ref b] (setAdd S (.ref b)) >>= _) _ _ s'
    refine wpAny_bind (wpAny_holding ?_)
    unfold setAdd
    refine wpAny_holding ?_
    refine wpAny_bind (pyHash_key k _ A.in1 s' _ hkv.1 (by have := hkv.2.1; omega) ?_)
    refine Part.step (s := { s' with toks := s'.toks + k.draws }) (pt.keep fun o e => m.heap S o hSw e) hp hk' few hu fun c h' sb pt' => ?_
    have kp2 : ∀ b o, h0.get? b = some o → h'.get? b = some o := fun b o e => (sb.2 b (fun z => by rw [z, hS0] at e; cases e)).trans (kp' b o e)
    refine wpAny_pure ⟨plainId_quiet F.plain_set_update_loop _, ih (i + 1) _ (by omega) hlt (W.frame _ s' _ _ st' (Nat.le_add_right _ _) fun b hb o e => ?_) kp2 pt' fun s'' m'' pt'' kp'' => ?_⟩
    · rw [sb.2 b fun z => hSf (by rw [← z]; exact hb)]; exact e
    · refine done s'' (Moved.trans W.gtrans ((m.mono wide).then_heap (Nat.le_add_right _ _) fun b o hb e => ?_) m'') pt'' kp''
      rw [sb.2 b fun z => hb (by rw [z]; exact List.mem_cons_self)]; exact e
set_option maxHeartbeats 3200000 in
/-- set(list) -/
theorem call_set_keys {l : Addr} {items : Array Value} {its : List (NestedKey × Value)} {Q : Value → Shared → Prop} (hh : A.handled = none) (hl : s.heap.IsList l items) (hit : items.toList = its.map (·.2)) (hk : ∀ p ∈ its, keyAt s.heap p.2 p.1)
    (few : its.length ≤ 11) (hu : A.units + 16 < cLine) (h : ∀ h' tk, Part w s.heap.objs.size its its.length h' → (∀ b o, s.heap.get? b = some o → h'.get? b = some o) → Q (.ref s.heap.objs.size) { s with heap := h', toks := tk }) :
    wpAny (model P w) A (call (.type "set") [.ref l]) Q E s := by
  have hn : items.size = its.length := by rw [← Array.length_toList, hit, List.length_map]
  obtain ⟨c, tl, hmro⟩ := F.called_set.mro
  have a1 := F.called_set.made
  have a2 := F.called_set.sub
  have a3 := F.called_set.notType
  have a4 := F.called_set.canCreate
  have a5 := F.typeCall_set_1 (.ref l)
  refine wpAny_call (codeAny_of_tree ?_)
  show wpAny _ _ (callAny (.type "set") _) _ _ _
  refine wpAny_pure ⟨Code.quiet_builtin _ (by decide +kernel), codeAny_builtin F.entry_type_call ?_⟩
  rw [Around.under_plain (weight_type_call_type "set" [.ref l] []) rfl]
  repeat (any_goals (first | assumption | wp_step))
  refine codeAny_mono (code_set_led1 (.ref l) (E := E) (Q₁ := fun obj s₁ => obj = .ref s.heap.objs.size ∧ s₁ = { s with heap := s.heap.push (setNew w) }) ⟨rfl, rfl⟩) fun r s₁ hr => ?_
  match r, hr with
  | .ok (.ret obj), hr =>
    obtain ⟨rfl, rfl⟩ := hr
    have hS : (s.heap.push (setNew w)).get? s.heap.objs.size = some (setNew w) := Heap.get?_push_size _ rfl
    have hT : Shared.TypeIs { s with heap := s.heap.push (setNew w) } (.ref s.heap.objs.size) "set" := ⟨_, hS, rfl⟩
    have a6 := F.called_set.init.lookup
    have a7 := F.called_set.init.bind (.ref s.heap.objs.size)
    repeat (any_goals (first | assumption | wp_step))
    refine codeAny_mono (codeAny_call_builtin (R := wants (fun r s₂ => r = .none ∧ ∃ h' tk, s₂ = { s with heap := h', toks := tk } ∧ Part w s.heap.objs.size its its.length h' ∧ ∀ b o, s.heap.get? b = some o → h'.get? b = some o) E)
      F.called_set.init.plain F.entry_set_init (check_set_init_1 hT ?_)) fun r₂ s₂ hr₂ => ?_
    · obtain ⟨⟨ocls, odict, odata, oslots⟩, hol, hcl, nl, hdl⟩ := hl
      simp only at hcl hdl
      subst hcl; subst hdl
      have hol' : (s.heap.push (setNew w)).get? l = some { cls := .type "list", dict := odict, data := .seq items nl, slots := oslots } := Heap.get?_push_of_some _ hol
      have b1 := F.sub_list_set
      have b2 := F.sub_list_frozenset
      have b3 : (Value.type "list" == Value.type "dict") = false := by decide
      have hl1 : (s.heap.push (setNew w)).IsList l items := ⟨_, hol', rfl, nl, rfl⟩
      unfold Builtin.«set.__init__» noKeywords Builtin.Frozenset.updateFrom
      generalize hPI : pyIter = PI
      wp_walk
      subst hPI
      refine wpAny_pyIter_list hl1 ?_
      refine wpAny_bind (wpAny_runValue ?_)
      have hlS : l < s.heap.objs.size := Heap.lt_size hol
      have hsz : (s.heap.push (setNew w)).objs.size = s.heap.objs.size + 1 := Heap.size_push ..
      have hh3 : A.in1.in1.in1.handled = none := by simp [hh]
      have beyond : ∀ b, s.heap.objs.size ≤ b → s.heap.get? b = none := fun b hb => by
        cases q : s.heap.get? b with
        | none => rfl
        | some o => exact absurd (Nat.lt_of_lt_of_le (Heap.lt_size q) hb) (Nat.lt_irrefl _)
      refine fill_loop ((Walks.list hh3 _ l (by rw [hsz]; exact Nat.ne_of_lt (Nat.lt_succ_of_lt hlS)) items).toS) (S := s.heap.objs.size) (its := its) (h0 := s.heap) ?_ hn few (fun i v hv => ?_) hk (beyond _ (Nat.le_refl _)) (fun b hb => ?_) (by
          show A.units + 1 + 1 + 1 + 8 < cLine
          omega) (items.size - 0) 0 _ (by omega) (Nat.zero_le _) ⟨⟨_, Heap.get?_push_size _ rfl, rfl, rfl⟩, hl1.push _⟩ (fun b o e => Heap.get?_push_of_some _ (Heap.get?_push_of_some _ e)) ?_ fun s' m pt kp => ?_
      · rw [hsz]
        simp only [List.mem_cons, List.not_mem_nil, or_false, not_or]
        exact ⟨Nat.ne_of_lt (Nat.lt_succ_self _), Nat.ne_of_gt hlS⟩
      · have q : items.toList[i]? = some v := by rw [Array.getElem?_toList]; exact hv
        rw [hit, List.getElem?_map] at q
        cases hq : its[i]? with
        | none => rw [hq] at q; cases q
        | some p =>
          rw [hq] at q
          exact ⟨p, rfl, (Option.some.inj q).symm⟩
      · rw [List.mem_singleton.mp hb, hsz]
        exact beyond _ (Nat.le_succ _)
      · exact ⟨[], setR_new (Heap.get?_push_of_some _ hS), List.nodup_nil, fun p hp => (by cases hp), fun p hp => (by simp at hp), Nat.zero_le _⟩
      · obtain ⟨h', g2, d', tk', os'⟩ := s'
        have eg : g2 = s.gens := m.gens
        have ed : d' = s.drawn := m.drawn
        have eo : os' = s.os := m.os
        subst eg; subst ed; subst eo
        show wpAny _ _ _ _ _ _
        refine wpAny_pure ?_
        show wpAny _ _ (ret Value.none) _ _ _
        rw [hn] at pt
        exact wpAny_pure ⟨rfl, h', tk', rfl, pt, kp⟩
    · match r₂, hr₂ with
      | .ok (.ret r), hr₂ =>
        obtain ⟨rfl, h', tk, rfl, pt, kp⟩ := hr₂
        repeat (any_goals (first | assumption | wp_step))
        exact h _ _ pt kp
      | .error e, hr₂ => exact hr₂
      | .ok .next, hr₂ => exact hr₂.elim
      | .ok .brk, hr₂ => exact hr₂.elim
      | .ok .cont, hr₂ => exact hr₂.elim
  | .error e, hr => exact hr
  | .ok .next, hr => exact hr.elim
  | .ok .brk, hr => exact hr.elim
  | .ok .cont, hr => exact hr.elim
end
end L2.DL
end

section
set_option Elab.async false
set_option linter.all false
set_option maxRecDepth 100000
/-! Layer H: set(list) and sorted(set) as rules of the hand layer. -/
namespace L2.DL
open PySem PySem.Spec PyProof.Rows
mutual
theorem reads_nil {h : Heap} : ∀ (k : NestedKey) (v : Value) (as : List Addr), Reads h v k.data as → as = []
  | .none, _, _, r => by cases r; rfl
  | .num i, _, _, r => by cases r; rfl
  | .text x, _, _, r => by cases r; rfl
  | .tup ks, _, _, r => by
    cases r with
    | tuple h1 h2 h3 h4 => exact readsAll_nil ks _ _ h4
theorem readsAll_nil {h : Heap} : ∀ (ks : List NestedKey) (vs : List Value) (as : List Addr), ReadsAll h vs (NestedKey.datas ks) as → as = []
  | [], _, _, r => by cases r; rfl
  | k :: ks, _, _, r => by
    cases r with
    | cons r1 r2 => rw [reads_nil k _ _ r1, readsAll_nil ks _ _ r2]; rfl
end
/-- the rows of tuples -/
def rowsA (w : World) (L : List (NestedKey × Addr)) : List (Int × Value) := L.map fun p => (p.1.hash w, Value.ref p.2)
/-- a set of tuples that stand at addresses -/
def SetO (w : World) (a : Addr) (L : List (NestedKey × Addr)) : HO := .ext fun h => SetR w h a (rowsA w L)
section
variable {P : Program} {w : World} {A : Around} {E : Value → Shared → Prop} {s : Shared}
theorem setO_ok {H : Hp} {h : Heap} {a : Addr} {L : List (NestedKey × Addr)} (R : SetR w h a (rowsA w L)) : ObjOk P w H h a (SetO w a L) := by
  obtain ⟨o, es, ep, t, ho, r⟩ := id R
  exact ⟨R, ⟨o, ho⟩, fun h1 h2 p k => SetR.keep p k⟩
/-- sorted(set): vs stands for the keys of L in some order -/
theorem sorted_rows {a : Addr} {L : List (NestedKey × Addr)} (R : SetR w s.heap a (rowsA w L)) (hh : A.handled = none) (hu : A.units + 16 < cLine) (few : L.length ≤ 1000) (hr : ∀ p ∈ L, ∃ as, Reads s.heap (.ref p.2) p.1.data as) (hd : ∀ p ∈ L, p.1.data.depth ≤ 8)
    (hal : PySem.W.AllAlike (L.map fun p => p.1.data)) (hso : PySem.W.Sortable (L.map fun p => p.1.data)) {Q : Value → Shared → Prop}
    (hQ : ∀ s' p (out : List Value) (c : Nat) (M : List (NestedKey × Addr)), (∀ b o, s.heap.get? b = some o → s'.heap.get? b = some o) → s'.gens = s.gens → s'.os = s.os → s.heap.objs.size ≤ p → s'.heap.get? p = some (seqObj "list" out.toArray c) → M.Perm L →
      out = (M.mergeSort (PySem.W.dataLe false fun p => p.1.data)).map (fun p => Value.ref p.2) → Q (.ref p) s') : wpAny (model P w) A (call (.builtin "sorted") [.ref a]) Q E s := by
  obtain ⟨o, es, ep, t, ho, hex, hdt, lay⟩ := R
  have hsz : es.size = L.length := by rw [lay.size]; simp [rowsA]
  refine Calls.call_function_entry kind_sorted plain_sorted entry_sorted (args_sorted1 _) ?_
  unfold Builtin.«sorted»
  refine wpAny_bind (m := checkCount "sorted" 1 1 _) (wpAny_pure ?_)
  refine wpAny_bind (collect_set (A := A.in1) hh ⟨o, ho, hex.1, hdt⟩ lay.fits (by unfold scanBound; omega) lay.tab.ris lay.led fun s1 vs k1 hz g1 o1 pm => ?_)
  have hvals : es.toList.map (·.2) = L.map fun p => Value.ref p.2 := by
    rw [lay.es]; unfold rowsA; rw [List.map_map]; rfl
  rw [hvals] at pm
  obtain ⟨M, pM, eM⟩ := perm_image (fun p : NestedKey × Addr => Value.ref p.2) pm L rfl
  have hvl : vs.length = L.length := by rw [← eM, List.length_map, pM.length_eq]
  refine wpAny_bind (wpAny_newList ?_ (by rw [sizeLine_eq]; omega))
  have hoL : (s1.heap.push (seqObj "list" vs.toArray 0)).get? s1.heap.objs.size = some (seqObj "list" vs.toArray 0) := Heap.get?_push_size _ rfl
  have each : ∀ N : List (NestedKey × Addr), (∀ p ∈ N, p ∈ L) → PySem.W.EachIs (fun (v : Value) (p : NestedKey × Addr) => v = Value.ref p.2 ∧ p ∈ L) (N.map fun p => Value.ref p.2) N := by
    intro N
    induction N with
    | nil => intro _; exact .nil
    | cons p N ih => intro h; exact .cons ⟨rfl, h p (List.mem_cons_self ..)⟩ (ih fun q hq => h q (List.mem_cons_of_mem _ hq))
  have e1 := each M fun p hp => pM.mem_iff.mp hp
  rw [eM] at e1
  have mapM : ∀ d ∈ M.map (fun p => p.1.data), d ∈ L.map fun p => p.1.data := fun d hd => (pM.map _).mem_iff.mp hd
  refine wpAny_bind (wpAny_holding (PySem.W.list_sort_data (s := { s1 with heap := s1.heap.push (seqObj "list" vs.toArray 0) }) (R := fun (v : Value) (p : NestedKey × Addr) => v = Value.ref p.2 ∧ p ∈ L) (enc := fun p : NestedKey × Addr => p.1.data) (bs := M) hoL e1 (e1.mono fun v p hv => ?_)
    (fun d hd d' hd' => hal d (mapM d hd) d' (mapM d' hd')) ?_ (by rw [pM.length_eq, sizeLine_eq]; omega) (fun p hp => ?_) fun out hlen eo => ?_))
  · obtain ⟨rfl, hp⟩ := hv
    obtain ⟨as, r⟩ := hr p hp
    have := reads_nil _ _ _ r
    subst this
    exact ⟨[], PyProof.Rows.Reads.keeps (fun b u e => Heap.get?_push_of_some _ (k1 b u e)) r, by simp⟩
  · rcases hso with h | h
    · exact .inl fun d hd => h d (mapM d hd)
    · exact .inr fun d hd => h d (mapM d hd)
  · have := hd p (pM.mem_iff.mp hp)
    show A.units + 1 + 1 + p.1.data.depth < cLine
    omega
  · have eout : out = (M.mergeSort (PySem.W.dataLe false fun p => p.1.data)).map fun p => Value.ref p.2 := by
      have key : ∀ {xs : List Value} {N : List (NestedKey × Addr)}, PySem.W.EachIs (fun (v : Value) (p : NestedKey × Addr) => v = Value.ref p.2 ∧ p ∈ L) xs N → xs = N.map fun p => Value.ref p.2 := by
        intro xs N e
        induction e with
        | nil => rfl
        | cons h _ ih => rw [List.map_cons, ← ih, h.1]
      exact key eo
    obtain ⟨c, hc⟩ := sortedHeap_at (vs := vs) (out := List.toArray out) hoL
    refine wpAny_pure ⟨_, rfl, hQ _ s1.heap.objs.size out c M (fun b u e => ?_) g1 o1 hz hc pM eout⟩
    have q := k1 b u e
    have hlt := Heap.lt_size q
    show (sortedHeap (s1.heap.push (seqObj "list" vs.toArray 0)) s1.heap.objs.size vs (List.toArray out)).get? b = some u
    rw [sortedHeap_old (Nat.ne_of_lt hlt) (by rw [size_push']; exact Nat.lt_succ_of_lt hlt)]
    exact Heap.get?_push_of_some _ q
end
section
variable {X : Cx} {β : Type} [DecidableEq β] [DW.LO β] {enc : β → NestedKey}
/-- set(list of tuples), each by enc -/
def rSetE (w : World) (K : PySem.W.Frag) (enc : β → NestedKey) : List V → Hp → VK → Prop := fun vs H Q => ∃ (l : Addr) (xs : List V) (bs : List β), vs = [.ref l] ∧ SqL K H l xs ∧ ImAll K H xs (bs.map enc) ∧ bs.length ≤ 11 ∧
  ∀ a (L : List (NestedKey × Addr)) (cs : List β), H a = none → L.map (·.1) = cs.map enc → cs.Nodup → (∀ c, c ∈ cs ↔ c ∈ bs) → (∀ p ∈ L, Im K H (.ref p.2) p.1) → Q (.ref a) (upd H a (SetO w a L))
def adr : Value → Addr
  | .ref a => a
  | _ => 0
theorem cr_setE (hinj : ∀ a b, enc a = enc b → a = b) (ht : ∀ b, ∃ ks, enc b = .tup ks) (hte : ∀ b, (enc b).depth ≤ 8 ∧ textless (enc b) = true) (hc : X.calm = true) (hu : X.A.units + 64 < cLine) : CallR X (.type "set") (rSetE X.w X.K enc) := by
  intro pins s σ H vs us Q I r h
  obtain ⟨l, xs, bs, rfl, hl, him, few, q⟩ := h
  rw [Vals.ref1 r]
  obtain ⟨its, rv, pl, hz⟩ := I.list hl
  have hlen : its.length = bs.length := by rw [← rv.length, him.length, List.length_map]
  have all_k : ∀ {xs : List V} {us : List Value} {bs : List β}, Vals xs us → ImAll X.K H xs (bs.map enc) → ∀ p ∈ (bs.map enc).zip us, keyAt s.heap p.2 p.1 ∧ Im X.K H (.ref (adr p.2)) p.1 ∧ ∃ b ∈ bs, p.1 = enc b := by
    intro xs us bs rv him
    induction bs generalizing xs us with
    | nil => intro p hp; simp at hp
    | cons b bs ih =>
      cases him with
      | cons h t =>
        cases rv with
        | cons r1 r2 =>
          intro p hp
          rw [List.map_cons, List.zip_cons_cons] at hp
          rcases List.mem_cons.mp hp with rfl | hp
          · obtain ⟨ks, e⟩ := ht b
            have hn := Im.nested I _ _ _ h r1
            have h' := h
            rw [e] at h'
            obtain ⟨a, ys, rfl, _, _⟩ := h'.tup_inv
            cases r1
            exact ⟨⟨hn, (hte b).1, (hte b).2, _, rfl⟩, h, b, List.mem_cons_self .., rfl⟩
          · obtain ⟨h1, h2, c, h3, h4⟩ := ih r2 t p hp
            exact ⟨h1, h2, c, List.mem_cons_of_mem _ h3, h4⟩
  have hall := all_k rv him
  have hzip2 : ((bs.map enc).zip its).map (·.2) = its := List.map_snd_zip (by simp [hlen])
  have hzip1 : ((bs.map enc).zip its).map (·.1) = bs.map enc := List.map_fst_zip (by simp [hlen])
  have hzl : ((bs.map enc).zip its).length = bs.length := by simp [hlen]
  have hn : H s.heap.objs.size = none := I.hok.fresh (Nat.le_refl _)
  refine call_set_keys (P := X.prog) (w := X.w) (its := (bs.map enc).zip its) (I.ok.hd hc) pl.isList (by simpa using hzip2.symm) (fun p hp => (hall p hp).1) (by rw [hzl]; exact few) (by omega) fun h' tk pt kp => ?_
  obtain ⟨L, R, nd, hsub, hcov, _⟩ := pt
  rw [List.take_length] at hsub hcov
  have eL : rowsK X.w L = rowsA X.w (L.map fun p => (p.1, adr p.2)) := by
    unfold rowsK rowsA
    rw [List.map_map]
    refine List.map_congr_left fun p hp => ?_
    obtain ⟨⟨_, _, _, b, e⟩, _⟩ := hall p (hsub p hp)
    show (p.1.hash X.w, p.2) = (p.1.hash X.w, Value.ref (adr p.2))
    rw [e]; rfl
  rw [eL] at R
  -- the keys as things
  have things : ∀ M : List (NestedKey × Value), (∀ p ∈ M, ∃ b ∈ bs, p.1 = enc b) → ∃ cs : List β, M.map (·.1) = cs.map enc ∧ ∀ c ∈ cs, c ∈ bs := by
    intro M
    induction M with
    | nil => intro _; exact ⟨[], rfl, fun c hc => (by cases hc)⟩
    | cons p M ih =>
      intro h
      obtain ⟨b, hb, e⟩ := h p (List.mem_cons_self ..)
      obtain ⟨cs, e2, hs⟩ := ih fun q hq => h q (List.mem_cons_of_mem _ hq)
      refine ⟨b :: cs, by rw [List.map_cons, List.map_cons, e, e2], fun c hc => ?_⟩
      rcases List.mem_cons.mp hc with rfl | hc
      · exact hb
      · exact hs c hc
  obtain ⟨cs, ecs, hcs⟩ := things L fun p hp => (hall p (hsub p hp)).2.2
  refine ⟨.ref s.heap.objs.size, _, I.laid (t' := tk) kp (Nat.le_refl _) (setO_ok R), rfl, q _ _ cs hn (by rw [List.map_map, ← ecs]; rfl) ?_ (fun c => ⟨hcs c, fun hcb => ?_⟩) fun p hp => ?_⟩
  · have nd' := nd
    rw [ecs] at nd'
    exact nodup_of_map nd'
  · have : enc c ∈ ((bs.map enc).zip its).map (·.1) := by rw [hzip1]; exact List.mem_map.mpr ⟨c, hcb, rfl⟩
    obtain ⟨p, hp, e⟩ := List.mem_map.mp this
    have h2 := hcov p hp
    rw [ecs] at h2
    obtain ⟨c', hc', e'⟩ := List.mem_map.mp h2
    rw [← hinj c' c (e'.trans e)]
    exact hc'
  · obtain ⟨r, hr, rfl⟩ := List.mem_map.mp hp
    exact (hall r (hsub r hr)).2.1
/-- sorted(set), each by enc -/
def rSortSetE (w : World) (K : PySem.W.Frag) (enc : β → NestedKey) : List V → Hp → VK → Prop := fun vs H Q => ∃ (a : Addr) (L : List (NestedKey × Addr)) (cs : List β), vs = [.ref a] ∧ H a = some (SetO w a L) ∧ L.map (·.1) = cs.map enc ∧ (∀ p ∈ L, Im K H (.ref p.2) p.1) ∧ cs.length ≤ 1000 ∧
  PySem.W.Sortable ((cs.map enc).map NestedKey.data) ∧ ∀ p ys, H p = none → ImAll K H ys ((DW.isort cs).map enc) → Q (.ref p) (upd H p (.lst ys))
theorem cr_sortSetE (E : EncO enc) (hc : X.calm = true) (hu : X.A.units + 64 < cLine) : CallR X (.builtin "sorted") (rSortSetE X.w X.K enc) := by
  intro pins s σ H vs us Q I r h
  obtain ⟨a, L, cs, rfl, ha, eL, him, few, hso, q⟩ := h
  rw [Vals.ref1 r]
  have R : SetR X.w s.heap a (rowsA X.w L) := (I.hok a _ ha).1
  have hlen : L.length = cs.length := by
    have := congrArg List.length eL
    rw [List.length_map, List.length_map] at this
    exact this
  have edata : L.map (fun p => p.1.data) = (cs.map enc).map NestedKey.data := by rw [← eL, List.map_map]; rfl
  have ofL : ∀ p ∈ L, ∃ c, p.1 = enc c := fun p hp => by
    have : p.1 ∈ cs.map enc := by rw [← eL]; exact List.mem_map.mpr ⟨p, hp, rfl⟩
    obtain ⟨c, _, e⟩ := List.mem_map.mp this
    exact ⟨c, e.symm⟩
  refine sorted_rows R (I.ok.hd hc) (by omega) (by omega) (fun p hp => Dp.reads I _ _ _ (Im.dp _ _ (him p hp)) rfl) (fun p hp => ?_) (by rw [edata]; exact E.allAlike cs) (by rw [edata]; exact hso) fun s' p out c M k g o hp hg pM eout => ?_
  · obtain ⟨c, e⟩ := ofL p hp
    rw [e]
    have := E.dep c
    omega
  · have hn : H p = none := I.hok.fresh hp
    obtain ⟨cM, pcM, ecM⟩ := perm_image enc (pM.map (·.1)) cs eL.symm
    -- the sorted row of M
    have eM : (M.mergeSort (PySem.W.dataLe false fun p => p.1.data)).map (·.1) = (DW.isort cs).map enc := by
      have h1 := PySem.W.sort_maps (r := PySem.W.dataLe false fun p : NestedKey × Addr => p.1.data) (s := PySem.W.dataLe false NestedKey.data) (fun p : NestedKey × Addr => p.1) (l := M) fun _ _ _ _ => rfl
      rw [h1, ← ecM, E.sort, DW.isort_eq pcM]
    generalize hS : M.mergeSort (PySem.W.dataLe false fun p => p.1.data) = N at eM eout
    have hN : ∀ q ∈ N, q ∈ L := fun q hq => by
      rw [← hS] at hq
      exact pM.mem_iff.mp ((List.mergeSort_perm _ _).mem_iff.mp hq)
    have hNl : N.length = cs.length := by
      have := congrArg List.length eM
      rw [List.length_map, List.length_map, DW.isort_len] at this
      exact this
    have imN : ∀ N : List (NestedKey × Addr), (∀ q ∈ N, q ∈ L) → ImAll X.K H (N.map fun q => V.ref q.2) (N.map (·.1)) := by
      intro N
      induction N with
      | nil => intro _; exact .nil
      | cons q N ih => intro h; exact .cons (him q (h q (List.mem_cons_self ..))) (ih fun r hr => h r (List.mem_cons_of_mem _ hr))
    have valN : ∀ N : List (NestedKey × Addr), Vals (N.map fun q => V.ref q.2) (N.map fun q => Value.ref q.2) := by
      intro N
      induction N with
      | nil => exact .nil
      | cons q N ih => exact .cons rfl ih
    have J : Inv X pins σ (upd H p (.lst (N.map fun q => V.ref q.2))) { s with heap := s'.heap, gens := s'.gens, drawn := s'.drawn, toks := s'.toks } :=
      I.call (ch := []) (Un.laid k hp hn) (I.hok.laid k hp ⟨by rw [List.length_map, hNl, sizeLine_eq]; omega, out, c, by rw [eout]; exact valN N, hg⟩) (by rw [g]; exact I.bare) (fun _ z => nomatch z)
    have e : s' = { s with heap := s'.heap, gens := s'.gens, drawn := s'.drawn, toks := s'.toks } := by
      cases s'
      cases s
      cases o
      rfl
    rw [e]
    refine ⟨.ref p, _, J, rfl, q p _ hn ?_⟩
    rw [← eM]
    exact imN N hN
end
end L2.DL
end

section
set_option Elab.async false
set_option linter.all false
set_option maxRecDepth 100000
/-! Layer I: a dict whose keys are such tuples and whose values are all True: made with one key, asked, grown, its keys as a list. -/
namespace L2.DL
open PySem PySem.Spec PyProof.Rows
abbrev entT (p : NestedKey × Addr) : NestedKey × Addr × Value := (p.1, p.2, Value.bool true)
def DicAt (P : Program) (w : World) (d : Addr) (L : List (NestedKey × Addr)) (h : Heap) : Prop :=
  (d == sysModules) = false ∧ ∃ o es ep, h.get? d = some o ∧ o.ExactDict ∧ o.data = .dict es ep ∧ es.toList = (L.map entT).map (entryOfKey (nestedKind P w))
def DicO (P : Program) (w : World) (d : Addr) (L : List (NestedKey × Addr)) : HO := .ext (DicAt P w d L)
section
variable {P : Program} {w : World} {d : Addr} {L : List (NestedKey × Addr)}
theorem dicO_ok {H : Hp} {h : Heap} (R : DicAt P w d L h) : ObjOk P w H h d (DicO P w d L) := by
  obtain ⟨hs, o, es, ep, ho, r⟩ := id R
  exact ⟨R, ⟨o, ho⟩, fun h1 h2 ⟨hs', o', es', ep', ho', r'⟩ k => ⟨hs', o', es', ep', k o' ho', r'⟩⟩
theorem dic_new {h : Heap} (hd : (h.objs.size == sysModules) = false) : DicAt P w h.objs.size [] (h.push { cls := .type "dict", data := .dict #[] }) :=
  ⟨hd, _, #[], 0, Heap.get?_push_size _ rfl, ⟨rfl, rfl, rfl⟩, rfl, rfl⟩
/-- the keys that a dict holds, told of the values' heap -/
structure Keys (K : PySem.W.Frag) (H : Hp) (L : List (NestedKey × Addr)) : Prop where
  im : ∀ p ∈ L, Im K H (.ref p.2) p.1 ∧ p.1.depth ≤ 8
  nd : (L.map (·.1)).Nodup
theorem at_none {k : NestedKey} (h : k ∉ L.map (·.1)) : atKey (L.map entT) k = none := by
  refine atKey_none_of_get fun j p e => h ?_
  rw [List.getElem?_map] at e
  cases q : L[j]? with
  | none => rw [q] at e; cases e
  | some x =>
    rw [q] at e
    have e' : entT x = (k, p) := Option.some.inj e
    exact List.mem_map.mpr ⟨x, List.mem_of_getElem? q, congrArg Prod.fst e'⟩
theorem at_some {k : NestedKey} (nd : (L.map (·.1)).Nodup) (h : k ∈ L.map (·.1)) : ∃ p, atKey (L.map entT) k = some p := by
  obtain ⟨x, hx, rfl⟩ := List.mem_map.mp h
  obtain ⟨i, hi⟩ := List.mem_iff_getElem?.mp hx
  refine ⟨_, atKey_of_get (i := i) (k := x.1) (p := (x.2, Value.bool true)) ?_ (by rw [List.getElem?_map, hi]; rfl)⟩
  rw [List.map_map]
  exact nd
end
section
variable {X : Cx} {pins : List (Addr × Obj)} {σ : St} {H : Hp} {s : Shared} {d : Addr} {L : List (NestedKey × Addr)}
theorem Keys.full (I : Inv X pins σ H s) (k : Keys X.K H L) (hd : H d = some (DicO X.prog X.w d L)) : (d == sysModules) = false ∧ s.heap.DictOfH (nestedKind X.prog X.w) d (L.map entT) := by
  obtain ⟨hs, o, es, ep, ho, hx, hdt, he⟩ := (I.hok d _ hd).1
  refine ⟨hs, o, es, ep, ho, hx, hdt, he, fun x hx => ?_, by rw [List.map_map]; exact k.nd⟩
  obtain ⟨p, hp, rfl⟩ := List.mem_map.mp hx
  have h1 := k.im p hp
  exact ⟨Im.nested I _ _ _ h1.1 rfl, h1.2⟩
theorem dic_write {h' : Heap} {t' : Nat} {M : List (NestedKey × Addr)} (I : Inv X pins σ H s) (hd : H d = some (DicO X.prog X.w d L)) (hs : (d == sysModules) = false) (sb : Heap.SameBut d s.heap h') (hn : h'.DictOfH (nestedKind X.prog X.w) d (M.map entT)) :
    Inv X pins σ (upd H d (DicO X.prog X.w d M)) { s with heap := h', toks := t' } := by
  obtain ⟨o, es, ep, ho, hx, hdt, he, _, _⟩ := hn
  exact I.write (x := d) (e := d) (by rw [hd]; exact True.intro) (.inl rfl) (fun b q hb z => (sb.2 b hb).trans z) ⟨o, ho⟩ (dicO_ok ⟨hs, o, es, ep, ho, hx, hdt, he⟩)
/-- k not in d -/
def rNotInN (P : Program) (w : World) (K : PySem.W.Frag) : R2 := fun x y H Q => ∃ (d : Addr) (L : List (NestedKey × Addr)) (b : Addr) (k : NestedKey), x = .ref b ∧ y = .ref d ∧ H d = some (DicO P w d L) ∧ Keys K H L ∧ Im K H (.ref b) k ∧ k.depth ≤ 8 ∧
  Q (.bl (decide (k ∉ L.map (·.1)))) H
theorem op_notInN (hu : X.A.units + 64 < cLine) : OpR X (compareOp .NotIn) (rNotInN X.prog X.w X.K) := by
  intro pins s σ H x y v u Q I rx ry h
  obtain ⟨d, L, b, k, rfl, rfl, hd, ks, hk, hdep, q⟩ := h
  obtain rfl : v = Value.ref b := rx
  obtain rfl : u = Value.ref d := ry
  obtain ⟨hs, hm⟩ := ks.full I hd
  refine notIn_keyed (knd := nestedKind X.prog X.w) (k := k) (show X.A.units + 1 + 8 < cLine by omega) ⟨Im.nested I _ _ _ hk rfl, hdep⟩ hs ⟨_, hm, rfl⟩ ?_
  refine ⟨.bl (decide (k ∉ L.map (·.1))), H, I.tok _, ?_, q⟩
  rw [valueAt_pairsH, Option.isSome_map]
  by_cases hin : k ∈ L.map (·.1)
  · obtain ⟨p, e⟩ := at_some ks.nd hin
    rw [e, decide_eq_false (fun z => z hin)]
    rfl
  · rw [at_none hin, decide_eq_true hin]
    rfl
/-- d[k] = True, k new -/
def rSetN (P : Program) (w : World) (K : PySem.W.Frag) : V → V → V → Hp → (Hp → Prop) → Prop := fun o i v H Q => ∃ (d : Addr) (L : List (NestedKey × Addr)) (b : Addr) (k : NestedKey), o = .ref d ∧ i = .ref b ∧ v = .bl true ∧ H d = some (DicO P w d L) ∧ Keys K H L ∧ Im K H (.ref b) k ∧
  k.depth ≤ 8 ∧ k ∉ L.map (·.1) ∧ L.length ≤ 1000 ∧ Q (upd H d (DicO P w d (L ++ [(k, b)])))
theorem set_dicN (hu : X.A.units + 64 < cLine) : PSet X (rSetN X.prog X.w X.K) := by
  intro pins s σ H o i v ov iv u Q I ro ri rv h
  obtain ⟨d, L, b, k, rfl, rfl, rfl, hd, ks, hk, hdep, hno, few, q⟩ := h
  obtain rfl : ov = Value.ref d := ro
  obtain rfl : iv = Value.ref b := ri
  obtain rfl : u = Value.bool true := rv
  obtain ⟨hs, hm⟩ := ks.full I hd
  refine wpAny_setItem_heap (knd := nestedKind X.prog X.w) (k := k) (show X.A.units + 1 + 8 < cLine by omega) ⟨Im.nested I _ _ _ hk rfl, hdep⟩ hm (fun h' hm' sb => ?_) (by rw [List.length_map, sizeLine_eq]; omega)
  refine ⟨_, dic_write I hd hs sb ?_, q⟩
  rw [storedH_new (at_none hno)] at hm'
  rw [List.map_append]
  exact hm'
/-- list(d) -/
def rListN (P : Program) (w : World) (K : PySem.W.Frag) : List V → Hp → VK → Prop := fun xs H Q => ∃ (d : Addr) (L : List (NestedKey × Addr)), xs = [.ref d] ∧ H d = some (DicO P w d L) ∧ L.length ≤ 1000 ∧ ∀ p, H p = none → Q (.ref p) (upd H p (.lst (L.map fun q => V.ref q.2)))
theorem call_listN (hc : X.calm = true) : CallR X (.type "list") (rListN X.prog X.w X.K) := by
  intro pins s σ H xs us Q I r h
  obtain ⟨d, L, rfl, hd, few, q⟩ := h
  rw [Vals.ref1 r]
  obtain ⟨hs, o, es, ep, ho, hx, hdt, he⟩ := (I.hok d _ hd).1
  have hsz : es.size = L.length := by rw [← Array.length_toList, he]; simp
  refine PySem.W.kdl_call (KdlSrc.rawDict (es := es) (ep := ep) hs) (I.ok.hd hc) ⟨o, ho, hx, hdt⟩ (by rw [hsz, sizeLine_eq]; omega) fun h' tk acc' c' kp e it => ?_
  have ea : acc'.toList = L.map fun q => Value.ref q.2 := by
    apply List.ext_getElem?
    intro j
    have hl : acc'.toList.length = L.length := by rw [Array.length_toList, it.1]; exact hsz
    by_cases hj : j < L.length
    · have hj' : j < acc'.toList.length := by omega
      obtain ⟨hen, hv⟩ := it.2 j acc'.toList[j] (by rw [← Array.getElem?_toList]; exact List.getElem?_eq_getElem hj')
      have e2 : es.toList[j]? = some (entryOfKey (nestedKind X.prog X.w) (entT L[j])) := by
        rw [he, List.getElem?_map, List.getElem?_map, List.getElem?_eq_getElem hj]; rfl
      rw [Array.getElem?_toList, Array.getElem?_eq_getElem hen] at e2
      have e3 := Option.some.inj e2
      rw [List.getElem?_eq_getElem hj', hv, e3, List.getElem?_map, List.getElem?_eq_getElem hj]
      rfl
    · rw [List.getElem?_eq_none (by omega), List.getElem?_eq_none (by simp; omega)]
  have hn : H s.heap.objs.size = none := I.hok.fresh (Nat.le_refl _)
  have vr : ∀ M : List (NestedKey × Addr), Vals (M.map fun q => V.ref q.2) (M.map fun q => Value.ref q.2) := by
    intro M
    induction M with
    | nil => exact .nil
    | cons q M ih => exact .cons rfl ih
  refine ⟨.ref s.heap.objs.size, _, I.laid (o := .lst (L.map fun q => V.ref q.2)) (t' := tk) kp (Nat.le_refl _) ⟨by rw [List.length_map, sizeLine_eq]; omega, acc'.toList, c', by rw [ea]; exact vr L, by simpa using e⟩, rfl, q _ hn⟩
/-- {k: True} -/
def tDispN (P : Program) (w : World) (K : PySem.W.Frag) (tk : TE) : TE := fun σ H Q => ∀ d, H d = none → tPairs [(tk, tC (.bl true))] σ (upd H d (DicO P w d [])) fun ps H1 => ∃ (b : Addr) (k : NestedKey), ps = [(.ref b, .bl true)] ∧ H1 d = some (DicO P w d []) ∧
  Im K H1 (.ref b) k ∧ k.depth ≤ 8 ∧ Q (.ref d) (upd H1 d (DicO P w d [(k, b)]))
theorem pe_dispN {ek : Expr} {tk : TE} {j : Nat} {p pos : Pos} (hu : X.A.units + 64 < cLine) (hk : PE X ek tk) : PE X (.Dict [some ek] [.Constant (.bool true) j p] pos) (tDispN X.prog X.w X.K tk) := by
  refine ⟨fun pins s σ H Q I q => ?_⟩
  have hn := I.hok.fresh (Nat.le_refl s.heap.objs.size)
  have hbig : (s.heap.objs.size == sysModules) = false := beq_eq_false_iff_ne.mpr (Ne.symm (Nat.ne_of_lt I.big))
  have I1 := I.laid (a := s.heap.objs.size) (o := DicO X.prog X.w s.heap.objs.size []) (h' := s.heap.push { cls := .type "dict", data := .dict #[] }) (t' := s.toks) (fun _ _ q => Heap.get?_push_of_some _ q) (Nat.le_refl _) (dicO_ok (dic_new hbig))
  have pps : PPs X pos [some ek] [.Constant (.bool true) j p] [(tk, tC (.bl true))] := pps_cons hk pe_bl pps_nil
  have shape := zip_pairTrees [some ek] [.Constant (.bool true) j p] X.env pos rfl rfl
  rw [arm_eval_Dict, shape, dictDisplay_pairs (pairTrees [some ek] [.Constant (.bool true) j p] X.env pos) (by intro z; cases z) (by show 1 < 17; decide)]
  refine wpAny_bind (wpAny_standAt (wpAny_bind (wpAny_subDictH (knd := nestedKind X.prog X.w) (Q := fun d s' => wpAny (model X.prog X.w) X.A (pure (Value.ref d)) (EP X pins σ Q) X.xe s') (show X.A.units + 8 < cLine by omega) (by show 1 ≤ 15; decide) ?_)))
  refine thn (pps.run pins _ σ _ _ I1 (q _ hn)) fun ws s2 ⟨ps, H2, I2, rel, b, k, e, hd, him, hdep, q2⟩ => ?_
  subst e
  match ws, rel with
  | (u, v) :: _, .cons r .nil =>
    obtain rfl : u = Value.ref b := r.1
    obtain rfl : v = Value.bool true := r.2
    obtain ⟨hs, hm⟩ := Keys.full (L := []) I2 ⟨fun p hp => (by cases hp), List.nodup_nil⟩ hd
    refine ⟨[(k, b, Value.bool true)], ⟨rfl, rfl, ⟨Im.nested I2 _ _ _ him rfl, hdep⟩, trivial⟩, hm, fun h' tk' hm' sb => wpAny_pure ?_⟩
    exact ⟨.ref s.heap.objs.size, _, dic_write (M := [(k, b)]) I2 hd hs sb hm', rfl, q2⟩
end
end L2.DL
end

section
set_option Elab.async false
set_option linter.all false
set_option maxRecDepth 100000
/-! Layer J: enumerate of a tuple, in a for and in a comprehension. -/
namespace L2.DL
open PySem PySem.Spec PyProof.Rows
/-- enumerate(v) of one argument, whatever v is walked by -/
theorem makes_enum {v : Value} {o : Obj} {Hyp : Heap → Prop} (B : Begins v o Hyp) :
    Meets (Builtin.«enumerate.__new__» ⟨[.type "enumerate", v], []⟩) (fun _ R s => Hyp s.heap ∧
      R (.ok (.ret (.ref (s.heap.push o).objs.size))) { s with heap := (s.heap.push o).push { cls := .type "enumerate", data := .fields #[.none, .bool false, .ref s.heap.objs.size, rawInt 0, .none, .none] } }) :=
  .of_wp fun prog w A R s h => by
    obtain ⟨hp, g, d, tk, os⟩ := s
    obtain ⟨h1, h⟩ := h
    have sub := sub_enumerate
    have it : ∀ {A' : Around} {E : Value → Shared → Prop} {Q : Value → Shared → Prop}, Q (.ref hp.objs.size) ⟨hp.push o, g, d, tk, os⟩ → wpAny (model prog w) A' (pyIter v) Q E ⟨hp, g, d, tk, os⟩ :=
      fun q => B.iter prog w _ _ ⟨hp, g, d, tk, os⟩ _ h1 q
    wp_walk using it
    refine wpAny_stack_any fun st => wpAny_pure ?_
    split
    · rename_i c _ _ _ _ _
      cases (c == Value.type "enumerate") <;> wp_walk using it <;> exact ⟨_, rfl, h⟩
    · wp_walk using it
      exact ⟨_, rfl, h⟩
theorem call_enum {prog : Program} {w : World} {A : Around} {E : Value → Shared → Prop} {s : Shared} {v : Value} {o : Obj} {Hyp : Heap → Prop} {Q : Value → Shared → Prop} (B : Begins v o Hyp) (h1 : Hyp s.heap)
    (h : ∀ h', IsEnum h' (s.heap.objs.size + 1) s.heap.objs.size 0 .none → h'.get? s.heap.objs.size = some o → h'.objs.size = s.heap.objs.size + 2 → (∀ b o, s.heap.get? b = some o → h'.get? b = some o) → Q (.ref (s.heap.objs.size + 1)) { s with heap := h' }) :
    wpAny (model prog w) A (call (.type "enumerate") [v]) Q E s := by
  refine callType_new F.called_enumerate (by decide) (F.typeCall_enumerate_1 _) (F.newCall_enumerate_1 _) (fun obj => F.args_object_init_2 obj _) F.entry_enumerate_new (makes_enum B) ⟨h1, ?_⟩
  have hz : (s.heap.push o).objs.size = s.heap.objs.size + 1 := Heap.size_push ..
  show _ ∧ _
  rw [hz]
  have he : IsEnum ((s.heap.push o).push { cls := .type "enumerate", data := .fields #[.none, .bool false, .ref s.heap.objs.size, rawInt 0, .none, .none] }) (s.heap.objs.size + 1) s.heap.objs.size 0 .none := by
    have := Heap.get?_push_size (s.heap.push o) (o := { cls := .type "enumerate", data := .fields #[.none, .bool false, .ref s.heap.objs.size, rawInt 0, .none, .none] }) rfl
    rw [hz] at this; exact this
  exact ⟨⟨_, he, rfl⟩, h _ he (Heap.get?_push_of_some _ (Heap.get?_push_size _ B.free)) (by rw [Heap.size_push, hz]) fun b u x => Heap.get?_push_of_some _ (Heap.get?_push_of_some _ x)⟩
/-- the tuple at a, each item in a new pair -/
def IteT (K : PySem.W.Frag) (a : Addr) : It :=
  ⟨fun i H => ∃ (xs : List V) (x : V), SqT K H a xs ∧ xs[i]? = some x, fun i H v H' => ∃ T x, v = .ref T ∧ H T = none ∧ H' = upd H T (.tup [.int (i : Nat), x]) ∧ ∀ xs, SqT K H a xs → xs[i]? = some x, fun i H => ∃ xs : List V, SqT K H a xs ∧ xs.length ≤ i⟩
theorem turn_enumT {P : Program} {w : World} {K : PySem.W.Frag} {elts : List Expr} {kk : Nat} {tpos : Pos} (a e it : Addr) :
    Turn P w K (.Tuple elts kk tpos) (IteT K a) [e, it] e (fun i h => (∃ old, IsEnum h e it ((i : Nat) : Int) old) ∧ h.IsTupleIter it a i ∧ e ≠ it ∧ e ≠ a ∧ a ≠ it) where
  mem := by simp
  obj i h st b hb := by
    obtain ⟨⟨old, he⟩, ⟨o, ho, hc, hd⟩, _⟩ := st
    have e' : b = e ∨ b = it := by simpa using hb
    rcases e' with z | z
    · rw [z]; exact ⟨_, he, fun v q => nomatch q⟩
    · rw [z]; exact ⟨o, ho, fun v q => by rw [hd] at q; cases q⟩
  keep i h h' st k := by
    obtain ⟨⟨old, he⟩, hi, hne⟩ := st
    exact ⟨⟨old, k e (by simp) _ he⟩, hi.at fun o q => k it (by simp) o q, hne⟩
  item := by
    intro X hP hw hK hc i pins s σ H E I hf st hg
    subst hP hw hK
    obtain ⟨⟨old, he⟩, hit, hne, hea, hai⟩ := st
    obtain ⟨xs, x, hq, hx⟩ := hg
    obtain ⟨its, rv, p, hz⟩ := I.tuple hq
    obtain ⟨u, hu, ru⟩ := rv.get hx
    have pt : s.heap.IsTuple a its.toArray := p
    have hil := (List.getElem?_eq_some_iff.mp hu).1
    have hel : e < s.heap.objs.size := Heap.lt_size he
    have hitl : it < s.heap.objs.size := by obtain ⟨_, q, _⟩ := hit; exact Heap.lt_size q
    have hh : X.A.in1.handled = none := by simp [I.ok.hd hc]
    have D := Draws.tuple (prog := X.prog) (w := X.w) (A := X.A.in1) hh it a hai its.toArray
    refine wpAny_pyNext_enum_itemC D he ⟨hit, pt⟩ (by simpa using hil) hne (by simp [hne, hea]) fun u' h' tk hP ho hst' hT hsz hk => ?_
    have eu : u' = u := by
      have h1 : its[i]? = some u' := by simpa using hP
      rw [hu] at h1
      exact (Option.some.inj h1).symm
    subst eu
    refine ⟨_, rfl, wpAny_letOwnedTupleGo_enum (s := { s with heap := h', toks := tk + 1 }) ho fun h'' he' sb => ?_⟩
    have hT2 : h''.get? s.heap.objs.size = some { cls := .type "tuple", data := .seq #[.int i tk, u'] } := (sb.2 _ (Nat.ne_of_gt hel)).trans hT
    have new : ObjOk X.prog X.w (upd H s.heap.objs.size (.tup [.int (i : Nat), x])) h'' s.heap.objs.size (.tup [.int (i : Nat), x]) :=
      ⟨by show 2 ≤ sizeLine; decide, [.int i tk, u'], .cons ⟨_, rfl⟩ (.cons ru .nil), ⟨_, hT2, rfl, _, rfl⟩⟩
    have I1 : Inv X pins σ (upd H s.heap.objs.size (.tup [.int (i : Nat), x])) { s with heap := h'', toks := tk + 1 } :=
      I.turnedNew (ch := [e, it]) (fun b ob hb q => (sb.2 b fun z => hb (by simp [z])).trans (hk b ob (fun z => hb (by simp [z])) (fun z => hb (by simp [z])) q)) hf (Nat.le_refl _) new
    refine ⟨.ref s.heap.objs.size, _, I1, rfl, ⟨_, x, rfl, I.hok.fresh (Nat.le_refl _), rfl, fun ys hy => by rw [I.tuple_inj hy hq]; exact hx⟩, ⟨⟨u', ?_⟩, hst'.1.at fun o q => (sb.2 it (Ne.symm hne)).trans q, hne, hea, hai⟩, fun b hb => ?_⟩
    · have e1 : ((i + 1 : Nat) : Int) = (i : Int) + 1 := by omega
      rw [e1]; exact he'
    · have hb' : b < s.heap.objs.size := by
        have e' : b = e ∨ b = it := by simpa using hb
        rcases e' with z | z <;> rw [z] <;> assumption
      rw [upd_ne (Nat.ne_of_lt hb')]
      exact (hf b hb).1
  done := by
    intro X hP hw hK hc i pins s σ H E I hf st hg
    subst hP hw hK
    obtain ⟨⟨old, he⟩, hit, hne, hea, hai⟩ := st
    obtain ⟨xs, hq, hx⟩ := hg
    obtain ⟨its, rv, p, hz⟩ := I.tuple hq
    have pt : s.heap.IsTuple a its.toArray := p
    obtain ⟨f0, f1, f2, f3, f4, f5⟩ := hf it (by simp)
    have hl := rv.length
    have hh : X.A.handled = none := I.ok.hd hc
    have hT : s.TypeIs (.ref e) "enumerate" := ⟨_, he, rfl⟩
    unfold pyNext
    refine wpAny_bind (wpAny_attempt (wpAny_callSpecial?_slot (name := Str.ofString "__next__") hT F.slot_enumerate_next
      (wpAny_call_entry F.slot_enumerate_next hT F.entry_enumerate_next ?_ (F.args_enumerate_next_1 _))))
    show wpAny _ _ (field (.ref e) 2 >>= _) _ _ _
    refine wpAny_bind (wpAny_field he rfl (x := .ref it) rfl ?_)
    refine wpAny_bind (wpAny_nextOf_tuple_end (by simp [hh]) hit pt (by simp; omega) fun h' y he' hy => ?_)
    obtain ⟨oy, hoy, hcy⟩ := hy
    refine wpAny_bind (wpAny_isInstance (T := "StopIteration") (b := true) ⟨oy, hoy, hcy⟩ isSubtype_stop ?_)
    exact wpAny_pure ⟨rfl, I.turned (t' := s.toks) (fun b o hb q => he' b o hb q) f0 f1 f3 f4 f5⟩
  self A i s Q E st h := by
    obtain ⟨⟨_, he⟩, _⟩ := st
    exact wpAny_pyIter_enum he h
def iEnumT (K : PySem.W.Frag) (ta : TA) : TI := fun σ H R => ta σ H fun vs H1 => ∃ a xs, vs = [.ref a] ∧ SqT K H1 a xs ∧ R (IteT K a) H1
theorem pi_enumT {X : Cx} {e : Expr} {ta : TA} {p pos tpos : Pos} {elts : List Expr} {kk : Nat} (hg : Gl X "enumerate") (hm : X.mg "enumerate" = none) (ha : PA X [e] ta) (hs : starEach [e] X.env = [(false, eval e X.env)] := by rfl) :
    PI X (.Tuple elts kk tpos) (.Call (.Name "enumerate" p) [e] [] pos) (iEnumT X.K ta) := by
  refine ⟨fun pins s σ H R I h => ?_⟩
  refine Call_ (ld_blt I hg hm boot_enumerate (PyProof.Rows.callWith_type1 (thn (ha.run pos pins s σ H _ I h) fun us s1 ⟨vs, H1, I1, r1, a, xs, ex, hq, q⟩ => ?_) hs rfl))
  subst ex
  match us, r1 with
  | u :: _, .cons r .nil =>
    obtain rfl : u = Value.ref a := r
    obtain ⟨its, rv, p', hz⟩ := I1.tuple hq
    have pt : s1.heap.IsTuple a its.toArray := p'
    have hal : a < s1.heap.objs.size := by obtain ⟨o, ho, _⟩ := pt; exact Heap.lt_size ho
    refine call_enum (begins_tuple a its.toArray) pt fun h' he hit hsz hk => wpAny_pyIter_enum he ?_
    have I2 : Inv X pins σ H1 { s1 with heap := h' } := I1.kept (t' := s1.toks) hk
    refine ⟨s1.heap.objs.size + 1, [s1.heap.objs.size + 1, s1.heap.objs.size], _, _, H1, rfl, I2, turn_enumT a (s1.heap.objs.size + 1) s1.heap.objs.size, ⟨⟨.none, he⟩, ⟨_, hit, rfl, rfl⟩, Nat.succ_ne_self _, Ne.symm (Nat.ne_of_lt (Nat.lt_succ_of_lt hal)), Nat.ne_of_lt hal⟩, fun b hb => ?_, q⟩
    have e' : b = s1.heap.objs.size + 1 ∨ b = s1.heap.objs.size := by simpa using hb
    have hle : s1.heap.objs.size ≤ b := by
      rcases e' with z | z <;> rw [z]
      · exact Nat.le_add_right _ _
      · exact Nat.le_refl _
    exact I1.fpOk hle (I1.hok.fresh hle)
theorem walk_enumT {K : PySem.W.Frag} {a : Addr} {xs : List V} : Walk (IteT K a) xs.length (fun H => SqT K H a xs) (YPair (fun i => some (.int (i : Nat))) (fun i => xs[i]?)) := by
  refine ⟨fun i _ hi q => ⟨xs, xs[i], q, List.getElem?_eq_getElem hi⟩, fun _ q => ⟨xs, q, Nat.le_refl _⟩, fun i H v H' _ q y => ?_⟩
  obtain ⟨T, x, h1, h2, h3, h4⟩ := y
  exact ⟨T, .int (i : Nat), x, h1, h2, h3, rfl, h4 xs q⟩
end L2.DL
end

section
set_option Elab.async false
set_option linter.all false
set_option maxRecDepth 100000
/-! Layer K: a def by its name (At), what a def hands back (Ret, RetL, RetB), comprehensions over any walk (lcG, lc2G). -/
namespace L2.DL
open PySem PySem.Spec PyProof.Rows
/-! ### defs by name -/
structure At (P : Program) (w : World) (K : PySem.W.Frag) (mg : Str → Option Value) (base : Heap) (x : Str) (k : Nat) (ps : List Str) (sp : Sp) : Prop where
  ex : ∃ f fd, mg x = some (.ref f) ∧ PySem.W.keepIn K (.ref f) = true ∧ Binds K fd ps [] ∧ FnOk P w K mg base CX0 k f fd ps sp
structure Def (K : PySem.W.Frag) (mg : Str → Option Value) (x : Str) (st : Stmt) (ps : List Str) : Prop where
  ex : ∃ f fd, Fun K x x st f fd ∧ mg x = some (.ref f) ∧ Binds K fd ps []
theorem pe_at {X : Cx} {x : Str} {k j : Nat} {ps : List Str} {sp : Sp} {e : Expr} {es : List Expr} {t : TA} {p pos : Pos} (h : At X.prog X.w X.K X.mg X.base x k ps sp) (hr : Room j X.A) (hkj : k ≤ j) (ha : PA X (e :: es) t) (hg : Gl X x := by rfl)
    (hdb : (x == ("__debug__" : Str)) = false := by decide) (he : starEach (e :: es) X.env = (false, eval e X.env) :: starEach es X.env := by rfl) (hpl : (backTo pos (starEach es X.env)).any (·.1) = false := by rfl) :
    PE X (.Call (.Name x p) (e :: es) [] pos) (tCall sp [] E0 t) := by
  obtain ⟨f, fd, hm, hk, hb, F⟩ := h.ex
  exact pe_call F (hr.mono hkj) hg hm hk hb .nil pass0 ha hdb he hpl
theorem Def.at {P : Program} {w : World} {K : PySem.W.Frag} {mg : Str → Option Value} {base : Heap} {x : Str} {st : Stmt} {k : Nat} {N ps : List Str} {sp : Sp} (D : Def K mg x st ps) (S : FnScope N ps (defScope st)) (len : ∀ vs H Q E, sp vs H Q E → vs.length = ps.length)
    (hbody : ∀ (f : Addr) (cdv : Value) (A : Around) (outer : List Env) (s : Shared) (H : Hp) (vs : List V) (Q : VK) (E : XK), Room k (A.deeper (envOfC x (defScope st) s.heap.objs.size f cdv)) → sp vs H Q E →
      ∃ t, PSs (cxOf CX0 P w K mg base N x (defScope st) f cdv A outer s H E).nox (defBody st) t ∧ t { nx := fun _ H' => Q .non H', rt := Q } (start N vs) H) : At P w K mg base x (k + 1) ps sp := by
  obtain ⟨f, fd, F, hm, hb⟩ := D.ex
  exact ⟨f, fd, hm, F.kp, hb, F.ok S len (hbody f)⟩
/-! ### what a def hands back -/
def Ret (K : PySem.W.Frag) (k : NestedKey) (H : Hp) (Q : VK) : Prop := ∀ H' v, Same H H' → Im K H' v k → Q v H'
def RetL (K : PySem.W.Frag) (ks : List NestedKey) (H : Hp) (Q : VK) : Prop := ∀ H' p xs, Same H H' → H p = none → H' p = some (.lst xs) → ImAll K H' xs ks → Q (.ref p) H'
def RetB (b : Bool) (H : Hp) (Q : VK) : Prop := ∀ H', Same H H' → Q (.bl b) H'
theorem same_new {H : Hp} {p : Addr} {o : HO} (h : H p = none) : Same H (upd H p o) := fun b x e => by
  rw [upd_ne (ne_of_none e h)]; exact e
theorem same_grow {H H' : Hp} {p : Addr} {o : HO} (e : Same H H') (h : H p = none) : Same H (upd H' p o) := fun b x q => by
  rw [upd_ne (ne_of_none q h)]; exact e b x q
theorem Same.seqT {K : PySem.W.Frag} {H H' : Hp} {a : Addr} {xs : List V} (e : Same H H') (h : SqT K H a xs) : SqT K H' a xs := (TEx.same e).sq h
theorem Im.same {K : PySem.W.Frag} {H H' : Hp} {v : V} {k : NestedKey} (h : Im K H v k) (e : Same H H') : Im K H' v k := Im.mono (TEx.same e) _ _ h
theorem ImAll.same {K : PySem.W.Frag} {H H' : Hp} {vs : List V} {ks : List NestedKey} (h : ImAll K H vs ks) (e : Same H H') : ImAll K H' vs ks := ImAll.mono (TEx.same e) _ _ h
theorem same_lst {K : PySem.W.Frag} {H H' : Hp} {p : Addr} {xs : List V} (e : Same H H') (h : H p = some (.lst xs)) : SqL K H' p xs := SqL.of (e _ _ h)
/-! ### comprehensions -/
theorem paired_snoc {α β : Type} {R : α → β → Prop} {a : α} {b : β} (h : R a b) : ∀ {as : List α} {bs : List β}, Paired R as bs → Paired R (as ++ [a]) (bs ++ [b])
  | _, _, .nil => .cons h .nil
  | _, _, .cons h' t => .cons h' (paired_snoc h t)
theorem paired_im {K : PySem.W.Frag} {H : Hp} {f : Nat → NestedKey} : ∀ {is : List Nat} {xs : List V}, Paired (fun i v => Im K H v (f i)) is xs → ImAll K H xs (is.map f)
  | _, _, .nil => .nil
  | _, _, .cons h t => .cons h (paired_im t)
theorem paired_eq {f : Nat → V} : ∀ {is : List Nat} {xs : List V}, Paired (fun i v => v = f i) is xs → xs = is.map f
  | _, _, .nil => rfl
  | _, _, .cons h t => by rw [List.map_cons, h, paired_eq t]
section
variable {J : It} {n : Nat} {G : Hp → Prop} {Y : Nat → Hp → V → Hp → Prop}
/-- a comprehension over a walk of n turns: those of keep make an item each, of which P says what stays true -/
theorem lcG (w : Walk J n G Y) {g : TG} {tt : TT} {te : TE} {vs : List Nat} {σ : St} {H1 : Hp} {D : Addr} {Qd : Hp → Prop} (hD : H1 D = none) (hn : n ≤ 100000) (keep : Nat → Bool) (P : Nat → Hp → V → Prop)
    (hP : ∀ i H v o, i < n → Same H1 H → (∃ ys, H D = some (.lst ys)) → P i H v → P i (upd H D o) v) (hPs : ∀ i H H' v, i < n → Same H H' → P i H v → P i H' v)
    (hG : ∀ H, Same H1 H → G H)
    (hs : ∀ i x H H', i < n → Same H1 H → (∃ ys, H D = some (.lst ys)) → Y i H x H' → ∀ (C : VK) (N : Hp → Prop), (keep i = true → ∀ y H4, Same H H4 → P i H4 y → C y H4) → (keep i = false → ∀ H3, Same H H3 → N H3) →
      g x (wipe σ vs) H' fun σ2 H2 => wipe σ2 vs = wipe σ vs ∧ tt σ2 H2 fun b H3 => if b = true then te σ2 H3 C else N H3)
    (hd : ∀ H' xs, Same H1 H' → H' D = some (.lst xs) → Paired (fun i v => P i H' v) ((List.range n).filter keep) xs → Qd H') :
    ∃ W : Nat → Nat → Hp → Prop, (∃ m, W 0 m (upd H1 D (.lst []))) ∧ ∀ i m H, W i m H →
      (J.stop i H ∧ Qd H) ∨ (J.go i H ∧ ∃ Nx : Hp → Prop, (∀ H', Nx H' → ∃ m', m' < m ∧ W (i + 1) m' H') ∧ ∀ x H', J.yld i H x H' → g x (wipe σ vs) H' fun σ2 H2 => wipe σ2 vs = wipe σ vs ∧ tt σ2 H2 fun b H3 =>
        if b = true then te σ2 H3 fun y H4 => ∃ acc, H4 D = some (.lst acc) ∧ acc.length < sizeLine ∧ Nx (upd H4 D (.lst (acc ++ [y]))) else Nx H3) := by
  have pl : ∀ {is : List Nat} {xs : List V} {H : Hp}, Paired (fun i v => P i H v) is xs → xs.length = is.length := fun h => (Paired.length h).symm
  refine lc_it w (fun i H => Same H1 H ∧ ∃ xs, H D = some (.lst xs) ∧ Paired (fun i v => P i H v) ((List.range i).filter keep) xs) ⟨same_new hD, [], upd_same, by simp; exact .nil⟩ (fun i H _ h => hG H h.1) (fun i x H H' hi ⟨s1, xs, hx, pr⟩ y => ?_) fun H ⟨s1, xs, hx, pr⟩ => hd H xs s1 hx pr
  have lift : ∀ {H4 : Hp} {ys : List V} {is : List Nat}, (∀ j ∈ is, j < n) → Same H H4 → Paired (fun i v => P i H v) is ys → Paired (fun i v => P i H4 v) is ys := by
    intro H4 ys is hb e pr
    induction pr with
    | nil => exact .nil
    | cons h _ ih => exact .cons (hPs _ _ _ _ (hb _ (List.mem_cons_self ..)) e h) (ih fun j hj => hb j (List.mem_cons_of_mem _ hj))
  have low : ∀ j ∈ (List.range i).filter keep, j < n := fun j hj => Nat.lt_trans (List.mem_range.mp (List.mem_filter.mp hj).1) hi
  have hlen : xs.length ≤ i := by
    rw [pl pr]
    have := List.length_filter_le keep (List.range i)
    rw [List.length_range] at this
    exact this
  refine hs i x H H' hi s1 ⟨xs, hx⟩ y _ _ (fun hk y H4 e py => ?_) fun hk H3 e => ?_
  · refine ⟨xs, e _ _ hx, Nat.lt_of_lt_of_le (Nat.lt_of_le_of_lt hlen hi) (Nat.le_trans hn (by decide)), same_grow (s1.trans e) hD, xs ++ [y], upd_same, ?_⟩
    rw [List.range_succ, List.filter_append, show [i].filter keep = [i] by simp [hk]]
    have base := lift low e pr
    have all : Paired (fun i v => P i H4 v) ((List.range i).filter keep ++ [i]) (xs ++ [y]) := paired_snoc (R := fun i v => P i H4 v) py base
    have hb : ∀ j ∈ (List.range i).filter keep ++ [i], j < n := fun j hj => by
      rcases List.mem_append.mp hj with z | z
      · exact low j z
      · rw [List.mem_singleton.mp z]; exact hi
    generalize (List.range i).filter keep ++ [i] = is at all hb
    generalize xs ++ [y] = ys at all ⊢
    generalize HO.lst ys = o
    induction all with
    | nil => exact .nil
    | cons h _ ih => exact .cons (hP _ _ _ _ (hb _ (List.mem_cons_self ..)) (s1.trans e) ⟨xs, e _ _ hx⟩ h) (ih fun j hj => hb j (List.mem_cons_of_mem _ hj))
  · refine ⟨s1.trans e, xs, e _ _ hx, ?_⟩
    rw [List.range_succ, List.filter_append, show [i].filter keep = [] by simp [hk], List.append_nil]
    exact lift low e pr
/-- items that are unchanging things -/
theorem lcIm (w : Walk J n G Y) {K : PySem.W.Frag} {g : TG} {tt : TT} {te : TE} {vs : List Nat} {σ : St} {H1 : Hp} {D : Addr} {Qd : Hp → Prop} (hD : H1 D = none) (hn : n ≤ 100000) (keep : Nat → Bool) (f : Nat → NestedKey) (hG : ∀ H, Same H1 H → G H)
    (hs : ∀ i x H H', i < n → Same H1 H → (∃ ys, H D = some (.lst ys)) → Y i H x H' → ∀ (C : VK) (N : Hp → Prop), (keep i = true → ∀ y H4, Same H H4 → Im K H4 y (f i) → C y H4) → (keep i = false → ∀ H3, Same H H3 → N H3) →
      g x (wipe σ vs) H' fun σ2 H2 => wipe σ2 vs = wipe σ vs ∧ tt σ2 H2 fun b H3 => if b = true then te σ2 H3 C else N H3)
    (hd : ∀ H' xs, Same H1 H' → H' D = some (.lst xs) → ImAll K H' xs (((List.range n).filter keep).map f) → Qd H') :
    ∃ W : Nat → Nat → Hp → Prop, (∃ m, W 0 m (upd H1 D (.lst []))) ∧ ∀ i m H, W i m H →
      (J.stop i H ∧ Qd H) ∨ (J.go i H ∧ ∃ Nx : Hp → Prop, (∀ H', Nx H' → ∃ m', m' < m ∧ W (i + 1) m' H') ∧ ∀ x H', J.yld i H x H' → g x (wipe σ vs) H' fun σ2 H2 => wipe σ2 vs = wipe σ vs ∧ tt σ2 H2 fun b H3 =>
        if b = true then te σ2 H3 fun y H4 => ∃ acc, H4 D = some (.lst acc) ∧ acc.length < sizeLine ∧ Nx (upd H4 D (.lst (acc ++ [y]))) else Nx H3) :=
  lcG w hD hn keep (fun i H v => Im K H v (f i)) (fun _ _ _ _ _ _ hy h => Im.mono (TEx.upd (.inr hy)) _ _ h) (fun _ _ _ _ _ e h => h.same e) hG hs fun H' xs s1 hx pr => hd H' xs s1 hx (paired_im pr)
/-- items that are plain values, told ahead -/
theorem lcV (w : Walk J n G Y) {g : TG} {tt : TT} {te : TE} {vs : List Nat} {σ : St} {H1 : Hp} {D : Addr} {Qd : Hp → Prop} (hD : H1 D = none) (hn : n ≤ 100000) (keep : Nat → Bool) (f : Nat → V) (hG : ∀ H, Same H1 H → G H)
    (hs : ∀ i x H H', i < n → Same H1 H → (∃ ys, H D = some (.lst ys)) → Y i H x H' → ∀ (C : VK) (N : Hp → Prop), (keep i = true → ∀ H4, Same H H4 → C (f i) H4) → (keep i = false → ∀ H3, Same H H3 → N H3) →
      g x (wipe σ vs) H' fun σ2 H2 => wipe σ2 vs = wipe σ vs ∧ tt σ2 H2 fun b H3 => if b = true then te σ2 H3 C else N H3)
    (hd : ∀ H' , Same H1 H' → H' D = some (.lst (((List.range n).filter keep).map f)) → Qd H') :
    ∃ W : Nat → Nat → Hp → Prop, (∃ m, W 0 m (upd H1 D (.lst []))) ∧ ∀ i m H, W i m H →
      (J.stop i H ∧ Qd H) ∨ (J.go i H ∧ ∃ Nx : Hp → Prop, (∀ H', Nx H' → ∃ m', m' < m ∧ W (i + 1) m' H') ∧ ∀ x H', J.yld i H x H' → g x (wipe σ vs) H' fun σ2 H2 => wipe σ2 vs = wipe σ vs ∧ tt σ2 H2 fun b H3 =>
        if b = true then te σ2 H3 fun y H4 => ∃ acc, H4 D = some (.lst acc) ∧ acc.length < sizeLine ∧ Nx (upd H4 D (.lst (acc ++ [y]))) else Nx H3) :=
  lcG w hD hn keep (fun i _ v => v = f i) (fun _ _ _ _ _ _ _ h => h) (fun _ _ _ _ _ _ h => h) hG (fun i x H H' hi s1 hy y C N hC hN => hs i x H H' hi s1 hy y C N (fun hk H4 e => hC hk _ H4 e rfl) hN) fun H' xs s1 hx pr => hd H' s1 (by rw [← paired_eq pr]; exact hx)
end
theorem all_range (n : Nat) : (List.range n).filter (fun _ => true) = List.range n := List.filter_eq_self.mpr fun _ _ => rfl
end L2.DL
end

section
set_option Elab.async false
set_option linter.all false
set_option maxRecDepth 100000
/-! Layer L: comprehensions with two fors. -/
namespace L2.DL
open PySem PySem.Spec PyProof.Rows
/-- all but the list at D is kept -/
def SameX (D : Addr) (H H' : Hp) : Prop := ∀ b o, b ≠ D → H b = some o → H' b = some o
theorem SameX.refl (D : Addr) (H : Hp) : SameX D H H := fun _ _ _ h => h
theorem SameX.trans {D : Addr} {H H' H'' : Hp} (a : SameX D H H') (b : SameX D H' H'') : SameX D H H'' := fun x o n h => b x o n (a x o n h)
theorem SameX.of {D : Addr} {H H' : Hp} (a : Same H H') : SameX D H H' := fun x o _ h => a x o h
theorem SameX.upd {D : Addr} {H : Hp} {o : HO} : SameX D H (upd H D o) := fun x u n h => by rw [upd_ne n]; exact h
theorem TEx.sameX {D : Addr} {H H' : Hp} (a : SameX D H H') (h : ∃ ys, H D = some (.lst ys)) : TEx H H' := fun b xs r => by
  obtain ⟨ys, h⟩ := h
  have ne : b ≠ D := fun e => by
    rw [e] at r
    rcases r with r | ⟨o, r⟩ <;> rw [h] at r <;> cases r
  rcases r with r | ⟨o, r⟩
  · exact .inl (a _ _ ne r)
  · exact .inr ⟨o, a _ _ ne r⟩
theorem paired_append {α β : Type} {R : α → β → Prop} : ∀ {as as' : List α} {bs bs' : List β}, Paired R as bs → Paired R as' bs' → Paired R (as ++ as') (bs ++ bs')
  | _, _, _, _, .nil, h => h
  | _, _, _, _, .cons h t, u => .cons h (paired_append t u)
theorem paired_imp {α β : Type} {R S : α → β → Prop} : ∀ {as : List α} {bs : List β}, Paired R as bs → (∀ a ∈ as, ∀ b, R a b → S a b) → Paired S as bs
  | _, _, .nil, _ => .nil
  | _, _, .cons h t, f => .cons (f _ (List.mem_cons_self ..) _ h) (paired_imp t fun a ha => f a (List.mem_cons_of_mem _ ha))
/-- the places of the items: i, then j -/
def ijs (m : Nat → Nat) (keep : Nat → Nat → Bool) (n : Nat) : List (Nat × Nat) := (List.range n).flatMap fun i => ((List.range (m i)).filter (keep i)).map fun j => (i, j)
theorem ijs_succ (m : Nat → Nat) (keep : Nat → Nat → Bool) (n : Nat) : ijs m keep (n + 1) = ijs m keep n ++ ((List.range (m n)).filter (keep n)).map fun j => (n, j) := by
  unfold ijs
  rw [List.range_succ, List.flatMap_append]
  simp
theorem ijs_len {m : Nat → Nat} {keep : Nat → Nat → Bool} {n B : Nat} (h : ∀ i, i < n → m i ≤ B) : (ijs m keep n).length ≤ n * B := by
  induction n with
  | zero => simp [ijs]
  | succ n ih =>
    rw [ijs_succ, List.length_append, List.length_map]
    have h1 := ih fun i hi => h i (by omega)
    have h2 := List.length_filter_le (keep n) (List.range (m n))
    rw [List.length_range] at h2
    have h3 := h n (by omega)
    rw [Nat.succ_mul]
    omega
section
variable {J : It} {n : Nat} {G : Hp → Prop} {Y : Nat → Hp → V → Hp → Prop}
theorem lc2G (w : Walk J n G Y) {wi1 : TI} {g g1 : TG} {tt1 : TT} {te : TE} {vs vs1 : List Nat} {σ : St} {H1 : Hp} {D : Addr} {Qd : Hp → Prop} (hD : H1 D = none) (m : Nat → Nat) {B : Nat} (hm : ∀ i, i < n → m i ≤ B) (hB : n * B ≤ 100000) (keep : Nat → Nat → Bool)
    (P : Nat → Nat → Hp → V → Prop) (hP : ∀ i j H H' v, i < n → Same H1 H → (∃ ys, H D = some (.lst ys)) → SameX D H H' → P i j H v → P i j H' v) (hG : ∀ H, Same H1 H → G H)
    (hs : ∀ i x H H', i < n → Same H1 H → (∃ ys, H D = some (.lst ys)) → Y i H x H' → ∀ (X1 : St → It → Hp → Prop) (N : Hp → Prop),
      (∀ σ2 J1 H4 G1 Y1, Same H H4 → Walk J1 (m i) G1 Y1 → (∀ H5, Same H1 H5 → SameX D H4 H5 → G1 H5) →
        (∀ j x H5 H6, j < m i → Same H1 H5 → SameX D H4 H5 → (∃ ys, H5 D = some (.lst ys)) → Y1 j H5 x H6 → ∀ (C : VK) (N : Hp → Prop), (keep i j = true → ∀ y H7, Same H5 H7 → P i j H7 y → C y H7) → (keep i j = false → ∀ H7, Same H5 H7 → N H7) →
          g1 x (wipe σ2 vs1) H6 fun σ3 H7 => wipe σ3 vs1 = wipe σ2 vs1 ∧ tt1 σ3 H7 fun b H8 => if b = true then te σ3 H8 C else N H8) → X1 σ2 J1 H4) →
      g x (wipe σ vs) H' fun σ2 H2 => wipe σ2 vs = wipe σ vs ∧ tYes σ2 H2 fun b H3 => if b = true then wi1 σ2 H3 (X1 σ2) else N H3)
    (hd : ∀ H' xs, Same H1 H' → H' D = some (.lst xs) → Paired (fun (p : Nat × Nat) v => P p.1 p.2 H' v) (ijs m keep n) xs → Qd H') :
    ∃ W : Nat → Nat → Hp → Prop, (∃ m, W 0 m (upd H1 D (.lst []))) ∧ ∀ i m H, W i m H →
      (J.stop i H ∧ Qd H) ∨ (J.go i H ∧ ∃ Nx : Hp → Prop, (∀ H', Nx H' → ∃ m', m' < m ∧ W (i + 1) m' H') ∧ ∀ x H', J.yld i H x H' → g x (wipe σ vs) H' fun σ2 H2 => wipe σ2 vs = wipe σ vs ∧ tYes σ2 H2 fun b H3 =>
        if b = true then wi1 σ2 H3 fun J1 H4 => ∃ W1 : Nat → Nat → Hp → Prop, (∃ m, W1 0 m H4) ∧ ∀ j k H, W1 j k H →
          (J1.stop j H ∧ Nx H) ∨ (J1.go j H ∧ ∃ Nx1 : Hp → Prop, (∀ H', Nx1 H' → ∃ k', k' < k ∧ W1 (j + 1) k' H') ∧ ∀ x H', J1.yld j H x H' → g1 x (wipe σ2 vs1) H' fun σ3 H5 => wipe σ3 vs1 = wipe σ2 vs1 ∧ tt1 σ3 H5 fun b H6 =>
            if b = true then te σ3 H6 fun y H7 => ∃ acc, H7 D = some (.lst acc) ∧ acc.length < sizeLine ∧ Nx1 (upd H7 D (.lst (acc ++ [y]))) else Nx1 H6)
        else Nx H3) := by
  refine ⟨fun i k H => k = n - i ∧ i ≤ n ∧ Same H1 H ∧ ∃ xs, H D = some (.lst xs) ∧ Paired (fun (p : Nat × Nat) v => P p.1 p.2 H v) (ijs m keep i) xs, ⟨n, by simp, Nat.zero_le _, same_new hD, [], upd_same, by simp [ijs]; exact .nil⟩, ?_⟩
  rintro i k H ⟨rfl, hi, s1, xs, hx, pr⟩
  have hg := hG H s1
  by_cases hlt : i < n
  · refine .inr ⟨w.goes i H hlt hg, fun H' => Same H1 H' ∧ ∃ xs, H' D = some (.lst xs) ∧ Paired (fun (p : Nat × Nat) v => P p.1 p.2 H' v) (ijs m keep (i + 1)) xs, fun H' p => ⟨n - (i + 1), by omega, rfl, hlt, p⟩, fun x H' y => ?_⟩
    refine hs i x H H' hlt s1 ⟨xs, hx⟩ (w.yields i H x H' hlt hg y) _ _ fun σ2 J1 H4 G1 Y1 e4 w1 hG1 inner => ?_
    have s4 := s1.trans e4
    have x4 := e4 _ _ hx
    have lowI : ∀ {c : Nat} (p : Nat × Nat), p ∈ ijs m keep i ++ ((List.range c).filter (keep i)).map (fun j => (i, j)) → p.1 < n := fun {c} p hp => by
      rcases List.mem_append.mp hp with z | z
      · obtain ⟨a, ha, z⟩ := List.mem_flatMap.mp z
        obtain ⟨b, _, rfl⟩ := List.mem_map.mp z
        exact Nat.lt_trans (List.mem_range.mp ha) hlt
      · obtain ⟨b, _, rfl⟩ := List.mem_map.mp z
        exact hlt
    have lenI : ∀ {c : Nat}, c ≤ m i → (ijs m keep i ++ ((List.range c).filter (keep i)).map (fun j => (i, j))).length ≤ i * B + c := fun {c} hc => by
      rw [List.length_append, List.length_map]
      have h1 := ijs_len (m := m) (keep := keep) (n := i) (B := B) fun j hj => hm j (by omega)
      have h2 := List.length_filter_le (keep i) (List.range c)
      rw [List.length_range] at h2
      omega
    refine ⟨fun j k H5 => k = m i - j ∧ j ≤ m i ∧ Same H1 H5 ∧ SameX D H4 H5 ∧ ∃ ys, H5 D = some (.lst ys) ∧ Paired (fun (p : Nat × Nat) v => P p.1 p.2 H5 v) (ijs m keep i ++ ((List.range j).filter (keep i)).map fun j => (i, j)) ys,
      ⟨m i, by simp, Nat.zero_le _, s4, SameX.refl D H4, xs, x4, ?_⟩, ?_⟩
    · simp only [List.range_zero, List.filter_nil, List.map_nil, List.append_nil]
      exact paired_imp pr fun p hp v h => hP _ _ _ _ _ (lowI (c := 0) p (by simpa using hp)) s1 ⟨xs, hx⟩ (SameX.of e4) h
    rintro j k H5 ⟨rfl, hj, s5, e5, ys, y5, pr5⟩
    have hg1 := hG1 H5 s5 e5
    by_cases hjl : j < m i
    · refine .inr ⟨w1.goes j H5 hjl hg1, fun H' => Same H1 H' ∧ SameX D H4 H' ∧ ∃ ys, H' D = some (.lst ys) ∧ Paired (fun (p : Nat × Nat) v => P p.1 p.2 H' v) (ijs m keep i ++ ((List.range (j + 1)).filter (keep i)).map fun j => (i, j)) ys,
        fun H' p => ⟨m i - (j + 1), by omega, rfl, hjl, p⟩, fun x' H6 yy => ?_⟩
      refine inner j x' H5 H6 hjl s5 e5 ⟨ys, y5⟩ (w1.yields j H5 x' H6 hjl hg1 yy) _ _ (fun hk z H7 e7 hz => ?_) fun hk H7 e7 => ?_
      · have hl := (Paired.length pr5).symm
        have hl2 := lenI (c := j) hj
        have hmi := hm i hlt
        have hiB : i * B + B ≤ n * B := by rw [← Nat.succ_mul]; exact Nat.mul_le_mul_right B hlt
        have pr7 : Paired (fun (p : Nat × Nat) v => P p.1 p.2 H7 v) (ijs m keep i ++ ((List.range j).filter (keep i)).map fun j => (i, j)) ys := paired_imp pr5 fun p hp v h => hP _ _ _ _ _ (lowI p hp) s5 ⟨ys, y5⟩ (SameX.of e7) h
        have all : Paired (fun (p : Nat × Nat) v => P p.1 p.2 H7 v) ((ijs m keep i ++ ((List.range j).filter (keep i)).map fun j => (i, j)) ++ [(i, j)]) (ys ++ [z]) := paired_snoc (R := fun (p : Nat × Nat) v => P p.1 p.2 H7 v) hz pr7
        have s7 := s5.trans e7
        refine ⟨ys, e7 _ _ y5, Nat.lt_of_le_of_lt (show ys.length ≤ 100000 by omega) (by decide), same_grow s7 hD, (e5.trans (SameX.of e7)).trans SameX.upd, ys ++ [z], upd_same, ?_⟩
        rw [List.range_succ, List.filter_append, show [j].filter (keep i) = [j] by simp [hk], List.map_append, ← List.append_assoc]
        refine paired_imp all fun p hp v h => hP _ _ _ _ _ ?_ s7 ⟨ys, e7 _ _ y5⟩ SameX.upd h
        rcases List.mem_append.mp hp with q | q
        · exact lowI p q
        · rw [List.mem_singleton.mp q]; exact hlt
      · refine ⟨s5.trans e7, e5.trans (SameX.of e7), ys, e7 _ _ y5, ?_⟩
        rw [List.range_succ, List.filter_append, show [j].filter (keep i) = [] by simp [hk], List.append_nil]
        exact paired_imp pr5 fun p hp v h => hP _ _ _ _ _ (lowI p hp) s5 ⟨ys, y5⟩ (SameX.of e7) h
    · have e : j = m i := by omega
      subst e
      exact .inl ⟨w1.stops H5 hg1, s5, ys, y5, by rw [ijs_succ]; exact pr5⟩
  · have e : i = n := by omega
    subst e
    exact .inl ⟨w.stops H hg, hd H xs s1 hx pr⟩
end
theorem tyes {te : TE} {σ : St} {H : Hp} {C : VK} {N : Hp → Prop} (h : te σ H C) : tYes σ H (fun b H3 => if b = true then te σ H3 C else N H3) := by
  show (if true = true then te σ H C else N H)
  rw [if_pos rfl]; exact h
end L2.DL
end

section
set_option Elab.async false
set_option linter.all false
set_option maxRecDepth 100000
/-! Walk A: is_integer, is_from, is_line, is_web, need_web. -/
namespace L2.DL
open PySem PySem.Spec PyProof.Rows
def topS (i : Nat) : Stmt := PySem.Challenge.pw_dartwebs_k18_whole_kinds.main.body.getD i (.Pass ⟨0, 0, 0, 0⟩)
/-- the built-in names that no global hides -/
structure Bts (mg : Str → Option Value) : Prop where
  isinstance : mg "isinstance" = none
  int : mg "int" = none
  bool : mg "bool" = none
  tuple : mg "tuple" = none
  len : mg "len" = none
  all : mg "all" = none
  range : mg "range" = none
  abs : mg "abs" = none
  list : mg "list" = none
  enumerate : mg "enumerate" = none
  sorted : mg "sorted" = none
  set : mg "set" = none
  min : mg "min" = none
  str : mg "str" = none
  nodes : ∃ t, mg "MOST_NODES" = some (.int 6 t)
  arrows : ∃ t, mg "MOST_ARROWS" = some (.int 1000 t)
theorem ty_tup {K : PySem.W.Frag} {H : Hp} {a : Addr} {xs : List V} (h : SqT K H a xs) : TyX K H (.ref a) (.type "tuple") := by
  rcases h with (h | ⟨o, h⟩) | ⟨o, its, n, hk, hc, _⟩
  · exact .base (.tup h)
  · exact .fTuple h
  · exact .kTuple hk hc
theorem sq_len {K : PySem.W.Frag} {H : Hp} {a : Addr} {xs : List V} {ks : List NestedKey} (t : ImAll K H xs ks) : (xs.length : Int) = (ks.length : Int) := by rw [t.length]
section
variable {P : Program} {w : World} {K : PySem.W.Frag} {mg : Str → Option Value} {base : Heap}
abbrev sIsInteger : Stmt := topS 7
theorem scIsInteger : FnScope ["value"] ["value"] (defScope sIsInteger) := ⟨rfl, rfl, rfl, by decide +kernel, rfl, by decide +kernel, by decide +kernel⟩
def spIsInteger : Sp := fun vs H Q _ => ∃ i : Int, vs = [.int i] ∧ RetB true H Q
theorem at_is_integer (D : Def K mg "is_integer" sIsInteger ["value"]) (B : Bts mg) : At P w K mg base "is_integer" 1 ["value"] spIsInteger := by
  refine D.at scIsInteger (fun vs H Q E h => ?_) (fun f cdv A outer s H vs Q E hr h => ?_)
  · obtain ⟨i, rfl, _⟩ := h; rfl
  · obtain ⟨i, rfl, q⟩ := h
    refine ⟨_, pss_one (ps_ret (pe_and (pe_callB call_isi (by rfl) B.isinstance (by decide +kernel) (pa_cons (pv 0) (pa_cons (pe_bltn (v := .ty "int") (by rfl) B.int (by decide +kernel) rfl) pa_nil)))
      (pe_one (pe_not (pe_callB call_isi (by rfl) B.isinstance (by decide +kernel) (pa_cons (pv 0) (pa_cons (pe_bltn (v := .ty "bool") (by rfl) B.bool (by decide +kernel) rfl) pa_nil))))))), ?_⟩
    refine ⟨_, rfl, _, _, _, _, true, rfl, .ty "int", .base (.int i), kit_ty (by decide +kernel), true, rfl, iteT ?_⟩
    exact ⟨_, rfl, _, _, _, _, false, rfl, .ty "bool", .base (.int i), kit_ty (by decide +kernel), false, rfl, q _ (Same.refl H)⟩
abbrev sIsFrom : Stmt := topS 8
theorem scIsFrom : FnScope ["value", "low", "high"] ["value", "low", "high"] (defScope sIsFrom) := ⟨rfl, rfl, rfl, by decide +kernel, rfl, by decide +kernel, by decide +kernel⟩
def spIsFrom : Sp := fun vs H Q _ => ∃ i lo hi : Int, vs = [.int i, .int lo, .int hi] ∧ lo ≤ i ∧ i ≤ hi ∧ RetB true H Q
theorem at_is_from (D : Def K mg "is_from" sIsFrom ["value", "low", "high"]) (a1 : At P w K mg base "is_integer" 1 ["value"] spIsInteger) : At P w K mg base "is_from" 2 ["value", "low", "high"] spIsFrom := by
  refine D.at scIsFrom (fun vs H Q E h => ?_) (fun f cdv A outer s H vs Q E hr h => ?_)
  · obtain ⟨i, lo, hi, rfl, _⟩ := h; rfl
  · obtain ⟨i, lo, hi, rfl, h1, h2, q⟩ := h
    refine ⟨_, pss_one (ps_ret (pe_and (pe_at a1 hr (by decide) (pa_cons (pv 0) pa_nil)) (pe_one (pe_chain op_le op_le (pv 1) (pv 0) (pv 2))))), ?_⟩
    refine ⟨_, rfl, i, rfl, fun H1 s1 => ⟨true, rfl, iteT ?_⟩⟩
    refine ⟨_, rfl, _, rfl, _, _, rfl, rfl, true, (by show V.bl (decide (lo ≤ i)) = _; rw [decide_eq_true h1]), iteT ?_⟩
    refine ⟨_, rfl, _, _, rfl, rfl, ?_⟩
    show Q (.bl (decide (i ≤ hi))) H1
    rw [decide_eq_true h2]
    exact q H1 s1
abbrev sIsLine : Stmt := topS 9
theorem scIsLine : FnScope ["n", "value", "many"] ["n", "value"] (defScope sIsLine) := ⟨rfl, rfl, rfl, by decide +kernel, rfl, by decide +kernel, by decide +kernel⟩
def spIsLine (K : PySem.W.Frag) : Sp := fun vs H Q _ => ∃ (v : V) (r : List Int), vs = [.int (r.length : Int), v] ∧ Im K H v (rowK r) ∧ r.length ≤ 1000 ∧ (∀ i ∈ r, -1000 ≤ i ∧ i ≤ 1000) ∧ RetB true H Q
theorem at_is_line (D : Def K mg "is_line" sIsLine ["n", "value"]) (B : Bts mg) (a1 : At P w K mg base "is_from" 2 ["value", "low", "high"] spIsFrom) : At P w K mg base "is_line" 3 ["n", "value"] (spIsLine K) := by
  obtain ⟨t, mA⟩ := B.arrows
  refine D.at scIsLine (fun vs H Q E h => ?_) (fun f cdv A outer s H vs Q E hr h => ?_)
  · obtain ⟨v, r, rfl, _⟩ := h; rfl
  · obtain ⟨v, r, rfl, him, hlen, hin, q⟩ := h
    refine ⟨_, pss_cons (ps_if (PW.pt (pw_or (pt_not (pt_val (pe_callB call_isi (by rfl) B.isinstance (by decide +kernel) (pa_cons (pv 1) (pa_cons (pe_bltn (v := .ty "tuple") (by rfl) B.tuple (by decide +kernel) rfl) pa_nil)))))
        (pw_or1 (pt_cmpR op_ne (pe_callB call_len_seq (by rfl) B.len boot_len (pa_cons (pv 1) pa_nil)) (pv 0) (nomark _))))) (pss_one (ps_ret pe_bl)) pss_nil)
      (pss_one (ps_ret (pe_callB (cr_all rfl) (by rfl) B.all (by decide +kernel) (pa_cons (pe_lc (own := [("many", 2)]) (g := gName 2) (tt := tYes) (by rfl) scIsLine.nd (pi_tup (pv 1)) (blkOk_by (own := [("many", 2)]) (N := ["n", "value", "many"]) (sc := defScope sIsLine) (by decide +kernel)) (fun _ _ _ _ _ => pg_name (i := 2) scIsLine.nd rfl (Or.inl rfl))
        (fun _ _ _ _ _ => pts_nil) (fun _ _ _ _ _ => pe_at a1 hr (by decide) (pa_cons (pv 2) (pa_cons (pe_un un_neg (pe_glob (v := .int 1000) (by rfl) mA ⟨_, rfl⟩)) (pa_cons (pe_glob (v := .int 1000) (by rfl) mA ⟨_, rfl⟩) pa_nil))))) pa_nil)))), ?_⟩
    obtain ⟨a, xs, rfl, hs, ht⟩ := him.tup_inv
    have ex := im_ints_inv ht
    subst ex
    refine ⟨_, rfl, _, _, _, _, true, rfl, .ty "tuple", ty_tup hs, kit_ty (by decide +kernel), true, rfl, iteF ?_⟩
    refine ⟨_, rfl, a, _, rfl, .inr hs, _, rfl, rfl, _, rfl, ?_⟩
    rw [List.length_map, decide_eq_true (show (V.int (r.length : Int) = V.int (r.length : Int)) from rfl)]
    refine iteF ⟨_, rfl, a, rfl, ⟨_, hs⟩, fun D hD => lcV walk_tup hD (by rw [List.length_map]; omega) (fun _ => true) (fun _ => .bl true) (fun H s1 => Same.seqT s1 hs) (fun i x H H' hi s1 hy y C N hC hN => ?_) fun H' s1 hx => ?_⟩
    · obtain ⟨rfl, hx⟩ := y
      rw [List.getElem?_map] at hx
      obtain ⟨j, hj, rfl⟩ : ∃ j, r[i]? = some j ∧ V.int j = x := by
        cases e : r[i]? with
        | none => rw [e] at hx; cases hx
        | some j => rw [e] at hx; exact ⟨j, rfl, Option.some.inj hx⟩
      have hj2 := hin j (List.mem_of_getElem? hj)
      refine ⟨rfl, tyes ?_⟩
      exact ⟨_, rfl, 1000, rfl, j, -1000, 1000, rfl, hj2.1, hj2.2, fun H4 s4 => hC rfl H4 s4⟩
    · rw [List.length_map, all_range] at hx
      refine ⟨D, (List.range r.length).map fun _ => true, rfl, SqL.of (by rw [List.map_map]; exact hx), ?_⟩
      rw [show ((List.range r.length).map fun _ => true).all id = true by simp]
      exact q H' s1
end
end L2.DL
end

section
set_option Elab.async false
set_option linter.all false
set_option maxRecDepth 100000
/-! Layer M: readings of webs, and tables of rows (Mx). -/
namespace L2.DL
open PySem PySem.Spec PyProof.Rows
open DW (Web at2 Good IsOrd og Sh)
section
variable {K : PySem.W.Frag} {H H' H0 : Hp}
theorem tyesI {wi : TI} {σ : St} {H : Hp} {C : It → Hp → Prop} {N : Hp → Prop} (h : wi σ H C) : tYes σ H (fun b H3 => if b = true then wi σ H3 C else N H3) := by
  show (if true = true then wi σ H C else N H)
  rw [if_pos rfl]; exact h
theorem walk_r0 {n : Nat} : Walk (Itr 0 n) n (fun _ => True) (YFn fun i => .int (i : Nat)) := by
  have h := walk_range (lo := 0) (n := n)
  have e : (fun i : Nat => V.int (0 + (i : Int))) = fun i : Nat => V.int (i : Nat) := funext fun i => by rw [Int.zero_add]
  rw [e] at h
  exact h
theorem rd_rng {n : Nat} {R : It → Hp → Prop} (hn : n ≤ 100000) (q : R (Itr 0 n) H) : ∃ j : Int, [V.int ((n : Nat) : Int)] = [V.int j] ∧ -(2 ^ 62) ≤ j ∧ j < 2 ^ 62 ∧ R (Itr 0 j.toNat) H :=
  ⟨n, rfl, by omega, by omega, by rw [Int.toNat_natCast]; exact q⟩
theorem rd_tup {p : Addr} {xs : List V} {v : V} {j : Nat} {Q : VK} (hs : SqT K H p xs) (hx : xs[j]? = some v) (q : Q v H) : rIxT K (.ref p) (.int (j : Nat)) H Q := ⟨p, xs, j, v, rfl, rfl, hs, atI_nat hx, q⟩
theorem rd_lst {p : Addr} {xs : List V} {v : V} {j : Nat} {Q : VK} (hs : SqL K H p xs) (hx : xs[j]? = some v) (q : Q v H) : rIxL K (.ref p) (.int (j : Nat)) H Q := ⟨p, xs, j, v, rfl, rfl, hs, atI_nat hx, q⟩
theorem getD_some {α : Type} {l : List α} {i : Nat} (d : α) (h : i < l.length) : l[i]? = some (l.getD i d) := by simp [h]
theorem ix_row {v : V} {W : Web} {y : Nat} {Q : VK} (h : Im K H v (webK W)) (hy : y < W.length) (q : ∀ u, Im K H u (rowK (W.getD y [])) → Q u H) : rIxT K v (.int (y : Nat)) H Q := by
  obtain ⟨a, xs, rfl, hs, ht⟩ := h.tup_inv
  obtain ⟨x, hx, hi⟩ := ht.get (i := y) (k := rowK (W.getD y [])) (by rw [List.getElem?_map, getD_some [] hy]; rfl)
  exact rd_tup hs hx (q x hi)
theorem ix_cell {v : V} {r : List Int} {z : Nat} {Q : VK} (h : Im K H v (rowK r)) (hz : z < r.length) (q : Q (.int (r.getD z 0)) H) : rIxT K v (.int (z : Nat)) H Q := by
  obtain ⟨a, xs, rfl, hs, ht⟩ := h.tup_inv
  have e := im_ints_inv ht
  subst e
  exact rd_tup hs (by rw [List.getElem?_map, getD_some 0 hz]; rfl) q
structure rLen (K : PySem.W.Frag) (xs : List V) (H : Hp) (Q : VK) : Prop where
  ex : ∃ p ys, xs = [.ref p] ∧ (SqL K H p ys ∨ SqT K H p ys) ∧ Q (.int (ys.length : Nat)) H
theorem rd_len {v : V} {ks : List NestedKey} {Q : VK} (h : Im K H v (.tup ks)) (q : Q (.int (ks.length : Nat)) H) : rLen K [v] H Q := by
  obtain ⟨a, xs, rfl, hs, ht⟩ := h.tup_inv
  exact ⟨⟨a, xs, rfl, .inr hs, by rw [ht.length]; exact q⟩⟩
theorem rd_lenW {v : V} {W : Web} {n : Nat} {Q : VK} (h : Im K H v (webK W)) (hn : W.length = n) (q : Q (.int (n : Nat)) H) : rLen K [v] H Q :=
  rd_len h (by rw [List.length_map, hn]; exact q)
theorem rd_lenL {p : Addr} {xs : List V} {n : Nat} {Q : VK} (h : SqL K H p xs) (hn : xs.length = n) (q : Q (.int (n : Nat)) H) : rLen K [.ref p] H Q :=
  ⟨⟨p, xs, rfl, .inl h, by rw [hn]; exact q⟩⟩
/-- web[y][z] -/
theorem ix_web {n y : Nat} {v : V} {W : Web} {Q : VK} (g : Sh n W) (h : Im K H v (webK W)) (hy : y < n) (q : ∀ u, (∀ z, z < n → ∀ R : VK, R (.int (at2 W y z)) H → rIxT K u (.int (z : Nat)) H R) → Q u H) : rIxT K v (.int (y : Nat)) H Q :=
  ix_row h (by rw [g.len]; exact hy) fun u hu => q u fun z hz R r => ix_cell hu (by
    obtain ⟨_, h1, h2, h3⟩ := DW.sh_get g hy
    rw [h3, h2]; exact hz) r
/-! ### rows of a table, new since H0 -/
structure Mx (H0 H : Hp) (t : Addr) (T : Web) (ps : List Addr) : Prop where
  len : ps.length = T.length
  nd : ps.Nodup
  new : H0 t = none
  tab : H t = some (.lst (ps.map V.ref))
  row : ∀ i, i < T.length → H0 (ps.getD i 0) = none ∧ ps.getD i 0 ≠ t ∧ H (ps.getD i 0) = some (.lst ((T.getD i []).map V.int))
theorem Mx.mono {t : Addr} {T : Web} {ps : List Addr} (m : Mx H0 H t T ps) (e : ∀ b o, H0 b = none → H b = some o → H' b = some o) : Mx H0 H' t T ps :=
  ⟨m.len, m.nd, m.new, e _ _ m.new m.tab, fun i hi => ⟨(m.row i hi).1, (m.row i hi).2.1, e _ _ (m.row i hi).1 (m.row i hi).2.2⟩⟩
theorem Mx.same {t : Addr} {T : Web} {ps : List Addr} (m : Mx H0 H t T ps) (e : Same H H') : Mx H0 H' t T ps := m.mono fun b o _ h => e b o h
theorem Mx.nil {t : Addr} (h : H0 t = none) : Mx H0 (upd H t (.lst [])) t [] [] := ⟨rfl, .nil, h, upd_same, fun i hi => absurd hi (Nat.not_lt_zero _)⟩
theorem getD_append_lt {α : Type} {l m : List α} {i : Nat} {d : α} (h : i < l.length) : (l ++ m).getD i d = l.getD i d := by
  simp [List.getElem?_append_left h]
theorem getD_append_eq {α : Type} {l : List α} {x d : α} : (l ++ [x]).getD l.length d = x := by simp
theorem getD_mem {α : Type} {l : List α} {i : Nat} {d : α} (h : i < l.length) : l.getD i d ∈ l := by
  rw [← List.getElem_eq_getD (h := h) d]; exact List.getElem_mem h
/-- a row is put behind -/
theorem Mx.push {t p : Addr} {T : Web} {ps : List Addr} {r : List Int} (m : Mx H0 H t T ps) (e : Same H H') (h0 : Same H0 H) (hp : H p = none) (hr : H' p = some (.lst (r.map V.int))) : Mx H0 (upd H' t (.lst ((ps ++ [p]).map V.ref))) t (T ++ [r]) (ps ++ [p]) := by
  have npt : p ≠ t := fun q => by rw [q, m.tab] at hp; cases hp
  have np0 : H0 p = none := by
    cases q : H0 p with
    | none => rfl
    | some o => rw [h0 _ _ q] at hp; cases hp
  have np : p ∉ ps := fun q => by
    obtain ⟨i, hi, q⟩ := List.getElem_of_mem q
    have := (m.row i (by rw [← m.len]; exact hi)).2.2
    rw [← List.getElem_eq_getD (h := hi) 0, q, hp] at this
    cases this
  refine ⟨by simp [m.len], ?_, m.new, upd_same, fun i hi => ?_⟩
  · rw [List.nodup_append]
    refine ⟨m.nd, by simp, fun a ha b hb => ?_⟩
    rw [List.mem_singleton.mp hb]
    exact fun q => np (q ▸ ha)
  · rw [List.length_append] at hi
    by_cases hl : i < T.length
    · rw [getD_append_lt (by rw [m.len]; exact hl), getD_append_lt hl]
      have h := m.row i hl
      exact ⟨h.1, h.2.1, by rw [upd_ne h.2.1]; exact e _ _ h.2.2⟩
    · have q : i = T.length := by simp at hi; omega
      subst q
      rw [getD_append_eq, show (ps ++ [p]).getD T.length 0 = p by rw [← m.len]; exact getD_append_eq]
      exact ⟨np0, npt, by rw [upd_ne npt]; exact hr⟩
theorem getD_set {α : Type} {l : List α} {i j : Nat} {x d : α} (h : i < l.length) : (l.set i x).getD j d = if i = j then x else l.getD j d := by
  by_cases e : i = j
  · subst e; simp [h]
  · simp [List.getElem?_set, e]
theorem nodup_getD {α : Type} {l : List α} {i j : Nat} {d : α} (h : l.Nodup) (hi : i < l.length) (hj : j < l.length) (e : l.getD i d = l.getD j d) : i = j := by
  have h1 : l[i]? = some (l.getD i d) := by simp [hi]
  have h2 : l[j]? = some (l.getD j d) := by simp [hj]
  rw [e] at h1
  obtain ⟨h3, h4⟩ := List.getElem?_eq_some_iff.mp h1
  obtain ⟨h5, h6⟩ := List.getElem?_eq_some_iff.mp h2
  exact (List.getElem_inj h).mp (h4.trans h6.symm)
/-- a store into a row -/
theorem Mx.set {t : Addr} {T : Web} {ps : List Addr} {i : Nat} {r : List Int} (m : Mx H0 H t T ps) (hi : i < T.length) : Mx H0 (upd H (ps.getD i 0) (.lst (r.map V.int))) t (T.set i r) ps := by
  have hr := m.row i hi
  refine ⟨by rw [List.length_set]; exact m.len, m.nd, m.new, by rw [upd_ne (Ne.symm hr.2.1)]; exact m.tab, fun j hj => ?_⟩
  rw [List.length_set] at hj
  have hq := m.row j hj
  refine ⟨hq.1, hq.2.1, ?_⟩
  rw [getD_set hi]
  by_cases e : i = j
  · subst e; rw [upd_same, if_pos rfl]
  · rw [upd_ne fun q => e (nodup_getD m.nd (by rw [m.len]; exact hi) (by rw [m.len]; exact hj) q.symm), if_neg e]
    exact hq.2.2
theorem Mx.ix {t : Addr} {T : Web} {ps : List Addr} {i : Nat} {Q : VK} (m : Mx H0 H t T ps) (hi : i < T.length) (q : Q (.ref (ps.getD i 0)) H) : rIxL K (.ref t) (.int (i : Nat)) H Q :=
  rd_lst (SqL.of m.tab) (by rw [List.getElem?_map, getD_some 0 (by rw [m.len]; exact hi)]; rfl) q
theorem Mx.cell {t : Addr} {T : Web} {ps : List Addr} {i j : Nat} {Q : VK} (m : Mx H0 H t T ps) (hi : i < T.length) (hj : j < (T.getD i []).length) (q : Q (.int (at2 T i j)) H) : rIxL K (.ref t) (.int (i : Nat)) H fun u H1 => rIxL K u (.int (j : Nat)) H1 Q :=
  m.ix hi (rd_lst (SqL.of (m.row i hi).2.2) (by rw [List.getElem?_map, getD_some 0 hj]; rfl) q)
/-- T with v at i, j -/
def put2 (T : Web) (i j : Nat) (v : Int) : Web := T.set i ((T.getD i []).set j v)
theorem ixN_nat {n j : Nat} (h : j < n) : ixN n (j : Nat) = some j := by
  unfold ixN
  simp [h]
theorem Mx.store {t : Addr} {T : Web} {ps : List Addr} {i j : Nat} {v : Int} {Q : Hp → Prop} (m : Mx H0 H t T ps) (h0 : Same H0 H) (hi : i < T.length) (hj : j < (T.getD i []).length)
    (q : ∀ H', Same H0 H' → Mx H0 H' t (put2 T i j v) ps → Q H') : rIxL K (.ref t) (.int (i : Nat)) H fun u H1 => rSetL u (.int (j : Nat)) (.int v) H1 Q := by
  have hr := m.row i hi
  refine m.ix hi ⟨_, _, j, j, rfl, rfl, hr.2.2, by rw [List.length_map]; exact ixN_nat hj, ?_⟩
  rw [show ((T.getD i []).map V.int).set j (V.int v) = ((T.getD i []).set j v).map V.int by rw [List.map_set]]
  exact q _ (same_grow h0 hr.1) (m.set hi)
theorem put2_len {T : Web} {i j : Nat} {v : Int} : (put2 T i j v).length = T.length := by simp [put2]
theorem put2_sh {n : Nat} {T : Web} {i j : Nat} {v : Int} (g : Sh n T) : Sh n (put2 T i j v) := by
  refine ⟨by rw [put2_len]; exact g.len, fun r hr => ?_⟩
  by_cases h : i < T.length
  · unfold put2 at hr
    rcases List.mem_or_eq_of_mem_set hr with h1 | h1
    · exact g.row r h1
    · rw [h1, List.length_set]; exact g.row _ (getD_mem h)
  · unfold put2 at hr
    rw [List.set_eq_of_length_le (by omega)] at hr
    exact g.row r hr
theorem put2_at {n : Nat} {T : Web} {i j y z : Nat} {v : Int} (g : Sh n T) (hi : i < n) (hj : j < n) : at2 (put2 T i j v) y z = if i = y ∧ j = z then v else at2 T y z := by
  unfold at2 put2
  rw [getD_set (by rw [g.len]; exact hi)]
  by_cases e : i = y
  · subst e
    rw [if_pos rfl, getD_set (by obtain ⟨r, _, h2, h3⟩ := DW.sh_get g hi; rw [h3, h2]; exact hj)]
    simp
  · rw [if_neg e, if_neg fun h => e h.1]
theorem sh_row {n : Nat} {T : Web} {i : Nat} (g : Sh n T) (hi : i < n) : (T.getD i []).length = n := by
  obtain ⟨r, _, h2, h3⟩ := DW.sh_get g hi
  rw [h3, h2]
/-- what frozen reads: a list of lists -/
def Rows (K : PySem.W.Frag) (H : Hp) (t : Addr) (T : Web) : Prop := ∃ ps : List Addr, SqL K H t (ps.map V.ref) ∧ ps.length = T.length ∧ ∀ i, i < T.length → SqL K H (ps.getD i 0) ((T.getD i []).map V.int)
theorem Mx.rows {t : Addr} {T : Web} {ps : List Addr} (m : Mx H0 H t T ps) : Rows K H t T := ⟨ps, SqL.of m.tab, m.len, fun i hi => SqL.of (m.row i hi).2.2⟩
end
/-! ### rules with the written part told -/
section
variable {X : Cx}
theorem call_lenK : CallR X (.builtin "len") (rLen X.K) := fun pins s σ H vs us Q I r h => call_len_seq pins s σ H vs us Q I r h.ex
theorem pe_tupK (K : PySem.W.Frag) (hK : X.K = K) {a : Expr} {ta : TE} {p pos : Pos} (hg : Gl X "tuple") (hm : X.mg "tuple" = none) (ha : PE X a ta) (na : starEach [a] X.env = (false, eval a X.env) :: starEach [] X.env := by rfl) : PE X (.Call (.Name "tuple" p) [a] [] pos) (tThen ta (kTup K)) := by
  subst hK; exact pe_tupleOf hg hm ha na
theorem pi_tupK (K : PySem.W.Frag) (hK : X.K = K) {tg l : Expr} {tl : TE} (hl : PE X l tl) : PI X tg l (iTup K tl) := by subst hK; exact pi_tup hl
theorem pi_listK (K : PySem.W.Frag) (hK : X.K = K) {tg l : Expr} {tl : TE} (hl : PE X l tl) : PI X tg l (iList K tl) := by subst hK; exact pi_list hl
end
end L2.DL
end

section
set_option Elab.async false
set_option linter.all false
set_option maxRecDepth 100000
/-! Walk B: is_web, need_web, arrows_of, frozen, added_by. -/
namespace L2.DL
open PySem PySem.Spec PyProof.Rows
open DW (Web at2 Good IsOrd og Sh)
/-- the web W of n nodes stands at v -/
structure Wb (K : PySem.W.Frag) (H : Hp) (v : V) (n : Nat) (W : Web) : Prop where
  im : Im K H v (webK W)
  good : Good n W
  pos : 1 ≤ n
  few : n ≤ 5
theorem Wb.same {K : PySem.W.Frag} {H H' : Hp} {v : V} {n : Nat} {W : Web} (h : Wb K H v n W) (e : Same H H') : Wb K H' v n W := ⟨h.im.same e, h.good, h.pos, h.few⟩
theorem Wb.len {K : PySem.W.Frag} {H : Hp} {v : V} {n : Nat} {W : Web} (h : Wb K H v n W) : W.length = n := h.good.sh.len
theorem Wb.row {K : PySem.W.Frag} {H : Hp} {v : V} {n : Nat} {W : Web} (h : Wb K H v n W) {y : Nat} (hy : y < n) : (W.getD y []).length = n := sh_row h.good.sh hy
theorem all_true {α : Type} : ∀ {as : List α} {xs : List V}, Paired (fun _ v => v = V.bl true) as xs → xs = xs.map (V.bl ∘ fun _ => true)
  | _, _, .nil => rfl
  | _, _, .cons h t => by rw [List.map_cons, ← all_true t, h]; rfl
section
variable {P : Program} {w : World} {K : PySem.W.Frag} {mg : Str → Option Value} {base : Heap}
abbrev sIsWeb : Stmt := topS 10
theorem scIsWeb : FnScope ["value", "n", "line", "y", "z"] ["value"] (defScope sIsWeb) := ⟨rfl, rfl, rfl, by decide +kernel, rfl, by decide +kernel, by decide +kernel⟩
def spIsWeb (K : PySem.W.Frag) : Sp := fun vs H Q _ => ∃ v n W, vs = [v] ∧ Wb K H v n W ∧ RetB true H Q
theorem at_is_web (D : Def K mg "is_web" sIsWeb ["value"]) (B : Bts mg) (a1 : At P w K mg base "is_line" 3 ["n", "value"] (spIsLine K)) : At P w K mg base "is_web" 4 ["value"] (spIsWeb K) := by
  obtain ⟨t, mN⟩ := B.nodes
  refine D.at scIsWeb (fun vs H Q E h => ?_) (fun f cdv A outer s H vs Q E hr h => ?_)
  · obtain ⟨v, n, W, rfl, _⟩ := h; rfl
  · obtain ⟨v, n, W, rfl, hw, q⟩ := h
    refine ⟨_, (pss_cons (ps_if (PW.pt (pw_or (pt_not (pt_val (pe_callB call_isi (by rfl) B.isinstance (by decide +kernel) (pa_cons (pv 0) (pa_cons (pe_bltn (v := .ty "tuple") (by rfl) B.tuple (by decide +kernel) rfl) pa_nil)))))
        (pw_or1 (pt_not (pt_chain op_le op_le pe_int (pe_callB (r := rLen K) call_lenK (by rfl) B.len boot_len (pa_cons (pv 0) pa_nil)) (pe_glob (v := .int 6) (by rfl) mN ⟨_, rfl⟩)))))) (pss_one (ps_ret pe_bl)) pss_nil) (pss_cons ((ps_set (i := 1) scIsWeb.nd rfl (Or.inr rfl) ((pe_callB (r := rLen K) call_lenK (by rfl) B.len boot_len (pa_cons (pv 0) pa_nil))))) (pss_cons (ps_if (pt_not (pt_val (pe_callB (cr_all rfl) (by rfl) B.all (by decide +kernel) (pa_cons (pe_lc (own := [("line", 2)]) (g := gName 2) (tt := tYes) (by rfl) scIsWeb.nd (pi_tup (pv 0)) (blkOk_by (own := [("line", 2)]) (N := ["value", "n", "line", "y", "z"]) (sc := defScope sIsWeb) (by decide +kernel)) (fun _ _ _ _ _ => pg_name (i := 2) scIsWeb.nd rfl (Or.inl rfl)) (fun _ _ _ _ _ => pts_nil) (fun _ _ _ _ _ => (pe_at a1 hr (by decide) (pa_cons (pv 1) (pa_cons (pv 2) pa_nil))))) pa_nil)))) (pss_one (ps_ret pe_bl)) pss_nil) (pss_one (ps_ret (pe_callB (cr_all rfl) (by rfl) B.all (by decide +kernel) (pa_cons (pe_lc2 (own := [("y", 3), ("z", 4)]) (vs1 := [4]) (g := gName 3) (g1 := gName 4) (tt := tYes) (tt1 := tYes) (by rfl) scIsWeb.nd ((pi_range1 (by rfl) B.range (pa_cons (pv 1) pa_nil))) (blkOk_by (own := [("y", 3), ("z", 4)]) (N := ["value", "n", "line", "y", "z"]) (sc := defScope sIsWeb) (by decide +kernel)) (by decide) (fun _ _ _ _ _ => pg_name (i := 3) scIsWeb.nd rfl (Or.inl rfl)) (fun _ _ _ _ _ => pts_nil) (fun _ _ _ _ _ => (pi_range1 (by rfl) B.range (pa_cons (pv 1) pa_nil))) (fun _ _ _ _ _ => pg_name (i := 4) scIsWeb.nd rfl (Or.inl rfl)) (fun _ _ _ _ _ => pts_nil) (fun _ _ _ _ _ => (pe_cmpR op_eq ((pe_ix (r := rIxT K) ix_tup ((pe_ix (r := rIxT K) ix_tup (pv 0) (pv 3) (fun _ _ => rfl))) (pv 4) (fun _ _ => rfl))) (pe_un un_neg (pe_ix (r := rIxT K) ix_tup ((pe_ix (r := rIxT K) ix_tup (pv 0) (pv 4) (fun _ _ => rfl))) (pv 3) (fun _ _ => rfl))) (nomark _)))) pa_nil))))))), ?_⟩
    obtain ⟨a, xs, rfl, hs, ht⟩ := hw.im.tup_inv
    have hl : xs.length = n := by rw [ht.length, List.length_map, hw.len]
    have h1 := hw.pos
    have h5 := hw.few
    refine ⟨_, rfl, _, _, _, _, true, rfl, .ty "tuple", ty_tup hs, kit_ty (by decide +kernel), true, rfl, iteF ?_⟩
    refine ⟨_, rfl, ⟨a, _, rfl, .inr hs, _, _, rfl, rfl, true, (by show V.bl (decide (1 ≤ (xs.length : Int))) = _; rw [decide_eq_true]; omega), iteT ?_⟩⟩
    refine ⟨_, _, rfl, rfl, true, (by show V.bl (decide ((xs.length : Int) ≤ 6)) = _; rw [decide_eq_true]; omega), iteF ?_⟩
    refine ⟨_, rfl, ⟨a, _, rfl, .inr hs, ?_⟩⟩
    rw [hl]
    refine ⟨_, rfl, a, rfl, ⟨_, hs⟩, fun D hD => lcV walk_tup hD (by omega) (fun _ => true) (fun _ => .bl true) (fun H s1 => Same.seqT s1 hs) (fun i x H H' hi s1 hy y C N hC hN => ?_) fun H' s1 hx => ?_⟩
    · obtain ⟨rfl, hx⟩ := y
      obtain ⟨k, hk, hv⟩ := ht.at hx
      rw [List.getElem?_map] at hk
      obtain ⟨r, hr1, rfl⟩ : ∃ r, W[i]? = some r ∧ rowK r = k := by
        cases e : W[i]? with
        | none => rw [e] at hk; cases hk
        | some j => rw [e] at hk; exact ⟨j, rfl, Option.some.inj hk⟩
      have hrn : r.length = n := hw.good.sh.row r (List.mem_of_getElem? hr1)
      refine ⟨rfl, tyes ?_⟩
      refine ⟨_, rfl, _, rfl, x, r, by rw [hrn]; rfl, hv.same s1, by omega, fun j hj => ?_, fun H4 s4 => hC rfl H4 s4⟩
      obtain ⟨z, hz, rfl⟩ := List.getElem_of_mem hj
      have hi' : i < n := by rw [← hl]; exact hi
      have e2 : at2 W i z = r[z] := by
        unfold at2
        rw [DW.getD_of hr1]
        simp [hz]
      have l1 := hw.good.low hi' (show z < n by omega)
      have l2 := hw.good.one i hi' z (by omega)
      rw [e2] at l1 l2
      omega
    · rw [all_range] at hx
      refine ⟨D, (List.range xs.length).map fun _ => true, rfl, SqL.of (by rw [List.map_map]; exact hx), ?_⟩
      rw [show ((List.range xs.length).map fun _ => true).all id = true by simp]
      refine ⟨true, rfl, iteF ?_⟩
      have hw2 := hw.same s1
      refine ⟨_, rfl, (n : Int), rfl, by omega, by omega, fun D2 hD2 => lc2G (walk_r0 (n := n)) hD2 (fun _ => n) (B := n) (fun _ _ => Nat.le_refl _) (Nat.le_trans (Nat.mul_le_mul h5 h5) (by decide)) (fun _ _ => true) (fun _ _ _ v => v = .bl true) (fun _ _ _ _ _ _ _ _ _ h => h) (fun _ _ => trivial) (fun i x H2 H3 hi s2 hy y X1 N next => ?_) fun H4 xs4 s4 hx4 pr => ?_⟩
      · obtain ⟨rfl, rfl⟩ := y
        refine ⟨rfl, tyesI ?_⟩
        refine ⟨_, rfl, (n : Int), rfl, by omega, by omega, (next _ _ _ _ _ (Same.refl _) (walk_r0 (n := n)) (fun _ _ _ => trivial) fun j x H5 H6 hj s5 _ _ y C N hC _ => ?_)⟩
        obtain ⟨rfl, rfl⟩ := y
        refine ⟨rfl, tyes ?_⟩
        have hw5 := hw2.same s5
        refine ⟨_, rfl, _, rfl, ix_web hw5.good.sh hw5.im hi fun u hu => ⟨_, rfl, hu _ hj _ ⟨_, rfl, _, rfl, ix_web hw5.good.sh hw5.im hj fun u2 hu2 => ⟨_, rfl, hu2 _ hi _ ⟨_, rfl, rfl, ?_⟩⟩⟩⟩⟩
        refine hC rfl _ _ (Same.refl _) ?_
        show V.bl _ = _
        rw [decide_eq_true]
        rw [hw5.good.anti i hi j hj]
      · refine ⟨D2, xs4.map fun _ => true, rfl, SqL.of (by rw [List.map_map, ← all_true pr]; exact hx4), ?_⟩
        rw [show (xs4.map fun _ => true).all id = true by simp]
        exact q H4 (s1.trans s4)
end
end L2.DL
end

section
set_option Elab.async false
set_option linter.all false
set_option maxRecDepth 100000
/-! Walk C: need_web, arrows_of, frozen, added_by, neighbours. -/
namespace L2.DL
open PySem PySem.Spec PyProof.Rows
open DW (Web at2 Good IsOrd og Sh)
theorem ijs_many (n : Nat) (W : Web) : (ijs (fun _ => n) (fun i j => decide (0 < at2 W i j)) n).length = DW.many n W := by
  unfold ijs DW.many
  rw [List.length_flatMap, List.length_flatMap]
  congr 1
  refine List.map_congr_left fun y _ => ?_
  rw [List.length_map]
  induction List.range n with
  | nil => rfl
  | cons z l ih => by_cases h : 0 < at2 W y z <;> simp [h, ih]
section
variable {P : Program} {w : World} {K : PySem.W.Frag} {mg : Str → Option Value} {base : Heap}
abbrev sNeedWeb : Stmt := topS 11
theorem scNeedWeb : FnScope ["value"] ["value"] (defScope sNeedWeb) := ⟨rfl, rfl, rfl, by decide +kernel, rfl, by decide +kernel, by decide +kernel⟩
def spNeedWeb (K : PySem.W.Frag) : Sp := fun vs H Q _ => ∃ v n W, vs = [v] ∧ Wb K H v n W ∧ ∀ H', Same H H' → Q .non H'
theorem at_need_web (D : Def K mg "need_web" sNeedWeb ["value"]) (a1 : At P w K mg base "is_web" 4 ["value"] (spIsWeb K)) : At P w K mg base "need_web" 5 ["value"] (spNeedWeb K) := by
  refine D.at scNeedWeb (fun vs H Q E h => ?_) (fun f cdv A outer s H vs Q E hr h => ?_)
  · obtain ⟨v, n, W, rfl, _⟩ := h; rfl
  · obtain ⟨v, n, W, rfl, hw, q⟩ := h
    refine ⟨_, pss_one (ps_if (pt_not (pt_val (pe_at a1 hr (by decide) (pa_cons (pv 0) pa_nil)))) pss_never pss_nil), ?_⟩
    exact ⟨_, rfl, v, n, W, rfl, hw, fun H1 s1 => ⟨true, rfl, iteF (q H1 s1)⟩⟩
abbrev sArrowsOf : Stmt := topS 12
theorem scArrowsOf : FnScope ["web", "n", "y", "z"] ["web"] (defScope sArrowsOf) := ⟨rfl, rfl, rfl, by decide +kernel, rfl, by decide +kernel, by decide +kernel⟩
def spArrowsOf (K : PySem.W.Frag) : Sp := fun vs H Q _ => ∃ v n W, vs = [v] ∧ Wb K H v n W ∧ ∀ H' p xs, Same H H' → H' p = some (.lst xs) → xs.length = DW.many n W → Q (.ref p) H'
theorem at_arrows_of (D : Def K mg "arrows_of" sArrowsOf ["web"]) (B : Bts mg) : At P w K mg base "arrows_of" 1 ["web"] (spArrowsOf K) := by
  refine D.at scArrowsOf (fun vs H Q E h => ?_) (fun f cdv A outer s H vs Q E hr h => ?_)
  · obtain ⟨v, n, W, rfl, _⟩ := h; rfl
  · obtain ⟨v, n, W, rfl, hw, q⟩ := h
    refine ⟨_, (pss_cons ((ps_set (i := 1) scArrowsOf.nd rfl (Or.inr rfl) ((pe_callB (r := rLen K) call_lenK (by rfl) B.len boot_len (pa_cons (pv 0) pa_nil))))) (pss_one (ps_ret (pe_lc2 (own := [("y", 2), ("z", 3)]) (vs1 := [3]) (g := gName 2) (g1 := gName 3) (tt := tYes) (by rfl) scArrowsOf.nd ((pi_range1 (by rfl) B.range (pa_cons (pv 1) pa_nil))) (blkOk_by (own := [("y", 2), ("z", 3)]) (N := ["web", "n", "y", "z"]) (sc := defScope sArrowsOf) (by decide +kernel)) (by decide) (fun _ _ _ _ _ => pg_name (i := 2) scArrowsOf.nd rfl (Or.inl rfl)) (fun _ _ _ _ _ => pts_nil) (fun _ _ _ _ _ => (pi_range1 (by rfl) B.range (pa_cons (pv 1) pa_nil))) (fun _ _ _ _ _ => pg_name (i := 3) scArrowsOf.nd rfl (Or.inl rfl)) (fun _ _ _ _ _ => pts_one ((pt_cmpR op_gt ((pe_ix (r := rIxT K) ix_tup ((pe_ix (r := rIxT K) ix_tup (pv 0) (pv 2) (fun _ _ => rfl))) (pv 3) (fun _ _ => rfl))) (pe_int) (nomark _)))) (fun _ _ _ _ _ => (pe_tup (pa_cons (pv 2) (pa_cons (pv 3) (pa_cons ((pe_ix (r := rIxT K) ix_tup ((pe_ix (r := rIxT K) ix_tup (pv 0) (pv 2) (fun _ _ => rfl))) (pv 3) (fun _ _ => rfl))) pa_nil))))))))), ?_⟩
    have h5 := hw.few
    refine ⟨_, rfl, rd_lenW hw.im hw.len ?_⟩
    refine ⟨_, rfl, (n : Int), rfl, by omega, by omega, fun D2 hD2 => lc2G (walk_r0 (n := n)) hD2 (fun _ => n) (B := n) (fun _ _ => Nat.le_refl _) (Nat.le_trans (Nat.mul_le_mul h5 h5) (by decide)) (fun i j => decide (0 < at2 W i j)) (fun _ _ _ _ => True) (fun _ _ _ _ _ _ _ _ _ h => h) (fun _ _ => trivial) (fun i x H2 H3 hi s2 hy y X1 N next => ?_) fun H4 xs4 s4 hx4 pr => ?_⟩
    · obtain ⟨rfl, rfl⟩ := y
      refine ⟨rfl, tyesI ?_⟩
      refine ⟨_, rfl, (n : Int), rfl, by omega, by omega, (next _ _ _ _ _ (Same.refl _) (walk_r0 (n := n)) (fun _ _ _ => trivial) fun j x H5 H6 hj s5 _ _ y C N hC hN => ?_)⟩
      obtain ⟨rfl, rfl⟩ := y
      have hw5 := hw.same s5
      refine ⟨rfl, _, rfl, _, rfl, ix_web hw5.good.sh hw5.im hi fun u hu => ⟨_, rfl, hu _ hj _ ⟨_, _, rfl, rfl, _, rfl, ite2 (fun hp => ?_) fun hp => ?_⟩⟩⟩
      · refine ⟨_, rfl, _, rfl, _, rfl, _, rfl, ix_web hw5.good.sh hw5.im hi fun u hu => ⟨_, rfl, hu _ hj _ ⟨by show 3 ≤ sizeLine; decide, fun t ht => hC (by simp [hp]) _ _ (same_new ht) trivial⟩⟩⟩
      · exact hN (by simp [hp]) _ (Same.refl _)
    · refine q H4 D2 xs4 s4 hx4 ?_
      rw [← Paired.length pr, ijs_many]
abbrev sFrozen : Stmt := topS 13
theorem scFrozen : FnScope ["table", "line"] ["table"] (defScope sFrozen) := ⟨rfl, rfl, rfl, by decide +kernel, rfl, by decide +kernel, by decide +kernel⟩
def spFrozen (K : PySem.W.Frag) : Sp := fun vs H Q _ => ∃ t T, vs = [.ref t] ∧ Rows K H t T ∧ T.length ≤ 100000 ∧ Ret K (webK T) H Q
theorem Rows.same {H H' : Hp} {t : Addr} {T : Web} (h : Rows K H t T) (e : Same H H') (lst : ∀ a xs, SqL K H a xs → SqL K H' a xs) : Rows K H' t T := by
  obtain ⟨ps, h1, h2, h3⟩ := h
  exact ⟨ps, lst _ _ h1, h2, fun i hi => lst _ _ (h3 i hi)⟩
theorem sql_same {H H' : Hp} {a : Addr} {xs : List V} (e : Same H H') (h : SqL K H a xs) : SqL K H' a xs := by
  rcases h with (h | ⟨o, h⟩) | h
  · exact .inl (.inl (e _ _ h))
  · exact .inl (.inr ⟨o, e _ _ h⟩)
  · exact .inr h
theorem webK_range {T : Web} : (List.range T.length).map (fun i => rowK (T.getD i [])) = T.map rowK := by
  refine List.ext_getElem (by simp) fun i h1 h2 => ?_
  simp at h1
  simp [h1]
/-- tuple(line): from a list of ints a new tuple of them -/
theorem tup_row {H : Hp} {a : Addr} {r : List Int} {Q : VK} (h : SqL K H a (r.map V.int)) (q : ∀ H' v, Same H H' → Im K H' v (rowK r) → Q v H') : kTup K (.ref a) H Q :=
  .inl ⟨a, _, rfl, h, fun p hp => q _ _ (same_new hp) (.tup (SqT.of upd_same) (im_ints r))⟩
/-- tuple(list of unchanging things) -/
theorem tup_all {H : Hp} {a : Addr} {xs : List V} {ks : List NestedKey} {Q : VK} (h : SqL K H a xs) (him : ImAll K H xs ks) (q : ∀ H' v, Same H H' → Im K H' v (.tup ks) → Q v H') : kTup K (.ref a) H Q :=
  .inl ⟨a, _, rfl, h, fun p hp => q _ _ (same_new hp) (.tup (SqT.of upd_same) (him.same (same_new hp)))⟩
theorem at_frozen (D : Def K mg "frozen" sFrozen ["table"]) (B : Bts mg) : At P w K mg base "frozen" 1 ["table"] (spFrozen K) := by
  refine D.at scFrozen (fun vs H Q E h => ?_) (fun f cdv A outer s H vs Q E hr h => ?_)
  · obtain ⟨t, T, rfl, _⟩ := h; rfl
  · obtain ⟨t, T, rfl, ⟨ps, h1, h2, h3⟩, hn, q⟩ := h
    refine ⟨_, pss_one (ps_ret (pe_tupK K rfl (by rfl) B.tuple ((pe_lc (own := [("line", 1)]) (g := gName 1) (tt := tYes) (by rfl) scFrozen.nd ((pi_listK K rfl (pv 0))) (blkOk_by (own := [("line", 1)]) (N := ["table", "line"]) (sc := defScope sFrozen) (by decide +kernel)) (fun _ _ _ _ _ => pg_name (i := 1) scFrozen.nd rfl (Or.inl rfl)) (fun _ _ _ _ _ => pts_nil) (fun _ _ _ _ _ => (pe_tupK K rfl (by rfl) B.tuple (pv 1))))))), ?_⟩
    have hl : (ps.map V.ref).length = T.length := by rw [List.length_map, h2]
    refine ⟨_, rfl, t, rfl, ⟨_, h1⟩, fun D2 hD2 => lcIm walk_list (K := K) hD2 (by rw [hl]; exact hn) (fun _ => true) (fun i => rowK (T.getD i [])) (fun H' s1 => sql_same s1 h1) (fun i x H2 H3 hi s1 hy y C N hC hN => ?_) fun H4 xs s4 hx him => ?_⟩
    · obtain ⟨rfl, hx⟩ := y
      rw [hl] at hi
      rw [List.getElem?_map, getD_some 0 (by rw [h2]; exact hi)] at hx
      obtain rfl := Option.some.inj hx
      exact ⟨rfl, tyes ⟨_, rfl, tup_row (sql_same s1 (h3 i hi)) fun H' v s2 hv => hC rfl v H' s2 hv⟩⟩
    · rw [all_range, hl, webK_range] at him
      exact tup_all (SqL.of hx) him fun H' v s5 hv => q H' v (s4.trans s5) hv
abbrev sAddedBy : Stmt := topS 14
theorem scAddedBy : FnScope ["left", "right"] ["left", "right"] (defScope sAddedBy) := ⟨rfl, rfl, rfl, by decide +kernel, rfl, by decide +kernel, by decide +kernel⟩
def spAddedBy : Sp := fun vs H Q _ => ∃ l r : Int, vs = [.int l, .int r] ∧ (-1 ≤ l ∧ l ≤ 1) ∧ (-1 ≤ r ∧ r ≤ 1) ∧ ∀ H', Same H H' → Q (.int (DW.added l r)) H'
theorem abs_eq (i : Int) : (if i < 0 then -i else i) = (i.natAbs : Int) := by
  split <;> omega
theorem at_added_by (D : Def K mg "added_by" sAddedBy ["left", "right"]) (B : Bts mg) : At P w K mg base "added_by" 1 ["left", "right"] spAddedBy := by
  refine D.at scAddedBy (fun vs H Q E h => ?_) (fun f cdv A outer s H vs Q E hr h => ?_)
  · obtain ⟨l, r, rfl, _⟩ := h; rfl
  · obtain ⟨l, r, rfl, hl, hr1, q⟩ := h
    refine ⟨_, pss_one (ps_ret (pe_op op_fdiv (pe_op op_add (pe_op op_mul (pe_callB call_abs (by rfl) B.abs (by decide +kernel) (pa_cons (pv 0) pa_nil)) (pv 1)) (pe_op op_mul (pv 0) (pe_callB call_abs (by rfl) B.abs (by decide +kernel) (pa_cons (pv 1) pa_nil)))) pe_int)), ?_⟩
    refine ⟨_, rfl, l, rfl, _, rfl, _, _, rfl, rfl, .inr ⟨by omega, by omega⟩, _, rfl, _, rfl, r, rfl, _, _, rfl, rfl, .inl ⟨by omega, by omega⟩, _, _, rfl, rfl, _, _, rfl, rfl, ⟨by decide, by decide⟩, ?_⟩
    rw [abs_eq, abs_eq]
    exact q H (Same.refl _)
abbrev sNeighbours : Stmt := topS 17
theorem scNeighbours : FnScope ["web", "x", "z"] ["web", "x"] (defScope sNeighbours) := ⟨rfl, rfl, rfl, by decide +kernel, rfl, by decide +kernel, by decide +kernel⟩
def spNeighbours (K : PySem.W.Frag) : Sp := fun vs H Q _ => ∃ v n W x, vs = [v, .int (x : Nat)] ∧ Wb K H v n W ∧ x < n ∧ RetL K ((DW.near n W x).map fun z : Nat => .num z) H Q
theorem at_neighbours (D : Def K mg "neighbours" sNeighbours ["web", "x"]) (B : Bts mg) : At P w K mg base "neighbours" 1 ["web", "x"] (spNeighbours K) := by
  refine D.at scNeighbours (fun vs H Q E h => ?_) (fun f cdv A outer s H vs Q E hr h => ?_)
  · obtain ⟨v, n, W, x, rfl, _⟩ := h; rfl
  · obtain ⟨v, n, W, x, rfl, hw, hx, q⟩ := h
    have h5 := hw.few
    refine ⟨_, pss_one (ps_ret (pe_lc (own := [("z", 2)]) (g := gName 2) (by rfl) scNeighbours.nd ((pi_range1 (by rfl) B.range (pa_cons ((pe_callB (r := rLen K) call_lenK (by rfl) B.len boot_len (pa_cons (pv 0) pa_nil))) pa_nil))) (blkOk_by (own := [("z", 2)]) (N := ["web", "x", "z"]) (sc := defScope sNeighbours) (by decide +kernel)) (fun _ _ _ _ _ => pg_name (i := 2) scNeighbours.nd rfl (Or.inl rfl)) (fun _ _ _ _ _ => pts_one ((pt_cmpR op_ne ((pe_ix (r := rIxT K) ix_tup ((pe_ix (r := rIxT K) ix_tup (pv 0) (pv 1) (fun _ _ => rfl))) (pv 2) (fun _ _ => rfl))) (pe_int) (nomark _)))) (fun _ _ _ _ _ => pv 2))), ?_⟩
    refine ⟨_, rfl, rd_lenW hw.im hw.len ⟨(n : Int), rfl, by omega, by omega, fun D2 hD2 => lcIm (walk_r0 (n := n)) (K := K) hD2 (by omega) (fun z => at2 W x z != 0) (fun z => .num (z : Nat)) (fun _ _ => trivial) (fun i v2 H2 H3 hi s1 hy y C N hC hN => ?_) fun H4 xs s4 hx4 him => q H4 D2 xs s4 hD2 hx4 him⟩⟩
    obtain ⟨rfl, rfl⟩ := y
    have hw5 := hw.same s1
    refine ⟨rfl, _, rfl, _, rfl, ix_web hw5.good.sh hw5.im hx fun u hu => ⟨_, rfl, hu _ hi _ ⟨rfl, _, rfl, ?_⟩⟩⟩
    show if (!decide (V.int (at2 W x i) = V.int 0)) = true then _ else _
    by_cases hp : at2 W x i = 0
    · rw [hp]
      refine iteF (hN (by simp [hp]) _ (Same.refl _))
    · rw [show (!decide (V.int (at2 W x i) = V.int 0)) = true by simp [hp]]
      exact iteT ⟨_, rfl, hC (by simp [hp]) _ _ (Same.refl _) (.int _)⟩
end
end L2.DL
end

section
set_option Elab.async false
set_option linter.all false
set_option maxRecDepth 100000
/-! Layer N: making and filling tables. -/
namespace L2.DL
open PySem PySem.Spec PyProof.Rows
open DW (Web at2 Good IsOrd og Sh)
theorem sh_rows {n : Nat} {V : Web} (g : Sh n V) : (List.range n).map (fun i => V.getD i []) = V := by
  refine List.ext_getElem (by simp [g.len]) fun i h1 h2 => ?_
  simp [h2]
theorem sh_rowmap {α : Type} {n y : Nat} {V : Web} (g : Sh n V) (hy : y < n) (f : Int → α) : (V.getD y []).map f = (List.range n).map fun z => f (at2 V y z) := by
  have e := sh_row g hy
  refine List.ext_getElem (by rw [List.length_map, List.length_map, List.length_range, e]) fun i h1 h2 => ?_
  rw [List.length_map] at h1
  simp only [List.getElem_map, List.getElem_range]
  unfold at2
  rw [List.getElem_eq_getD (h := h1) 0]
def ordK (o : List Nat) : NestedKey := rowK (o.map fun a : Nat => (a : Int))
theorem getD_cast (o : List Nat) (x : Nat) : (o.map fun a : Nat => (a : Int)).getD x 0 = ((og o x : Nat) : Int) := by
  rw [List.getD_eq_getElem?_getD, List.getElem?_map, og, List.getD_eq_getElem?_getD]
  cases o[x]? <;> rfl
section
variable {K : PySem.W.Frag} {H H' H0 : Hp}
theorem ix_ord {n y : Nat} {o : List Nat} {v : V} {Q : VK} (ho : IsOrd n o) (h : Im K H v (ordK o)) (hy : y < n) (q : Q (.int (og o y : Nat)) H) : rIxT K v (.int (y : Nat)) H Q :=
  ix_cell h (by rw [List.length_map, ho.len]; exact hy) (by rw [getD_cast]; exact q)
theorem Mx.setQ {t : Addr} {T : Web} {ps : List Addr} {i j : Nat} {v : Int} {Q : Hp → Prop} (m : Mx H0 H t T ps) (hi : i < T.length) (hj : j < (T.getD i []).length)
    (q : ∀ H', (∀ b o, H0 b = some o → H' b = H b) → Mx H0 H' t (put2 T i j v) ps → Q H') : rSetL (.ref (ps.getD i 0)) (.int (j : Nat)) (.int v) H Q := by
  have hr := m.row i hi
  refine ⟨_, _, j, j, rfl, rfl, hr.2.2, by rw [List.length_map]; exact ixN_nat hj, ?_⟩
  rw [show ((T.getD i []).map V.int).set j (V.int v) = ((T.getD i []).set j v).map V.int by rw [List.map_set]]
  exact q _ (fun b o e => upd_ne (ne_of_none e hr.1)) (m.set hi)
theorem keep_same (h0 : Same H0 H) (e : ∀ b o, H0 b = some o → H' b = H b) : Same H0 H' := fun b o q => by rw [e b o q]; exact h0 b o q
/-- a comprehension that makes a new list of ints each turn -/
theorem lcMx {J : It} {n : Nat} {G : Hp → Prop} {Y : Nat → Hp → V → Hp → Prop} (w : Walk J n G Y) {g : TG} {te : TE} {vs : List Nat} {σ : St} {H1 : Hp} {D : Addr} {Qd : Hp → Prop} (hD : H1 D = none) (hn : n ≤ 100000) (T : Nat → List Int) (hG : ∀ H, Same H1 H → G H)
    (hs : ∀ i x H H', i < n → Same H1 H → Y i H x H' → ∀ (C : VK) (N : Hp → Prop), (∀ p H4, Same H H4 → H p = none → H4 p = some (.lst ((T i).map V.int)) → C (.ref p) H4) →
      g x (wipe σ vs) H' fun σ2 H2 => wipe σ2 vs = wipe σ vs ∧ tYes σ2 H2 fun b H3 => if b = true then te σ2 H3 C else N H3)
    (hd : ∀ H' ps, Same H1 H' → Mx H1 H' D ((List.range n).map T) ps → Qd H') :
    ∃ W : Nat → Nat → Hp → Prop, (∃ m, W 0 m (upd H1 D (.lst []))) ∧ ∀ i m H, W i m H →
      (J.stop i H ∧ Qd H) ∨ (J.go i H ∧ ∃ Nx : Hp → Prop, (∀ H', Nx H' → ∃ m', m' < m ∧ W (i + 1) m' H') ∧ ∀ x H', J.yld i H x H' → g x (wipe σ vs) H' fun σ2 H2 => wipe σ2 vs = wipe σ vs ∧ tYes σ2 H2 fun b H3 =>
        if b = true then te σ2 H3 fun y H4 => ∃ acc, H4 D = some (.lst acc) ∧ acc.length < sizeLine ∧ Nx (upd H4 D (.lst (acc ++ [y]))) else Nx H3) := by
  refine lc_it w (fun i H => Same H1 H ∧ i ≤ n ∧ ∃ ps, Mx H1 H D ((List.range i).map T) ps) ⟨same_new hD, Nat.zero_le _, [], Mx.nil hD⟩ (fun i H _ h => hG H h.1) (fun i x H H' hi ⟨s1, _, ps, m⟩ y => ?_) fun H ⟨s1, _, ps, m⟩ => hd H ps s1 m
  refine hs i x H H' hi s1 y _ _ fun p H4 e hp hr => ?_
  have ml := m.len
  rw [List.length_map, List.length_range] at ml
  refine ⟨ps.map V.ref, e _ _ m.tab, ?_, same_grow (s1.trans e) hD, hi, ps ++ [p], ?_⟩
  · rw [List.length_map, ml]
    exact Nat.lt_of_lt_of_le (Nat.lt_of_lt_of_le hi hn) (by decide)
  · have := m.push e s1 hp hr
    rw [List.range_succ, List.map_append]
    rw [List.map_append] at this
    exact this
end
theorem in_pair (x y z : Int) : inV (.int x) [.int y, .int z] = (decide (x = y) || decide (x = z)) := by
  simp [inV, eqV, Bool.beq_eq_decide_eq, eq_comm]
end L2.DL
end

section
set_option Elab.async false
set_option linter.all false
set_option maxRecDepth 100000
/-! Walk D: behind_turn, with_names. -/
namespace L2.DL
open PySem PySem.Spec PyProof.Rows
open DW (Web at2 Good IsOrd og Sh)
section
variable {P : Program} {w : World} {K : PySem.W.Frag} {mg : Str → Option Value} {base : Heap}
abbrev sBehindTurn : Stmt := topS 15
theorem scBehindTurn : FnScope ["web", "x", "n", "table", "y", "z"] ["web", "x"] (defScope sBehindTurn) := ⟨rfl, rfl, rfl, by decide +kernel, rfl, by decide +kernel, by decide +kernel⟩
def spBehindTurn (K : PySem.W.Frag) : Sp := fun vs H Q _ => ∃ v n W x, vs = [v, .int (x : Nat)] ∧ Wb K H v n W ∧ x < n ∧ Ret K (webK (DW.turnW W x)) H Q
theorem at_behind_turn (D : Def K mg "behind_turn" sBehindTurn ["web", "x"]) (B : Bts mg) (a1 : At P w K mg base "added_by" 1 ["left", "right"] spAddedBy) (a2 : At P w K mg base "frozen" 1 ["table"] (spFrozen K)) : At P w K mg base "behind_turn" 2 ["web", "x"] (spBehindTurn K) := by
  refine D.at scBehindTurn (fun vs H Q E h => ?_) (fun f cdv A outer s H vs Q E hr h => ?_)
  · obtain ⟨v, n, W, x, rfl, _⟩ := h; rfl
  · obtain ⟨v, n, W, x, rfl, hw, hx, q⟩ := h
    have h5 := hw.few
    refine ⟨_, (pss_cons ((ps_par (i := 2) (j := 3) (by rfl) scBehindTurn.nd rfl rfl (by decide) rfl rfl (pa_cons ((pe_callB (r := rLen K) call_lenK (by rfl) B.len boot_len (pa_cons (pv 0) pa_nil))) (pa_cons (pe_lst pa_nil) pa_nil)) (by rfl))) (pss_cons ((ps_for PassesOwn.never rfl ((pi_range1 (by rfl) B.range (pa_cons (pv 2) pa_nil))) (pg_name (i := 4) scBehindTurn.nd rfl (Or.inr rfl)) (pss_one (ps_expr (pe_bm PySem.F.plainAttrs_list PySem.F.slot_list_append PySem.F.type_list_append mt_append (pv 3) (pa_cons ((pe_lc (own := [("z", 5)]) (g := gName 5) (tt := tYes) (by rfl) scBehindTurn.nd ((pi_range1 (by rfl) B.range (pa_cons (pv 2) pa_nil))) (blkOk_by (own := [("z", 5)]) (N := ["web", "x", "n", "table", "y", "z"]) (sc := defScope sBehindTurn) (by decide +kernel)) (fun _ _ _ _ _ => pg_name (i := 5) scBehindTurn.nd rfl (Or.inl rfl)) (fun _ _ _ _ _ => pts_nil) (fun _ _ _ _ _ => pe_ifExp (pt_cmpR (r := rIn K false) op_in_seq (pv 1) (pe_tup (pa_cons (pv 4) (pa_cons (pv 5) pa_nil))) (by rfl)) (pe_un un_neg (pe_ix (r := rIxT K) ix_tup ((pe_ix (r := rIxT K) ix_tup (pv 0) (pv 4) (fun _ _ => rfl))) (pv 5) (fun _ _ => rfl))) (pe_op op_add (pe_ix (r := rIxT K) ix_tup ((pe_ix (r := rIxT K) ix_tup (pv 0) (pv 4) (fun _ _ => rfl))) (pv 5) (fun _ _ => rfl)) (pe_at a1 hr (by decide) (pa_cons ((pe_ix (r := rIxT K) ix_tup ((pe_ix (r := rIxT K) ix_tup (pv 0) (pv 4) (fun _ _ => rfl))) (pv 1) (fun _ _ => rfl))) (pa_cons ((pe_ix (r := rIxT K) ix_tup ((pe_ix (r := rIxT K) ix_tup (pv 0) (pv 1) (fun _ _ => rfl))) (pv 5) (fun _ _ => rfl))) pa_nil))))))) pa_nil)))))) (pss_one (ps_ret (pe_at a2 hr (by decide) (pa_cons (pv 3) pa_nil)))))), ?_⟩
    refine ⟨_, rfl, rd_lenW hw.im hw.len ⟨by show 0 ≤ sizeLine; decide, fun t ht => ⟨_, _, rfl, ?_⟩⟩⟩
    have hV : Sh n (DW.turnW W x) := DW.turn_sh hw.good.sh
    refine ⟨_, rfl, (n : Int), rfl, by omega, by omega, for_it (walk_r0 (n := n)) (fun i σ H1 => Same H H1 ∧ (∃ u, σ = [some v, some (.int (x : Nat)), some (.int (n : Nat)), some (.ref t), u, none]) ∧ ∃ ps, Mx H H1 t ((List.range i).map fun i => (DW.turnW W x).getD i []) ps) ?_ (fun _ _ _ _ _ => trivial) (fun i v2 σ H1 H2 hi hp hy => ?_) fun σ H1 hp => ?_⟩
    · exact ⟨same_new ht, ⟨_, rfl⟩, [], Mx.nil ht⟩
    · obtain ⟨s1, ⟨u, rfl⟩, ps, m⟩ := hp
      obtain ⟨rfl, rfl⟩ := hy
      refine ⟨_, rfl, .inl ⟨rfl, _, SqL.of m.tab⟩, _, rfl, (n : Int), rfl, by omega, by omega, fun D2 hD2 => lcV (walk_r0 (n := n)) hD2 (by omega) (fun _ => true) (fun z => .int (at2 (DW.turnW W x) i z)) (fun _ _ => trivial) (fun z v3 H9 H4 hz s3 _ hy C N hC hN => ?_) fun H4 s4 hx4 => ?_⟩
      · obtain ⟨rfl, rfl⟩ := hy
        have hw3 := hw.same (s1.trans s3)
        refine ⟨rfl, tyes ?_⟩
        refine ⟨_, rfl, _, rfl, _, rfl, ⟨by show 2 ≤ sizeLine; decide, fun q1 hq1 => ⟨q1, _, rfl, .inr (SqT.of upd_same), rfl, rfl, _, rfl, ?_⟩⟩⟩
        rw [in_pair]
        have hw4 := hw3.same (same_new (p := q1) (o := .tup [.int (i : Nat), .int (z : Nat)]) hq1)
        have e := DW.turn_at (x := x) hw.good.sh hi hz
        have fin : ∀ j : Int, at2 (DW.turnW W x) i z = j → ∀ H5, Same (upd H4 q1 (.tup [.int (i : Nat), .int (z : Nat)])) H5 → C (.int j) H5 := fun j ej H5 s5 => by
          rw [← ej]; exact hC rfl H5 ((same_new hq1).trans s5)
        by_cases c : x = i ∨ x = z
        · rw [if_pos c] at e
          rw [show (decide ((x : Int) = (i : Int)) || decide ((x : Int) = (z : Int))) = true by rcases c with c | c <;> simp [c]]
          exact iteT ⟨_, rfl, _, rfl, ix_web hw4.good.sh hw4.im hi fun u hu => ⟨_, rfl, hu _ hz _ ⟨_, rfl, fin _ e _ (Same.refl _)⟩⟩⟩
        · rw [if_neg c] at e
          rw [show (decide ((x : Int) = (i : Int)) || decide ((x : Int) = (z : Int))) = false by
            simp only [not_or] at c
            simp [show ¬ (x : Int) = (i : Int) by omega, show ¬ (x : Int) = (z : Int) by omega]]
          refine iteF ⟨_, rfl, _, rfl, ix_web hw4.good.sh hw4.im hi fun u hu => ⟨_, rfl, hu _ hz _ ⟨_, rfl, _, rfl, ix_web hw4.good.sh hw4.im hi fun u hu => ⟨_, rfl, hu _ hx _ ⟨_, rfl, _, rfl, ix_web hw4.good.sh hw4.im hx fun u hu => ⟨_, rfl, hu _ hz _ ?_⟩⟩⟩⟩⟩⟩
          exact ⟨_, _, rfl, ⟨hw.good.low hi hx, hw.good.one i hi x hx⟩, ⟨hw.good.low hx hz, hw.good.one x hx z hz⟩, fun H5 s5 => ⟨_, _, rfl, rfl, fin _ e _ s5⟩⟩
      · have ml := m.len
        rw [List.length_map, List.length_range] at ml
        rw [all_range, ← sh_rowmap hV hi] at hx4
        refine ⟨t, _, _, rfl, rfl, s4 _ _ m.tab, ?_, same_grow (s1.trans s4) ht, ⟨_, rfl⟩, ps ++ [D2], ?_⟩
        · rw [List.length_map, ml]
          exact Nat.lt_of_lt_of_le (Nat.lt_of_lt_of_le hi h5) (by decide)
        · have := m.push s4 s1 hD2 hx4
          rw [List.range_succ, List.map_append]
          rw [List.map_append] at this
          exact this
    · obtain ⟨s1, ⟨u, rfl⟩, ps, m⟩ := hp
      refine ⟨_, rfl, t, _, rfl, m.rows, by simp; omega, fun H2 v2 s2 im => ?_⟩
      rw [sh_rows hV] at im
      exact q H2 v2 (s1.trans s2) im
end
end L2.DL
end

section
set_option Elab.async false
set_option linter.all false
set_option maxRecDepth 100000
/-! Walk E: with_names, is_simple, part_web. -/
namespace L2.DL
open PySem PySem.Spec PyProof.Rows
open DW (Web at2 Good IsOrd og Sh)
/-- what the filling of a table by an order has reached at the turn y, z -/
def Filled (n : Nat) (W T : Web) (o : List Nat) (y z : Nat) : Prop := Sh n T ∧ ∀ a, a < n → ∀ b, b < n → (a < y ∨ a = y ∧ b < z) → at2 T (og o a) (og o b) = at2 W a b
theorem Filled.step {n : Nat} {W T : Web} {o : List Nat} {y z : Nat} (h : Filled n W T o y z) (ho : IsOrd n o) (hy : y < n) (hz : z < n) : Filled n W (put2 T (og o y) (og o z) (at2 W y z)) o y (z + 1) := by
  refine ⟨put2_sh h.1, fun a ha b hb c => ?_⟩
  rw [put2_at h.1 (ho.og_lt hy) (ho.og_lt hz)]
  by_cases e : og o y = og o a ∧ og o z = og o b
  · have e1 : y = a := by rw [← ho.pos_og hy, ← ho.pos_og ha, e.1]
    have e2 : z = b := by rw [← ho.pos_og hz, ← ho.pos_og hb, e.2]
    rw [if_pos e, e1, e2]
  · rw [if_neg e]
    refine h.2 a ha b hb ?_
    rcases c with c | ⟨c1, c2⟩
    · exact .inl c
    · refine .inr ⟨c1, ?_⟩
      rcases Nat.lt_succ_iff_lt_or_eq.mp c2 with c2 | c2
      · exact c2
      · exact absurd ⟨by rw [c1], by rw [c2]⟩ e
theorem Filled.row {n : Nat} {W T : Web} {o : List Nat} {y : Nat} (h : Filled n W T o y n) : Filled n W T o (y + 1) 0 := ⟨h.1, fun a ha b hb c => h.2 a ha b hb (by
  rcases c with c | ⟨_, c⟩
  · rcases Nat.lt_succ_iff_lt_or_eq.mp c with c | c
    · exact .inl c
    · exact .inr ⟨c, hb⟩
  · exact absurd c (Nat.not_lt_zero _))⟩
theorem Filled.all {n : Nat} {W T : Web} {o : List Nat} (h : Filled n W T o n 0) (hs : Sh n W) (ho : IsOrd n o) : T = DW.nameW W o :=
  DW.name_unique hs h.1 ho fun x hx y hy => h.2 x hx y hy (.inl hx)
/-- n rows of n zeros -/
def zeros (n : Nat) : Web := (List.range n).map fun _ => List.replicate n 0
theorem zeros_sh (n : Nat) : Sh n (zeros n) := ⟨by simp [zeros], fun r hr => by
  obtain ⟨_, _, rfl⟩ := List.mem_map.mp hr
  simp⟩
theorem zeros_at (n y z : Nat) : at2 (zeros n) y z = 0 := by
  unfold at2 zeros
  rw [List.getD_eq_getElem?_getD, List.getD_eq_getElem?_getD, List.getElem?_map]
  by_cases h : y < n
  · rw [List.getElem?_range h]
    simp only [Option.map_some, Option.getD_some, List.getElem?_replicate]
    split <;> rfl
  · rw [List.getElem?_eq_none (l := List.range n) (by simpa using h)]
    rfl
theorem Filled.zero (n : Nat) (W : Web) (o : List Nat) : Filled n W (zeros n) o 0 0 := ⟨zeros_sh n, fun a _ b _ c => by omega⟩
theorem rep_zero (n : Nat) : (List.replicate ((n : Nat) : Int).toNat [V.int 0]).flatten = (List.replicate n (0 : Int)).map V.int := by
  rw [Int.toNat_natCast]
  induction n with
  | zero => rfl
  | succ n ih => rw [List.replicate_succ, List.flatten_cons, ih, List.replicate_succ, List.map_cons]; rfl
section
variable {P : Program} {w : World} {K : PySem.W.Frag} {mg : Str → Option Value} {base : Heap}
abbrev sWithNames : Stmt := topS 16
theorem scWithNames : FnScope ["web", "order", "n", "table", "y", "z", "x"] ["web", "order"] (defScope sWithNames) := ⟨rfl, rfl, rfl, by decide +kernel, rfl, by decide +kernel, by decide +kernel⟩
def spWithNames (K : PySem.W.Frag) : Sp := fun vs H Q _ => ∃ v u n W o, vs = [v, u] ∧ Wb K H v n W ∧ IsOrd n o ∧ Im K H u (ordK o) ∧ Ret K (webK (DW.nameW W o)) H Q
theorem at_with_names (D : Def K mg "with_names" sWithNames ["web", "order"]) (B : Bts mg) (a2 : At P w K mg base "frozen" 1 ["table"] (spFrozen K)) : At P w K mg base "with_names" 2 ["web", "order"] (spWithNames K) := by
  refine D.at scWithNames (fun vs H Q E h => ?_) (fun f cdv A outer s H vs Q E hr h => ?_)
  · obtain ⟨v, u, n, W, o, rfl, _⟩ := h; rfl
  · obtain ⟨v, u, n, W, o, rfl, hw, ho, hu, q⟩ := h
    have h5 := hw.few
    refine ⟨_, (pss_cons ((ps_set (i := 2) scWithNames.nd rfl (Or.inr rfl) ((pe_callB (r := rLen K) call_lenK (by rfl) B.len boot_len (pa_cons (pv 0) pa_nil))))) (pss_cons ((ps_setLc (i := 3) (own := [("x", 6)]) (g := gName 6) (tt := tYes) (by rfl) scWithNames.nd rfl rfl (sw_true rfl rfl rfl (by decide +kernel)) ((pi_range1 (by rfl) B.range (pa_cons (pv 2) pa_nil))) (blkOk_by (own := [("x", 6)]) (N := ["web", "order", "n", "table", "y", "z", "x"]) (sc := defScope sWithNames) (by decide +kernel)) (fun _ _ _ _ _ => pg_name (i := 6) scWithNames.nd rfl (Or.inl rfl)) (fun _ _ _ _ _ => pts_nil) (fun _ _ _ _ _ => (pe_op op_rep ((pe_lst (pa_cons (pe_int) pa_nil))) (pv 2))))) (pss_cons ((ps_for PassesOwn.never rfl ((pi_range1 (by rfl) B.range (pa_cons (pv 2) pa_nil))) (pg_name (i := 4) scWithNames.nd rfl (Or.inl rfl)) (pss_one (ps_for PassesOwn.never rfl ((pi_range1 (by rfl) B.range (pa_cons (pv 2) pa_nil))) (pg_name (i := 5) scWithNames.nd rfl (Or.inl rfl)) (pss_one (ps_asg (pe_ix (r := rIxT K) ix_tup ((pe_ix (r := rIxT K) ix_tup (pv 0) (pv 4) (fun _ _ => rfl))) (pv 5) (fun _ _ => rfl)) (pg_sub ((pe_ix (r := rIxL K) ix_list (pv 3) ((pe_ix (r := rIxT K) ix_tup (pv 1) (pv 4) (fun _ _ => rfl))) (fun _ _ => rfl))) ((pe_ix (r := rIxT K) ix_tup (pv 1) (pv 5) (fun _ _ => rfl))) set_list))))))) (pss_one (ps_ret (pe_at a2 hr (by decide) (pa_cons (pv 3) pa_nil))))))), ?_⟩
    refine ⟨_, rfl, rd_lenW hw.im hw.len ?_⟩
    refine ⟨_, rfl, (n : Int), rfl, by omega, by omega, fun t ht => lcMx (walk_r0 (n := n)) ht (by omega) (fun _ => List.replicate n 0) (fun _ _ => trivial) (fun i x H9 H2 hi s1 hy C N hC => ?_) fun H3 ps s3 m => ?_⟩
    · obtain ⟨rfl, rfl⟩ := hy
      refine ⟨rfl, tyes ⟨by show 1 ≤ sizeLine; decide, fun l hl => ⟨_, rfl, l, _, _, rfl, rfl, upd_same, by omega, by omega, ?_, fun p hp => ?_⟩⟩⟩
      · rw [Int.toNat_natCast]
        exact Nat.le_trans (show 1 * n ≤ 100000 by omega) (by decide)
      · have np : H2 p = none := by
          by_cases e : p = l
          · rw [e]; exact hl
          · rw [upd_ne e] at hp; exact hp
        refine hC p _ (same_grow (same_new hl) np) np ?_
        rw [upd_same, rep_zero]
    · have h0 : (H : Hp) t = none := ht
      refine ⟨_, rfl, (n : Int), rfl, by omega, by omega, for_it (walk_r0 (n := n)) (fun i σ H1 => Same H H1 ∧ (∃ a b, σ = [some v, some u, some (.int (n : Nat)), some (.ref t), a, b, none]) ∧ ∃ T, Mx H H1 t T ps ∧ Filled n W T o i 0) ?_ (fun _ _ _ _ _ => trivial) (fun i v2 σ H9 H1 hi hp hy => ?_) fun σ H1 hp => ?_⟩
      · exact ⟨s3, ⟨_, _, rfl⟩, _, m, Filled.zero n W o⟩
      · obtain ⟨s1, ⟨a, b, rfl⟩, T, mT, fT⟩ := hp
        obtain ⟨rfl, rfl⟩ := hy
        refine ⟨_, rfl, (n : Int), rfl, by omega, by omega, for_it (walk_r0 (n := n)) (fun j σ H4 => Same H H4 ∧ (∃ b, σ = [some v, some u, some (.int (n : Nat)), some (.ref t), some (.int (i : Nat)), b, none]) ∧ ∃ T, Mx H H4 t T ps ∧ Filled n W T o i j) ?_ (fun _ _ _ _ _ => trivial) (fun j v3 σ H9 H4 hj hp hy => ?_) fun σ H4 hp => ?_⟩
        · exact ⟨s1, ⟨_, rfl⟩, T, mT, fT⟩
        · obtain ⟨s4, ⟨b, rfl⟩, T, mT, fT⟩ := hp
          obtain ⟨rfl, rfl⟩ := hy
          have hw4 := hw.same s4
          have hu4 := hu.same s4
          have lT := fT.1.len
          refine ⟨_, rfl, _, rfl, ix_web hw4.good.sh hw4.im hi fun r1 hr1 => ⟨_, rfl, hr1 _ hj _ ?_⟩⟩
          refine ⟨_, rfl, _, rfl, _, rfl, ix_ord ho hu4 hi (mT.ix (by rw [lT]; exact ho.og_lt hi) ⟨_, rfl, _, rfl, ix_ord ho hu4 hj ?_⟩)⟩
          refine mT.setQ (by rw [lT]; exact ho.og_lt hi) (by rw [sh_row fT.1 (ho.og_lt hi)]; exact ho.og_lt hj) fun H5 e5 m5 => ?_
          exact ⟨keep_same s4 e5, ⟨_, rfl⟩, _, m5, fT.step ho hi hj⟩
        · obtain ⟨s4, ⟨b, rfl⟩, T, mT, fT⟩ := hp
          exact ⟨s4, ⟨_, _, rfl⟩, T, mT, fT.row⟩
      · obtain ⟨s1, ⟨a, b, rfl⟩, T, mT, fT⟩ := hp
        have e := fT.all hw.good.sh ho
        subst e
        exact ⟨_, rfl, t, _, rfl, mT.rows, by rw [fT.1.len]; omega, fun H2 v2 s2 im => q H2 v2 (s1.trans s2) im⟩
abbrev sIsSimple : Stmt := topS 19
theorem scIsSimple : FnScope ["web", "line", "many"] ["web"] (defScope sIsSimple) := ⟨rfl, rfl, rfl, by decide +kernel, rfl, by decide +kernel, by decide +kernel⟩
def spIsSimple (K : PySem.W.Frag) : Sp := fun vs H Q _ => ∃ v n W, vs = [v] ∧ Wb K H v n W ∧ RetB true H Q
theorem at_is_simple (D : Def K mg "is_simple" sIsSimple ["web"]) (B : Bts mg) : At P w K mg base "is_simple" 1 ["web"] (spIsSimple K) := by
  refine D.at scIsSimple (fun vs H Q E h => ?_) (fun f cdv A outer s H vs Q E hr h => ?_)
  · obtain ⟨v, n, W, rfl, _⟩ := h; rfl
  · obtain ⟨v, n, W, rfl, hw, q⟩ := h
    have h5 := hw.few
    refine ⟨_, pss_one (ps_ret (pe_callB (cr_all rfl) (by rfl) B.all (by decide +kernel) (pa_cons (pe_lc2 (own := [("line", 1), ("many", 2)]) (vs1 := [2]) (g := gName 1) (g1 := gName 2) (tt := tYes) (tt1 := tYes) (by rfl) scIsSimple.nd ((pi_tupK K rfl (pv 0))) (blkOk_by (own := [("line", 1), ("many", 2)]) (N := ["web", "line", "many"]) (sc := defScope sIsSimple) (by decide +kernel)) (by decide) (fun _ _ _ _ _ => pg_name (i := 1) scIsSimple.nd rfl (Or.inl rfl)) (fun _ _ _ _ _ => pts_nil) (fun _ _ _ _ _ => (pi_tupK K rfl (pv 1))) (fun _ _ _ _ _ => pg_name (i := 2) scIsSimple.nd rfl (Or.inl rfl)) (fun _ _ _ _ _ => pts_nil) (fun _ _ _ _ _ => (pe_cmpR op_le (pe_callB call_abs (by rfl) B.abs (by decide +kernel) (pa_cons (pv 2) pa_nil)) (pe_int) (nomark _)))) pa_nil))), ?_⟩
    obtain ⟨a, xs, rfl, hs, ht⟩ := hw.im.tup_inv
    have hl : xs.length = n := by rw [ht.length, List.length_map, hw.len]
    refine ⟨_, rfl, a, rfl, ⟨_, hs⟩, fun D2 hD2 => lc2G walk_tup hD2 (fun _ => n) (B := n) (fun _ _ => Nat.le_refl _) (by rw [hl]; exact Nat.le_trans (Nat.mul_le_mul h5 h5) (by decide)) (fun _ _ => true) (fun _ _ _ v => v = .bl true) (fun _ _ _ _ _ _ _ _ _ h => h) (fun H' s1 => Same.seqT s1 hs) (fun i x H2 H3 hi s2 hy y X1 N next => ?_) fun H4 xs4 s4 hx4 pr => ?_⟩
    · obtain ⟨rfl, hx⟩ := y
      rw [hl] at hi
      obtain ⟨k, hk, hv⟩ := ht.at hx
      rw [List.getElem?_map, getD_some [] (by rw [hw.len]; exact hi)] at hk
      obtain rfl := Option.some.inj hk
      obtain ⟨b, ys, rfl, hbs, hbt⟩ := (hv.same s2).tup_inv
      have ey := im_ints_inv hbt
      have hly : ys.length = n := by rw [ey, List.length_map, hw.row hi]
      refine ⟨rfl, tyesI ⟨_, rfl, b, rfl, ⟨_, hbs⟩, next _ _ _ _ _ (Same.refl _) (by have := walk_tup (K := K) (a := b) (xs := ys); rw [hly] at this; exact this) (fun H5 s5 e5 => ?_) fun j x H5 H6 hj s5 e5 hd y C N hC _ => ?_⟩⟩
      · exact (TEx.sameX e5 hy).sq hbs
      · obtain ⟨rfl, hx2⟩ := y
        rw [ey, List.getElem?_map, getD_some 0 (by rw [hw.row hi]; exact hj)] at hx2
        obtain rfl := Option.some.inj hx2
        have e : at2 W i j = (W.getD i []).getD j 0 := rfl
        refine ⟨rfl, tyes ⟨_, rfl, _, rfl, _, _, rfl, rfl, ?_⟩⟩
        refine hC rfl _ _ (Same.refl _) ?_
        show V.bl _ = _
        rw [decide_eq_true]
        have l1 := hw.good.low hi hj
        have l2 := hw.good.one i hi j hj
        rw [e] at l1 l2
        split <;> omega
    · refine ⟨D2, xs4.map fun _ => true, rfl, SqL.of (by rw [List.map_map, ← all_true pr]; exact hx4), ?_⟩
      rw [show (xs4.map fun _ => true).all id = true by simp]
      exact q H4 s4
abbrev sPartWeb : Stmt := topS 21
theorem scPartWeb : FnScope ["web", "part", "y", "z"] ["web", "part"] (defScope sPartWeb) := ⟨rfl, rfl, rfl, by decide +kernel, rfl, by decide +kernel, by decide +kernel⟩
def scpPart : Scope := { kind := .function, names := [(".0", .local), ("y", .cell), ("tuple", .globalImplicit), ("part", .cell), ("web", .cell)], isGenerator := false, isCoroutine := false }
def partW (W : Web) (ps : List Nat) : Web := ps.map fun y => ps.map fun z => at2 W y z
def spPartWeb (K : PySem.W.Frag) : Sp := fun vs H Q _ => ∃ v u n W ps, vs = [v, u] ∧ Wb K H v n W ∧ (∀ p ∈ ps, p < n) ∧ ps.length ≤ 5 ∧ Im K H u (ordK ps) ∧ Ret K (webK (partW W ps)) H Q
theorem part_len (W : Web) (ps : List Nat) : (partW W ps).length = ps.length := by simp [partW]
theorem at_part_web (D : Def K mg "part_web" sPartWeb ["web", "part"]) (B : Bts mg) : At P w K mg base "part_web" 1 ["web", "part"] (spPartWeb K) := by
  refine D.at scPartWeb (fun vs H Q E h => ?_) (fun f cdv A outer s H vs Q E hr h => ?_)
  · obtain ⟨v, u, n, W, ps, rfl, _⟩ := h; rfl
  · obtain ⟨v, u, n, W, ps, rfl, hw, hps, hp5, hu, q⟩ := h
    refine ⟨_, pss_one (ps_ret (pe_tupK K rfl (by rfl) B.tuple ((pe_lc (own := [("y", 2)]) (g := gName 2) (tt := tYes) (by rfl) scPartWeb.nd ((pi_tupK K rfl (pv 1))) (blkOk_by (own := [("y", 2)]) (N := ["web", "part", "y", "z"]) (sc := defScope sPartWeb) (by decide +kernel)) (fun _ _ _ _ _ => pg_name (i := 2) scPartWeb.nd rfl (Or.inr rfl)) (fun _ _ _ _ _ => pts_nil) (fun _ _ _ _ _ => (pe_tupK K rfl (by rfl) B.tuple ((pe_lc (own := [("z", 3)]) (g := gName 3) (tt := tYes) (by rfl) scPartWeb.nd ((pi_tupK K rfl (pv 1))) (blkOk_by (own := [("z", 3)]) (N := ["web", "part", "y", "z"]) (sc := scpPart) (by decide +kernel)) (fun _ _ _ _ _ => pg_name (i := 3) scPartWeb.nd rfl (Or.inl rfl)) (fun _ _ _ _ _ => pts_nil) (fun _ _ _ _ _ => (pe_ix (r := rIxT K) ix_tup ((pe_ix (r := rIxT K) ix_tup (pv 0) (pv 2) (fun _ _ => rfl))) (pv 3) (fun _ _ => rfl))))))))))), ?_⟩
    obtain ⟨a, xs, rfl, hs, ht⟩ := hu.tup_inv
    have ex := im_ints_inv ht
    subst ex
    have hl : ((ps.map fun a : Nat => (a : Int)).map V.int).length = ps.length := by rw [List.length_map, List.length_map]
    have at' : ∀ {i : Nat} {x : V}, i < ps.length → ((ps.map fun a : Nat => (a : Int)).map V.int)[i]? = some x → x = .int (ps.getD i 0 : Nat) := fun {i x} hi h => by
      rw [List.getElem?_map, List.getElem?_map, getD_some 0 hi] at h
      exact (Option.some.inj h).symm
    refine ⟨_, rfl, a, rfl, ⟨_, hs⟩, fun D2 hD2 => lcIm walk_tup (K := K) hD2 (by rw [hl]; omega) (fun _ => true) (fun i => rowK ((partW W ps).getD i [])) (fun H' s1 => Same.seqT s1 hs) (fun i x H9 H2 hi s1 hy y C N hC hN => ?_) fun H4 xs s4 hx him => ?_⟩
    · obtain ⟨rfl, hx⟩ := y
      rw [hl] at hi
      obtain rfl := at' hi hx
      have hs2 := Same.seqT s1 hs
      refine ⟨rfl, tyes ⟨_, rfl, a, rfl, ⟨_, hs2⟩, fun D3 hD3 => lcV walk_tup hD3 (by rw [hl]; omega) (fun _ => true) (fun j => .int (at2 W (ps.getD i 0) (ps.getD j 0))) (fun H' s1 => Same.seqT s1 hs2) (fun j x H9 H3 hj s3 _ y C2 N2 hC2 _ => ?_) fun H3 s3 hx3 => ?_⟩⟩
      · obtain ⟨rfl, hx⟩ := y
        rw [hl] at hj
        obtain rfl := at' hj hx
        have hw3 := hw.same (s1.trans s3)
        exact ⟨rfl, tyes ⟨_, rfl, _, rfl, ix_web hw3.good.sh hw3.im (hps _ (getD_mem hi)) fun r1 hr1 => ⟨_, rfl, hr1 _ (hps _ (getD_mem hj)) _ (hC2 rfl _ (Same.refl _))⟩⟩⟩
      · rw [all_range, hl] at hx3
        refine tup_row (r := (partW W ps).getD i []) (SqL.of ?_) fun H' v s5 hv => hC rfl v H' (s3.trans s5) hv
        rw [hx3]
        congr 2
        unfold partW
        rw [DW.getD_of (x := ps.map fun z => at2 W (ps.getD i 0) z) (by rw [List.getElem?_map, getD_some 0 hi]; rfl)]
        refine List.ext_getElem (by simp) fun j h1 h2 => ?_
        simp at h1
        simp [h1]
    · rw [all_range, hl, ← part_len W ps, webK_range] at him
      exact tup_all (SqL.of hx) him fun H' v s5 hv => q H' v (s4.trans s5) hv
end
end L2.DL
end

section
set_option Elab.async false
set_option linter.all false
set_option maxRecDepth 100000
/-! Plain F: parts by a search in depth. -/
namespace DW
structure Blk (n : Nat) (W : Web) (lo hi : Nat) : Prop where
  lt : lo < hi
  le : hi ≤ n
  out : ∀ y, lo ≤ y → y < hi → ∀ z, z < n → at2 W y z ≠ 0 → lo ≤ z ∧ z < hi
  conn : ∀ S : Nat → Prop, S lo → (∀ y, lo ≤ y → y < hi → S y → ∀ z, z < n → at2 W y z ≠ 0 → S z) → ∀ y, lo ≤ y → y < hi → S y
structure Dfs (n : Nat) (W : Web) (lo hi : Nat) (part here : List Nat) : Prop where
  nd : part.Nodup
  inb : ∀ y ∈ part, lo ≤ y ∧ y < hi
  root : lo ∈ part
  hn : here.Nodup
  sub : ∀ y ∈ here, y ∈ part
  done : ∀ y ∈ part, ¬ y ∈ here → ∀ z ∈ near n W y, z ∈ part
def mu (lo hi : Nat) (part here : List Nat) : Nat := 2 * (hi - lo - part.length) + here.length
structure Exp (n : Nat) (W : Web) (lo hi : Nat) (part here : List Nat) (y i M : Nat) : Prop where
  nd : part.Nodup
  inb : ∀ y ∈ part, lo ≤ y ∧ y < hi
  root : lo ∈ part
  hn : here.Nodup
  sub : ∀ y ∈ here, y ∈ part
  yin : y ∈ part
  done : ∀ x ∈ part, ¬ x ∈ here → x ≠ y → ∀ z ∈ near n W x, z ∈ part
  seen : ∀ z ∈ (near n W y).take i, z ∈ part
  few : mu lo hi part here < M
section
variable {n : Nat} {W : Web} {lo hi : Nat} {part here : List Nat} {y i M : Nat}
theorem near_mem {x z : Nat} : z ∈ near n W x ↔ z < n ∧ at2 W x z ≠ 0 := by
  unfold near; rw [List.mem_filter, List.mem_range]; simp
theorem Dfs.start (b : Blk n W lo hi) : Dfs n W lo hi [lo] [lo] :=
  ⟨by simp, fun y hy => by rw [List.mem_singleton.mp hy]; exact ⟨Nat.le_refl _, b.lt⟩, by simp, by simp, fun _ h => h, fun y h1 h2 => absurd h1 h2⟩
theorem part_few (nd : part.Nodup) (inb : ∀ y ∈ part, lo ≤ y ∧ y < hi) : part.length ≤ hi - lo := by
  have := nodup_len (l := part) (l' := List.range' lo (hi - lo)) nd fun y hy => by
    have := inb y hy
    rw [List.mem_range'_1]
    omega
  rwa [List.length_range'] at this
theorem Dfs.pop (d : Dfs n W lo hi part here) (h : here[here.length - 1]? = some y) : Exp n W lo hi part here.dropLast y 0 (mu lo hi part here) ∧ y ∈ part := by
  have hne : here ≠ [] := fun e => by rw [e] at h; simp at h
  have ey : here.getLast hne = y := by
    rw [List.getLast_eq_getElem]
    exact (List.getElem?_eq_some_iff.mp h).2
  have split := List.dropLast_concat_getLast hne
  rw [ey] at split
  have hy : y ∈ here := by rw [← split]; simp
  have nd : here.dropLast.Nodup ∧ ¬ y ∈ here.dropLast := by
    have := d.hn
    rw [← split, List.nodup_append] at this
    exact ⟨this.1, fun c => this.2.2 y c y (by simp) rfl⟩
  refine ⟨⟨d.nd, d.inb, d.root, nd.1, fun x hx => d.sub x (List.dropLast_subset _ hx), d.sub y hy, fun x hx hn ne => d.done x hx fun c => ?_, fun z hz => by simp at hz, ?_⟩, d.sub y hy⟩
  · rw [← split, List.mem_append] at c
    rcases c with c | c
    · exact hn c
    · exact ne (List.mem_singleton.mp c)
  · unfold mu
    rw [List.length_dropLast]
    have := List.length_pos_iff.mpr hne
    omega
theorem take_succ_mem {z x : Nat} {l : List Nat} (h : l[i]? = some z) (hx : x ∈ l.take (i + 1)) : x ∈ l.take i ∨ x = z := by
  rw [List.take_add_one, h, List.mem_append] at hx
  rcases hx with hx | hx
  · exact .inl hx
  · exact .inr (List.mem_singleton.mp hx)
theorem Exp.old {z : Nat} (e : Exp n W lo hi part here y i M) (h : (near n W y)[i]? = some z) (hz : z ∈ part) : Exp n W lo hi part here y (i + 1) M :=
  ⟨e.nd, e.inb, e.root, e.hn, e.sub, e.yin, e.done, fun x hx => by
    rcases take_succ_mem h hx with c | c
    · exact e.seen x c
    · rw [c]; exact hz, e.few⟩
theorem Exp.new {z : Nat} (b : Blk n W lo hi) (e : Exp n W lo hi part here y i M) (h : (near n W y)[i]? = some z) (hz : ¬ z ∈ part) : Exp n W lo hi (part ++ [z]) (here ++ [z]) y (i + 1) M := by
  have hm := near_mem.mp (List.mem_of_getElem? h)
  have hb := b.out y (e.inb y e.yin).1 (e.inb y e.yin).2 z hm.1 hm.2
  have nd2 : (part ++ [z]).Nodup := by
    rw [List.nodup_append]
    exact ⟨e.nd, by simp, fun a ha c hc q => hz (by rw [← List.mem_singleton.mp hc, ← q]; exact ha)⟩
  have inb2 : ∀ x ∈ part ++ [z], lo ≤ x ∧ x < hi := fun x hx => by
    rcases List.mem_append.mp hx with c | c
    · exact e.inb x c
    · rw [List.mem_singleton.mp c]; exact hb
  refine ⟨nd2, inb2, List.mem_append_left _ e.root, ?_, fun x hx => ?_, List.mem_append_left _ e.yin, fun x hx hn ne u hu => ?_, fun x hx => ?_, ?_⟩
  · rw [List.nodup_append]
    exact ⟨e.hn, by simp, fun a ha c hc q => hz (by rw [← List.mem_singleton.mp hc, ← q]; exact e.sub a ha)⟩
  · rcases List.mem_append.mp hx with c | c
    · exact List.mem_append_left _ (e.sub x c)
    · exact List.mem_append_right _ c
  · rcases List.mem_append.mp hx with c | c
    · exact List.mem_append_left _ (e.done x c (fun q => hn (List.mem_append_left _ q)) ne u hu)
    · exact absurd (List.mem_append_right _ c) hn
  · rcases take_succ_mem h hx with c | c
    · exact List.mem_append_left _ (e.seen x c)
    · rw [c]; simp
  · have := part_few nd2 inb2
    have := e.few
    unfold mu at *
    simp only [List.length_append, List.length_cons, List.length_nil] at *
    omega
theorem Exp.close (e : Exp n W lo hi part here y (near n W y).length M) : Dfs n W lo hi part here :=
  ⟨e.nd, e.inb, e.root, e.hn, e.sub, fun x hx hn => by
    by_cases c : x = y
    · rw [c]; exact fun z hz => e.seen z (by rw [List.take_length]; exact hz)
    · exact e.done x hx hn c⟩
theorem Dfs.whole (b : Blk n W lo hi) (d : Dfs n W lo hi part []) : part.Perm (List.range' lo (hi - lo)) :=
  nodup_perm d.nd List.nodup_range' fun x => by
    rw [List.mem_range'_1]
    refine ⟨fun hx => by have := d.inb x hx; omega, fun hx => ?_⟩
    exact b.conn (fun z => z ∈ part) d.root (fun y h1 h2 hy z hz ne => d.done y hy (by simp) z (near_mem.mpr ⟨hz, ne⟩)) x hx.1 (by omega)
theorem asc_range (lo k : Nat) : Asc ((List.range' lo k).map fun z : Nat => (z : Int)) := by
  unfold Asc
  rw [List.pairwise_map]
  refine List.Pairwise.imp (R := fun a b => a < b) (fun h => ?_) List.pairwise_lt_range'
  show decide _ = false
  simp; omega
theorem Dfs.sorted (b : Blk n W lo hi) (d : Dfs n W lo hi part []) : isort (part.map fun z : Nat => (z : Int)) = (List.range' lo (hi - lo)).map fun z : Nat => (z : Int) :=
  (asc_isort ((d.whole b).symm.map _) (asc_range _ _)).symm
/-- the parts of a web: one block, or two -/
structure Cut (n m : Nat) (W : Web) : Prop where
  one : 1 ≤ m
  le : m ≤ n
  low : Blk n W 0 m
  high : m < n → Blk n W m n
def partsN (n m : Nat) : List (List Nat) := List.range' 0 m :: if m < n then [List.range' m (n - m)] else []
theorem cut_conn (hn : 1 ≤ n) (c : Conn n W) : Cut n n W where
  one := hn
  le := Nat.le_refl n
  low := ⟨hn, Nat.le_refl n, fun y _ hy z hz _ => ⟨Nat.zero_le z, hz⟩, fun S h0 hs y _ hy => c S ⟨0, hn, h0⟩ (fun y hy sy z hz ne => hs y (Nat.zero_le y) hy sy z hz ne) y hy⟩
  high := fun h => absurd h (Nat.lt_irrefl n)
theorem cut_join {m : Nat} {V : Web} (h : Sh n W) (h' : Sh m V) (hn : 1 ≤ n) (hm : 1 ≤ m) (c : Conn n W) (d : Conn m V) : Cut (n + m) n (joinW W V) := by
  refine ⟨hn, by omega, ⟨hn, by omega, fun y _ hy z hz ne => ?_, fun S h0 hs y _ hy => ?_⟩, fun _ => ⟨by omega, Nat.le_refl _, fun y h1 h2 z hz ne => ?_, fun S h0 hs y h1 h2 => ?_⟩⟩
  · have := join_at h h' (y := y) (z := z) (by omega) hz
    by_cases q : z < n
    · exact ⟨Nat.zero_le _, q⟩
    · exfalso; apply ne; rw [this]; simp [hy, q]
  · refine c S ⟨0, hn, h0⟩ (fun y hy sy z hz ne => hs y (Nat.zero_le _) hy sy z (by omega) ?_) y hy
    rw [join_at h h' (by omega) (by omega)]; rw [if_pos hy, if_pos hz]; exact ne
  · have := join_at h h' (y := y) (z := z) (by omega) hz
    by_cases q : z < n
    · exfalso; apply ne; rw [this]; simp [show ¬ y < n by omega, q]
    · exact ⟨by omega, hz⟩
  · have := d (fun z => S (n + z)) ⟨0, hm, h0⟩ (fun y hy sy z hz ne => hs (n + y) (by omega) (by omega) sy (n + z) (by omega) ?_) (y - n) (by omega)
    · simpa [show n + (y - n) = y by omega] using this
    · rw [join_at h h' (by omega) (by omega), if_neg (by omega), if_neg (by omega), Nat.add_sub_cancel_left, Nat.add_sub_cancel_left]; exact ne
end
end DW
end

section
set_option Elab.async false
set_option linter.all false
set_option maxRecDepth 100000
/-! Layer O: lists of naturals, frames. -/
namespace L2.DL
open PySem PySem.Spec PyProof.Rows
open DW (Web at2 Good IsOrd og Sh)
abbrev nV (ns : List Nat) : List V := ns.map fun z : Nat => V.int z
abbrev nK (ns : List Nat) : List NestedKey := ns.map fun z : Nat => NestedKey.num z
theorem ordK_eq (o : List Nat) : ordK o = .tup (nK o) := by unfold ordK rowK; rw [List.map_map]; rfl
/-- all but what stands at the addresses of L is kept -/
def Kept (L : List Addr) (H H' : Hp) : Prop := ∀ b o, ¬ b ∈ L → H b = some o → H' b = some o
theorem Kept.refl (L : List Addr) (H : Hp) : Kept L H H := fun _ _ _ h => h
theorem Kept.trans {L : List Addr} {H H' H'' : Hp} (a : Kept L H H') (b : Kept L H' H'') : Kept L H H'' := fun x o n h => b x o n (a x o n h)
theorem Kept.of {L : List Addr} {H H' : Hp} (a : Same H H') : Kept L H H' := fun x o _ h => a x o h
theorem Kept.upd {L : List Addr} {H : Hp} {l : Addr} {o : HO} (h : l ∈ L) : Kept L H (upd H l o) := fun x u n q => by rw [upd_ne fun e => n (by rw [e]; exact h)]; exact q
theorem Kept.mono {L M : List Addr} {H H' : Hp} (h : ∀ l ∈ L, l ∈ M) (a : Kept L H H') : Kept M H H' := fun x o n q => a x o (fun c => n (h x c)) q
theorem Kept.same {L : List Addr} {H0 H H' : Hp} (s : Same H0 H) (a : Kept L H H') (h : ∀ l ∈ L, H0 l = none) : Same H0 H' := fun x o q => a x o (fun c => by rw [h x c] at q; cases q) (s x o q)
theorem TEx.kept {L : List Addr} {H H' : Hp} (a : Kept L H H') (h : ∀ l ∈ L, ∃ ys, H l = some (.lst ys)) : TEx H H' := fun b xs r => by
  have ne : ¬ b ∈ L := fun e => by
    obtain ⟨ys, h⟩ := h b e
    rcases r with r | ⟨o, r⟩ <;> rw [h] at r <;> cases r
  rcases r with r | ⟨o, r⟩
  · exact .inl (a _ _ ne r)
  · exact .inr ⟨o, a _ _ ne r⟩
theorem none_of {H H' : Hp} {p : Addr} (s : Same H H') (h : H' p = none) : H p = none := by
  cases q : H p with
  | none => rfl
  | some o => rw [s _ _ q] at h; cases h
def lenAt (H : Hp) (p : Addr) : Nat := match H p with
  | some (.lst xs) => xs.length
  | _ => 0
theorem lenAt_of {H : Hp} {p : Addr} {xs : List V} (h : H p = some (.lst xs)) : lenAt H p = xs.length := by unfold lenAt; rw [h]
section
variable {K : PySem.W.Frag} {H H' H0 : Hp}
theorem im_nats : ∀ (ns : List Nat), ImAll K H (nV ns) (nK ns)
  | [] => .nil
  | n :: ns => .cons (.int n) (im_nats ns)
theorem im_nats_inv {ns : List Nat} {xs : List V} (h : ImAll K H xs (nK ns)) : xs = nV ns := by
  have : xs = (ns.map fun a : Nat => (a : Int)).map V.int := im_ints_inv (by rw [List.map_map]; exact h)
  rw [this, List.map_map]; rfl
theorem inV_nats (z : Nat) (ns : List Nat) : inV (.int z) (nV ns) = decide (z ∈ ns) := by
  unfold inV
  induction ns with
  | nil => rfl
  | cons n ns ih =>
    show (eqV (.int (n : Nat)) (.int (z : Nat)) || (nV ns).any fun y => eqV y (.int (z : Nat))) = _
    rw [ih]
    show ((n : Int) == (z : Int) || decide (z ∈ ns)) = decide (z ∈ n :: ns)
    rw [Bool.beq_eq_decide_eq]
    by_cases h : n = z
    · simp [h]
    · have h2 : ¬ (n : Int) = (z : Int) := by omega
      have h3 : ¬ z = n := fun e => h e.symm
      simp [h2, h3]
theorem flat_nats (ns : List Nat) : (nV ns).all flatV = true := by
  rw [List.all_eq_true]
  intro x hx
  obtain ⟨_, _, rfl⟩ := List.mem_map.mp hx
  rfl
theorem rd_notin {z : Nat} {p : Addr} {ns : List Nat} {Q : VK} (h : SqL K H p (nV ns) ∨ SqT K H p (nV ns)) (q : Q (.bl (!decide (z ∈ ns))) H) : rIn K true (.int (z : Nat)) (.ref p) H Q :=
  ⟨p, _, rfl, h, rfl, flat_nats ns, by rw [inV_nats]; exact q⟩
theorem nV_snoc (ns : List Nat) (z : Nat) : nV ns ++ [.int (z : Nat)] = nV (ns ++ [z]) := by simp
theorem nV_last {ns : List Nat} {Q : V → Prop} (hne : ns ≠ []) (q : ∀ y, ns[ns.length - 1]? = some y → Q (.int (y : Nat))) : ∃ y, (nV ns)[(nV ns).length - 1]? = some y ∧ Q y := by
  have := List.length_pos_iff.mpr hne
  refine ⟨_, by rw [List.getElem?_map, List.length_map, getD_some 0 (by omega)]; rfl, q _ (getD_some 0 (by omega))⟩
theorem nV_drop (ns : List Nat) : (nV ns).dropLast = nV ns.dropLast := (List.map_dropLast ..).symm
mutual
theorem key_lays : ∀ k : NestedKey, textless k = true → PyData.canLay0 k.data = true
  | .none, _ => by rw [NestedKey.data, PyData.canLay0]
  | .num _, _ => by rw [NestedKey.data, PyData.canLay0]
  | .text _, h => by rw [textless] at h; cases h
  | .tup ks, h => by
    rw [textless] at h
    rw [NestedKey.data, PyData.canLay0]
    exact keys_lay ks h
theorem keys_lay : ∀ ks : List NestedKey, textlessAll ks = true → PyData.canLayAll0 (NestedKey.datas ks) = true
  | [], _ => by rw [NestedKey.datas, PyData.canLayAll0]
  | k :: ks, h => by
    rw [textlessAll, Bool.and_eq_true] at h
    rw [NestedKey.datas, PyData.canLayAll0, key_lays k h.1, keys_lay ks h.2]; rfl
end
theorem depthAll_le {m : Nat} : ∀ (ks : List NestedKey), (∀ k ∈ ks, k.data.depth ≤ m) → PyData.depthAll (NestedKey.datas ks) ≤ m
  | [], _ => by rw [NestedKey.datas, PyData.depthAll]; omega
  | k :: ks, h => by
    rw [NestedKey.datas, PyData.depthAll]
    exact Nat.max_le.mpr ⟨h k (List.mem_cons_self ..), depthAll_le ks fun j hj => h j (List.mem_cons_of_mem _ hj)⟩
theorem key_shaped {k : NestedKey} (h : textless k = true) (d : k.data.depth ≤ 8) : SeqAt.shaped k.data = true := by
  unfold SeqAt.shaped
  rw [key_lays k h, decide_eq_true (show k.data.depth ≤ 64 by omega)]; rfl
theorem textlessAll_of : ∀ {ks : List NestedKey}, (∀ k ∈ ks, textless k = true) → textlessAll ks = true
  | [], _ => by rw [textlessAll]
  | k :: ks, h => by
    rw [textlessAll, h k (List.mem_cons_self ..), textlessAll_of fun j hj => h j (List.mem_cons_of_mem _ hj)]; rfl
theorem list_shaped {ks : List NestedKey} (h : ∀ k ∈ ks, textless k = true ∧ k.data.depth ≤ 8) : SeqAt.shaped (.list (NestedKey.datas ks)) = true := by
  unfold SeqAt.shaped
  rw [PyData.canLay0, keys_lay ks (textlessAll_of fun k hk => (h k hk).1), decide_eq_true (by rw [PyData.depth]; have := depthAll_le (m := 8) ks fun k hk => (h k hk).2; omega)]; rfl
theorem dp_list {p : Addr} {xs : List V} {ks : List NestedKey} (h : SqL K H p xs) (im : ImAll K H xs ks) : Dp K H (.ref p) (.list (NestedKey.datas ks)) := .lst h (ImAll.dp ks xs im)
theorem rd_nonempty {p l : Addr} {xs : List V} {ks : List NestedKey} {Q : VK} (h : SqL K H p xs) (im : ImAll K H xs ks) (sh : ∀ k ∈ ks, textless k = true ∧ k.data.depth ≤ 8) (hl : SqL K H l []) (q : Q (.bl (!ks.isEmpty)) H) : rNeD K (.ref p) (.ref l) H Q := by
  refine ⟨_, _, dp_list h im, .lst hl .nil, list_shaped sh, list_shaped (ks := []) (fun k hk => absurd hk List.not_mem_nil), ?_⟩
  cases ks with
  | nil => exact q
  | cons k ks => exact q
theorem nK_ok {ns : List Nat} : ∀ k ∈ nK ns, textless k = true ∧ k.data.depth ≤ 8 := fun k hk => by
  obtain ⟨z, _, rfl⟩ := List.mem_map.mp hk
  exact ⟨by rw [textless], by simp [NestedKey.data, PyData.depth]⟩
end
end L2.DL
end

section
set_option Elab.async false
set_option linter.all false
set_option maxRecDepth 100000
/-! Walk F: parts_of, is_a_tree. -/
namespace L2.DL
open PySem PySem.Spec PyProof.Rows
open DW (Web at2 Good IsOrd og Sh Blk Dfs Exp)
theorem near_lt {n : Nat} {W : Web} {x z : Nat} (h : z ∈ DW.near n W x) : z < n := (DW.near_mem.mp h).1
theorem near_len (n : Nat) (W : Web) (x : Nat) : (DW.near n W x).length ≤ n := by
  have := List.length_filter_le (fun z => at2 W x z != 0) (List.range n)
  rwa [List.length_range] at this
/-- how far the parts are found at the turn x -/
def far (n m x : Nat) : Nat := if x = 0 then 0 else if x ≤ m then m else n
def partsTo (n m x : Nat) : List (List Nat) := if x = 0 then [] else if x ≤ m then [List.range' 0 m] else DW.partsN n m
theorem far_in {n m x : Nat} (h : x < far n m x) : far n m (x + 1) = far n m x ∧ partsTo n m (x + 1) = partsTo n m x := by
  unfold far partsTo at *
  by_cases h0 : x = 0
  · rw [if_pos h0] at h; omega
  · rw [if_neg h0] at h
    by_cases h1 : x ≤ m
    · rw [if_pos h1] at h
      simp [h0, h1, show x + 1 ≤ m by omega]
    · rw [if_neg h1] at h
      simp [h0, h1, show ¬ x + 1 ≤ m by omega]
theorem far_out {n m x : Nat} {W : Web} (c : DW.Cut n m W) (hx : x < n) (h : ¬ x < far n m x) : Blk n W x (far n m (x + 1)) ∧ far n m x = x ∧ partsTo n m (x + 1) = partsTo n m x ++ [List.range' x (far n m (x + 1) - x)] := by
  have h1 := c.one
  unfold far at h
  by_cases h0 : x = 0
  · subst h0
    refine ⟨?_, rfl, ?_⟩
    · simpa [far, h1] using c.low
    · simp [partsTo, far, h1]
  · rw [if_neg h0] at h
    by_cases h2 : x ≤ m
    · rw [if_pos h2] at h
      have e : x = m := by omega
      subst e
      have ef : far n x (x + 1) = n := by unfold far; rw [if_neg (by omega), if_neg (by omega)]
      have ep : partsTo n x (x + 1) = DW.partsN n x := by unfold partsTo; rw [if_neg (by omega), if_neg (by omega)]
      have eq : partsTo n x x = [List.range' 0 x] := by unfold partsTo; rw [if_neg (by omega), if_pos (by omega)]
      rw [ef, ep, eq]
      refine ⟨c.high hx, by simp [far, h0], ?_⟩
      simp [DW.partsN, hx]
    · rw [if_neg h2] at h
      omega
theorem parts_end {n m : Nat} {W : Web} (c : DW.Cut n m W) : partsTo n m n = DW.partsN n m := by
  have h1 := c.one
  have h2 := c.le
  unfold partsTo
  rw [if_neg (by omega)]
  by_cases h : n ≤ m
  · rw [if_pos h]
    simp [DW.partsN, show ¬ m < n by omega]
  · rw [if_neg h]
def partK (ps : List Nat) : NestedKey := .tup (nK ps)
theorem partK_eq (ps : List Nat) : partK ps = ordK ps := (ordK_eq ps).symm
section
variable {P : Program} {w : World} {K : PySem.W.Frag} {mg : Str → Option Value} {base : Heap}
abbrev sPartsOf : Stmt := topS 18
theorem scPartsOf : FnScope ["web", "found", "seen", "x", "part", "here", "z"] ["web"] (defScope sPartsOf) := ⟨rfl, rfl, rfl, by decide +kernel, rfl, by decide +kernel, by decide +kernel⟩
def spPartsOf (K : PySem.W.Frag) : Sp := fun vs H Q _ => ∃ v n m W, vs = [v] ∧ Wb K H v n W ∧ DW.Cut n m W ∧ RetL K ((DW.partsN n m).map partK) H Q
/-- what the search keeps -/
structure Sea (K : PySem.W.Frag) (H1 : Hp) (p h : Addr) (H : Hp) (part here : List Nat) : Prop where
  kept : Kept [p, h] H1 H
  part : H p = some (.lst (nV part))
  here : H h = some (.lst (nV here))
theorem at_parts_of (D : Def K mg "parts_of" sPartsOf ["web"]) (B : Bts mg) (a1 : At P w K mg base "neighbours" 1 ["web", "x"] (spNeighbours K)) : At P w K mg base "parts_of" 2 ["web"] (spPartsOf K) := by
  refine D.at scPartsOf (fun vs H Q E h => ?_) (fun f cdv A outer s H vs Q E hr h => ?_)
  · obtain ⟨v, n, m, W, rfl, _⟩ := h; rfl
  · obtain ⟨v, n, m, W, rfl, hw, hc, q⟩ := h
    have hu := hr.units
    have h5 := hw.few
    refine ⟨_, (pss_cons ((ps_par (i := 1) (j := 2) (by rfl) scPartsOf.nd rfl rfl (by decide) rfl rfl (pa_cons (pe_lst pa_nil) (pa_cons (pe_lst pa_nil) pa_nil)) (by rfl))) (pss_cons ((ps_for PassesOwn.never rfl ((pi_range1 (by rfl) B.range (pa_cons ((pe_callB (r := rLen K) call_lenK (by rfl) B.len boot_len (pa_cons (pv 0) pa_nil))) pa_nil))) (pg_name (i := 3) scPartsOf.nd rfl (Or.inl rfl)) (pss_one (ps_if (pt_cmpR (r := rIn K true) op_notIn_seq (pv 3) (pv 2) (by rfl)) (pss_cons ((ps_par (i := 4) (j := 5) (by rfl) scPartsOf.nd rfl rfl (by decide) rfl rfl (pa_cons ((pe_lst (pa_cons (pv 3) pa_nil))) (pa_cons ((pe_lst (pa_cons (pv 3) pa_nil))) pa_nil)) (by rfl))) (pss_cons (ps_while PassesOwn.never (pt_cmpR (r := rNeD K) (op_neD hu) (pv 5) (pe_lst pa_nil) (nomark _)) (pss_one (ps_for PassesOwn.never rfl ((pi_listK K rfl ((pe_at a1 hr (by decide) (pa_cons (pv 0) (pa_cons ((pe_bm0 PySem.F.plainAttrs_list PySem.F.slot_list_pop PySem.F.type_list_pop mt_pop (pv 5))) pa_nil)))))) (pg_name (i := 6) scPartsOf.nd rfl (Or.inl rfl)) (pss_one (ps_if (pt_cmpR (r := rIn K true) op_notIn_seq (pv 6) (pv 4) (by rfl)) (pss_cons ((ps_expr (pe_bm PySem.F.plainAttrs_list PySem.F.slot_list_append PySem.F.type_list_append mt_append (pv 4) (pa_cons (pv 6) pa_nil)))) (pss_one ((ps_expr (pe_bm PySem.F.plainAttrs_list PySem.F.slot_list_append PySem.F.type_list_append mt_append (pv 5) (pa_cons (pv 6) pa_nil)))))) pss_nil))))) (pss_cons ((ps_expr (pe_bm PySem.F.plainAttrs_list PySem.F.slot_list_append PySem.F.type_list_append mt_append (pv 1) (pa_cons ((pe_tupK K rfl (by rfl) B.tuple (pe_callB (r := rSortE K .num) (cr_sortE enc_int hu) (by rfl) B.sorted (by decide +kernel) (pa_cons (pv 4) pa_nil)))) pa_nil)))) (pss_one ((ps_expr (pe_bm PySem.F.plainAttrs_list PySem.F.slot_list_extend PySem.F.type_list_extend mt_extend (pv 2) (pa_cons (pv 4) pa_nil)))))))) pss_nil)))) (pss_one (ps_ret (pv 1))))), ?_⟩
    refine ⟨by show 0 ≤ sizeLine; decide, fun fo hfo => ⟨by show 0 ≤ sizeLine; decide, fun se hse => ⟨_, _, rfl, ?_⟩⟩⟩
    have hse0 : H se = none := by
      by_cases e : se = fo
      · rw [e]; exact hfo
      · rw [upd_ne e] at hse; exact hse
    have nfs : fo ≠ se := fun e => by rw [← e, upd_same] at hse; cases hse
    have hwS := hw.same (same_grow (o := .lst []) (same_new (o := .lst []) hfo) hse0)
    refine ⟨_, rfl, rd_lenW hwS.im hwS.len ⟨(n : Int), rfl, by omega, by omega, for_it (walk_r0 (n := n)) (fun i σ H1 => Same H H1 ∧ (∃ a b c d, σ = [some v, some (.ref fo), some (.ref se), a, b, c, d]) ∧
      (∃ xs, H1 fo = some (.lst xs) ∧ ImAll K H1 xs ((partsTo n m i).map partK)) ∧ ∃ seen, H1 se = some (.lst (nV seen)) ∧ seen.length = far n m i ∧ ∀ y, y ∈ seen ↔ y < far n m i) ?_ (fun _ _ _ _ _ => trivial) (fun i v2 σ H9 H1 hi hp hy => ?_) fun σ H1 hp => ?_⟩⟩
    · refine ⟨same_grow (same_new hfo) hse0, ⟨_, _, _, _, rfl⟩, ⟨[], by rw [upd_ne nfs, upd_same], .nil⟩, [], upd_same, rfl, fun y => ?_⟩
      simp [far]
    · obtain ⟨s1, ⟨a, b, c, d, rfl⟩, ⟨xs, hxs, ims⟩, seen, hseen, hsl, hsm⟩ := hp
      obtain ⟨rfl, rfl⟩ := hy
      refine ⟨_, rfl, _, rfl, rd_notin (.inl (SqL.of hseen)) ⟨_, rfl, ?_⟩⟩
      by_cases hin : i < far n m i
      · rw [show (!decide (i ∈ seen)) = false by rw [decide_eq_true ((hsm i).mpr hin)]; rfl]
        obtain ⟨e1, e2⟩ := far_in hin
        refine iteF ⟨s1, ⟨_, _, _, _, rfl⟩, ⟨xs, hxs, by rw [e2]; exact ims⟩, seen, hseen, by rw [e1]; exact hsl, fun y => by rw [e1]; exact hsm y⟩
      · rw [show (!decide (i ∈ seen)) = true by rw [decide_eq_false fun c => hin ((hsm i).mp c)]; rfl]
        obtain ⟨bk, e1, e2⟩ := far_out hc hi hin
        generalize far n m (i + 1) = hi2 at bk e2
        have hlt := bk.lt
        have hle := bk.le
        refine iteT ⟨_, rfl, by show 1 ≤ sizeLine; decide, fun p hp => ⟨_, rfl, by show 1 ≤ sizeLine; decide, fun h hh => ⟨_, _, rfl, ?_⟩⟩⟩
        have hh1 : H1 h = none := by
          by_cases e : h = p
          · rw [e]; exact hp
          · rw [upd_ne e] at hh; exact hh
        have nph : p ≠ h := fun e => by rw [← e, upd_same] at hh; cases hh
        have s2 : Same H1 (upd (upd H1 p (.lst [.int (i : Nat)])) h (.lst [.int (i : Nat)])) := same_grow (same_new hp) hh1
        generalize hH2 : upd (upd H1 p (.lst [.int (i : Nat)])) h (.lst [.int (i : Nat)]) = H2 at s2
        have p2 : H2 p = some (.lst (nV [i])) := by rw [← hH2, upd_ne nph, upd_same]; rfl
        have h2 : H2 h = some (.lst (nV [i])) := by rw [← hH2, upd_same]; rfl
        have l2 : ∀ l ∈ [p, h], ∃ ys, H2 l = some (.lst ys) := fun l hl => by
          rcases List.mem_cons.mp hl with e | hl
          · rw [e]; exact ⟨_, p2⟩
          · rw [List.mem_singleton.mp hl]; exact ⟨_, h2⟩
        have n0 : ∀ l ∈ [p, h], H l = none := fun l hl => by
          rcases List.mem_cons.mp hl with e | hl
          · rw [e]; exact none_of s1 hp
          · rw [List.mem_singleton.mp hl]; exact none_of s1 hh1
        refine while_by (fun σ Hc => (∃ d, σ = [some v, some (.ref fo), some (.ref se), some (.int (i : Nat)), some (.ref p), some (.ref h), d]) ∧ ∃ part here, Sea K H2 p h Hc part here ∧ Dfs n W i hi2 part here)
          (fun σ Hc => 2 * (hi2 - i - lenAt Hc p) + lenAt Hc h) ⟨⟨_, rfl⟩, [i], [i], ⟨Kept.refl _ _, p2, h2⟩, Dfs.start bk⟩ (fun σ Hc hP => ?_) fun σ H3 Q1 Q2 hq ⟨x, hx, hl, ha⟩ => ⟨x, hx, hl, fun a ha2 => by
            obtain ⟨d1, d2, z1, z2, z3, z4, k, hk, z5⟩ := ha a ha2
            exact ⟨d1, d2, z1, z2, z3, z4, k, hk, hq _ _ z5⟩⟩
        obtain ⟨⟨d, rfl⟩, part, here, sea, dfs⟩ := hP
        have few := DW.part_few dfs.nd dfs.inb
        refine ⟨_, rfl, by show 0 ≤ sizeLine; decide, fun l hl => rd_nonempty (sql_same (same_new hl) (SqL.of sea.here)) (im_nats here) nK_ok (SqL.of upd_same) ⟨_, rfl, ?_⟩⟩
        have sl := same_new (o := HO.lst []) hl
        have kl : Kept [p, h] H2 (upd Hc l (.lst [])) := sea.kept.trans (Kept.of sl)
        have pl := sl _ _ sea.part
        have hl2 := sl _ _ sea.here
        generalize upd Hc l (HO.lst []) = H3 at sl kl pl hl2
        by_cases hne : here = []
        · subst hne
          refine iteF ?_
          have tx : TEx H1 H3 := (TEx.same s2).trans (TEx.kept kl l2)
          have s3 : Same H H3 := Kept.same (s1.trans s2) kl n0
          have nfo : ¬ fo ∈ [p, h] := fun c => by rcases List.mem_cons.mp c with e | c; (rw [e, hp] at hxs; cases hxs); (rw [List.mem_singleton.mp c, hh1] at hxs; cases hxs)
          have nse : ¬ se ∈ [p, h] := fun c => by rcases List.mem_cons.mp c with e | c; (rw [e, hp] at hseen; cases hseen); (rw [List.mem_singleton.mp c, hh1] at hseen; cases hseen)
          have fo3 := kl _ _ nfo (s2 _ _ hxs)
          have se3 := kl _ _ nse (s2 _ _ hseen)
          have im3 := ImAll.mono tx _ _ ims
          have hw0 := dfs.whole bk
          have plen : part.length = hi2 - i := by rw [hw0.length_eq, List.length_range']
          refine ⟨_, rfl, .inl ⟨rfl, _, SqL.of fo3⟩, _, rfl, p, _, part.map fun z : Nat => (z : Int), rfl, SqL.of pl, by rw [List.map_map]; exact im_nats part, sort_nums _, by rw [List.length_map]; omega, fun sp ys hsp imy => ?_⟩
          rw [dfs.sorted bk, List.map_map] at imy
          have ssp := same_new (o := HO.lst ys) hsp
          refine tup_all (SqL.of upd_same) (imy.same ssp) fun H4 u s4 imu => ?_
          have s34 := ssp.trans s4
          refine ⟨fo, _, _, rfl, rfl, s34 _ _ fo3, ?_, ?_⟩
          · rw [im3.length, List.length_map]
            refine Nat.lt_of_le_of_lt (m := 2) ?_ (by decide)
            unfold partsTo DW.partsN
            split
            · simp
            · split
              · simp
              · split <;> simp
          have nfs2 : se ≠ fo := fun e => nfs e.symm
          have npf : p ≠ fo := fun e => nfo (by rw [← e]; simp)
          have se4 : upd H4 fo (.lst (xs ++ [u])) se = some (.lst (nV seen)) := by rw [upd_ne nfs2]; exact s34 _ _ se3
          have p4 : upd H4 fo (.lst (xs ++ [u])) p = some (.lst (nV part)) := by rw [upd_ne npf]; exact s34 _ _ pl
          refine ⟨_, rfl, .inl ⟨rfl, _, SqL.of se4⟩, _, rfl, se, p, _, _, rfl, rfl, se4, p4, ?_, ?_⟩
          · rw [List.length_map, List.length_map, hsl, plen]
            exact Nat.le_trans (show far n m i + (hi2 - i) ≤ 100000 by rw [e1]; omega) (by decide)
          · refine ⟨same_grow (same_grow (s3.trans s34) hfo) hse0, ⟨_, _, _, _, rfl⟩, ⟨xs ++ [u], by rw [upd_ne nfs, upd_same], ?_⟩, seen ++ part, ?_, ?_, fun y => ?_⟩
            · rw [e2, List.map_append]
              have t5 : TEx H4 (upd (upd H4 fo (.lst (xs ++ [u]))) se (.lst (nV seen ++ nV part))) := (TEx.upd (.inr ⟨_, s34 _ _ fo3⟩)).trans (TEx.upd (.inr ⟨_, se4⟩))
              exact ImAll.mono t5 _ _ ((ImAll.same im3 s34).append (.cons imu .nil))
            · rw [upd_same]; exact congrArg (fun l => some (HO.lst l)) (List.map_append ..).symm
            · rw [List.length_append, hsl, plen, e1]; omega
            · rw [List.mem_append, hsm y, hw0.mem_iff, List.mem_range'_1, e1]
              omega
        · have e0 : (!(nK here).isEmpty) = true := by cases here with
            | nil => exact absurd rfl hne
            | cons a b => rfl
          rw [e0]
          refine iteT ?_
          obtain ⟨y, hy1, hyq⟩ : ∃ y, (nV here)[(nV here).length - 1]? = some y ∧ ∃ z : Nat, y = .int z ∧ here[here.length - 1]? = some z := nV_last (Q := fun y => ∃ z : Nat, y = .int z ∧ here[here.length - 1]? = some z) hne fun z hz => ⟨z, rfl, hz⟩
          obtain ⟨y, rfl, hyh⟩ := hyq
          obtain ⟨ex0, hyp⟩ := dfs.pop hyh
          have hyn : y < n := by have := dfs.inb y hyp; omega
          refine ⟨_, rfl, ⟨_, rfl, .inl ⟨rfl, _, SqL.of hl2⟩, h, _, _, rfl, rfl, hl2, hy1, ?_⟩⟩
          have tx : TEx H3 (upd H3 h (.lst (nV here).dropLast)) := TEx.upd (.inr ⟨_, hl2⟩)
          have txw : TEx H H3 := (TEx.same (s1.trans s2)).trans (TEx.kept kl l2)
          have hw3 : Wb K (upd H3 h (.lst (nV here).dropLast)) v n W := ⟨Im.mono (txw.trans tx) _ _ hw.im, hw.good, hw.pos, hw.few⟩
          refine ⟨v, n, W, y, rfl, hw3, hyn, fun H5 pN ys s5 hpN hys imy => ?_⟩
          have ey := im_nats_inv imy
          subst ey
          have k5 : Kept [p, h] H2 H5 := (kl.trans (Kept.upd (by simp))).trans (Kept.of s5)
          have p5 : H5 p = some (.lst (nV part)) := s5 _ _ (by rw [upd_ne nph]; exact pl)
          have h5' : H5 h = some (.lst (nV here.dropLast)) := s5 _ _ (by rw [upd_same, nV_drop])
          have npN : ¬ pN ∈ [p, h] := fun c => by
            rcases List.mem_cons.mp c with e | c
            · rw [e, upd_ne nph, pl] at hpN; cases hpN
            · rw [List.mem_singleton.mp c, upd_same] at hpN; cases hpN
          have nl : (nV (DW.near n W y)).length = (DW.near n W y).length := by rw [List.length_map]
          refine ⟨pN, rfl, ⟨_, SqL.of hys⟩, for_it walk_list (fun j σ Hc => (∃ d, σ = [some v, some (.ref fo), some (.ref se), some (.int (i : Nat)), some (.ref p), some (.ref h), d]) ∧ Hc pN = some (.lst (nV (DW.near n W y))) ∧ ∃ part2 here2, Sea K H2 p h Hc part2 here2 ∧ Exp n W i hi2 part2 here2 y j (DW.mu i hi2 part here)) ?_ (fun _ _ Hc _ hP => SqL.of hP.2.1) (fun j v2 σ H9 Hc hj hP hy => ?_) fun σ Hc hP => ?_⟩
          · exact ⟨⟨_, rfl⟩, hys, part, here.dropLast, ⟨k5, p5, h5'⟩, ex0⟩
          · obtain ⟨⟨d, rfl⟩, hpc, part2, here2, sea2, ex2⟩ := hP
            obtain ⟨rfl, hz⟩ := hy
            rw [nl] at hj
            rw [List.getElem?_map, getD_some 0 hj] at hz
            obtain rfl := Option.some.inj hz
            have hzn := getD_some 0 hj
            generalize (DW.near n W y).getD j 0 = z at hzn
            have few2 := DW.part_few ex2.nd ex2.inb
            have hfew : here2.length ≤ part2.length := DW.nodup_len ex2.hn ex2.sub
            refine ⟨_, rfl, _, rfl, rd_notin (.inl (SqL.of sea2.part)) ⟨_, rfl, ?_⟩⟩
            by_cases hzp : z ∈ part2
            · rw [show (!decide (z ∈ part2)) = false by rw [decide_eq_true hzp]; rfl]
              exact iteF ⟨⟨_, rfl⟩, hpc, part2, here2, sea2, ex2.old hzn hzp⟩
            · rw [show (!decide (z ∈ part2)) = true by rw [decide_eq_false hzp]; rfl]
              refine iteT ⟨_, rfl, .inl ⟨rfl, _, SqL.of sea2.part⟩, _, rfl, p, _, _, rfl, rfl, sea2.part, ?_, ?_⟩
              · rw [List.length_map]; exact Nat.lt_of_le_of_lt (show part2.length ≤ 100000 by omega) (by decide)
              have hh6 : upd Hc p (.lst (nV part2 ++ [.int (z : Nat)])) h = some (.lst (nV here2)) := by rw [upd_ne (Ne.symm nph)]; exact sea2.here
              refine ⟨_, rfl, .inl ⟨rfl, _, SqL.of hh6⟩, _, rfl, h, _, _, rfl, rfl, hh6, ?_, ?_⟩
              · rw [List.length_map]; exact Nat.lt_of_le_of_lt (show here2.length ≤ 100000 by omega) (by decide)
              refine ⟨⟨_, rfl⟩, ?_, part2 ++ [z], here2 ++ [z], ⟨(sea2.kept.trans (Kept.upd (by simp))).trans (Kept.upd (by simp)), ?_, ?_⟩, ex2.new bk hzn hzp⟩
              · rw [upd_ne fun e => npN (by rw [e]; simp), upd_ne fun e => npN (by rw [e]; simp)]; exact hpc
              · rw [upd_ne nph, upd_same, nV_snoc]
              · rw [upd_same, nV_snoc]
          · obtain ⟨⟨d, rfl⟩, hpc, part2, here2, sea2, ex2⟩ := hP
            rw [nl] at ex2
            refine ⟨⟨⟨_, rfl⟩, part2, here2, sea2, ex2.close⟩, ?_⟩
            have := ex2.few
            unfold DW.mu at this
            show 2 * (hi2 - i - lenAt Hc p) + lenAt Hc h < 2 * (hi2 - i - lenAt _ p) + lenAt _ h
            rw [lenAt_of sea2.part, lenAt_of sea2.here, lenAt_of sea.part, lenAt_of sea.here]
            simpa using this
    · obtain ⟨s1, ⟨a, b, c, d, rfl⟩, ⟨xs, hxs, ims⟩, _⟩ := hp
      rw [parts_end hc] at ims
      exact ⟨_, rfl, q H1 fo xs s1 hfo hxs ims⟩
abbrev sIsATree : Stmt := topS 20
theorem scIsATree : FnScope ["web"] ["web"] (defScope sIsATree) := ⟨rfl, rfl, rfl, by decide +kernel, rfl, by decide +kernel, by decide +kernel⟩
def spIsATree (K : PySem.W.Frag) : Sp := fun vs H Q _ => ∃ v n W, vs = [v] ∧ Wb K H v n W ∧ DW.Conn n W ∧ RetB (DW.isTree n W) H Q
theorem at_is_a_tree (D : Def K mg "is_a_tree" sIsATree ["web"]) (B : Bts mg) (a1 : At P w K mg base "is_simple" 1 ["web"] (spIsSimple K)) (a2 : At P w K mg base "parts_of" 2 ["web"] (spPartsOf K)) (a3 : At P w K mg base "arrows_of" 1 ["web"] (spArrowsOf K)) : At P w K mg base "is_a_tree" 3 ["web"] (spIsATree K) := by
  refine D.at scIsATree (fun vs H Q E h => ?_) (fun f cdv A outer s H vs Q E hr h => ?_)
  · obtain ⟨v, n, W, rfl, _⟩ := h; rfl
  · obtain ⟨v, n, W, rfl, hw, hc, q⟩ := h
    refine ⟨_, pss_one (ps_ret (pe_and (pe_at a1 hr (by decide) (pa_cons (pv 0) pa_nil)) (pe_and (pe_cmpR op_eq ((pe_callB (r := rLen K) call_lenK (by rfl) B.len boot_len (pa_cons ((pe_at a2 hr (by decide) (pa_cons (pv 0) pa_nil))) pa_nil))) (pe_int) (nomark _)) (pe_one (pe_cmpR op_eq ((pe_callB (r := rLen K) call_lenK (by rfl) B.len boot_len (pa_cons ((pe_at a3 hr (by decide) (pa_cons (pv 0) pa_nil))) pa_nil))) (pe_op op_sub (pe_callB (r := rLen K) call_lenK (by rfl) B.len boot_len (pa_cons (pv 0) pa_nil)) pe_int) (nomark _)))))), ?_⟩
    have h1 := hw.pos
    refine ⟨_, rfl, v, n, W, rfl, hw, fun H1 s1 => ⟨true, rfl, iteT ?_⟩⟩
    refine ⟨_, rfl, v, n, n, W, rfl, hw.same s1, DW.cut_conn h1 hc, fun H2 p xs s2 hp hx him => ?_⟩
    have e := him.length
    refine rd_lenL (n := 1) (SqL.of hx) (by rw [e, List.length_map]; simp [DW.partsN]) ⟨rfl, true, rfl, iteT ?_⟩
    have hw2 := hw.same (s1.trans s2)
    refine ⟨_, rfl, v, n, W, rfl, hw2, fun H3 p3 xs3 s3 hx3 hl3 => rd_lenL (SqL.of hx3) hl3 ?_⟩
    have hw3 := hw2.same s3
    refine ⟨_, rfl, rd_lenW hw3.im hw3.len ⟨_, _, rfl, rfl, rfl, ?_⟩⟩
    have e2 : decide (V.int ((DW.many n W : Nat) : Int) = V.int ((n : Int) - 1)) = DW.isTree n W := by
      unfold DW.isTree
      rw [Bool.beq_eq_decide_eq]
      apply decide_eq_decide.mpr
      constructor
      · intro h
        have := V.int.inj h
        omega
      · intro h
        rw [h]; congr 1; omega
    rw [e2]
    exact q H3 ((s1.trans s2).trans s3)
end
end L2.DL
end

section
set_option Elab.async false
set_option linter.all false
set_option maxRecDepth 100000
/-! Layer P: what refined tells of a node; methods with the written part told. -/
namespace L2.DL
open PySem PySem.Spec PyProof.Rows
open DW (Web at2 Good IsOrd og Sh)
theorem toldT_inj (a b : Int × List (Int × Int)) (h : toldT a = toldT b) : a = b := by
  obtain ⟨a1, a2⟩ := a
  obtain ⟨b1, b2⟩ := b
  have h1 : a1 = b1 := congrArg Prod.fst h
  have h2 : a2 = b2 := congrArg PySem.W.Tup.items (congrArg Prod.snd h)
  rw [h1, h2]
theorem told_eqv (a b : Int × List (Int × Int)) : PyData.eqv (toldK a).data (toldK b).data = decide (a = b) := by
  rw [told_toD, told_toD, PySem.W.Datum.eqv]
  exact decide_eq_decide.mpr ⟨toldT_inj a b, fun e => by rw [e]⟩
theorem textlessAll_pairs : ∀ l : List (Int × Int), textlessAll (l.map pairK) = true := fun l => textlessAll_of fun k hk => by
  obtain ⟨p, _, rfl⟩ := List.mem_map.mp hk
  simp [pairK, textless, textlessAll]
theorem told_textless (t : Int × List (Int × Int)) : textless (toldK t) = true := by
  simp [toldK, textless, textlessAll, textlessAll_pairs]
theorem pairs_depth : ∀ l : List (Int × Int), NestedKey.depthAll (l.map pairK) ≤ 2
  | [] => by simp [NestedKey.depthAll]
  | p :: l => by
    have := pairs_depth l
    simp only [List.map_cons, NestedKey.depthAll, pairK, NestedKey.depth]
    omega
theorem told_depth (t : Int × List (Int × Int)) : (toldK t).depth ≤ 8 := by
  have := pairs_depth t.2
  simp only [toldK, NestedKey.depth, NestedKey.depthAll]
  omega
theorem told_ok (l : List (Int × List (Int × Int))) : ∀ k ∈ l.map toldK, textless k = true ∧ k.data.depth ≤ 8 := fun k hk => by
  obtain ⟨t, _, rfl⟩ := List.mem_map.mp hk
  exact ⟨told_textless t, Nat.le_trans (enc_told.dep t) (by decide)⟩
/-- the place of a told in a list of them -/
theorem rd_index {K : PySem.W.Frag} {H : Hp} {p : Addr} {xs : List V} {ls : List (Int × List (Int × Int))} {t : Int × List (Int × Int)} {y : V} {Q : VK} (h : SqL K H p xs) (im : ImAll K H xs (ls.map toldK)) (hy : Im K H y (toldK t)) (ht : t ∈ ls) (q : Q (.int (DW.pos t ls : Nat)) H) : rIndexD K (.ref p) [y] H Q := by
  have e : ∀ m : Nat, (NestedKey.datas (ls.map toldK))[m]? = ls[m]?.map fun t => (toldK t).data := fun m => by
    rw [datas_map, List.map_map, List.getElem?_map]; rfl
  refine ⟨p, y, _, _, DW.pos t ls, (toldK t).data, rfl, rfl, dp_list h im, Im.dp _ _ hy, list_shaped (told_ok ls), key_shaped (told_textless t) (Nat.le_trans (enc_told.dep t) (by decide)), ?_, ?_, fun m z hm hz => ?_, q⟩
  · rw [e, DW.pos_get ht]; rfl
  · rw [told_eqv]; simp
  · rw [e] at hz
    cases h2 : ls[m]? with
    | none => rw [h2] at hz; cases hz
    | some u =>
      rw [h2] at hz
      obtain rfl := Option.some.inj hz
      rw [told_eqv]
      exact decide_eq_false (DW.pos_first hm h2)
theorem pe_bmK {X : Cx} {T : String} {name : String} {r : V → List V → Hp → VK → Prop} {o e : Expr} {es : List Expr} {to : TE} {t : TA} {apos cpos : Pos} (K : PySem.W.Frag) (hK : X.K = K) (h : PE X (.Call (.Attribute o name apos) (e :: es) [] cpos) (tBM X.K T r to t)) : PE X (.Call (.Attribute o name apos) (e :: es) [] cpos) (tBM K T r to t) := by
  subst hK; exact h
theorem around_eq {n : Nat} {W : Web} (g : Sh n W) (m : List Int) (x : Nat) : ((List.range n).filter fun z => at2 W x z != 0).map (fun z => pairK (at2 W x z, m.getD z 0)) = (DW.around W m x).map pairK := by
  unfold DW.around
  rw [g.len]
  induction List.range n with
  | nil => rfl
  | cons z l ih => by_cases h : at2 W x z = 0 <;> simp [h, ih, -List.getD_eq_getElem?_getD]
theorem sort_pairs (l : List (Int × Int)) : PySem.W.Sortable ((l.map pairK).map NestedKey.data) := sort_tups fun b _ => ⟨_, _, rfl⟩
theorem sort_told (l : List (Int × List (Int × Int))) : PySem.W.Sortable ((l.map toldK).map NestedKey.data) := sort_tups fun b _ => ⟨_, _, rfl⟩
theorem toldK_inj (a b : Int × List (Int × Int)) (h : toldK a = toldK b) : a = b := enc_told.inj (by rw [h])
end L2.DL
end

section
set_option Elab.async false
set_option linter.all false
set_option maxRecDepth 100000
/-! Walk G: refined, marks_of. -/
namespace L2.DL
open PySem PySem.Spec PyProof.Rows
open DW (Web at2 Good IsOrd og Sh)
theorem dd_few {α : Type} [DecidableEq α] {l cs : List α} (nd : cs.Nodup) (hm : ∀ c, c ∈ cs ↔ c ∈ l) : cs.Perm (DW.dd l) := DW.nodup_perm nd (DW.dd_nodup l) fun x => by rw [hm x, DW.dd_mem]
section
variable {P : Program} {w : World} {K : PySem.W.Frag} {mg : Str → Option Value} {base : Heap}
abbrev sRefined : Stmt := topS 23
theorem scRefined : FnScope ["web", "marks", "told", "x", "around", "order", "z", "many", "one"] ["web", "marks"] (defScope sRefined) := ⟨rfl, rfl, rfl, by decide +kernel, rfl, by decide +kernel, by decide +kernel⟩
def spRefined (K : PySem.W.Frag) : Sp := fun vs H Q _ => ∃ v pm n W m, vs = [v, .ref pm] ∧ Wb K H v n W ∧ SqL K H pm (List.map V.int m) ∧ m.length = n ∧ RetL K ((DW.refined W m).map .num) H Q
theorem at_refined (D : Def K mg "refined" sRefined ["web", "marks"]) (B : Bts mg) : At P w K mg base "refined" 1 ["web", "marks"] (spRefined K) := by
  refine D.at scRefined (fun vs H Q E h => ?_) (fun f cdv A outer s H vs Q E hr h => ?_)
  · obtain ⟨v, pm, n, W, m, rfl, _⟩ := h; rfl
  · obtain ⟨v, pm, n, W, m, rfl, hw, hpm, hml, q⟩ := h
    have hu := hr.units
    have hu65 : (A.deeper (envOfC "refined" (defScope sRefined) s.heap.objs.size f cdv)).units + 65 < cLine := by have := hr.un; omega
    have h5 := hw.few
    refine ⟨_, (pss_cons ((ps_set (i := 2) scRefined.nd rfl (Or.inl rfl) (pe_lst pa_nil))) (pss_cons ((ps_for PassesOwn.never rfl ((pi_range1 (by rfl) B.range (pa_cons ((pe_callB (r := rLen K) call_lenK (by rfl) B.len boot_len (pa_cons (pv 0) pa_nil))) pa_nil))) (pg_name (i := 3) scRefined.nd rfl (Or.inl rfl)) ((pss_cons ((ps_set (i := 4) scRefined.nd rfl (Or.inl rfl) (pe_callB (r := rSortE K pairK) (cr_sortE enc_pair hu) (by rfl) B.sorted (by decide +kernel) (pa_cons (pe_lc (own := [("z", 6), ("many", 7)]) (g := gTup K 2 (gCons (gName 6) (gCons (gName 7) gNil))) (by rfl) scRefined.nd (pi_enumT (by rfl) B.enumerate (pa_cons (pe_ix (r := rIxT K) ix_tup (pv 0) (pv 3) (fun _ _ => rfl)) pa_nil)) (blkOk_by (own := [("z", 6), ("many", 7)]) (N := ["web", "marks", "told", "x", "around", "order", "z", "many", "one"]) (sc := defScope sRefined) (by decide +kernel)) (fun _ _ _ _ _ => pg_tup rfl (pgs_cons (pg_name (i := 6) scRefined.nd rfl (Or.inl rfl)) (pgs_cons (pg_name (i := 7) scRefined.nd rfl (Or.inl rfl)) pgs_nil))) (fun _ _ _ _ _ => pts_one ((pt_cmpR op_ne (pv 7) (pe_int) (nomark _)))) (fun _ _ _ _ _ => (pe_tup (pa_cons (pv 7) (pa_cons ((pe_ix (r := rIxL K) ix_list (pv 1) (pv 6) (fun _ _ => rfl))) pa_nil))))) pa_nil)))) (pss_one ((ps_expr (pe_bm PySem.F.plainAttrs_list PySem.F.slot_list_append PySem.F.type_list_append mt_append (pv 2) (pa_cons ((pe_tup (pa_cons ((pe_ix (r := rIxL K) ix_list (pv 1) (pv 3) (fun _ _ => rfl))) (pa_cons ((pe_tupK K rfl (by rfl) B.tuple (pv 4))) pa_nil)))) pa_nil))))))))) (pss_cons ((ps_set (i := 5) scRefined.nd rfl (Or.inr rfl) (pe_callB (r := rSortSetE w K toldK) (cr_sortSetE enc_told rfl hu) (by rfl) B.sorted (by decide +kernel) (pa_cons (pe_callTy (r := rSetE w K toldK) (cr_setE toldK_inj (fun b => ⟨_, rfl⟩) (fun b => ⟨told_depth b, told_textless b⟩) rfl hu) (by rfl) B.set (by decide +kernel) (pa_cons (pv 2) pa_nil)) pa_nil)))) (pss_one (ps_ret (pe_lc (own := [("one", 8)]) (g := gName 8) (tt := tYes) (by rfl) scRefined.nd ((pi_listK K rfl (pv 2))) (blkOk_by (own := [("one", 8)]) (N := ["web", "marks", "told", "x", "around", "order", "z", "many", "one"]) (sc := defScope sRefined) (by decide +kernel)) (fun _ _ _ _ _ => pg_name (i := 8) scRefined.nd rfl (Or.inl rfl)) (fun _ _ _ _ _ => pts_nil) (fun _ _ _ _ _ => pe_bmK K rfl (pe_bm (r := rIndexD K) PySem.F.plainAttrs_list PySem.F.slot_list_index PySem.F.type_list_index (mt_indexD hu65) (pv 5) (pa_cons (pv 8) pa_nil))))))))), ?_⟩
    refine ⟨by show 0 ≤ sizeLine; decide, fun to hto => ?_⟩
    have hw1 := hw.same (same_new (o := .lst []) hto)
    refine ⟨_, rfl, rd_lenW hw1.im hw1.len ⟨(n : Int), rfl, by omega, by omega, for_it (walk_r0 (n := n)) (fun i σ H1 => Same H H1 ∧ (∃ a b, σ = [some v, some (.ref pm), some (.ref to), a, b, none, none, none, none]) ∧
      ∃ xs, H1 to = some (.lst xs) ∧ ImAll K H1 xs (((List.range i).map fun x => (m.getD x 0, DW.isort (DW.around W m x))).map toldK)) ?_ (fun _ _ _ _ _ => trivial) (fun i v2 σ H9 H1 hi hp hy => ?_) fun σ H1 hp => ?_⟩⟩
    · exact ⟨same_new hto, ⟨_, _, rfl⟩, [], upd_same, .nil⟩
    · obtain ⟨s1, ⟨a, b, rfl⟩, xs, hxs, ims⟩ := hp
      obtain ⟨rfl, rfl⟩ := hy
      have hw2 := hw.same s1
      have hpm1 := sql_same s1 hpm
      refine ⟨_, rfl, _, rfl, ix_row hw2.im (by rw [hw2.len]; exact hi) fun u hu1 => ?_⟩
      obtain ⟨ar, rs, rfl, hrs, hrt⟩ := hu1.tup_inv
      have er := im_ints_inv hrt
      have hlr : rs.length = n := by rw [er, List.length_map, hw.row hi]
      refine ⟨ar, rs, rfl, hrs, fun D2 hD2 => lcIm walk_enumT (K := K) hD2 (by omega) (fun z => at2 W i z != 0) (fun z => pairK (at2 W i z, m.getD z 0)) (fun H' s' => Same.seqT s' hrs) (fun z y H2 H3 hz s2 _ hy C N hC hN => ?_) fun H4 ys s4 hys him => ?_⟩
      · obtain ⟨T, x, y, rfl, hT, rfl, e1, e2⟩ := hy
        obtain rfl := Option.some.inj e1
        rw [hlr] at hz
        dsimp only at e2
        rw [er, List.getElem?_map, getD_some 0 (by rw [hw.row hi]; exact hz)] at e2
        obtain rfl := Option.some.inj e2
        have e3 : (W.getD i []).getD z 0 = at2 W i z := rfl
        rw [e3]
        have sT := same_new (o := .tup [.int (z : Nat), .int (at2 W i z)]) hT
        refine ⟨T, _, rfl, SqT.of upd_same, rfl, _, _, rfl, _, _, rfl, rfl, rfl, _, rfl, rfl, _, rfl, ?_⟩
        show if (!decide (V.int (at2 W i z) = V.int 0)) = true then _ else _
        by_cases hp0 : at2 W i z = 0
        · rw [show (!decide (V.int (at2 W i z) = V.int 0)) = false by simp [hp0]]
          exact iteF (hN (by simp [hp0]) _ sT)
        · rw [show (!decide (V.int (at2 W i z) = V.int 0)) = true by simp [hp0]]
          have hpm2 := sql_same (s2.trans sT) hpm1
          refine iteT ⟨_, rfl, _, rfl, _, rfl, rd_lst (v := .int (m.getD z 0)) hpm2 (by rw [List.getElem?_map, getD_some 0 (by omega)]; rfl) ⟨by show 2 ≤ sizeLine; decide, fun t ht => ?_⟩⟩
          exact hC (by simp [hp0]) _ _ (sT.trans (same_new ht)) (.tup (SqT.of upd_same) (.cons (.int _) (.cons (.int _) .nil)))
      · rw [hlr, around_eq hw.good.sh] at him
        have hal : (DW.around W m i).length ≤ n := by
          have := congrArg List.length (around_eq hw.good.sh m i)
          rw [List.length_map, List.length_map] at this
          rw [← this]
          have := List.length_filter_le (fun z => at2 W i z != 0) (List.range n)
          rwa [List.length_range] at this
        refine ⟨D2, ys, DW.around W m i, rfl, SqL.of hys, him, sort_pairs _, by omega, fun pa ya hpa ima => ?_⟩
        have s5 := same_new (o := .lst ya) hpa
        have hpm5 := sql_same ((s1.trans s4).trans s5) hpm
        have to5 := (s4.trans s5) _ _ hxs
        refine ⟨_, rfl, .inl ⟨rfl, _, SqL.of to5⟩, _, rfl, _, rfl, rd_lst (v := .int (m.getD i 0)) hpm5 (by rw [List.getElem?_map, getD_some 0 (by omega)]; rfl) ⟨_, rfl, tup_all (SqL.of upd_same) (ima.same s5) fun H6 u s6 imu => ⟨by show 2 ≤ sizeLine; decide, fun t ht => ?_⟩⟩⟩
        have s7 := same_new (o := .tup [.int (m.getD i 0), u]) ht
        have s47 := ((s4.trans s5).trans s6).trans s7
        have to7 := s47 _ _ hxs
        refine ⟨to, _, _, rfl, rfl, to7, ?_, same_grow (s1.trans s47) hto, ⟨_, _, rfl⟩, _, upd_same, ?_⟩
        · rw [ims.length, List.length_map, List.length_map, List.length_range]
          exact Nat.lt_of_le_of_lt (show i ≤ 100000 by omega) (by decide)
        · have imt : Im K (upd H6 t (.tup [.int (m.getD i 0), u])) (.ref t) (toldK (m.getD i 0, DW.isort (DW.around W m i))) := .tup (SqT.of upd_same) (.cons (.int _) (.cons (imu.same s7) .nil))
          rw [List.range_succ, List.map_append, List.map_append]
          exact ImAll.mono (TEx.upd (.inr ⟨_, to7⟩)) _ _ ((ims.same s47).append (.cons imt .nil))
    · obtain ⟨s1, ⟨a, b, rfl⟩, xs, hxs, ims⟩ := hp
      have et : ((List.range n).map fun x => (m.getD x 0, DW.isort (DW.around W m x))) = DW.told W m := by unfold DW.told; rw [hw.len]
      rw [et] at ims
      have ltl : (DW.told W m).length = n := by unfold DW.told; rw [List.length_map, List.length_range, hw.len]
      refine ⟨_, rfl, to, xs, DW.told W m, rfl, SqL.of hxs, ims, by omega, fun sa L cs hsa eL nd hm hL => ?_⟩
      have s2 := same_new (o := SetO w sa L) hsa
      have hcl : cs.length ≤ n := by
        have := (dd_few nd hm).length_eq
        rw [this, ← ltl]
        exact DW.nodup_len (DW.dd_nodup _) fun x hx => DW.dd_mem.mp hx
      refine ⟨sa, L, cs, rfl, upd_same, eL, fun p hp => (hL p hp).same s2, by omega, sort_told cs, fun po yo hpo imo => ?_⟩
      rw [DW.isort_eq (dd_few nd hm)] at imo
      have s3 := same_new (o := .lst yo) hpo
      have s23 := s2.trans s3
      have imx := ims.same s23
      have imo3 := imo.same s3
      refine ⟨_, rfl, to, rfl, ⟨_, SqL.of (s23 _ _ hxs)⟩, fun D2 hD2 => lcIm walk_list (K := K) hD2 (by rw [ims.length, List.length_map]; omega) (fun _ => true) (fun i => .num ((DW.refined W m).getD i 0)) (fun H' s' => sql_same s' (SqL.of (s23 _ _ hxs))) (fun i x H9 H5 hi s5 _ hy C N hC _ => ?_) fun H5 ys s5 hys him => ?_⟩
      · obtain ⟨rfl, hx⟩ := hy
        obtain ⟨k, hk, hv⟩ := imx.at hx
        rw [ims.length, List.length_map] at hi
        rw [List.getElem?_map, getD_some (0, []) hi] at hk
        obtain rfl := Option.some.inj hk
        have hmem : (DW.told W m).getD i (0, []) ∈ DW.isort (DW.dd (DW.told W m)) := (DW.isort_perm _).mem_iff.mpr (DW.dd_mem.mpr (getD_mem hi))
        refine ⟨rfl, tyes ⟨_, rfl, .inl ⟨rfl, _, sql_same s5 (SqL.of upd_same)⟩, _, rfl, rd_index (sql_same s5 (SqL.of upd_same)) (imo3.same s5) (hv.same s5) hmem (hC rfl _ _ (Same.refl _) ?_)⟩⟩
        have e : (DW.refined W m).getD i 0 = ((DW.pos ((DW.told W m).getD i (0, [])) (DW.isort (DW.dd (DW.told W m))) : Nat) : Int) := by
          unfold DW.refined
          exact DW.getD_of (by rw [List.getElem?_map, getD_some (0, []) hi]; rfl)
        rw [e]
        exact .int _
      · rw [all_range, ims.length, List.length_map] at him
        have e : (List.range (DW.told W m).length).map (fun i => NestedKey.num ((DW.refined W m).getD i 0)) = (DW.refined W m).map .num := by
          refine List.ext_getElem (by simp [DW.refined]) fun i h1 h2 => ?_
          simp at h1 h2
          simp [h2]
        rw [e] at him
        exact q H5 D2 ys ((s1.trans s23).trans s5) (none_of (s1.trans s23) hD2) hys him
abbrev sMarksOf : Stmt := topS 24
theorem scMarksOf : FnScope ["web", "marks", "turn"] ["web"] (defScope sMarksOf) := ⟨rfl, rfl, rfl, by decide +kernel, rfl, by decide +kernel, by decide +kernel⟩
def spMarksOf (K : PySem.W.Frag) : Sp := fun vs H Q _ => ∃ v n W, vs = [v] ∧ Wb K H v n W ∧ RetL K ((DW.marksOf W).map .num) H Q
theorem at_marks_of (D : Def K mg "marks_of" sMarksOf ["web"]) (B : Bts mg) (a1 : At P w K mg base "refined" 1 ["web", "marks"] (spRefined K)) : At P w K mg base "marks_of" 2 ["web"] (spMarksOf K) := by
  refine D.at scMarksOf (fun vs H Q E h => ?_) (fun f cdv A outer s H vs Q E hr h => ?_)
  · obtain ⟨v, n, W, rfl, _⟩ := h; rfl
  · obtain ⟨v, n, W, rfl, hw, q⟩ := h
    have h5 := hw.few
    refine ⟨_, (pss_cons ((ps_set (i := 1) scMarksOf.nd rfl (Or.inl rfl) ((pe_op op_rep ((pe_lst (pa_cons (pe_int) pa_nil))) ((pe_callB (r := rLen K) call_lenK (by rfl) B.len boot_len (pa_cons (pv 0) pa_nil))))))) (pss_cons ((ps_for PassesOwn.never rfl ((pi_range1 (by rfl) B.range (pa_cons ((pe_callB (r := rLen K) call_lenK (by rfl) B.len boot_len (pa_cons (pv 0) pa_nil))) pa_nil))) (pg_name (i := 2) scMarksOf.nd rfl (Or.inl rfl)) (pss_one (ps_set (i := 1) scMarksOf.nd rfl (Or.inl rfl) ((pe_at a1 hr (by decide) (pa_cons (pv 0) (pa_cons (pv 1) pa_nil)))))))) (pss_one (ps_ret (pv 1))))), ?_⟩
    refine ⟨by show 1 ≤ sizeLine; decide, fun l hl => ?_⟩
    have hw1 := hw.same (same_new (o := .lst [.int 0]) hl)
    refine ⟨_, rfl, rd_lenW hw1.im hw1.len ⟨l, _, _, rfl, rfl, upd_same, by omega, by omega, ?_, fun p hp => ?_⟩⟩
    · rw [Int.toNat_natCast]
      exact Nat.le_trans (show 1 * n ≤ 100000 by omega) (by decide)
    have s2 := (same_new (o := .lst [.int 0]) hl).trans (same_new (o := .lst ((List.replicate n (0 : Int)).map V.int)) hp)
    rw [rep_zero]
    have hw2 := hw.same s2
    have np := none_of (same_new (o := .lst [.int 0]) hl) hp
    refine ⟨_, rfl, rd_lenW hw2.im hw2.len ⟨(n : Int), rfl, by omega, by omega, for_it (walk_r0 (n := n)) (fun i σ H1 => Same H H1 ∧ ∃ pm a, σ = [some v, some (.ref pm), a] ∧ H pm = none ∧ H1 pm = some (.lst ((DW.marksN W i).map V.int))) ?_ (fun _ _ _ _ _ => trivial) (fun i v2 σ H9 H1 hi hp hy => ?_) fun σ H1 hp => ?_⟩⟩
    · refine ⟨s2, p, _, rfl, np, ?_⟩
      rw [upd_same]
      unfold DW.marksN
      rw [hw.len]
    · obtain ⟨s1, pm, a, rfl, hn, hx⟩ := hp
      obtain ⟨rfl, rfl⟩ := hy
      refine ⟨_, rfl, _, rfl, v, pm, n, W, _, rfl, hw.same s1, SqL.of hx, by rw [DW.marksN_len, hw.len], fun H2 p2 xs2 s2 hp2 hx2 im2 => ?_⟩
      have e := im_ints_inv im2
      subst e
      exact ⟨s1.trans s2, p2, _, rfl, none_of s1 hp2, hx2⟩
    · obtain ⟨s1, pm, a, rfl, hn, hx⟩ := hp
      refine ⟨_, rfl, q H1 pm _ s1 hn hx ?_⟩
      unfold DW.marksOf
      rw [hw.len]
      exact im_ints _
end
end L2.DL
end

section
set_option Elab.async false
set_option linter.all false
set_option maxRecDepth 100000
/-! Plain G: how many orders; all orders. -/
namespace DW
theorem flat_len {α β : Type} {f : α → List β} {B : Nat} : ∀ {l : List α}, (∀ a ∈ l, (f a).length ≤ B) → (l.flatMap f).length ≤ l.length * B
  | [], _ => by simp
  | a :: l, h => by
    rw [List.flatMap_cons, List.length_append, List.length_cons, Nat.succ_mul]
    have h1 := h a (List.mem_cons_self ..)
    have h2 := flat_len (l := l) fun b hb => h b (List.mem_cons_of_mem _ hb)
    omega
theorem longer_len (places : List Int) (v : Int) (o : List Nat) : (longer places v o).length ≤ places.length := by
  unfold longer
  have := List.length_filterMap_le (fun a => if places.getD a 0 = v ∧ ¬ a ∈ o then some (o ++ [a]) else none) (List.range places.length)
  rwa [List.length_range] at this
theorem ordersN_len {m : List Int} (h : m.length ≤ 5) : ∀ k, (ordersN m k).length ≤ 5 ^ k
  | 0 => by simp [ordersN]
  | k + 1 => by
    unfold ordersN
    have h1 := ordersN_len h k
    have h2 := flat_len (l := ordersN m k) (f := longer (isort m) (m.getD k 0)) (B := 5) fun o _ => Nat.le_trans (longer_len ..) (by rw [isort_len]; exact h)
    rw [Nat.pow_succ]
    omega
def allO (n : Nat) : Nat → List (List Nat)
  | 0 => [[]]
  | k + 1 => (allO n k).flatMap fun o => ((List.range n).filter fun x => !decide (x ∈ o)).map fun x => o ++ [x]
theorem allO_len {n : Nat} (h : n ≤ 5) : ∀ k, (allO n k).length ≤ 5 ^ k
  | 0 => by simp [allO]
  | k + 1 => by
    unfold allO
    have h1 := allO_len h k
    have h2 := flat_len (l := allO n k) (f := fun o => ((List.range n).filter fun x => !decide (x ∈ o)).map fun x => o ++ [x]) (B := 5) fun o _ => by
      rw [List.length_map]
      have := List.length_filter_le (fun x => !decide (x ∈ o)) (List.range n)
      rw [List.length_range] at this
      omega
    rw [Nat.pow_succ]
    omega
theorem allO_mem {n : Nat} : ∀ {k : Nat} {o : List Nat}, o ∈ allO n k → o.length = k ∧ o.Nodup ∧ ∀ v ∈ o, v < n
  | 0, o, h => by
    have : o = [] := by simpa [allO] using h
    subst this; simp
  | k + 1, o, h => by
    unfold allO at h
    obtain ⟨p, hp, h⟩ := List.mem_flatMap.mp h
    obtain ⟨x, hx, rfl⟩ := List.mem_map.mp h
    obtain ⟨h1, h2, h3⟩ := allO_mem hp
    obtain ⟨hx1, hx2⟩ := List.mem_filter.mp hx
    have hx3 : ¬ x ∈ p := by simpa using hx2
    refine ⟨by simp [h1], ?_, fun v hv => ?_⟩
    · rw [List.nodup_append]
      exact ⟨h2, by simp, fun a ha b hb q => hx3 (by rw [← List.mem_singleton.mp hb, ← q]; exact ha)⟩
    · rcases List.mem_append.mp hv with c | c
      · exact h3 v c
      · rw [List.mem_singleton.mp c]; exact List.mem_range.mp hx1
theorem allO_ord {n : Nat} {o : List Nat} (h : o ∈ allO n n) : IsOrd n o := by
  obtain ⟨h1, h2, h3⟩ := allO_mem h
  exact ⟨h1, h2, h3⟩
theorem allO_id {n : Nat} : ∀ {k : Nat}, k ≤ n → List.range k ∈ allO n k
  | 0, _ => by simp [allO]
  | k + 1, h => by
    unfold allO
    refine List.mem_flatMap.mpr ⟨List.range k, allO_id (by omega), List.mem_map.mpr ⟨k, List.mem_filter.mpr ⟨List.mem_range.mpr (by omega), by simp⟩, by rw [List.range_succ]⟩⟩
theorem allO_ne (n : Nat) : allO n n ≠ [] := fun e => by
  have := allO_id (n := n) (Nat.le_refl n)
  rw [e] at this
  exact List.not_mem_nil this
end DW
end

section
set_option Elab.async false
set_option linter.all false
set_option maxRecDepth 100000
/-! Walk H: orders_by, plain_name, all_orders, least_by_name. -/
namespace L2.DL
open PySem PySem.Spec PyProof.Rows
open DW (Web at2 Good IsOrd og Sh)
theorem pa_starK {X : Cx} (K : PySem.W.Frag) (hK : X.K = K) {e : Expr} {es : List Expr} {te : TE} {t : TA} {p : Pos} (he : PE X e te) (hr : PA X es t) (hs : starEach (.Starred e p :: es) X.env = (true, eval e X.env) :: starEach es X.env := by rfl) : PA X (.Starred e p :: es) (StX.tStar K te t) := by
  subst hK; exact StX.pa_star he hr hs
theorem longer_eq (pl : List Int) (v : Int) (o : List Nat) : ((List.range pl.length).filter fun a => decide (pl.getD a 0 = v) && !decide (a ∈ o)).map (fun a => partK (o ++ [a])) = (DW.longer pl v o).map partK := by
  unfold DW.longer
  induction List.range pl.length with
  | nil => rfl
  | cons z l ih =>
    have key : ∀ (b : Bool) (r : Option (List Nat)), (decide (pl.getD z 0 = v) && !decide (z ∈ o)) = b → (if pl.getD z 0 = v ∧ ¬ z ∈ o then some (o ++ [z]) else none) = r → (b = true → r = some (o ++ [z])) → (b = false → r = none) → ((z :: l).filter fun a => decide (pl.getD a 0 = v) && !decide (a ∈ o)).map (fun a => partK (o ++ [a])) = ((z :: l).filterMap fun a => if pl.getD a 0 = v ∧ ¬ a ∈ o then some (o ++ [a]) else none).map partK := fun b r e1 e2 h1 h2 => by
      cases b with
      | true =>
        rw [h1 rfl] at e2
        rw [List.filter_cons_of_pos (p := fun a => decide (pl.getD a 0 = v) && !decide (a ∈ o)) e1, List.filterMap_cons_some (f := fun a => if pl.getD a 0 = v ∧ ¬ a ∈ o then some (o ++ [a]) else none) e2, List.map_cons, List.map_cons, ih]
      | false =>
        rw [h2 rfl] at e2
        rw [List.filter_cons_of_neg (p := fun a => decide (pl.getD a 0 = v) && !decide (a ∈ o)) (by rw [e1]; decide), List.filterMap_cons_none (f := fun a => if pl.getD a 0 = v ∧ ¬ a ∈ o then some (o ++ [a]) else none) e2, ih]
    refine key _ _ rfl rfl (fun h => if_pos ?_) fun h => if_neg fun c => ?_
    · rw [Bool.and_eq_true] at h
      exact ⟨of_decide_eq_true h.1, by simpa using h.2⟩
    · rw [decide_eq_true c.1, decide_eq_false c.2] at h
      cases h
theorem Im.nats {K : PySem.W.Frag} {H : Hp} {v : V} {o : List Nat} (h : Im K H v (partK o)) : ∃ a, v = .ref a ∧ SqT K H a (nV o) := by
  obtain ⟨a, xs, rfl, hs, ht⟩ := h.tup_inv
  have e := im_nats_inv ht
  subst e
  exact ⟨a, rfl, hs⟩
section
variable {P : Program} {w : World} {K : PySem.W.Frag} {mg : Str → Option Value} {base : Heap}
abbrev sOrdersBy : Stmt := topS 25
theorem scOrdersBy : FnScope ["marks", "places", "found", "x", "longer", "order", "at", "mark"] ["marks"] (defScope sOrdersBy) := ⟨rfl, rfl, rfl, by decide +kernel, rfl, by decide +kernel, by decide +kernel⟩
def spOrdersBy (K : PySem.W.Frag) : Sp := fun vs H Q _ => ∃ pm m, vs = [.ref pm] ∧ SqL K H pm (List.map V.int m) ∧ m.length ≤ 5 ∧ RetL K ((DW.ordersBy m).map partK) H Q
theorem at_orders_by (D : Def K mg "orders_by" sOrdersBy ["marks"]) (B : Bts mg) : At P w K mg base "orders_by" 1 ["marks"] (spOrdersBy K) := by
  refine D.at scOrdersBy (fun vs H Q E h => ?_) (fun f cdv A outer s H vs Q E hr h => ?_)
  · obtain ⟨pm, m, rfl, _⟩ := h; rfl
  · obtain ⟨pm, m, rfl, hpm, h5, q⟩ := h
    have hu := hr.units
    refine ⟨_, (pss_cons ((ps_set (i := 1) scOrdersBy.nd rfl (Or.inl rfl) (pe_callB (r := rSortE K .num) (cr_sortE enc_int hu) (by rfl) B.sorted (by decide +kernel) (pa_cons (pv 0) pa_nil)))) (pss_cons ((ps_set (i := 2) scOrdersBy.nd rfl (Or.inl rfl) ((pe_lst (pa_cons (pe_tup pa_nil) pa_nil))))) (pss_cons ((ps_for PassesOwn.never rfl ((pi_range1 (by rfl) B.range (pa_cons ((pe_callB (r := rLen K) call_lenK (by rfl) B.len boot_len (pa_cons (pv 0) pa_nil))) pa_nil))) (pg_name (i := 3) scOrdersBy.nd rfl (Or.inr rfl)) ((pss_cons ((ps_set (i := 4) scOrdersBy.nd rfl (Or.inl rfl) (pe_lst pa_nil))) (pss_cons ((ps_for PassesOwn.never rfl ((pi_listK K rfl (pv 2))) (pg_name (i := 5) scOrdersBy.nd rfl (Or.inr rfl)) (pss_one (ps_expr (pe_bm PySem.F.plainAttrs_list PySem.F.slot_list_extend PySem.F.type_list_extend mt_extend (pv 4) (pa_cons ((pe_lc (own := [("at", 6), ("mark", 7)]) (g := gTup K 2 (gCons (gName 6) (gCons (gName 7) gNil))) (by rfl) scOrdersBy.nd (pi_enum (by rfl) B.enumerate (pa_cons (pv 1) pa_nil)) (blkOk_by (own := [("at", 6), ("mark", 7)]) (N := ["marks", "places", "found", "x", "longer", "order", "at", "mark"]) (sc := defScope sOrdersBy) (by decide +kernel)) (fun _ _ _ _ _ => pg_tup rfl (pgs_cons (pg_name (i := 6) scOrdersBy.nd rfl (Or.inl rfl)) (pgs_cons (pg_name (i := 7) scOrdersBy.nd rfl (Or.inl rfl)) pgs_nil))) (fun _ _ _ _ _ => pts_one (PW.pt (pw_and (pt_cmpR op_eq (pv 7) ((pe_ix (r := rIxL K) ix_list (pv 0) (pv 3) (fun _ _ => rfl))) (nomark _)) (pw_and1 (pt_cmpR (r := rIn K true) op_notIn_seq (pv 6) (pv 5) (by rfl)))))) (fun _ _ _ _ _ => pe_tup (pa_starK K rfl (pv 5) (pa_cons (pv 6) pa_nil))))) pa_nil)))))) (pss_one ((ps_set (i := 2) scOrdersBy.nd rfl (Or.inl rfl) (pv 4))))))))) (pss_one (ps_ret (pv 2)))))), ?_⟩
    refine ⟨_, rfl, pm, _, m, rfl, hpm, im_ints m, sort_nums m, by omega, fun pl ys hpl imy => ?_⟩
    have ey := im_ints_inv imy
    subst ey
    have spl := same_new (o := .lst ((DW.isort m).map V.int)) hpl
    refine ⟨by show 0 ≤ sizeLine; decide, fun et het => ⟨by show 1 ≤ sizeLine; decide, fun fo hfo => ?_⟩⟩
    have s1 := spl.trans (same_new (o := .tup []) het)
    have hpm1 := sql_same (s1.trans (same_new (o := .lst [.ref et]) hfo)) hpm
    have n1 := none_of s1 hfo
    have lpl : (DW.isort m).length = m.length := DW.isort_len m
    refine ⟨_, rfl, rd_lenL hpm1 (by rw [List.length_map]) ⟨(m.length : Int), rfl, by omega, by omega, for_it (walk_r0 (n := m.length)) (fun i σ H1 => Same H H1 ∧ H1 pl = some (.lst ((DW.isort m).map V.int)) ∧ ∃ fo a b c xs, σ = [some (.ref pm), some (.ref pl), some (.ref fo), a, b, c, none, none] ∧ H fo = none ∧ H1 fo = some (.lst xs) ∧ ImAll K H1 xs ((DW.ordersN m i).map partK)) ?_ (fun _ _ _ _ _ => trivial) (fun i v2 σ H9 H1 hi hp hy => ?_) fun σ H1 hp => ?_⟩⟩
    · refine ⟨same_grow s1 n1, same_new hfo _ _ (same_new (o := .tup []) het _ _ upd_same), fo, _, _, _, _, rfl, n1, upd_same, ?_⟩
      exact .cons (.tup (SqT.of (same_new hfo _ _ upd_same)) .nil) .nil
    · obtain ⟨s1, hpl1, fo, a, b, c, xs, rfl, hfo, hxs, ims⟩ := hp
      obtain ⟨rfl, rfl⟩ := hy
      refine ⟨by show 0 ≤ sizeLine; decide, fun lo hlo => ?_⟩
      have sl := same_new (o := HO.lst []) hlo
      have nfl : fo ≠ lo := ne_of_none hxs hlo
      have npl : pl ≠ lo := ne_of_none hpl1 hlo
      have hlo0 := none_of s1 hlo
      have hxl : xs.length = (DW.ordersN m i).length := by rw [ims.length, List.length_map]
      have hbound := DW.ordersN_len h5 i
      have hb5 : (5 : Nat) ^ i ≤ 625 := Nat.le_trans (Nat.pow_le_pow_right (by decide) (show i ≤ 4 by omega)) (by decide)
      refine ⟨_, rfl, fo, rfl, ⟨_, SqL.of (sl _ _ hxs)⟩, for_it walk_list (fun j σ Hc => Same H Hc ∧ SameX lo (upd H1 lo (.lst [])) Hc ∧ (∃ c, σ = [some (.ref pm), some (.ref pl), some (.ref fo), some (.int (i : Nat)), some (.ref lo), c, none, none]) ∧
        ∃ ys, Hc lo = some (.lst ys) ∧ ImAll K Hc ys (((DW.ordersN m i).take j).flatMap (DW.longer (DW.isort m) (m.getD i 0)) |>.map partK)) ?_ (fun j _ Hc _ hP => SqL.of (hP.2.1 _ _ nfl (sl _ _ hxs))) (fun j v3 σ H9 Hc hj hP hy => ?_) fun σ Hc hP => ?_⟩
      · exact ⟨s1.trans sl, SameX.refl _ _, ⟨_, rfl⟩, [], upd_same, .nil⟩
      · obtain ⟨sc, xc, ⟨c, rfl⟩, ys, hys, imy⟩ := hP
        obtain ⟨rfl, hx⟩ := hy
        rw [hxl] at hj
        obtain ⟨k, hk, hv⟩ := ims.at hx
        rw [List.getElem?_map, getD_some [] hj] at hk
        obtain rfl := Option.some.inj hk
        have hget := getD_some ([] : List Nat) hj
        generalize (DW.ordersN m i).getD j [] = o at hv hget
        have tx : TEx H1 Hc := (TEx.same sl).trans (TEx.sameX xc ⟨_, upd_same⟩)
        obtain ⟨ao, rfl, hao⟩ := (Im.mono tx _ _ hv).nats
        have hplc : Hc pl = some (.lst ((DW.isort m).map V.int)) := xc _ _ npl (sl _ _ hpl1)
        have hpmc := sql_same sc hpm
        have lenp : ((DW.isort m).map V.int).length = (DW.isort m).length := by rw [List.length_map]
        refine ⟨_, rfl, .inl ⟨rfl, _, SqL.of hys⟩, _, rfl, pl, _, rfl, SqL.of hplc, fun D2 hD2 => lcIm walk_enum (K := K) hD2 (by rw [lenp, lpl]; omega) (fun a => decide ((DW.isort m).getD a 0 = m.getD i 0) && !decide (a ∈ o)) (fun a => partK (o ++ [a])) (fun H' s' => sql_same s' (SqL.of hplc)) (fun z y H2 H3 hz s2 _ hy C N hC hN => ?_) fun H4 zs s4 hzs imz => ?_⟩
        · obtain ⟨T, x, y, rfl, hT, rfl, e1, e2⟩ := hy
          obtain rfl := Option.some.inj e1
          rw [lenp] at hz
          dsimp only at e2
          rw [List.getElem?_map, getD_some 0 hz] at e2
          obtain rfl := Option.some.inj e2
          have sT := same_new (o := .tup [.int (z : Nat), .int ((DW.isort m).getD z 0)]) hT
          refine ⟨T, _, rfl, SqT.of upd_same, rfl, _, _, rfl, _, _, rfl, rfl, rfl, _, rfl, _, rfl, _, rfl, rd_lst (v := .int (m.getD i 0)) (sql_same (s2.trans sT) hpmc) (by rw [List.getElem?_map, getD_some 0 hi]; rfl) ⟨rfl, _, rfl, ?_⟩⟩
          have hao2 := Same.seqT (s2.trans sT) hao
          show if decide (V.int ((DW.isort m).getD z 0) = V.int (m.getD i 0)) = true then _ else _
          by_cases c1 : (DW.isort m).getD z 0 = m.getD i 0
          · rw [show decide (V.int ((DW.isort m).getD z 0) = V.int (m.getD i 0)) = true by rw [c1]; simp]
            refine iteT ⟨_, rfl, _, rfl, rd_notin (.inr hao2) ⟨_, rfl, ?_⟩⟩
            by_cases c2 : z ∈ o
            · rw [show (!decide (z ∈ o)) = false by rw [decide_eq_true c2]; rfl]
              exact iteF (hN (by rw [decide_eq_true c2]; simp) _ sT)
            · rw [show (!decide (z ∈ o)) = true by rw [decide_eq_false c2]; rfl]
              refine iteT ⟨_, rfl, ao, _, rfl, .inl hao2, _, rfl, ?_, fun t ht => ?_⟩
              · have : o.length ≤ 100000 := by
                  have := ((DW.mem_ordersN m i o).mp (List.mem_of_getElem? hget)).len
                  omega
                rw [List.length_append, List.length_map]
                exact Nat.le_trans (show o.length + 1 ≤ 100001 by omega) (by decide)
              · refine hC (by rw [decide_eq_true c1, decide_eq_false c2]; rfl) _ _ (sT.trans (same_new ht)) (.tup (SqT.of upd_same) ?_)
                rw [nV_snoc]
                exact im_nats _
          · rw [show decide (V.int ((DW.isort m).getD z 0) = V.int (m.getD i 0)) = false by simpa using c1]
            exact iteF (iteF (hN (by rw [decide_eq_false c1]; rfl) _ sT))
        · rw [lenp, longer_eq] at imz
          have lo4 := s4 _ _ hys
          have hl1 : ys.length ≤ (DW.ordersN m i).length * 5 := by
            rw [imy.length, List.length_map]
            refine Nat.le_trans (DW.flat_len (B := 5) fun o _ => Nat.le_trans (DW.longer_len ..) (by rw [lpl]; exact h5)) (Nat.mul_le_mul_right 5 ?_)
            rw [List.length_take]; exact Nat.min_le_right ..
          have hl2 : zs.length ≤ 5 := by
            rw [imz.length, List.length_map]
            exact Nat.le_trans (DW.longer_len ..) (by rw [lpl]; exact h5)
          refine ⟨lo, D2, _, _, rfl, rfl, lo4, hzs, Nat.le_trans (show ys.length + zs.length ≤ 100000 by omega) (by decide), ?_⟩
          refine ⟨same_grow (sc.trans s4) hlo0, (xc.trans (SameX.of s4)).trans SameX.upd, ⟨_, rfl⟩, _, upd_same, ?_⟩
          rw [List.take_add_one, hget]
          have e : ((DW.ordersN m i).take j ++ (some o).toList).flatMap (DW.longer (DW.isort m) (m.getD i 0)) = ((DW.ordersN m i).take j).flatMap (DW.longer (DW.isort m) (m.getD i 0)) ++ DW.longer (DW.isort m) (m.getD i 0) o := by
            rw [List.flatMap_append]; simp
          rw [e, List.map_append]
          exact ImAll.mono (TEx.upd (.inr ⟨_, lo4⟩)) _ _ ((imy.same s4).append imz)
      · obtain ⟨sc, xc, ⟨c, rfl⟩, ys, hys, imy⟩ := hP
        rw [hxl, List.take_length] at imy
        exact ⟨_, rfl, sc, xc _ _ npl (sl _ _ hpl1), lo, _, _, _, ys, rfl, hlo0, hys, imy⟩
    · obtain ⟨s1, _, fo, a, b, c, xs, rfl, hfo, hxs, ims⟩ := hp
      exact ⟨_, rfl, q H1 fo xs s1 hfo hxs ims⟩
abbrev sPlainName : Stmt := topS 26
theorem scPlainName : FnScope ["web", "order"] ["web"] (defScope sPlainName) := ⟨rfl, rfl, rfl, by decide +kernel, rfl, by decide +kernel, by decide +kernel⟩
def spPlainName (K : PySem.W.Frag) : Sp := fun vs H Q _ => ∃ v n W, vs = [v] ∧ Wb K H v n W ∧ Ret K (webK (DW.plainName W)) H Q
theorem names_of {n : Nat} {W : Web} {os : List (List Nat)} {k : Nat} (hk : os.length = k) : (List.range k).map (fun i => webK (DW.nameW W (os.getD i []))) = (os.map (DW.nameW W)).map webK := by
  subst hk
  refine List.ext_getElem (by simp) fun i h1 h2 => ?_
  simp at h1
  simp [h1]
theorem at_plain_name (D : Def K mg "plain_name" sPlainName ["web"]) (B : Bts mg) (a1 : At P w K mg base "marks_of" 2 ["web"] (spMarksOf K)) (a2 : At P w K mg base "orders_by" 1 ["marks"] (spOrdersBy K)) (a3 : At P w K mg base "with_names" 2 ["web", "order"] (spWithNames K)) : At P w K mg base "plain_name" 3 ["web"] (spPlainName K) := by
  refine D.at scPlainName (fun vs H Q E h => ?_) (fun f cdv A outer s H vs Q E hr h => ?_)
  · obtain ⟨v, n, W, rfl, _⟩ := h; rfl
  · obtain ⟨v, n, W, rfl, hw, q⟩ := h
    have hu := hr.units
    have h5 := hw.few
    refine ⟨_, pss_one (ps_ret (pe_callB (r := rMinE K webK) (cr_minE enc_web rfl hu) (by rfl) B.min (by decide +kernel) (pa_cons (pe_lc (own := [("order", 1)]) (g := gName 1) (tt := tYes) (by rfl) scPlainName.nd ((pi_listK K rfl ((pe_at a2 hr (by decide) (pa_cons ((pe_at a1 hr (by decide) (pa_cons (pv 0) pa_nil))) pa_nil))))) (blkOk_by (own := [("order", 1)]) (N := ["web", "order"]) (sc := defScope sPlainName) (by decide +kernel)) (fun _ _ _ _ _ => pg_name (i := 1) scPlainName.nd rfl (Or.inl rfl)) (fun _ _ _ _ _ => pts_nil) (fun _ _ _ _ _ => (pe_at a3 hr (by decide) (pa_cons (pv 0) (pa_cons (pv 1) pa_nil))))) pa_nil))), ?_⟩
    refine ⟨_, rfl, v, n, W, rfl, hw, fun H1 pm xs s1 hpm hxs im1 => ?_⟩
    have e1 := im_ints_inv im1
    subst e1
    have ml : (DW.marksOf W).length = n := by rw [DW.marks_len, hw.len]
    refine ⟨pm, _, rfl, SqL.of hxs, by omega, fun H2 po ys s2 hpo hys im2 => ?_⟩
    have yl : ys.length = (DW.ordersBy (DW.marksOf W)).length := by rw [im2.length, List.length_map]
    have hb : (DW.ordersBy (DW.marksOf W)).length ≤ 3125 := by
      unfold DW.ordersBy
      exact Nat.le_trans (DW.ordersN_len (by omega) _) (Nat.le_trans (Nat.pow_le_pow_right (by decide) (show (DW.marksOf W).length ≤ 5 by omega)) (by decide))
    refine ⟨po, rfl, ⟨_, SqL.of hys⟩, fun D2 hD2 => lcIm walk_list (K := K) hD2 (by omega) (fun _ => true) (fun i => webK (DW.nameW W ((DW.ordersBy (DW.marksOf W)).getD i []))) (fun H' s' => sql_same s' (SqL.of hys)) (fun i x H9 H3 hi s3 _ hy C N hC _ => ?_) fun H4 zs s4 hzs imz => ?_⟩
    · obtain ⟨rfl, hx⟩ := hy
      obtain ⟨k, hk, hv⟩ := im2.at hx
      rw [yl] at hi
      rw [List.getElem?_map, getD_some [] hi] at hk
      obtain rfl := Option.some.inj hk
      have ho := (DW.ordersBy_ord (List.mem_of_getElem? (getD_some ([] : List Nat) hi))).1
      rw [ml] at ho
      have hv3 := hv.same s3
      rw [partK_eq] at hv3
      exact ⟨rfl, tyes ⟨_, rfl, _, rfl, v, x, n, W, _, rfl, hw.same ((s1.trans s2).trans s3), ho, hv3, fun H5 u s5 imu => hC rfl u H5 s5 imu⟩⟩
    · rw [all_range, names_of (n := n) yl.symm] at imz
      refine ⟨D2, zs, _, rfl, SqL.of hzs, imz, DW.plain_ne W, fun u imu => q H4 u ((s1.trans s2).trans s4) imu⟩
abbrev sAllOrders : Stmt := topS 27
theorem scAllOrders : FnScope ["n", "found", "turn", "order", "x"] ["n"] (defScope sAllOrders) := ⟨rfl, rfl, rfl, by decide +kernel, rfl, by decide +kernel, by decide +kernel⟩
def spAllOrders (K : PySem.W.Frag) : Sp := fun vs H Q _ => ∃ n : Nat, vs = [.int (n : Nat)] ∧ n ≤ 5 ∧ RetL K ((DW.allO n n).map partK) H Q
theorem ijs_all (n : Nat) (os : List (List Nat)) : (ijs (fun _ => n) (fun i x => !decide (x ∈ os.getD i [])) os.length).map (fun p => partK (os.getD p.1 [] ++ [p.2])) = (os.flatMap fun o => ((List.range n).filter fun x => !decide (x ∈ o)).map fun x => o ++ [x]).map partK := by
  unfold ijs
  rw [List.map_flatMap, List.map_flatMap]
  have : os = (List.range os.length).map fun i => os.getD i [] := by
    refine List.ext_getElem (by simp) fun i h1 h2 => ?_
    simp [h1]
  conv => rhs; rw [this]
  rw [List.flatMap_map]
  refine congrArg (fun g => (List.range os.length).flatMap g) (funext fun i => ?_)
  rw [List.map_map, List.map_map]
  rfl
theorem paired_im2 {H : Hp} {f : Nat × Nat → NestedKey} : ∀ {is : List (Nat × Nat)} {xs : List V}, Paired (fun p v => Im K H v (f p)) is xs → ImAll K H xs (is.map f)
  | _, _, .nil => .nil
  | _, _, .cons h t => .cons h (paired_im2 t)
theorem at_all_orders (D : Def K mg "all_orders" sAllOrders ["n"]) (B : Bts mg) : At P w K mg base "all_orders" 1 ["n"] (spAllOrders K) := by
  refine D.at scAllOrders (fun vs H Q E h => ?_) (fun f cdv A outer s H vs Q E hr h => ?_)
  · obtain ⟨n, rfl, _⟩ := h; rfl
  · obtain ⟨n, rfl, h5, q⟩ := h
    refine ⟨_, (pss_cons ((ps_set (i := 1) scAllOrders.nd rfl (Or.inl rfl) ((pe_lst (pa_cons (pe_tup pa_nil) pa_nil))))) (pss_cons ((ps_for PassesOwn.never rfl ((pi_range1 (by rfl) B.range (pa_cons (pv 0) pa_nil))) (pg_name (i := 2) scAllOrders.nd rfl (Or.inl rfl)) (pss_one (ps_setLc2 (i := 1) (own := [("order", 3), ("x", 4)]) (vs1 := [4]) (g := gName 3) (g1 := gName 4) (tt := tYes) (by rfl) scAllOrders.nd rfl rfl (sw_true rfl rfl rfl (by decide +kernel)) ((pi_listK K rfl (pv 1))) (blkOk_by (own := [("order", 3), ("x", 4)]) (N := ["n", "found", "turn", "order", "x"]) (sc := defScope sAllOrders) (by decide +kernel)) (by decide) (fun _ _ _ _ _ => pg_name (i := 3) scAllOrders.nd rfl (Or.inl rfl)) (fun _ _ _ _ _ => pts_nil) (fun _ _ _ _ _ => (pi_range1 (by rfl) B.range (pa_cons (pv 0) pa_nil))) (fun _ _ _ _ _ => pg_name (i := 4) scAllOrders.nd rfl (Or.inl rfl)) (fun _ _ _ _ _ => pts_one (pt_cmpR (r := rIn K true) op_notIn_seq (pv 4) (pv 3) (by rfl))) (fun _ _ _ _ _ => pe_tup (pa_starK K rfl (pv 3) (pa_cons (pv 4) pa_nil))))))) (pss_one (ps_ret (pv 1))))), ?_⟩
    refine ⟨by show 0 ≤ sizeLine; decide, fun et het => ⟨by show 1 ≤ sizeLine; decide, fun fo hfo => ?_⟩⟩
    have n1 := none_of (same_new het) hfo
    refine ⟨_, rfl, (n : Int), rfl, by omega, by omega, for_it (walk_r0 (n := n)) (fun i σ H1 => Same H H1 ∧ ∃ fo a xs, σ = [some (.int (n : Nat)), some (.ref fo), a, none, none] ∧ H fo = none ∧ H1 fo = some (.lst xs) ∧ ImAll K H1 xs ((DW.allO n i).map partK)) ?_ (fun _ _ _ _ _ => trivial) (fun i v2 σ H9 H1 hi hp hy => ?_) fun σ H1 hp => ?_⟩
    · refine ⟨same_grow (same_new het) n1, fo, _, _, rfl, n1, upd_same, ?_⟩
      exact .cons (.tup (SqT.of (same_new hfo _ _ upd_same)) .nil) .nil
    · obtain ⟨s1, fo, a, xs, rfl, hfo, hxs, ims⟩ := hp
      obtain ⟨rfl, rfl⟩ := hy
      have hxl : xs.length = (DW.allO n i).length := by rw [ims.length, List.length_map]
      have hbound := DW.allO_len h5 i
      have hb5 : (5 : Nat) ^ i ≤ 625 := Nat.le_trans (Nat.pow_le_pow_right (by decide) (show i ≤ 4 by omega)) (by decide)
      refine ⟨_, rfl, fo, rfl, ⟨_, SqL.of hxs⟩, fun D2 hD2 => lc2G walk_list hD2 (fun _ => n) (B := 5) (fun _ _ => h5) (by omega) (fun i' x => !decide (x ∈ (DW.allO n i).getD i' [])) (fun i' j H' u => Im K H' u (partK ((DW.allO n i).getD i' [] ++ [j]))) (fun _ _ H2 H3 u _ s2 hd ex h => Im.mono (TEx.sameX ex hd) _ _ h) (fun H' s' => sql_same s' (SqL.of hxs)) (fun j x H2 H3 hj s2 hd hy X1 N next => ?_) fun H4 zs s4 hzs pr => ?_⟩
      · obtain ⟨rfl, hx⟩ := hy
        rw [hxl] at hj
        obtain ⟨k, hk, hv⟩ := ims.at hx
        rw [List.getElem?_map, getD_some [] hj] at hk
        obtain rfl := Option.some.inj hk
        have hget := getD_some ([] : List Nat) hj
        have hol : ((DW.allO n i).getD j []).length ≤ 5 := by
          have := (DW.allO_mem (List.mem_of_getElem? hget)).1
          omega
        obtain ⟨o, ho⟩ : ∃ o, (DW.allO n i).getD j [] = o := ⟨_, rfl⟩
        rw [ho] at hv hol
        refine ⟨rfl, tyesI ⟨_, rfl, (n : Int), rfl, by omega, by omega, next _ _ _ _ _ (Same.refl _) (walk_r0 (n := n)) (fun _ _ _ => trivial) fun z y H5 H6 hz s5 e5 hd5 hy C N hC hN => ?_⟩⟩
        obtain ⟨rfl, rfl⟩ := hy
        obtain ⟨ao, rfl, hao⟩ := (hv.same s5).nats
        refine ⟨rfl, _, rfl, _, rfl, rd_notin (.inr hao) ⟨_, rfl, ?_⟩⟩
        by_cases c2 : z ∈ o
        · rw [show (!decide (z ∈ o)) = false by rw [decide_eq_true c2]; rfl]
          exact iteF (hN (by show (!decide (z ∈ (DW.allO n i).getD j [])) = false; rw [ho, decide_eq_true c2]; rfl) _ (Same.refl _))
        · rw [show (!decide (z ∈ o)) = true by rw [decide_eq_false c2]; rfl]
          refine iteT ⟨_, rfl, ao, _, rfl, .inl hao, _, rfl, ?_, fun t ht => ?_⟩
          · rw [List.length_append, List.length_map]
            exact Nat.le_trans (show o.length + 1 ≤ 100001 by omega) (by decide)
          · refine hC (by show (!decide (z ∈ (DW.allO n i).getD j [])) = true; rw [ho, decide_eq_false c2]; rfl) _ _ (same_new ht) ?_
            show Im K _ _ (partK ((DW.allO n i).getD j [] ++ [z]))
            rw [ho, nV_snoc]
            exact .tup (SqT.of upd_same) (im_nats _)
      · have im4 := paired_im2 (f := fun p => partK ((DW.allO n i).getD p.1 [] ++ [p.2])) pr
        rw [hxl, ijs_all] at im4
        exact ⟨s1.trans s4, D2, _, zs, rfl, none_of s1 hD2, hzs, im4⟩
    · obtain ⟨s1, fo, a, xs, rfl, hfo, hxs, ims⟩ := hp
      exact ⟨_, rfl, q H1 fo xs s1 hfo hxs ims⟩
abbrev sLeastByName : Stmt := topS 28
theorem scLeastByName : FnScope ["web", "order"] ["web"] (defScope sLeastByName) := ⟨rfl, rfl, rfl, by decide +kernel, rfl, by decide +kernel, by decide +kernel⟩
def spLeastByName (K : PySem.W.Frag) : Sp := fun vs H Q _ => ∃ v n W, vs = [v] ∧ Wb K H v n W ∧ ∀ H' u V, Same H H' → Sh n V → Im K H' u (webK V) → Q u H'
theorem at_least_by_name (D : Def K mg "least_by_name" sLeastByName ["web"]) (B : Bts mg) (a2 : At P w K mg base "all_orders" 1 ["n"] (spAllOrders K)) (a3 : At P w K mg base "with_names" 2 ["web", "order"] (spWithNames K)) : At P w K mg base "least_by_name" 3 ["web"] (spLeastByName K) := by
  refine D.at scLeastByName (fun vs H Q E h => ?_) (fun f cdv A outer s H vs Q E hr h => ?_)
  · obtain ⟨v, n, W, rfl, _⟩ := h; rfl
  · obtain ⟨v, n, W, rfl, hw, q⟩ := h
    have hu := hr.units
    have h5 := hw.few
    refine ⟨_, pss_one (ps_ret (pe_callB (r := rMinE K webK) (cr_minE enc_web rfl hu) (by rfl) B.min (by decide +kernel) (pa_cons (pe_lc (own := [("order", 1)]) (g := gName 1) (tt := tYes) (by rfl) scLeastByName.nd ((pi_listK K rfl ((pe_at a2 hr (by decide) (pa_cons ((pe_callB (r := rLen K) call_lenK (by rfl) B.len boot_len (pa_cons (pv 0) pa_nil))) pa_nil))))) (blkOk_by (own := [("order", 1)]) (N := ["web", "order"]) (sc := defScope sLeastByName) (by decide +kernel)) (fun _ _ _ _ _ => pg_name (i := 1) scLeastByName.nd rfl (Or.inl rfl)) (fun _ _ _ _ _ => pts_nil) (fun _ _ _ _ _ => (pe_at a3 hr (by decide) (pa_cons (pv 0) (pa_cons (pv 1) pa_nil))))) pa_nil))), ?_⟩
    refine ⟨_, rfl, rd_lenW hw.im hw.len ⟨n, rfl, h5, fun H2 po ys s2 hpo hys im2 => ?_⟩⟩
    have yl : ys.length = (DW.allO n n).length := by rw [im2.length, List.length_map]
    have hb : (DW.allO n n).length ≤ 3125 := Nat.le_trans (DW.allO_len h5 _) (Nat.le_trans (Nat.pow_le_pow_right (by decide) h5) (by decide))
    refine ⟨po, rfl, ⟨_, SqL.of hys⟩, fun D2 hD2 => lcIm walk_list (K := K) hD2 (by omega) (fun _ => true) (fun i => webK (DW.nameW W ((DW.allO n n).getD i []))) (fun H' s' => sql_same s' (SqL.of hys)) (fun i x H9 H3 hi s3 _ hy C N hC _ => ?_) fun H4 zs s4 hzs imz => ?_⟩
    · obtain ⟨rfl, hx⟩ := hy
      obtain ⟨k, hk, hv⟩ := im2.at hx
      rw [yl] at hi
      rw [List.getElem?_map, getD_some [] hi] at hk
      obtain rfl := Option.some.inj hk
      have ho := DW.allO_ord (List.mem_of_getElem? (getD_some ([] : List Nat) hi))
      have hv3 := hv.same s3
      rw [partK_eq] at hv3
      exact ⟨rfl, tyes ⟨_, rfl, _, rfl, v, x, n, W, _, rfl, hw.same (s2.trans s3), ho, hv3, fun H5 u s5 imu => hC rfl u H5 s5 imu⟩⟩
    · rw [all_range, names_of (n := n) yl.symm] at imz
      have hne : (DW.allO n n).map (DW.nameW W) ≠ [] := fun e => DW.allO_ne n (List.map_eq_nil_iff.mp e)
      refine ⟨D2, zs, _, rfl, SqL.of hzs, imz, hne, fun u imu => q H4 u _ (s2.trans s4) ?_ imu⟩
      obtain ⟨o, _, e⟩ := List.mem_map.mp (DW.least_mem hne)
      rw [← e]
      exact DW.name_sh hw.good.sh
end
end L2.DL
end

section
set_option Elab.async false
set_option linter.all false
set_option maxRecDepth 100000
/-! Plain H: the closing of a list of webs by turns. -/
namespace DW
structure Cls (n : Nat) (C : Web → Prop) (W : Web) (fs hs : List Web) : Prop where
  nd : fs.Nodup
  all : ∀ f ∈ fs, C f ∧ plainName f = f
  root : plainName W ∈ fs
  hn : hs.Nodup
  sub : ∀ h ∈ hs, h ∈ fs
  done : ∀ f ∈ fs, ¬ f ∈ hs → ∀ x, x < n → plainName (turnW f x) ∈ fs
structure ClE (n : Nat) (C : Web → Prop) (L : List Web) (W : Web) (fs hs : List Web) (one : Web) (i M : Nat) : Prop where
  nd : fs.Nodup
  all : ∀ f ∈ fs, C f ∧ plainName f = f
  root : plainName W ∈ fs
  hn : hs.Nodup
  sub : ∀ h ∈ hs, h ∈ fs
  oin : one ∈ fs
  done : ∀ f ∈ fs, ¬ f ∈ hs → f ≠ one → ∀ x, x < n → plainName (turnW f x) ∈ fs
  seen : ∀ x, x < i → plainName (turnW one x) ∈ fs
  few : 2 * (L.length - fs.length) + hs.length < M
section
variable {n : Nat} {C : Web → Prop} {L : List Web} {W : Web} {fs hs : List Web} {one : Web} {i M : Nat}
theorem Cls.start (c : Cl n C L) (h : C W) : Cls n C W [plainName W] [plainName W] :=
  ⟨by simp, fun f hf => by rw [List.mem_singleton.mp hf]; exact c.plain h, by simp, by simp, fun _ h => h, fun f h1 h2 => absurd h1 h2⟩
theorem Cls.fnd (c : Cls n C W fs []) : Fnd n C W fs := ⟨c.nd, c.all, c.root, fun f hf x hx => c.done f hf (by simp) x hx⟩
theorem last_drop {α : Type} {l : List α} {y : α} (nd : l.Nodup) (h : l[l.length - 1]? = some y) : l.dropLast.Nodup ∧ y ∈ l ∧ ¬ y ∈ l.dropLast ∧ (∀ x ∈ l, x ∈ l.dropLast ∨ x = y) ∧ l.dropLast.length < l.length := by
  have hne : l ≠ [] := fun e => by rw [e] at h; simp at h
  have ey : l.getLast hne = y := by
    rw [List.getLast_eq_getElem]
    exact (List.getElem?_eq_some_iff.mp h).2
  have split := List.dropLast_concat_getLast hne
  rw [ey] at split
  have nd' := nd
  rw [← split, List.nodup_append] at nd'
  refine ⟨nd'.1, by rw [← split]; simp, fun c => nd'.2.2 y c y (by simp) rfl, fun x hx => ?_, ?_⟩
  · rw [← split, List.mem_append] at hx
    rcases hx with c | c
    · exact .inl c
    · exact .inr (List.mem_singleton.mp c)
  · rw [List.length_dropLast]
    have := List.length_pos_iff.mpr hne
    omega
theorem Cls.pop (c : Cls n C W fs hs) (h : hs[hs.length - 1]? = some one) : ClE n C L W fs hs.dropLast one 0 (2 * (L.length - fs.length) + hs.length) := by
  obtain ⟨h1, h2, h3, h4, h5⟩ := last_drop c.hn h
  refine ⟨c.nd, c.all, c.root, h1, fun x hx => c.sub x (List.dropLast_subset _ hx), c.sub _ h2, fun f hf hn ne => c.done f hf fun q => ?_, fun x hx => absurd hx (Nat.not_lt_zero x), by omega⟩
  rcases h4 f q with e | e
  · exact hn e
  · exact ne e
theorem ClE.old (e : ClE n C L W fs hs one i M) (h : plainName (turnW one i) ∈ fs) : ClE n C L W fs hs one (i + 1) M :=
  ⟨e.nd, e.all, e.root, e.hn, e.sub, e.oin, e.done, fun x hx => by
    rcases Nat.lt_succ_iff_lt_or_eq.mp hx with q | q
    · exact e.seen x q
    · rw [q]; exact h, e.few⟩
theorem ClE.new (c : Cl n C L) (e : ClE n C L W fs hs one i M) (hi : i < n) (h : ¬ plainName (turnW one i) ∈ fs) : ClE n C L W (fs ++ [plainName (turnW one i)]) (hs ++ [plainName (turnW one i)]) one (i + 1) M := by
  have hC := c.plain (c.turn one (e.all one e.oin).1 i hi)
  obtain ⟨z, hz⟩ : ∃ z, plainName (turnW one i) = z := ⟨_, rfl⟩
  rw [hz] at h hC ⊢
  have nd2 : (fs ++ [z]).Nodup := by
    rw [List.nodup_append]
    exact ⟨e.nd, by simp, fun a ha b hb q => h (by rw [← List.mem_singleton.mp hb, ← q]; exact ha)⟩
  have all2 : ∀ f ∈ fs ++ [z], C f ∧ plainName f = f := fun f hf => by
    rcases List.mem_append.mp hf with q | q
    · exact e.all f q
    · rw [List.mem_singleton.mp q]; exact hC
  have len2 := c.len nd2 all2
  refine ⟨nd2, all2, List.mem_append_left _ e.root, ?_, fun x hx => ?_, List.mem_append_left _ e.oin, fun f hf hn ne x hx => ?_, fun x hx => ?_, ?_⟩
  · rw [List.nodup_append]
    exact ⟨e.hn, by simp, fun a ha b hb q => h (by rw [← List.mem_singleton.mp hb, ← q]; exact e.sub a ha)⟩
  · rcases List.mem_append.mp hx with q | q
    · exact List.mem_append_left _ (e.sub x q)
    · exact List.mem_append_right _ q
  · rcases List.mem_append.mp hf with q | q
    · exact List.mem_append_left _ (e.done f q (fun u => hn (List.mem_append_left _ u)) ne x hx)
    · exact absurd (List.mem_append_right _ q) hn
  · rcases Nat.lt_succ_iff_lt_or_eq.mp hx with q | q
    · exact List.mem_append_left _ (e.seen x q)
    · rw [q, hz]; simp
  · have := e.few
    simp only [List.length_append, List.length_cons, List.length_nil] at *
    omega
theorem ClE.close (e : ClE n C L W fs hs one n M) : Cls n C W fs hs := ⟨e.nd, e.all, e.root, e.hn, e.sub, fun f hf hn x hx => by
  by_cases q : f = one
  · rw [q]; exact e.seen x hx
  · exact e.done f hf hn q x hx⟩
end
end DW
end

section
set_option Elab.async false
set_option linter.all false
set_option maxRecDepth 100000
/-! Walk I: closed_list. -/
namespace L2.DL
open PySem PySem.Spec PyProof.Rows
open DW (Web at2 Good IsOrd og Sh)
theorem webK_inj (a b : Web) (h : webK a = webK b) : a = b := enc_web.inj (by rw [h])
theorem nums_depth : ∀ l : List Int, NestedKey.depthAll (l.map NestedKey.num) = 0
  | [] => by simp [NestedKey.depthAll]
  | p :: l => by simp only [List.map_cons, NestedKey.depthAll, NestedKey.depth, nums_depth l]; rfl
theorem rows_depth : ∀ W : List (List Int), NestedKey.depthAll (W.map rowK) ≤ 1
  | [] => by simp [NestedKey.depthAll]
  | r :: W => by
    have := rows_depth W
    simp only [List.map_cons, NestedKey.depthAll, rowK, NestedKey.depth, nums_depth]
    omega
theorem web_depth (W : Web) : (webK W).depth ≤ 8 := by
  have := rows_depth W
  simp only [webK, NestedKey.depth]
  omega
theorem nums_textless (l : List Int) : textlessAll (l.map NestedKey.num) = true := textlessAll_of fun k hk => by
  obtain ⟨p, _, rfl⟩ := List.mem_map.mp hk
  simp [textless]
theorem web_textless (W : Web) : textless (webK W) = true := by
  unfold webK
  rw [textless]
  refine textlessAll_of fun k hk => ?_
  obtain ⟨r, _, rfl⟩ := List.mem_map.mp hk
  unfold rowK
  rw [textless]
  exact nums_textless r
theorem webs_ok (l : List Web) : ∀ k ∈ l.map webK, textless k = true ∧ k.data.depth ≤ 8 := fun k hk => by
  obtain ⟨t, _, rfl⟩ := List.mem_map.mp hk
  exact ⟨web_textless t, Nat.le_trans (enc_web.dep t) (by decide)⟩
theorem tex_updE {H : Hp} {l : Addr} {o o' : HO} (h : H l = some o') (n : ∀ xs, o' ≠ .tup xs) (n2 : ∀ a xs, o' ≠ .frz a (.tup xs)) : TEx H (upd H l o) := fun a xs r => by
  have ne : a ≠ l := fun e => by
    rw [e] at r
    rcases r with r | ⟨u, r⟩
    · rw [h] at r; exact n xs (Option.some.inj r)
    · rw [h] at r; exact n2 u xs (Option.some.inj r)
  rcases r with r | ⟨u, r⟩
  · exact .inl (by rw [upd_ne ne]; exact r)
  · exact .inr ⟨u, by rw [upd_ne ne]; exact r⟩
theorem tex_dic {P : Program} {w : World} {H : Hp} {d : Addr} {L : List (NestedKey × Addr)} {o : HO} (h : H d = some (DicO P w d L)) : TEx H (upd H d o) :=
  tex_updE h (fun xs e => by unfold DicO at e; cases e) fun a xs e => by unfold DicO at e; cases e
theorem Keys.mono {K : PySem.W.Frag} {H H' : Hp} {L : List (NestedKey × Addr)} (k : Keys K H L) (e : TEx H H') : Keys K H' L := ⟨fun p hp => ⟨Im.mono e _ _ (k.im p hp).1, (k.im p hp).2⟩, k.nd⟩
theorem keys_im {K : PySem.W.Frag} {H : Hp} : ∀ {L : List (NestedKey × Addr)}, (∀ p ∈ L, Im K H (.ref p.2) p.1) → ImAll K H (L.map fun q => V.ref q.2) (L.map (·.1))
  | [], _ => .nil
  | p :: L, h => .cons (h p (List.mem_cons_self ..)) (keys_im fun q hq => h q (List.mem_cons_of_mem _ hq))
theorem ImAll.last {K : PySem.W.Frag} {H : Hp} {xs : List V} {ks : List NestedKey} (h : ImAll K H xs ks) (hne : ks ≠ []) : ∃ x k, xs[xs.length - 1]? = some x ∧ ks[ks.length - 1]? = some k ∧ Im K H x k := by
  have := List.length_pos_iff.mpr hne
  have e : ks[ks.length - 1]? = some (ks.getD (ks.length - 1) .none) := getD_some _ (by omega)
  obtain ⟨x, h1, h2⟩ := h.get e
  exact ⟨x, _, by rw [h.length]; exact h1, e, h2⟩
section
variable {P : Program} {w : World} {K : PySem.W.Frag} {mg : Str → Option Value} {base : Heap}
abbrev sClosedList : Stmt := topS 29
theorem scClosedList : FnScope ["web", "first", "found", "here", "one", "x", "other"] ["web"] (defScope sClosedList) := ⟨rfl, rfl, rfl, by decide +kernel, rfl, by decide +kernel, by decide +kernel⟩
def spClosedList (K : PySem.W.Frag) : Sp := fun vs H Q _ => ∃ v n W C L, vs = [v] ∧ Wb K H v n W ∧ DW.Cl n C L ∧ C W ∧ ∀ H' p xs fs, Same H H' → H p = none → H' p = some (.lst xs) → ImAll K H' xs (fs.map webK) → DW.Fnd n C W fs → fs.length ≤ 100 → Q (.ref p) H'
/-- the state of the closing -/
structure Clo (P : Program) (w : World) (K : PySem.W.Frag) (H1 : Hp) (d h : Addr) (H : Hp) (fs hs : List Web) (Ld : List (NestedKey × Addr)) (ys : List V) : Prop where
  kept : Kept [d, h] H1 H
  tex : TEx H1 H
  dic : H d = some (DicO P w d Ld)
  keys : Keys K H Ld
  eq : Ld.map (·.1) = fs.map webK
  here : H h = some (.lst ys)
  him : ImAll K H ys (hs.map webK)
theorem Clo.same {H1 H H' : Hp} {d h : Addr} {fs hs : List Web} {Ld : List (NestedKey × Addr)} {ys : List V} (c : Clo P w K H1 d h H fs hs Ld ys) (s : Same H H') : Clo P w K H1 d h H' fs hs Ld ys :=
  ⟨c.kept.trans (Kept.of s), c.tex.trans (TEx.same s), s _ _ c.dic, c.keys.mono (TEx.same s), c.eq, s _ _ c.here, c.him.same s⟩
theorem at_closed_list (D : Def K mg "closed_list" sClosedList ["web"]) (B : Bts mg) (a1 : At P w K mg base "plain_name" 3 ["web"] (spPlainName K)) (a2 : At P w K mg base "is_simple" 1 ["web"] (spIsSimple K)) (a3 : At P w K mg base "behind_turn" 2 ["web", "x"] (spBehindTurn K)) : At P w K mg base "closed_list" 4 ["web"] (spClosedList K) := by
  refine D.at scClosedList (fun vs H Q E h => ?_) (fun f cdv A outer s H vs Q E hr h => ?_)
  · obtain ⟨v, n, W, C, L, rfl, _⟩ := h; rfl
  · obtain ⟨v, n, W, C, L, rfl, hw, hcl, hCW, q⟩ := h
    have hu := hr.units
    have h5 := hw.few
    have fewL := hcl.few
    refine ⟨_, (pss_cons ((ps_set (i := 1) scClosedList.nd rfl (Or.inl rfl) ((pe_at a1 hr (by decide) (pa_cons (pv 0) pa_nil))))) (pss_cons ((ps_par (i := 2) (j := 3) (by rfl) scClosedList.nd rfl rfl (by decide) rfl rfl (pa_cons (pe_dispN hu (pv 1)) (pa_cons ((pe_lst (pa_cons (pv 1) pa_nil))) pa_nil)) (by rfl))) (pss_cons (ps_while PassesOwn.never (pt_cmpR (r := rNeD K) (op_neD hu) (pv 3) (pe_lst pa_nil) (nomark _)) (pss_cons ((ps_set (i := 4) scClosedList.nd rfl (Or.inl rfl) ((pe_bm0 PySem.F.plainAttrs_list PySem.F.slot_list_pop PySem.F.type_list_pop mt_pop (pv 3))))) (pss_cons (ps_if (pt_not (pt_val (pe_at a2 hr (by decide) (pa_cons (pv 4) pa_nil)))) pss_never pss_nil) (pss_one ((ps_for PassesOwn.never rfl ((pi_range1 (by rfl) B.range (pa_cons ((pe_callB (r := rLen K) call_lenK (by rfl) B.len boot_len (pa_cons (pv 4) pa_nil))) pa_nil))) (pg_name (i := 5) scClosedList.nd rfl (Or.inl rfl)) ((pss_cons ((ps_set (i := 6) scClosedList.nd rfl (Or.inl rfl) ((pe_at a1 hr (by decide) (pa_cons ((pe_at a3 hr (by decide) (pa_cons (pv 4) (pa_cons (pv 5) pa_nil)))) pa_nil))))) (pss_one (ps_if (pt_cmpR (r := rNotInN P w K) (op_notInN hu) (pv 6) (pv 2) (by rfl)) (pss_cons (ps_asg pe_bl (pg_sub (t := rSetN P w K) (pv 2) (pv 6) (set_dicN hu))) (pss_one ((ps_expr (pe_bm PySem.F.plainAttrs_list PySem.F.slot_list_append PySem.F.type_list_append mt_append (pv 3) (pa_cons (pv 6) pa_nil)))))) pss_nil)))))))))) (pss_one (ps_ret (pe_callTy (call_listN rfl) (by rfl) B.list (by decide +kernel) (pa_cons (pv 2) pa_nil))))))), ?_⟩
    refine ⟨_, rfl, v, n, W, rfl, hw, fun H1 fi s1 him => ?_⟩
    obtain ⟨bf, xf, rfl, hbf, htf⟩ := him.tup_inv
    refine fun d hd => ⟨_, rfl, bf, webK (DW.plainName W), rfl, upd_same, him.same (same_new hd), web_depth _, _, rfl, by show 1 ≤ sizeLine; decide, fun h hh => ⟨_, _, rfl, ?_⟩⟩
    have nhd : h ≠ d := fun e => by rw [e, upd_same] at hh; cases hh
    have hh1 : H1 h = none := by rw [upd_ne nhd, upd_ne nhd] at hh; exact hh
    have n0 : ∀ l ∈ [d, h], H l = none := fun l hl => by
      rcases List.mem_cons.mp hl with e | hl
      · rw [e]; exact none_of s1 hd
      · rw [List.mem_singleton.mp hl]; exact none_of s1 hh1
    obtain ⟨H2, hH2⟩ : ∃ H2, upd (upd (upd H1 d (DicO P w d [])) d (DicO P w d [(webK (DW.plainName W), bf)])) h (.lst [.ref bf]) = H2 := ⟨_, rfl⟩
    have s2 : Same H1 H2 := by rw [← hH2]; exact same_grow (same_grow (same_new hd) hd) hh1
    have d2 : H2 d = some (DicO P w d [(webK (DW.plainName W), bf)]) := by rw [← hH2, upd_ne (Ne.symm nhd), upd_same]
    have h2 : H2 h = some (.lst [.ref bf]) := by rw [← hH2, upd_same]
    have bi := him.same s2
    show tWhile _ _ _ _ (upd (upd (upd H1 d (DicO P w d [])) d (DicO P w d [(webK (DW.plainName W), bf)])) h (.lst [.ref bf]))
    rw [hH2]
    refine ⟨fun m σ Hc => (∃ a b c, σ = [some v, some (.ref bf), some (.ref d), some (.ref h), a, b, c]) ∧ ∃ fs hs Ld ys, Clo P w K H2 d h Hc fs hs Ld ys ∧ DW.Cls n C W fs hs ∧ m = 2 * (L.length - fs.length) + hs.length,
      ⟨_, ⟨_, _, _, rfl⟩, [DW.plainName W], [DW.plainName W], _, _, ⟨Kept.refl _ _, TEx.refl _, d2, ⟨fun p hp => by rw [List.mem_singleton.mp hp]; exact ⟨bi, web_depth _⟩, by simp⟩, rfl, h2, .cons bi .nil⟩, DW.Cls.start hcl hCW, rfl⟩, fun m σ Hc hP => ?_⟩
    obtain ⟨⟨a, b, c, rfl⟩, fs, hs, Ld, ys, clo, cls, rfl⟩ := hP
    have fsl := hcl.len cls.nd cls.all
    have ldl : Ld.length = fs.length := by have := congrArg List.length clo.eq; rwa [List.length_map, List.length_map] at this
    refine ⟨_, rfl, by show 0 ≤ sizeLine; decide, fun l hl => rd_nonempty (sql_same (same_new hl) (SqL.of clo.here)) (clo.him.same (same_new hl)) (webs_ok hs) (SqL.of upd_same) ⟨_, rfl, ?_⟩⟩
    have clo3 := clo.same (same_new (o := .lst []) hl)
    generalize upd Hc l (HO.lst []) = H3 at clo3
    have s03 : Same H H3 := Kept.same (s1.trans s2) clo3.kept n0
    by_cases hne : hs = []
    · subst hne
      refine iteF ⟨_, rfl, d, Ld, rfl, clo3.dic, by omega, fun p hp => ?_⟩
      have im := (keys_im fun q hq => (clo3.keys.im q hq).1)
      rw [clo3.eq] at im
      exact q _ p _ fs (same_grow s03 (none_of s03 hp)) (none_of s03 hp) upd_same (im.same (same_new hp)) cls.fnd (by omega)
    · have e0 : (!(hs.map webK).isEmpty) = true := by cases hs with
        | nil => exact absurd rfl hne
        | cons a b => rfl
      rw [e0]
      refine iteT ⟨fun σ' H' => (∃ a b c, σ' = [some v, some (.ref bf), some (.ref d), some (.ref h), a, b, c]) ∧ ∃ fs' hs' Ld ys, Clo P w K H2 d h H' fs' hs' Ld ys ∧ DW.Cls n C W fs' hs' ∧ 2 * (L.length - fs'.length) + hs'.length < 2 * (L.length - fs.length) + hs.length,
        fun σ' H' ⟨h1, fs', hs', Ld', ys', h2, h3, h4⟩ => ⟨_, h4, h1, fs', hs', Ld', ys', h2, h3, rfl⟩, ?_⟩
      obtain ⟨x, k, hx, hk, hxi⟩ := clo3.him.last (fun e => hne (List.map_eq_nil_iff.mp e))
      have hsn := List.length_pos_iff.mpr hne
      have hone := getD_some ([] : Web) (show hs.length - 1 < hs.length by omega)
      rw [List.length_map, List.getElem?_map, hone] at hk
      obtain rfl := Option.some.inj hk
      obtain ⟨one, ho⟩ : ∃ one, hs.getD (hs.length - 1) [] = one := ⟨_, rfl⟩
      rw [ho] at hxi hone
      have cle := cls.pop (L := L) hone
      have honeC := (cls.all one (cls.sub one (List.mem_of_getElem? hone))).1
      refine ⟨_, rfl, .inl ⟨rfl, _, SqL.of clo3.here⟩, h, ys, x, rfl, rfl, clo3.here, hx, ?_⟩
      have t4 : TEx H3 (upd H3 h (.lst ys.dropLast)) := TEx.upd (.inr ⟨_, clo3.here⟩)
      have clo4 : Clo P w K H2 d h (upd H3 h (.lst ys.dropLast)) fs hs.dropLast Ld ys.dropLast := by
        refine ⟨clo3.kept.trans (Kept.upd (by simp)), clo3.tex.trans t4, by rw [upd_ne (Ne.symm nhd)]; exact clo3.dic, clo3.keys.mono t4, clo3.eq, upd_same, ?_⟩
        rw [List.map_dropLast]
        exact ImAll.mono t4 _ _ clo3.him.dropLast
      have one4 : Wb K (upd H3 h (.lst ys.dropLast)) x n one := ⟨Im.mono t4 _ _ hxi, hcl.good one honeC, hw.pos, h5⟩
      generalize upd H3 h (HO.lst ys.dropLast) = H4 at clo4 one4
      refine ⟨_, rfl, x, n, one, rfl, one4, fun H5 s5 => ⟨true, rfl, iteF ?_⟩⟩
      have one5 := one4.same s5
      have clo5 := clo4.same s5
      refine ⟨_, rfl, rd_lenW one5.im one5.len ⟨(n : Int), rfl, by omega, by omega, for_it (walk_r0 (n := n)) (fun i σ Hi => (∃ b c, σ = [some v, some (.ref bf), some (.ref d), some (.ref h), some x, b, c]) ∧ Wb K Hi x n one ∧ ∃ fs' hs' Ld ys, Clo P w K H2 d h Hi fs' hs' Ld ys ∧ DW.ClE n C L W fs' hs' one i (2 * (L.length - fs.length) + hs.length)) ?_ (fun _ _ _ _ _ => trivial) (fun i v2 σ H9 Hi hi hP hy => ?_) fun σ Hi hP => ?_⟩⟩
      · exact ⟨⟨_, _, rfl⟩, one5, fs, _, Ld, _, clo5, cle⟩
      · obtain ⟨⟨b, c, rfl⟩, onei, fs', hs', Ld', ys', cloi, clei⟩ := hP
        obtain ⟨rfl, rfl⟩ := hy
        refine ⟨_, rfl, _, rfl, x, n, one, i, rfl, onei, hi, fun H6 u s6 imu => ?_⟩
        have hturnC := hcl.turn one honeC i hi
        have tw : Wb K H6 u n (DW.turnW one i) := ⟨imu, hcl.good _ hturnC, hw.pos, h5⟩
        refine ⟨u, n, _, rfl, tw, fun H7 z s7 imz => ?_⟩
        obtain ⟨bz, xz, rfl, hbz, htz⟩ := imz.tup_inv
        have clo7 := cloi.same (s6.trans s7)
        have one7 := onei.same (s6.trans s7)
        have fsl' := hcl.len clei.nd clei.all
        have ldl' : Ld'.length = fs'.length := by have := congrArg List.length clo7.eq; rwa [List.length_map, List.length_map] at this
        have hsl' : hs'.length ≤ fs'.length := DW.nodup_len clei.hn clei.sub
        refine ⟨_, rfl, _, rfl, d, Ld', bz, _, rfl, rfl, clo7.dic, clo7.keys, imz, web_depth _, _, rfl, ?_⟩
        have mem : webK (DW.plainName (DW.turnW one i)) ∈ Ld'.map (·.1) ↔ DW.plainName (DW.turnW one i) ∈ fs' := by
          rw [clo7.eq]
          constructor
          · intro hm
            obtain ⟨a, ha, e⟩ := List.mem_map.mp hm
            rw [← webK_inj _ _ e]; exact ha
          · exact fun hm => List.mem_map.mpr ⟨_, hm, rfl⟩
        by_cases hin : DW.plainName (DW.turnW one i) ∈ fs'
        · rw [decide_eq_false (fun c => c (mem.mpr hin))]
          exact iteF ⟨⟨_, _, rfl⟩, one7, fs', hs', Ld', ys', clo7, clei.old hin⟩
        · have hin2 : ¬ webK (DW.plainName (DW.turnW one i)) ∈ Ld'.map (·.1) := fun c => hin (mem.mp c)
          rw [decide_eq_true hin2]
          refine iteT ⟨_, rfl, _, rfl, d, Ld', bz, _, rfl, rfl, rfl, clo7.dic, clo7.keys, imz, web_depth _, hin2, by omega, ?_⟩
          have td : TEx H7 (upd H7 d (DicO P w d (Ld' ++ [(webK (DW.plainName (DW.turnW one i)), bz)]))) := tex_dic clo7.dic
          have h8 : upd H7 d (DicO P w d (Ld' ++ [(webK (DW.plainName (DW.turnW one i)), bz)])) h = some (.lst ys') := by rw [upd_ne nhd]; exact clo7.here
          have th : TEx (upd H7 d (DicO P w d (Ld' ++ [(webK (DW.plainName (DW.turnW one i)), bz)]))) (upd (upd H7 d (DicO P w d (Ld' ++ [(webK (DW.plainName (DW.turnW one i)), bz)]))) h (.lst (ys' ++ [.ref bz]))) := TEx.upd (.inr ⟨_, h8⟩)
          have t9 := td.trans th
          have im9 := Im.mono t9 _ _ imz
          refine ⟨_, rfl, .inl ⟨rfl, _, SqL.of h8⟩, _, rfl, h, ys', _, rfl, rfl, h8, ?_, ?_⟩
          · rw [clo7.him.length, List.length_map]
            exact Nat.lt_of_le_of_lt (show hs'.length ≤ 100000 by omega) (by decide)
          refine ⟨⟨_, _, rfl⟩, ⟨Im.mono t9 _ _ one7.im, one7.good, one7.pos, one7.few⟩, fs' ++ [DW.plainName (DW.turnW one i)], hs' ++ [DW.plainName (DW.turnW one i)], Ld' ++ [(webK (DW.plainName (DW.turnW one i)), bz)], ys' ++ [.ref bz], ⟨(clo7.kept.trans (Kept.upd (by simp))).trans (Kept.upd (by simp)), clo7.tex.trans t9, by rw [upd_ne (Ne.symm nhd), upd_same], ?_, ?_, upd_same, ?_⟩, clei.new hcl hi hin⟩
          · refine ⟨fun p hp => ?_, ?_⟩
            · rcases List.mem_append.mp hp with q | q
              · exact (clo7.keys.mono t9).im p q
              · rw [List.mem_singleton.mp q]; exact ⟨im9, web_depth _⟩
            · rw [List.map_append, List.nodup_append]
              refine ⟨clo7.keys.nd, by simp, fun a ha b hb e => hin2 ?_⟩
              rw [List.mem_singleton.mp hb] at e
              have e' : a = webK (DW.plainName (DW.turnW one i)) := e
              rw [← e']; exact ha
          · rw [List.map_append, List.map_append, clo7.eq]; rfl
          · rw [List.map_append]
            exact (ImAll.mono t9 _ _ clo7.him).append (.cons im9 .nil)
      · obtain ⟨⟨b, c, rfl⟩, onei, fs', hs', Ld', ys', cloi, clei⟩ := hP
        exact ⟨⟨_, _, _, rfl⟩, fs', hs', Ld', ys', cloi, clei.close, clei.few⟩
end
end L2.DL
end

section
set_option Elab.async false
set_option linter.all false
set_option maxRecDepth 100000
/-! Layer Q: texts of kinds, sorted texts. -/
namespace L2.DL
open PySem PySem.Spec PyProof.Rows
open DW (Web at2 Good IsOrd og Sh)
def textOf : NestedKey → Option Str
  | .text s => some s
  | _ => none
def srt (ts : List Str) : List Str := ((ts.map NestedKey.text).mergeSort (PySem.W.dataLe false NestedKey.data)).filterMap textOf
theorem texts_back : ∀ {ks : List NestedKey}, (∀ k ∈ ks, ∃ s, k = .text s) → (ks.filterMap textOf).map NestedKey.text = ks
  | [], _ => rfl
  | k :: ks, h => by
    obtain ⟨s, rfl⟩ := h k (List.mem_cons_self ..)
    rw [List.filterMap_cons_some (f := textOf) (b := s) rfl, List.map_cons, texts_back fun j hj => h j (List.mem_cons_of_mem _ hj)]
theorem srt_eq (ts : List Str) : (ts.map NestedKey.text).mergeSort (PySem.W.dataLe false NestedKey.data) = (srt ts).map NestedKey.text :=
  (texts_back fun k hk => by
    obtain ⟨s, _, rfl⟩ := List.mem_map.mp (List.mem_mergeSort.mp hk)
    exact ⟨s, rfl⟩).symm
theorem srt_len (ts : List Str) : (srt ts).length = ts.length := by
  have := congrArg List.length (srt_eq ts)
  rw [List.length_mergeSort, List.length_map, List.length_map] at this
  exact this.symm
theorem srt_mem {ts : List Str} {s : Str} (h : s ∈ srt ts) : s ∈ ts := by
  have : NestedKey.text s ∈ (srt ts).map NestedKey.text := List.mem_map.mpr ⟨s, h, rfl⟩
  rw [← srt_eq, List.mem_mergeSort] at this
  obtain ⟨t, ht, e⟩ := List.mem_map.mp this
  cases e; exact ht
theorem im_texts {K : PySem.W.Frag} {H : Hp} : ∀ (ts : List Str), ImAll K H (ts.map V.str) (ts.map NestedKey.text)
  | [] => .nil
  | t :: ts => .cons (.str t) (im_texts ts)
structure rSrt (K : PySem.W.Frag) (xs : List V) (H : Hp) (Q : VK) : Prop where
  ex : rSortK K xs H Q
theorem cr_srt {X : Cx} (hu : X.A.units + 64 < cLine) : CallR X (.builtin "sorted") (rSrt X.K) := fun pins s σ H vs us Q I r h => cr_sortedK hu pins s σ H vs us Q I r h.ex
theorem rd_sortS {K : PySem.W.Frag} {H : Hp} {p : Addr} {ts : List Str} {Q : VK} (h : SqL K H p (ts.map V.str)) (hn : ts.length ≤ 1000) (q : ∀ p, H p = none → Q (.ref p) (upd H p (.lst ((srt ts).map V.str)))) : rSrt K [.ref p] H Q := by
  refine ⟨p, _, _, rfl, h, im_texts ts, fun d hd d' hd' => ?_, .inr fun d hd => ?_, by rw [List.length_map]; omega, fun k hk => ?_, fun p ys hp hy => ?_⟩
  · obtain ⟨k, hk, rfl⟩ := List.mem_map.mp hd
    obtain ⟨k', hk', rfl⟩ := List.mem_map.mp hd'
    obtain ⟨t, _, rfl⟩ := List.mem_map.mp hk
    obtain ⟨t', _, rfl⟩ := List.mem_map.mp hk'
    simp [NestedKey.data, PySem.W.alike]
  · obtain ⟨k, hk, rfl⟩ := List.mem_map.mp hd
    obtain ⟨t, _, rfl⟩ := List.mem_map.mp hk
    simp [NestedKey.data]
  · obtain ⟨t, _, rfl⟩ := List.mem_map.mp hk
    simp [NestedKey.data, PyData.depth]
  · rw [srt_eq] at hy
    rw [im_strs_inv hy]
    exact q p hp
def letS : Nat → Str
  | 0 => "A"
  | 1 => "D"
  | _ => "E"
def numS (i : Int) : Str := toString i
def kindS (k n : Nat) : Str := letS k ++ numS (n : Int)
theorem five {p : Nat → Prop} (h0 : p 0) (h1 : p 1) (h2 : p 2) (h3 : p 3) (h4 : p 4) (h5 : p 5) : ∀ n, n ≤ 5 → p n := fun n hn => by
  match n, hn with
  | 0, _ => exact h0
  | 1, _ => exact h1
  | 2, _ => exact h2
  | 3, _ => exact h3
  | 4, _ => exact h4
  | 5, _ => exact h5
theorem numS_len : ∀ n : Nat, n ≤ 5 → (numS (n : Int)).length = 1 := five (by decide +kernel) (by decide +kernel) (by decide +kernel) (by decide +kernel) (by decide +kernel) (by decide +kernel)
theorem letS_len (k : Nat) : (letS k).length = 1 := by
  unfold letS
  split <;> decide +kernel
theorem num_small : ∀ n : Nat, n ≤ 5 → (n : Int).natAbs.log2 < 1920 := five (by decide +kernel) (by decide +kernel) (by decide +kernel) (by decide +kernel) (by decide +kernel) (by decide +kernel)
theorem kindS_len : ∀ k n : Nat, n ≤ 5 → (kindS k n).length = 2 := fun k => by
  have h : ∀ n : Nat, n ≤ 5 → (letS 0 ++ numS (n : Int)).length = 2 ∧ (letS 1 ++ numS (n : Int)).length = 2 ∧ (letS 2 ++ numS (n : Int)).length = 2 := five (by decide +kernel) (by decide +kernel) (by decide +kernel) (by decide +kernel) (by decide +kernel) (by decide +kernel)
  intro n hn
  unfold kindS
  match k with
  | 0 => exact (h n hn).1
  | 1 => exact (h n hn).2.1
  | _ + 2 => exact (h n hn).2.2
end L2.DL
end

section
set_option Elab.async false
set_option linter.all false
set_option maxRecDepth 100000
/-! Walk J: is_finite, need_finite, class_of, kind_of_tree, kind_of_part. -/
namespace L2.DL
open PySem PySem.Spec PyProof.Rows
open DW (Web at2 Good IsOrd og Sh)
theorem find_first {n i : Nat} {p : Nat → Bool} (hi : i < n) (h : p i = true) (hb : ∀ x, x < i → p x = false) : (List.range n).find? p = some i := by
  have e : List.range n = List.range i ++ (List.range' i (n - i)) := by
    rw [List.range_eq_range', List.range_eq_range']
    have := List.range'_append (s := 0) (m := i) (n := n - i) (step := 1)
    simp at this
    rw [show i + (n - i) = n by omega] at this
    exact this.symm
  rw [e, List.find?_append, List.find?_eq_none.mpr fun x hx => by rw [hb x (List.mem_range.mp hx)]; decide]
  obtain ⟨k, hk⟩ : ∃ k, n - i = k + 1 := ⟨n - i - 1, by omega⟩
  rw [hk, List.range'_succ, List.find?_cons, h]
  rfl
theorem letter_at {n i : Nat} {W : Web} (hi : i < n) (h : DW.deg n W i = 3) (hb : ∀ x, x < i → DW.deg n W x ≠ 3) : DW.letter n W = if 1 < DW.ends n W i then 1 else 2 := by
  unfold DW.letter
  rw [find_first (p := fun x => DW.deg n W x == 3) hi (by simp [h]) (fun x hx => by simp [hb x hx])]
theorem letter_none {n : Nat} {W : Web} (hb : ∀ x, x < n → DW.deg n W x ≠ 3) : DW.letter n W = 0 := by
  unfold DW.letter
  rw [List.find?_eq_none.mpr fun x hx => by simp [hb x (List.mem_range.mp hx)]]
theorem range_filter {l : List Nat} {p : Nat → Bool} : ((List.range l.length).filter fun i => p (l.getD i 0)).length = (l.filter p).length := by
  have e : l = (List.range l.length).map fun i => l.getD i 0 := by
    refine List.ext_getElem (by simp) fun i h1 h2 => ?_
    simp [h1]
  conv => rhs; rw [e]
  rw [List.filter_map, List.length_map]
  rfl
section
variable {P : Program} {w : World} {K : PySem.W.Frag} {mg : Str → Option Value} {base : Heap}
/-- what closed_list and need_finite promise -/
def FndQ (K : PySem.W.Frag) (n : Nat) (C : Web → Prop) (W : Web) (H : Hp) (Q : VK) : Prop := ∀ H' p xs fs, Same H H' → H p = none → H' p = some (.lst xs) → ImAll K H' xs (fs.map webK) → DW.Fnd n C W fs → fs.length ≤ 100 → Q (.ref p) H'
abbrev sIsFinite : Stmt := topS 30
theorem scIsFinite : FnScope ["web"] ["web"] (defScope sIsFinite) := ⟨rfl, rfl, rfl, by decide +kernel, rfl, by decide +kernel, by decide +kernel⟩
def spIsFinite (K : PySem.W.Frag) : Sp := fun vs H Q _ => ∃ v n W C L, vs = [v] ∧ Wb K H v n W ∧ DW.Cl n C L ∧ C W ∧ RetB true H Q
theorem at_is_finite (D : Def K mg "is_finite" sIsFinite ["web"]) (a1 : At P w K mg base "need_web" 5 ["value"] (spNeedWeb K)) (a2 : At P w K mg base "closed_list" 4 ["web"] (spClosedList K)) : At P w K mg base "is_finite" 6 ["web"] (spIsFinite K) := by
  refine D.at scIsFinite (fun vs H Q E h => ?_) (fun f cdv A outer s H vs Q E hr h => ?_)
  · obtain ⟨v, n, W, C, L, rfl, _⟩ := h; rfl
  · obtain ⟨v, n, W, C, L, rfl, hw, hcl, hC, q⟩ := h
    refine ⟨_, (pss_cons (ps_expr (pe_at a1 hr (by decide) (pa_cons (pv 0) pa_nil))) (pss_one (ps_ret (pe_cmpR op_notN (pe_at a2 hr (by decide) (pa_cons (pv 0) pa_nil)) pe_non (nomark _))))), ?_⟩
    refine ⟨_, rfl, v, n, W, rfl, hw, fun H1 s1 => ⟨_, rfl, v, n, W, C, L, rfl, hw.same s1, hcl, hC, fun H2 p xs fs s2 hp hx im fn few => ⟨rfl, q H2 (s1.trans s2)⟩⟩⟩
abbrev sNeedFinite : Stmt := topS 31
theorem scNeedFinite : FnScope ["web", "found"] ["web"] (defScope sNeedFinite) := ⟨rfl, rfl, rfl, by decide +kernel, rfl, by decide +kernel, by decide +kernel⟩
def spNeedFinite (K : PySem.W.Frag) : Sp := fun vs H Q _ => ∃ v n W C L, vs = [v] ∧ Wb K H v n W ∧ DW.Cl n C L ∧ C W ∧ FndQ K n C W H Q
theorem at_need_finite (D : Def K mg "need_finite" sNeedFinite ["web"]) (a2 : At P w K mg base "closed_list" 4 ["web"] (spClosedList K)) : At P w K mg base "need_finite" 5 ["web"] (spNeedFinite K) := by
  refine D.at scNeedFinite (fun vs H Q E h => ?_) (fun f cdv A outer s H vs Q E hr h => ?_)
  · obtain ⟨v, n, W, C, L, rfl, _⟩ := h; rfl
  · obtain ⟨v, n, W, C, L, rfl, hw, hcl, hC, q⟩ := h
    refine ⟨_, (pss_cons ((ps_set (i := 1) scNeedFinite.nd rfl (Or.inl rfl) ((pe_at a2 hr (by decide) (pa_cons (pv 0) pa_nil))))) (pss_cons (ps_if (pt_cmpR op_isN (pv 1) pe_non (nomark _)) pss_never pss_nil) (pss_one (ps_ret (pv 1))))), ?_⟩
    refine ⟨_, rfl, v, n, W, C, L, rfl, hw, hcl, hC, fun H2 p xs fs s2 hp hx im fn few => ⟨_, rfl, rfl, _, rfl, ?_⟩⟩
    exact iteF ⟨_, rfl, q H2 p xs fs s2 hp hx im fn few⟩
abbrev sClassOf : Stmt := topS 32
theorem scClassOf : FnScope ["web", "one"] ["web"] (defScope sClassOf) := ⟨rfl, rfl, rfl, by decide +kernel, rfl, by decide +kernel, by decide +kernel⟩
def spClassOf (K : PySem.W.Frag) : Sp := fun vs H Q _ => ∃ v n W C L, vs = [v] ∧ Wb K H v n W ∧ DW.Cl n C L ∧ C W ∧ ∀ H' p xs fs, Same H H' → SqT K H' p xs → DW.Fnd n C W fs → xs.length = fs.length → Q (.ref p) H'
theorem webs_pick {n : Nat} {H : Hp} : ∀ {is : List Nat} {xs : List V}, Paired (fun _ v => ∃ V, Sh n V ∧ Im K H v (webK V)) is xs → ∃ bs : List Web, bs.length = is.length ∧ ImAll K H xs (bs.map webK) ∧ ∀ b ∈ bs, Sh n b
  | _, _, .nil => ⟨[], rfl, .nil, fun _ h => absurd h List.not_mem_nil⟩
  | _, _, .cons h t => by
    obtain ⟨V, h1, h2⟩ := h
    obtain ⟨bs, h3, h4, h5⟩ := webs_pick t
    refine ⟨V :: bs, by rw [List.length_cons, List.length_cons, h3], .cons h2 h4, fun b hb => ?_⟩
    rcases List.mem_cons.mp hb with e | e
    · rw [e]; exact h1
    · exact h5 b e
theorem at_class_of (D : Def K mg "class_of" sClassOf ["web"]) (B : Bts mg) (a1 : At P w K mg base "need_web" 5 ["value"] (spNeedWeb K)) (a2 : At P w K mg base "need_finite" 5 ["web"] (spNeedFinite K)) (a3 : At P w K mg base "least_by_name" 3 ["web"] (spLeastByName K)) : At P w K mg base "class_of" 6 ["web"] (spClassOf K) := by
  refine D.at scClassOf (fun vs H Q E h => ?_) (fun f cdv A outer s H vs Q E hr h => ?_)
  · obtain ⟨v, n, W, C, L, rfl, _⟩ := h; rfl
  · obtain ⟨v, n, W, C, L, rfl, hw, hcl, hC, q⟩ := h
    have hu := hr.units
    refine ⟨_, (pss_cons (ps_expr (pe_at a1 hr (by decide) (pa_cons (pv 0) pa_nil))) (pss_one (ps_ret (pe_tupK K rfl (by rfl) B.tuple (pe_callB (r := rSortE K webK) (cr_sortE enc_web hu) (by rfl) B.sorted (by decide +kernel) (pa_cons (pe_lc (own := [("one", 1)]) (g := gName 1) (tt := tYes) (by rfl) scClassOf.nd ((pi_listK K rfl ((pe_at a2 hr (by decide) (pa_cons (pv 0) pa_nil))))) (blkOk_by (own := [("one", 1)]) (N := ["web", "one"]) (sc := defScope sClassOf) (by decide +kernel)) (fun _ _ _ _ _ => pg_name (i := 1) scClassOf.nd rfl (Or.inl rfl)) (fun _ _ _ _ _ => pts_nil) (fun _ _ _ _ _ => (pe_at a3 hr (by decide) (pa_cons (pv 1) pa_nil)))) pa_nil)))))), ?_⟩
    refine ⟨_, rfl, v, n, W, rfl, hw, fun H1 s1 => ⟨_, rfl, v, n, W, C, L, rfl, hw.same s1, hcl, hC, fun H2 p xs fs s2 hp hx im fn few => ?_⟩⟩
    have xl : xs.length = fs.length := by rw [im.length, List.length_map]
    refine ⟨p, rfl, ⟨_, SqL.of hx⟩, fun D2 hD2 => lcG walk_list hD2 (by omega) (fun _ => true) (fun _ H' v => ∃ V, Sh n V ∧ Im K H' v (webK V)) (fun _ _ _ _ _ _ hd ⟨V, h1, h2⟩ => ⟨V, h1, Im.mono (TEx.upd (.inr hd)) _ _ h2⟩) (fun _ _ _ _ _ e ⟨V, h1, h2⟩ => ⟨V, h1, h2.same e⟩) (fun H' s' => sql_same s' (SqL.of hx)) (fun i x H9 H3 hi s3 _ hy C2 N hC2 _ => ?_) fun H4 ys s4 hys pr => ?_⟩
    · obtain ⟨rfl, hx2⟩ := hy
      obtain ⟨k, hk, hv⟩ := im.at hx2
      rw [xl] at hi
      rw [List.getElem?_map, getD_some [] hi] at hk
      obtain rfl := Option.some.inj hk
      have hfm := List.mem_of_getElem? (getD_some ([] : Web) hi)
      have gd := hcl.good _ (fn.all _ hfm).1
      exact ⟨rfl, tyes ⟨_, rfl, x, n, _, rfl, ⟨hv.same s3, gd, hw.pos, hw.few⟩, fun H5 u V s5 hV imu => hC2 rfl u H5 s5 ⟨V, hV, imu⟩⟩⟩
    · rw [all_range] at pr
      obtain ⟨bs, hbl, imb, hbs⟩ := webs_pick pr
      rw [List.length_range, xl] at hbl
      refine ⟨D2, ys, bs, rfl, SqL.of hys, imb, sort_tups fun b hb => ?_, by omega, fun ps zs hps imz => ?_⟩
      · have := (hbs b hb).len
        have hp := hw.pos
        cases b with
        | nil => simp at this; omega
        | cons r b => exact ⟨_, _, rfl⟩
      · refine .inl ⟨ps, zs, rfl, SqL.of upd_same, fun t ht => ?_⟩
        refine q _ t zs fs (((s1.trans s2).trans s4).trans ((same_new hps).trans (same_new ht))) (SqT.of upd_same) fn ?_
        rw [imz.length, List.length_map, DW.isort_len, hbl]
abbrev sKindOfTree : Stmt := topS 33
theorem scKindOfTree : FnScope ["web", "n", "x", "near", "ends", "z"] ["web"] (defScope sKindOfTree) := ⟨rfl, rfl, rfl, by decide +kernel, rfl, by decide +kernel, by decide +kernel⟩
def spKindOfTree (K : PySem.W.Frag) : Sp := fun vs H Q _ => ∃ v n W, vs = [v] ∧ Wb K H v n W ∧ ∀ H', Same H H' → Q (.str (kindS (DW.letter n W) n)) H'
theorem at_kind_of_tree (D : Def K mg "kind_of_tree" sKindOfTree ["web"]) (B : Bts mg) (a1 : At P w K mg base "neighbours" 1 ["web", "x"] (spNeighbours K)) : At P w K mg base "kind_of_tree" 2 ["web"] (spKindOfTree K) := by
  refine D.at scKindOfTree (fun vs H Q E h => ?_) (fun f cdv A outer s H vs Q E hr h => ?_)
  · obtain ⟨v, n, W, rfl, _⟩ := h; rfl
  · obtain ⟨v, n, W, rfl, hw, q⟩ := h
    have h5 := hw.few
    refine ⟨_, (pss_cons ((ps_set (i := 1) scKindOfTree.nd rfl (Or.inl rfl) ((pe_callB (r := rLen K) call_lenK (by rfl) B.len boot_len (pa_cons (pv 0) pa_nil))))) (pss_cons ((ps_for PassesOwn.never rfl ((pi_range1 (by rfl) B.range (pa_cons (pv 1) pa_nil))) (pg_name (i := 2) scKindOfTree.nd rfl (Or.inl rfl)) ((pss_cons ((ps_set (i := 3) scKindOfTree.nd rfl (Or.inl rfl) ((pe_at a1 hr (by decide) (pa_cons (pv 0) (pa_cons (pv 2) pa_nil)))))) (pss_one (ps_if (pt_cmpR op_eq ((pe_callB (r := rLen K) call_lenK (by rfl) B.len boot_len (pa_cons (pv 3) pa_nil))) (pe_int) (nomark _)) (pss_cons ((ps_setLc (i := 4) (own := [("z", 5)]) (g := gName 5) (by rfl) scKindOfTree.nd rfl rfl (sw_true rfl rfl rfl (by decide +kernel)) ((pi_listK K rfl (pv 3))) (blkOk_by (own := [("z", 5)]) (N := ["web", "n", "x", "near", "ends", "z"]) (sc := defScope sKindOfTree) (by decide +kernel)) (fun _ _ _ _ _ => pg_name (i := 5) scKindOfTree.nd rfl (Or.inl rfl)) (fun _ _ _ _ _ => pts_one ((pt_cmpR op_eq ((pe_callB (r := rLen K) call_lenK (by rfl) B.len boot_len (pa_cons ((pe_at a1 hr (by decide) (pa_cons (pv 0) (pa_cons (pv 5) pa_nil)))) pa_nil))) (pe_int) (nomark _)))) (fun _ _ _ _ _ => pv 5))) (pss_one (ps_ret (pe_op op_add_str (pe_ifExp (pt_cmpR op_gt ((pe_callB (r := rLen K) call_lenK (by rfl) B.len boot_len (pa_cons (pv 4) pa_nil))) (pe_int) (nomark _)) pe_str pe_str) (pe_callTy call_str_int (by rfl) B.str (by decide +kernel) (pa_cons (pv 1) pa_nil)))))) pss_nil)))))) (pss_one (ps_ret (pe_op op_add_str pe_str (pe_callTy call_str_int (by rfl) B.str (by decide +kernel) (pa_cons (pv 1) pa_nil))))))), ?_⟩
    refine ⟨_, rfl, rd_lenW hw.im hw.len ⟨_, rfl, (n : Int), rfl, by omega, by omega, for_it (walk_r0 (n := n)) (fun i σ H1 => Same H H1 ∧ (∃ a b c, σ = [some v, some (.int (n : Nat)), a, b, c, none]) ∧ ∀ x, x < i → DW.deg n W x ≠ 3) ?_ (fun _ _ _ _ _ => trivial) (fun i v2 σ H9 H1 hi hp hy => ?_) fun σ H1 hp => ?_⟩⟩
    · exact ⟨Same.refl _, ⟨_, _, _, rfl⟩, fun x hx => absurd hx (Nat.not_lt_zero x)⟩
    · obtain ⟨s1, ⟨a, b, c, rfl⟩, hb⟩ := hp
      obtain ⟨rfl, rfl⟩ := hy
      have hw1 := hw.same s1
      refine ⟨_, rfl, _, rfl, v, n, W, i, rfl, hw1, hi, fun H2 p xs s2 hp hx im => ?_⟩
      have ex := im_nats_inv im
      subst ex
      refine ⟨_, rfl, rd_lenL (n := DW.deg n W i) (SqL.of hx) (by rw [List.length_map]; rfl) ⟨rfl, _, rfl, ?_⟩⟩
      show if decide (V.int ((DW.deg n W i : Nat) : Int) = V.int 3) = true then _ else _
      by_cases h3 : DW.deg n W i = 3
      · rw [show decide (V.int ((DW.deg n W i : Nat) : Int) = V.int 3) = true by rw [h3]; rfl]
        have nl : (nV (DW.near n W i)).length = (DW.near n W i).length := by rw [List.length_map]
        have nln := near_len n W i
        refine iteT ⟨_, rfl, p, rfl, ⟨_, SqL.of hx⟩, fun D2 hD2 => lcIm walk_list (K := K) hD2 (by omega) (fun j => DW.deg n W ((DW.near n W i).getD j 0) == 1) (fun j => .num ((DW.near n W i).getD j 0 : Nat)) (fun H' s' => sql_same s' (SqL.of hx)) (fun j x H9 H3 hj s3 _ hy C N hC hN => ?_) fun H4 ys s4 hys imy => ?_⟩
        · obtain ⟨rfl, hx2⟩ := hy
          rw [nl] at hj
          rw [List.getElem?_map, getD_some 0 hj] at hx2
          obtain rfl := Option.some.inj hx2
          have hzn := near_lt (List.mem_of_getElem? (getD_some 0 hj))
          refine ⟨rfl, _, rfl, _, rfl, v, n, W, _, rfl, hw1.same (s2.trans s3), hzn, fun H5 p5 xs5 s5 hp5 hx5 im5 => ?_⟩
          refine rd_lenL (n := DW.deg n W ((DW.near n W i).getD j 0)) (SqL.of hx5) (by rw [im5.length, List.length_map]; rfl) ⟨rfl, _, rfl, ?_⟩
          show if decide (V.int ((DW.deg n W ((DW.near n W i).getD j 0) : Nat) : Int) = V.int 1) = true then _ else _
          by_cases h1 : DW.deg n W ((DW.near n W i).getD j 0) = 1
          · rw [show decide (V.int ((DW.deg n W ((DW.near n W i).getD j 0) : Nat) : Int) = V.int 1) = true by rw [h1]; rfl]
            exact iteT ⟨_, rfl, hC (by rw [h1]; rfl) _ _ s5 (.int _)⟩
          · rw [show decide (V.int ((DW.deg n W ((DW.near n W i).getD j 0) : Nat) : Int) = V.int 1) = false by
              rw [decide_eq_false]
              intro e
              exact h1 (by have := V.int.inj e; omega)]
            exact iteF (hN (by simpa using h1) _ s5)
        · have el : ys.length = DW.ends n W i := by
            rw [imy.length, List.length_map, nl]
            exact range_filter (l := DW.near n W i) (p := fun z => DW.deg n W z == 1)
          refine ⟨_, rfl, rd_lenL (n := DW.ends n W i) (SqL.of hys) el ⟨_, _, rfl, rfl, _, rfl, ?_⟩⟩
          have elt := letter_at hi h3 hb
          have hfin : ∀ k, DW.letter n W = k → (letS k).length + (numS (n : Int)).length ≤ sizeLine ∧ Q (.str (letS k ++ numS (n : Int))) H4 := fun k ek => by
            refine ⟨?_, by rw [← ek]; exact q H4 ((s1.trans s2).trans s4)⟩
            rw [letS_len, numS_len n h5]
            decide
          refine ite2 (fun hgt => ?_) fun hgt => ?_
          · have hgt' : 1 < DW.ends n W i := by have := of_decide_eq_true hgt; omega
            rw [if_pos hgt'] at elt
            obtain ⟨z1, z2⟩ := hfin 1 elt
            exact ⟨_, rfl, _, rfl, num_small n h5, _, _, rfl, rfl, z1, z2⟩
          · have hgt' : ¬ 1 < DW.ends n W i := fun c => hgt (decide_eq_true (by omega))
            rw [if_neg hgt'] at elt
            obtain ⟨z1, z2⟩ := hfin 2 elt
            exact ⟨_, rfl, _, rfl, num_small n h5, _, _, rfl, rfl, z1, z2⟩
      · rw [show decide (V.int ((DW.deg n W i : Nat) : Int) = V.int 3) = false by
          rw [decide_eq_false]
          intro e
          exact h3 (by have := V.int.inj e; omega)]
        refine iteF ⟨s1.trans s2, ⟨_, _, _, rfl⟩, fun x hx => ?_⟩
        rcases Nat.lt_succ_iff_lt_or_eq.mp hx with c | c
        · exact hb x c
        · rw [c]; exact h3
    · obtain ⟨s1, ⟨a, b, c, rfl⟩, hb⟩ := hp
      refine ⟨_, rfl, _, rfl, num_small n h5, _, _, rfl, rfl, ?_, ?_⟩
      · show (letS 0).length + (numS (n : Int)).length ≤ sizeLine
        rw [letS_len, numS_len n h5]
        decide
      · have := q H1 s1
        rw [letter_none hb] at this
        exact this
abbrev sKindOfPart : Stmt := topS 34
theorem scKindOfPart : FnScope ["web", "one"] ["web"] (defScope sKindOfPart) := ⟨rfl, rfl, rfl, by decide +kernel, rfl, by decide +kernel, by decide +kernel⟩
def spKindOfPart (K : PySem.W.Frag) : Sp := fun vs H Q _ => ∃ v n W R k, vs = [v] ∧ Wb K H v n W ∧ DW.Kd n R k ∧ DW.InK n R W ∧ ∀ H', Same H H' → Q (.str (kindS k n)) H'
theorem at_kind_of_part (D : Def K mg "kind_of_part" sKindOfPart ["web"]) (a1 : At P w K mg base "need_finite" 5 ["web"] (spNeedFinite K)) (a2 : At P w K mg base "is_a_tree" 3 ["web"] (spIsATree K)) (a3 : At P w K mg base "kind_of_tree" 2 ["web"] (spKindOfTree K)) : At P w K mg base "kind_of_part" 6 ["web"] (spKindOfPart K) := by
  refine D.at scKindOfPart (fun vs H Q E h => ?_) (fun f cdv A outer s H vs Q E hr h => ?_)
  · obtain ⟨v, n, W, R, k, rfl, _⟩ := h; rfl
  · obtain ⟨v, n, W, R, k, rfl, hw, hk, hin, q⟩ := h
    have h5 := hw.few
    refine ⟨_, (pss_cons ((ps_for PassesOwn.never rfl ((pi_listK K rfl ((pe_at a1 hr (by decide) (pa_cons (pv 0) pa_nil))))) (pg_name (i := 1) scKindOfPart.nd rfl (Or.inl rfl)) (pss_one (ps_if (pt_val (pe_at a2 hr (by decide) (pa_cons (pv 1) pa_nil))) (pss_one (ps_ret (pe_at a3 hr (by decide) (pa_cons (pv 1) pa_nil)))) pss_nil)))) (pss_one (ps_ret pe_str))), ?_⟩
    refine ⟨_, rfl, v, n, W, _, _, rfl, hw, hk.cl, hin, fun H2 p xs fs s2 hp hx im fn few => ?_⟩
    have pm := hk.found hin fn
    have xl : xs.length = fs.length := by rw [im.length, List.length_map]
    refine ⟨p, rfl, ⟨_, SqL.of hx⟩, for_it walk_list (fun i σ H1 => Same H2 H1 ∧ (∃ a, σ = [some v, a]) ∧ ∀ f ∈ fs.take i, DW.isTree n f = false) ?_ (fun _ _ H' _ hP => sql_same hP.1 (SqL.of hx)) (fun i v2 σ H9 H1 hi hP hy => ?_) fun σ H1 hP => ?_⟩
    · exact ⟨Same.refl _, ⟨_, rfl⟩, fun f hf => by simp at hf⟩
    · obtain ⟨s1, ⟨a, rfl⟩, hb⟩ := hP
      obtain ⟨rfl, hx2⟩ := hy
      obtain ⟨kk, hkk, hv⟩ := im.at hx2
      rw [xl] at hi
      rw [List.getElem?_map, getD_some [] hi] at hkk
      obtain rfl := Option.some.inj hkk
      have hget := getD_some ([] : Web) hi
      generalize fs.getD i [] = f at hv hget
      have hfR : f ∈ R := pm.mem_iff.mp (List.mem_of_getElem? hget)
      have wf : Wb K H1 v2 n f := ⟨hv.same s1, hk.good f hfR, hw.pos, h5⟩
      refine ⟨_, rfl, v2, n, f, rfl, wf, hk.conn f hfR, fun H3 s3 => ⟨_, rfl, ?_⟩⟩
      cases ht : DW.isTree n f with
      | true =>
        refine iteT ⟨_, rfl, v2, n, f, rfl, wf.same s3, fun H4 s4 => ?_⟩
        rw [hk.tree f hfR ht]
        exact q H4 (((s2.trans s1).trans s3).trans s4)
      | false =>
        refine iteF ⟨s1.trans s3, ⟨_, rfl⟩, fun g hg => ?_⟩
        rw [List.take_add_one, hget, List.mem_append] at hg
        rcases hg with c | c
        · exact hb g c
        · rw [List.mem_singleton.mp c]; exact ht
    · exfalso
      obtain ⟨s1, ⟨a, rfl⟩, hb⟩ := hP
      obtain ⟨r, hr1, hr2⟩ := hk.some
      have := hb r (by rw [xl, List.take_length]; exact pm.mem_iff.mpr hr1)
      rw [this] at hr2
      cases hr2
end
end L2.DL
end

section
set_option Elab.async false
set_option linter.all false
set_option maxRecDepth 100000
/-! Walk K: kinds_of, kind. -/
namespace L2.DL
open PySem PySem.Spec PyProof.Rows
open DW (Web at2 Good IsOrd og Sh)
/-- the parts of W are of the kinds ts -/
structure KindsOk (n : Nat) (W : Web) (ts : List Str) : Prop where
  ex : ∃ C L m, DW.Cl n C L ∧ C W ∧ DW.Cut n m W ∧ ts.length = (DW.partsN n m).length ∧ ∀ i, i < ts.length → ∃ R k, DW.Kd ((DW.partsN n m).getD i []).length R k ∧ DW.InK ((DW.partsN n m).getD i []).length R (partW W ((DW.partsN n m).getD i [])) ∧ ts.getD i "" = kindS k ((DW.partsN n m).getD i []).length
  few : ts.length ≤ 2
  short : ∀ t ∈ ts, t.length ≤ 10
theorem part_mem {n m : Nat} {W : Web} (c : DW.Cut n m W) {ps : List Nat} (h : ps ∈ DW.partsN n m) : ∃ lo len, ps = List.range' lo len ∧ lo + len ≤ n ∧ 1 ≤ len := by
  have h1 := c.one
  have h2 := c.le
  unfold DW.partsN at h
  rcases List.mem_cons.mp h with e | e
  · exact ⟨0, m, e, by omega, h1⟩
  · split at e
    · rw [List.mem_singleton.mp e]; exact ⟨m, n - m, rfl, by omega, by omega⟩
    · exact absurd e List.not_mem_nil
theorem part_at {W : Web} {lo len y z : Nat} (hy : y < len) (hz : z < len) : at2 (partW W (List.range' lo len)) y z = at2 W (lo + y) (lo + z) := by
  have e1 : (partW W (List.range' lo len)).getD y [] = (List.range' lo len).map fun z => at2 W (lo + y) z := by
    unfold partW
    refine DW.getD_of ?_
    rw [List.getElem?_map, List.getElem?_range' hy]
    simp
  have e2 : ((List.range' lo len).map fun z => at2 W (lo + y) z).getD z 0 = at2 W (lo + y) (lo + z) := by
    refine DW.getD_of ?_
    rw [List.getElem?_map, List.getElem?_range' hz]
    simp
  show ((partW W (List.range' lo len)).getD y []).getD z 0 = _
  rw [e1, e2]
theorem part_sh (W : Web) (ps : List Nat) : Sh ps.length (partW W ps) := ⟨part_len W ps, fun r hr => by
  unfold partW at hr
  obtain ⟨_, _, rfl⟩ := List.mem_map.mp hr
  simp⟩
theorem part_is {V W : Web} {lo len : Nat} (h : Sh len V) (e : ∀ y, y < len → ∀ z, z < len → at2 W (lo + y) (lo + z) = at2 V y z) : partW W (List.range' lo len) = V := by
  have s := part_sh W (List.range' lo len)
  rw [List.length_range'] at s
  exact DW.sh_ext s h fun y hy z hz => by rw [part_at hy hz, e y hy z hz]
theorem whole_ok {n k : Nat} {R : List Web} {W : Web} (hn : 1 ≤ n) (h5 : n ≤ 5) (hk : DW.Kd n R k) (hin : DW.InK n R W) : KindsOk n W [kindS k n] := by
  have hp : DW.partsN n n = [List.range' 0 n] := by simp [DW.partsN]
  refine ⟨⟨_, _, n, hk.cl, hin, DW.cut_conn hn (hk.inConn hin), by rw [hp]; rfl, fun i hi => ?_⟩, by show 1 ≤ 2; decide, fun t ht => ?_⟩
  · have e : i = 0 := by simp at hi; omega
    subst e
    rw [hp]
    have e2 : partW W (List.range' 0 n) = W := part_is (hk.inGood hin).sh fun y hy z hz => by rw [Nat.zero_add, Nat.zero_add]
    show ∃ R k', DW.Kd (List.range' 0 n).length R k' ∧ DW.InK (List.range' 0 n).length R (partW W (List.range' 0 n)) ∧ kindS k n = kindS k' (List.range' 0 n).length
    rw [e2, List.length_range']
    exact ⟨R, k, hk, hin, rfl⟩
  · rw [List.mem_singleton.mp ht, kindS_len k n h5]; decide
theorem pair_ok {n m k j : Nat} {R S : List Web} {A B : Web} (hn : 1 ≤ n) (hm : 1 ≤ m) (h5 : n + m ≤ 5) (c : DW.Kd n R k) (d : DW.Kd m S j) (few : R.length * S.length ≤ 100) (hA : DW.InK n R A) (hB : DW.InK m S B) : KindsOk (n + m) (DW.joinW A B) [kindS k n, kindS j m] := by
  have gA := c.inGood hA
  have gB := d.inGood hB
  have hp : DW.partsN (n + m) n = [List.range' 0 n, List.range' n m] := by simp [DW.partsN, hm]; omega
  refine ⟨⟨_, _, n, DW.Cl.pair c d few, ⟨A, B, hA, hB, DW.iso_refl (DW.join_sh gA.sh gB.sh)⟩, DW.cut_join gA.sh gB.sh hn hm (c.inConn hA) (d.inConn hB), by rw [hp]; rfl, fun i hi => ?_⟩, by show 2 ≤ 2; decide, fun t ht => ?_⟩
  · rw [hp]
    have hi2 : i < 2 := hi
    have e1 : partW (DW.joinW A B) (List.range' 0 n) = A := part_is gA.sh fun y hy z hz => by
      rw [DW.join_at gA.sh gB.sh (by omega) (by omega), if_pos (by omega), if_pos (by omega), Nat.zero_add, Nat.zero_add]
    have e2 : partW (DW.joinW A B) (List.range' n m) = B := part_is gB.sh fun y hy z hz => by
      rw [DW.join_at gA.sh gB.sh (by omega) (by omega), if_neg (by omega), if_neg (by omega), Nat.add_sub_cancel_left, Nat.add_sub_cancel_left]
    match i, hi2 with
    | 0, _ =>
      show ∃ R k', DW.Kd (List.range' 0 n).length R k' ∧ DW.InK (List.range' 0 n).length R (partW (DW.joinW A B) (List.range' 0 n)) ∧ kindS k n = kindS k' (List.range' 0 n).length
      rw [e1, List.length_range']
      exact ⟨R, k, c, hA, rfl⟩
    | 1, _ =>
      show ∃ R k', DW.Kd (List.range' n m).length R k' ∧ DW.InK (List.range' n m).length R (partW (DW.joinW A B) (List.range' n m)) ∧ kindS j m = kindS k' (List.range' n m).length
      rw [e2, List.length_range']
      exact ⟨S, j, d, hB, rfl⟩
  · rcases List.mem_cons.mp ht with e | e
    · rw [e, kindS_len k n (by omega)]; decide
    · rw [List.mem_singleton.mp e, kindS_len j m (by omega)]; decide
theorem sum_short : ∀ {l : List Str}, (∀ t ∈ l, t.length ≤ 10) → (l.map (·.length)).sum ≤ 10 * l.length
  | [], _ => by simp
  | t :: l, h => by
    have h1 := h t (List.mem_cons_self ..)
    have h2 := sum_short (l := l) fun u hu => h u (List.mem_cons_of_mem _ hu)
    simp only [List.map_cons, List.sum_cons, List.length_cons]
    omega
section
variable {P : Program} {w : World} {K : PySem.W.Frag} {mg : Str → Option Value} {base : Heap}
abbrev sKindsOf : Stmt := topS 35
theorem scKindsOf : FnScope ["web", "part"] ["web"] (defScope sKindsOf) := ⟨rfl, rfl, rfl, by decide +kernel, rfl, by decide +kernel, by decide +kernel⟩
def spKindsOf (K : PySem.W.Frag) : Sp := fun vs H Q _ => ∃ v n W ts, vs = [v] ∧ Wb K H v n W ∧ KindsOk n W ts ∧ ∀ H' p, Same H H' → H p = none → H' p = some (.lst ((srt ts).map V.str)) → Q (.ref p) H'
theorem at_kinds_of (D : Def K mg "kinds_of" sKindsOf ["web"]) (B : Bts mg) (a1 : At P w K mg base "need_finite" 5 ["web"] (spNeedFinite K)) (a2 : At P w K mg base "parts_of" 2 ["web"] (spPartsOf K)) (a3 : At P w K mg base "part_web" 1 ["web", "part"] (spPartWeb K)) (a4 : At P w K mg base "kind_of_part" 6 ["web"] (spKindOfPart K)) : At P w K mg base "kinds_of" 7 ["web"] (spKindsOf K) := by
  refine D.at scKindsOf (fun vs H Q E h => ?_) (fun f cdv A outer s H vs Q E hr h => ?_)
  · obtain ⟨v, n, W, ts, rfl, _⟩ := h; rfl
  · obtain ⟨v, n, W, ts, rfl, hw, hk, q⟩ := h
    have hu := hr.units
    obtain ⟨C, L, m, hcl, hC, hcut, htl, hts⟩ := hk.ex
    have htf := hk.few
    refine ⟨_, (pss_cons (ps_expr (pe_at a1 hr (by decide) (pa_cons (pv 0) pa_nil))) (pss_one (ps_ret (pe_callB (r := rSrt K) (cr_srt hu) (by rfl) B.sorted (by decide +kernel) (pa_cons (pe_lc (own := [("part", 1)]) (g := gName 1) (tt := tYes) (by rfl) scKindsOf.nd ((pi_listK K rfl ((pe_at a2 hr (by decide) (pa_cons (pv 0) pa_nil))))) (blkOk_by (own := [("part", 1)]) (N := ["web", "part"]) (sc := defScope sKindsOf) (by decide +kernel)) (fun _ _ _ _ _ => pg_name (i := 1) scKindsOf.nd rfl (Or.inl rfl)) (fun _ _ _ _ _ => pts_nil) (fun _ _ _ _ _ => (pe_at a4 hr (by decide) (pa_cons ((pe_at a3 hr (by decide) (pa_cons (pv 0) (pa_cons (pv 1) pa_nil)))) pa_nil)))) pa_nil))))), ?_⟩
    refine ⟨_, rfl, v, n, W, C, L, rfl, hw, hcl, hC, fun H1 p0 xs0 fs0 s1 _ _ _ _ _ => ?_⟩
    refine ⟨_, rfl, v, n, m, W, rfl, hw.same s1, hcut, fun H2 p xs s2 hp hx im => ?_⟩
    have xl : xs.length = ts.length := by rw [im.length, List.length_map, htl]
    refine ⟨p, rfl, ⟨_, SqL.of hx⟩, fun D2 hD2 => lcV walk_list hD2 (by omega) (fun _ => true) (fun i => .str (ts.getD i "")) (fun H' s' => sql_same s' (SqL.of hx)) (fun i x H9 H3 hi s3 _ hy C2 N hC2 _ => ?_) fun H4 s4 hx4 => ?_⟩
    · obtain ⟨rfl, hx2⟩ := hy
      obtain ⟨kk, hkk, hv⟩ := im.at hx2
      rw [xl] at hi
      rw [List.getElem?_map, getD_some [] (by rw [← htl]; exact hi)] at hkk
      obtain rfl := Option.some.inj hkk
      obtain ⟨R, k, hK, hin, ek⟩ := hts i hi
      have hmem := List.mem_of_getElem? (getD_some ([] : List Nat) (show i < (DW.partsN n m).length by rw [← htl]; exact hi))
      generalize (DW.partsN n m).getD i [] = ps at hv hK hin ek hmem
      obtain ⟨lo, len, eps, hle, h1⟩ := part_mem hcut hmem
      have hw3 := hw.same ((s1.trans s2).trans s3)
      have h5 := hw.few
      have psl : ps.length = len := by rw [eps, List.length_range']
      refine ⟨rfl, tyes ⟨_, rfl, _, rfl, v, x, n, W, ps, rfl, hw3, fun y hy => ?_, by omega, ?_, fun H5 u s5 imu => ?_⟩⟩
      · rw [eps, List.mem_range'_1] at hy; omega
      · rw [← partK_eq]; exact hv.same s3
      · refine ⟨u, ps.length, _, R, k, rfl, ⟨imu, hK.inGood hin, by omega, by omega⟩, hK, hin, fun H6 s6 => ?_⟩
        rw [← ek]
        exact hC2 rfl H6 (s5.trans s6)
    · rw [all_range, xl] at hx4
      have e : (List.range ts.length).map (fun i => V.str (ts.getD i "")) = ts.map V.str := by
        refine List.ext_getElem (by simp) fun i h1 h2 => ?_
        simp at h1
        simp [h1]
      rw [e] at hx4
      refine rd_sortS (SqL.of hx4) (by omega) fun p5 hp5 => ?_
      have s5 := (s1.trans s2).trans s4
      exact q _ p5 (s5.trans (same_new hp5)) (none_of s5 hp5) upd_same
abbrev sKind : Stmt := topS 36
theorem scKind : FnScope ["web"] ["web"] (defScope sKind) := ⟨rfl, rfl, rfl, by decide +kernel, rfl, by decide +kernel, by decide +kernel⟩
def kindT (ts : List Str) : Str := Txt.join " " (srt ts)
def spKind (K : PySem.W.Frag) : Sp := fun vs H Q _ => ∃ v n W ts, vs = [v] ∧ Wb K H v n W ∧ KindsOk n W ts ∧ ∀ H', Same H H' → Q (.str (kindT ts)) H'
theorem join_room {ts : List Str} (few : ts.length ≤ 2) (short : ∀ t ∈ ts, t.length ≤ 10) : ((srt ts).map (·.length)).sum + (srt ts).length * (" " : Str).length ≤ 16777216 := by
  have h1 := sum_short (l := srt ts) fun t ht => short t (srt_mem ht)
  have h2 := srt_len ts
  have h3 : (" " : Str).length = 1 := by decide +kernel
  rw [h3]
  omega
theorem at_kind (D : Def K mg "kind" sKind ["web"]) (a1 : At P w K mg base "need_web" 5 ["value"] (spNeedWeb K)) (a2 : At P w K mg base "kinds_of" 7 ["web"] (spKindsOf K)) : At P w K mg base "kind" 8 ["web"] (spKind K) := by
  refine D.at scKind (fun vs H Q E h => ?_) (fun f cdv A outer s H vs Q E hr h => ?_)
  · obtain ⟨v, n, W, ts, rfl, _⟩ := h; rfl
  · obtain ⟨v, n, W, ts, rfl, hw, hk, q⟩ := h
    refine ⟨_, (pss_cons (ps_expr (pe_at a1 hr (by decide) (pa_cons (pv 0) pa_nil))) (pss_one (ps_ret (pe_join pe_str (pe_at a2 hr (by decide) (pa_cons (pv 0) pa_nil)))))), ?_⟩
    refine ⟨_, rfl, v, n, W, rfl, hw, fun H1 s1 => ⟨⟨_, rfl⟩, _, rfl, v, n, W, ts, rfl, hw.same s1, hk, fun H2 p s2 hp hx => ?_⟩⟩
    exact ⟨_, p, srt ts, rfl, rfl, .inl (SqL.of hx), join_room hk.few hk.short, q H2 (s1.trans s2)⟩
end
end L2.DL
end

section
set_option Elab.async false
set_option linter.all false
set_option maxRecDepth 100000
/-! Walk L: the law's own row: taken, pick. -/
namespace L2.DL
open PySem PySem.Spec PyProof.Rows
open DW (Web at2 Good IsOrd og Sh)
/-- the law's row stands at rw, its script (ns) at sc -/
structure Rw (K : PySem.W.Frag) (H : Hp) (rw sc : Addr) (ns : List Int) : Prop where
  row : ∃ (c : Nat) (s rest : Int), H rw = some (.lst [.ref sc, .int (c : Nat), .int s, .int rest])
  scr : SqL K H sc (List.map V.int ns)
theorem sql_keep {K : PySem.W.Frag} {H : Hp} {sc rw a : Addr} {ns : List Int} {r : List V} {o : HO} (h : SqL K H sc (List.map V.int ns)) (e : H rw = some (.lst (.ref a :: r))) : SqL K (upd H rw o) sc (List.map V.int ns) := by
  rcases h with (h | ⟨u, h⟩) | h
  · have ne : sc ≠ rw := fun q => by
      rw [q, e] at h
      have := HO.lst.inj (Option.some.inj h)
      cases ns with
      | nil => simp at this
      | cons n ns => simp at this
    exact .inl (.inl (by rw [upd_ne ne]; exact h))
  · have ne : sc ≠ rw := fun q => by rw [q, e] at h; cases h
    exact .inl (.inr ⟨u, by rw [upd_ne ne]; exact h⟩)
  · exact .inr h
theorem scr_keepX {K : PySem.W.Frag} {H H' : Hp} {sc rw a : Addr} {ns : List Int} {r : List V} (h : SqL K H sc (List.map V.int ns)) (e : H rw = some (.lst (.ref a :: r))) (x : SameX rw H H') : SqL K H' sc (List.map V.int ns) := by
  rcases h with (h | ⟨u, h⟩) | h
  · have ne : sc ≠ rw := fun q => by
      rw [q, e] at h
      have := HO.lst.inj (Option.some.inj h)
      cases ns with
      | nil => simp at this
      | cons n ns => simp at this
    exact .inl (.inl (x _ _ ne h))
  · have ne : sc ≠ rw := fun q => by rw [q, e] at h; cases h
    exact .inl (.inr ⟨u, x _ _ ne h⟩)
  · exact .inr h
section
variable {K : PySem.W.Frag} {H H' : Hp} {rw sc : Addr} {ns : List Int}
theorem Rw.same (h : Rw K H rw sc ns) (e : Same H H') : Rw K H' rw sc ns := by
  obtain ⟨c, s, rest, h1⟩ := h.row
  exact ⟨⟨c, s, rest, e _ _ h1⟩, sql_same e h.scr⟩
theorem Rw.lsts (h : Rw K H rw sc ns) : ∃ xs, H rw = some (.lst xs) := by
  obtain ⟨c, s, rest, h1⟩ := h.row
  exact ⟨_, h1⟩
theorem Rw.keepX (h : Rw K H rw sc ns) (x : SameX rw H H') (e : ∃ (c : Nat) (s rest : Int), H' rw = some (.lst [.ref sc, .int (c : Nat), .int s, .int rest])) : Rw K H' rw sc ns := by
  obtain ⟨c, s, rest, h1⟩ := h.row
  exact ⟨e, scr_keepX h.scr h1 x⟩
/-- a store at an address that was new when the row stood -/
theorem Rw.grow {H1 : Hp} {D : Addr} {o : HO} (h1 : Rw K H1 rw sc ns) (x : SameX rw H1 H) (h : Rw K H rw sc ns) (hD : H1 D = none) : SameX rw H1 (upd H D o) ∧ Rw K (upd H D o) rw sc ns := by
  have x2 : SameX rw H1 (upd H D o) := fun b u n q => by rw [upd_ne (ne_of_none q hD)]; exact x b u n q
  obtain ⟨xs, e⟩ := h1.lsts
  refine ⟨x2, h1.keepX x2 ?_⟩
  obtain ⟨c, s, rest, h2⟩ := h.row
  exact ⟨c, s, rest, by rw [upd_ne (ne_of_none e hD)]; exact h2⟩
end
section
variable {P : Program} {w : World} {K : PySem.W.Frag} {mg : Str → Option Value} {base : Heap}
abbrev sTaken : Stmt := topS 38
theorem scTaken : FnScope ["_law_row", "_law_many", "_law_found", "_law_cell"] ["_law_row", "_law_many"] (defScope sTaken) := ⟨rfl, rfl, rfl, by decide +kernel, rfl, by decide +kernel, by decide +kernel⟩
/-- a number below many; the row alone has moved -/
def TakQ (K : PySem.W.Frag) (rw sc : Addr) (ns : List Int) (many : Nat) (H : Hp) (Q : VK) : Prop := ∀ H' (x : Nat), SameX rw H H' → Rw K H' rw sc ns → x < many → Q (.int (x : Nat)) H'
def spTaken (K : PySem.W.Frag) : Sp := fun vs H Q _ => ∃ rw sc ns many, vs = [.ref rw, .int (many : Nat)] ∧ Rw K H rw sc ns ∧ 1 ≤ many ∧ many ≤ 1000 ∧ TakQ K rw sc ns many H Q
theorem mod_nat {i : Int} {m : Nat} (h : 1 ≤ m) : ∃ x : Nat, i % (m : Int) = (x : Int) ∧ x < m := by
  have h1 := Int.emod_nonneg i (show (m : Int) ≠ 0 by omega)
  have h2 := Int.emod_lt_of_pos i (show (0 : Int) < m by omega)
  exact ⟨(i % (m : Int)).toNat, by omega, by omega⟩
theorem at_taken (D : Def K mg "_law_taken" sTaken ["_law_row", "_law_many"]) (B : Bts mg) : At P w K mg base "_law_taken" 1 ["_law_row", "_law_many"] (spTaken K) := by
  refine D.at scTaken (fun vs H Q E h => ?_) (fun f cdv A outer s H vs Q E hr h => ?_)
  · obtain ⟨rw, sc, ns, many, rfl, _⟩ := h; rfl
  · obtain ⟨rw, sc, ns, many, rfl, hrw, h1, h2, q⟩ := h
    refine ⟨_, (pss_cons (ps_if (pt_cmpR op_gt ((pe_ix (r := rIxL K) ix_list (pv 0) (pe_int) (fun _ _ => rfl))) (pe_int) (nomark _)) (pss_cons ((ps_set (i := 2) scTaken.nd rfl (Or.inl rfl) ((pe_op op_mod (pe_callTy call_int1 (by rfl) B.int (by decide +kernel) (pa_cons (pe_ix (r := rIxL K) ix_list (pv 0) (pe_int) (fun _ _ => rfl)) pa_nil)) (pv 1))))) (pss_cons (ps_asg (pe_op op_fdiv ((pe_ix (r := rIxL K) ix_list (pv 0) (pe_int) (fun _ _ => rfl))) (pv 1)) (pg_sub (pv 0) (pe_int) set_list)) (pss_one (ps_ret (pv 2))))) pss_nil) (pss_cons (ps_asg (pe_op op_add ((pe_ix (r := rIxL K) ix_list (pv 0) (pe_int) (fun _ _ => rfl))) (pe_int)) (pg_sub (pv 0) (pe_int) set_list)) (pss_cons (ps_if (pt_cmpR op_gt ((pe_ix (r := rIxL K) ix_list (pv 0) (pe_int) (fun _ _ => rfl))) ((pe_callB (r := rLen K) call_lenK (by rfl) B.len boot_len (pa_cons ((pe_ix (r := rIxL K) ix_list (pv 0) (pe_int) (fun _ _ => rfl))) pa_nil))) (nomark _)) (pss_cons (ps_asg (pe_op op_mod (pe_callTy call_int1 (by rfl) B.int (by decide +kernel) (pa_cons (pe_op op_add ((pe_op op_mul ((pe_ix (r := rIxL K) ix_list (pv 0) (pe_int) (fun _ _ => rfl))) (pe_int))) (pe_int)) pa_nil)) (pe_int)) (pg_sub (pv 0) (pe_int) set_list)) (pss_one (ps_ret (pe_op op_mod (pe_callTy call_int1 (by rfl) B.int (by decide +kernel) (pa_cons (pe_op op_fdiv ((pe_ix (r := rIxL K) ix_list (pv 0) (pe_int) (fun _ _ => rfl))) (pe_int)) pa_nil)) (pv 1))))) pss_nil) (pss_cons ((ps_set (i := 3) scTaken.nd rfl (Or.inl rfl) ((pe_ix (r := rIxL K) ix_list ((pe_ix (r := rIxL K) ix_list (pv 0) (pe_int) (fun _ _ => rfl))) ((pe_op op_sub ((pe_ix (r := rIxL K) ix_list (pv 0) (pe_int) (fun _ _ => rfl))) (pe_int))) (fun _ _ => rfl))))) (pss_cons (ps_asg (pe_op op_mod (pe_callTy call_int1 (by rfl) B.int (by decide +kernel) (pa_cons (pe_op op_add ((pe_op op_add ((pe_op op_mul ((pe_ix (r := rIxL K) ix_list (pv 0) (pe_int) (fun _ _ => rfl))) (pe_int))) (pv 3))) (pe_int)) pa_nil)) (pe_int)) (pg_sub (pv 0) (pe_int) set_list)) (pss_cons (ps_if (pt_cmpR op_ge (pv 3) ((pe_op op_pow (pe_int) (pe_int))) (nomark _)) (pss_one (ps_asg (pe_op op_fdiv (pv 3) (pv 1)) (pg_sub (pv 0) (pe_int) set_list))) pss_nil) (pss_one (ps_ret (pe_op op_mod (pe_callTy call_int1 (by rfl) B.int (by decide +kernel) (pa_cons (pv 3) pa_nil)) (pv 1)))))))))), ?_⟩
    obtain ⟨c, st, rest, e⟩ := hrw.row
    have hsc := hrw.scr
    have hm0 : (0 : Int) < (many : Int) := by omega
    have hmd : CDiv rest (many : Int) := ⟨hm0, by omega⟩
    refine ⟨_, rfl, rw, _, 3, .int rest, rfl, rfl, SqL.of e, rfl, _, _, rfl, rfl, _, rfl, ite2 (fun hp => ?_) fun hp => ?_⟩
    · obtain ⟨x, hx, hxm⟩ := mod_nat (i := rest) h1
      refine ⟨_, rfl, rw, _, 3, .int rest, rfl, rfl, SqL.of e, rfl, .inl ⟨_, rfl, _, rfl, _, _, rfl, rfl, hm0, ?_⟩⟩
      refine ⟨_, rfl, rw, _, 3, .int rest, rfl, rfl, SqL.of e, rfl, _, rfl, _, _, rfl, rfl, hmd, ?_⟩
      refine ⟨_, rfl, rw, _, 3, 3, rfl, rfl, e, rfl, _, rfl, ?_⟩
      show Q (.int (rest % (many : Int))) _
      rw [hx]
      exact q _ x SameX.upd ⟨⟨c, st, _, upd_same⟩, sql_keep hsc e⟩ hxm
    · refine ⟨_, rfl, rw, _, 1, _, rfl, rfl, SqL.of e, rfl, _, _, rfl, rfl, ?_⟩
      refine ⟨_, rfl, rw, _, 1, 1, rfl, rfl, e, rfl, ?_⟩
      have e1 : upd H rw (.lst [.ref sc, .int ((c : Int) + 1), .int st, .int rest]) rw = some (.lst [.ref sc, .int ((c : Int) + 1), .int st, .int rest]) := upd_same
      have hsc1 : SqL K (upd H rw (.lst [.ref sc, .int ((c : Int) + 1), .int st, .int rest])) sc (List.map V.int ns) := sql_keep hsc e
      have x1 : SameX rw H (upd H rw (.lst [.ref sc, .int ((c : Int) + 1), .int st, .int rest])) := SameX.upd
      show tSeq _ _ _ _ (upd H rw (.lst [.ref sc, .int ((c : Int) + 1), .int st, .int rest]))
      generalize upd H rw (.lst [.ref sc, .int ((c : Int) + 1), .int st, .int rest]) = H1 at e1 hsc1 x1
      refine ⟨_, rfl, rw, _, 1, _, rfl, rfl, SqL.of e1, rfl, _, rfl, rw, _, 0, _, rfl, rfl, SqL.of e1, rfl, rd_lenL (n := ns.length) hsc1 (by rw [List.length_map]) ⟨_, _, rfl, rfl, _, rfl, ite2 (fun hp2 => ?_) fun hp2 => ?_⟩⟩
      · refine ⟨_, rfl, rw, _, 2, _, rfl, rfl, SqL.of e1, rfl, _, _, rfl, rfl, .inr ⟨by decide, by decide⟩, _, _, rfl, rfl, .inl ⟨_, rfl, _, _, rfl, rfl, by show (0 : Int) < 2147483647; decide, ?_⟩⟩
        refine ⟨_, rfl, rw, _, 2, 2, rfl, rfl, e1, rfl, ?_⟩
        refine ⟨_, rfl, rw, _, 2, _, rfl, rfl, SqL.of upd_same, rfl, _, _, rfl, rfl, ⟨by decide, by decide⟩, .inl ⟨_, rfl, _, rfl, _, _, rfl, rfl, hm0, ?_⟩⟩
        obtain ⟨x, hx, hxm⟩ := mod_nat (i := ((st * 48271 + 11) % 2147483647) / 7) h1
        show Q (.int ((((st * 48271 + 11) % 2147483647) / 7) % (many : Int))) _
        rw [hx]
        exact q _ x (x1.trans SameX.upd) ⟨⟨c + 1, _, _, upd_same⟩, sql_keep hsc1 e1⟩ hxm
      · have hc : c < ns.length := by
          have : ¬ ((ns.length : Int) < (c : Int) + 1) := fun z => hp2 (decide_eq_true z)
          omega
        obtain ⟨cell, hcell⟩ : ∃ cell, ns[c]? = some cell := ⟨ns[c], by simp [hc]⟩
        refine ⟨_, rfl, rw, _, 0, _, rfl, rfl, SqL.of e1, rfl, _, rfl, rw, _, 1, _, rfl, rfl, SqL.of e1, rfl, _, _, rfl, rfl, sc, _, _, .int cell, rfl, rfl, hsc1, ?_, ?_⟩
        · rw [show (c : Int) + 1 - 1 = (c : Nat) by omega]
          exact atI_nat (by rw [List.getElem?_map, hcell]; rfl)
        obtain ⟨x, hx, hxm⟩ := mod_nat (i := cell) h1
        refine ⟨_, rfl, rw, _, 2, _, rfl, rfl, SqL.of e1, rfl, _, _, rfl, rfl, .inr ⟨by decide, by decide⟩, _, rfl, _, _, rfl, rfl, _, _, rfl, rfl, .inl ⟨_, rfl, _, _, rfl, rfl, by show (0 : Int) < 2147483647; decide, ?_⟩⟩
        refine ⟨_, rfl, rw, _, 2, 2, rfl, rfl, e1, rfl, ?_⟩
        refine ⟨_, rfl, _, _, rfl, rfl, ⟨by decide, by decide, by decide⟩, _, _, rfl, rfl, _, rfl, ite2 (fun hp3 => ?_) fun hp3 => ?_⟩
        · refine ⟨_, rfl, _, rfl, _, _, rfl, rfl, ⟨hm0, by omega⟩, _, rfl, rw, _, 3, 3, rfl, rfl, upd_same, rfl, ?_⟩
          refine ⟨_, rfl, .inl ⟨_, rfl, _, rfl, _, _, rfl, rfl, hm0, ?_⟩⟩
          show Q (.int (cell % (many : Int))) _
          rw [hx]
          exact q _ x ((x1.trans SameX.upd).trans SameX.upd) ⟨⟨c + 1, _, _, upd_same⟩, sql_keep (sql_keep hsc1 e1) upd_same⟩ hxm
        · refine ⟨_, rfl, .inl ⟨_, rfl, _, rfl, _, _, rfl, rfl, hm0, ?_⟩⟩
          show Q (.int (cell % (many : Int))) _
          rw [hx]
          exact q _ x (x1.trans SameX.upd) ⟨⟨c + 1, _, _, upd_same⟩, sql_keep hsc1 e1⟩ hxm
end
end L2.DL
end

section
set_option Elab.async false
set_option linter.all false
set_option maxRecDepth 100000
/-! Plain I: the law's own way to turn a web. -/
namespace DW
/-- both arrows go through x -/
def thro (W : Web) (x a b : Nat) : Prop := 0 < at2 W a x ∧ 0 < at2 W x b
instance (W : Web) (x a b : Nat) : Decidable (thro W x a b) := by unfold thro; exact inferInstance
def doneB (y z a b : Nat) : Prop := a < y ∨ a = y ∧ b < z
instance (y z a b : Nat) : Decidable (doneB y z a b) := by unfold doneB; exact inferInstance
/-- what the first loop has reached at y, z -/
def Tur (n : Nat) (W : Web) (x y z : Nat) (F : Nat → Nat → Int) : Prop := ∀ a, a < n → ∀ b, b < n → F a b = at2 W a b + (if doneB y z a b ∧ thro W x a b then 1 else 0) - (if doneB y z b a ∧ thro W x b a then 1 else 0)
section
variable {n : Nat} {W : Web} {x y z : Nat} {F G : Nat → Nat → Int}
theorem thro_anti (g : Good n W) (hx : x < n) {a b : Nat} (ha : a < n) (hb : b < n) (h : thro W x a b) : ¬ thro W x b a ∧ a ≠ b ∧ at2 W a x * at2 W x b = 1 := by
  have h1 := g.anti a ha x hx
  have h2 := g.anti b hb x hx
  have h3 := g.one a ha x hx
  have h4 := g.one x hx b hb
  obtain ⟨p, q⟩ := h
  refine ⟨fun ⟨p', q'⟩ => by omega, fun e => by subst e; omega, ?_⟩
  rw [show at2 W a x = 1 by omega, show at2 W x b = 1 by omega]; rfl
theorem Tur.start : Tur n W x 0 0 (at2 W) := fun a ha b hb => by
  have h : ∀ a b, ¬ doneB 0 0 a b := fun a b h => by unfold doneB at h; omega
  simp [h]
theorem done_succ {a b : Nat} : doneB y (z + 1) a b ↔ doneB y z a b ∨ a = y ∧ b = z := by unfold doneB; omega
theorem done_not : ¬ doneB y z y z := by unfold doneB; omega
theorem Tur.skip (t : Tur n W x y z F) (h : ¬ thro W x y z) : Tur n W x y (z + 1) F := fun a ha b hb => by
  rw [t a ha b hb]
  have e : ∀ a b, (doneB y (z + 1) a b ∧ thro W x a b) ↔ (doneB y z a b ∧ thro W x a b) := fun a b => by
    rw [done_succ]
    constructor
    · rintro ⟨h1 | ⟨rfl, rfl⟩, h2⟩
      · exact ⟨h1, h2⟩
      · exact absurd h2 h
    · exact fun ⟨h1, h2⟩ => ⟨.inl h1, h2⟩
  simp only [e]
theorem Tur.step (g : Good n W) (hx : x < n) (hy : y < n) (hz : z < n) (t : Tur n W x y z F) (h : thro W x y z)
    (hG : ∀ a, a < n → ∀ b, b < n → G a b = if z = a ∧ y = b then F z y - 1 else if y = a ∧ z = b then F y z + 1 else F a b) : Tur n W x y (z + 1) G := fun a ha b hb => by
  obtain ⟨na, ne, _⟩ := thro_anti g hx hy hz h
  rw [hG a ha b hb]
  by_cases c1 : z = a ∧ y = b
  · obtain ⟨rfl, rfl⟩ := c1
    rw [if_pos ⟨rfl, rfl⟩, t z hz y hy]
    have e1 : ¬ (doneB y z z y ∧ thro W x z y) := fun c => na c.2
    have e2 : ¬ (doneB y (z + 1) z y ∧ thro W x z y) := fun c => na c.2
    have e3 : ¬ (doneB y z y z ∧ thro W x y z) := fun c => done_not c.1
    have e4 : doneB y (z + 1) y z ∧ thro W x y z := ⟨done_succ.mpr (.inr ⟨rfl, rfl⟩), h⟩
    rw [if_neg e1, if_neg e2, if_neg e3, if_pos e4]; omega
  · rw [if_neg c1]
    by_cases c2 : y = a ∧ z = b
    · obtain ⟨rfl, rfl⟩ := c2
      rw [if_pos ⟨rfl, rfl⟩, t y hy z hz]
      have e1 : ¬ (doneB y z z y ∧ thro W x z y) := fun c => na c.2
      have e2 : ¬ (doneB y (z + 1) z y ∧ thro W x z y) := fun c => na c.2
      have e3 : ¬ (doneB y z y z ∧ thro W x y z) := fun c => done_not c.1
      have e4 : doneB y (z + 1) y z ∧ thro W x y z := ⟨done_succ.mpr (.inr ⟨rfl, rfl⟩), h⟩
      rw [if_neg e1, if_neg e2, if_neg e3, if_pos e4]; omega
    · rw [if_neg c2, t a ha b hb]
      have e : (doneB y (z + 1) a b ∧ thro W x a b) ↔ (doneB y z a b ∧ thro W x a b) := by
        rw [done_succ]
        exact ⟨fun ⟨p, q⟩ => ⟨p.resolve_right fun r => c2 ⟨r.1.symm, r.2.symm⟩, q⟩, fun ⟨p, q⟩ => ⟨.inl p, q⟩⟩
      have e' : (doneB y (z + 1) b a ∧ thro W x b a) ↔ (doneB y z b a ∧ thro W x b a) := by
        rw [done_succ]
        exact ⟨fun ⟨p, q⟩ => ⟨p.resolve_right fun r => c1 ⟨r.2.symm, r.1.symm⟩, q⟩, fun ⟨p, q⟩ => ⟨.inl p, q⟩⟩
      simp only [e, e']
theorem Tur.row (t : Tur n W x y n F) : Tur n W x (y + 1) 0 F := fun a ha b hb => by
  rw [t a ha b hb]
  have e : ∀ a b, b < n → (doneB y n a b ↔ doneB (y + 1) 0 a b) := fun a b hb => by unfold doneB; omega
  simp only [e a b hb, e b a ha]
theorem Tur.all (g : Good n W) (hx : x < n) (t : Tur n W x n 0 F) {a b : Nat} (ha : a < n) (hb : b < n) : F a b = at2 W a b + added (at2 W a x) (at2 W x b) := by
  rw [t a ha b hb]
  have d1 : doneB n 0 a b := .inl ha
  have d2 : doneB n 0 b a := .inl hb
  have h1 := g.anti a ha x hx
  have h2 := g.anti b hb x hx
  have h3 := g.one a ha x hx
  have h4 := g.one x hx b hb
  have h5 := g.low ha hx
  have h6 := g.low hx hb
  have e1 : (doneB n 0 a b ∧ thro W x a b) ↔ (0 < at2 W a x ∧ 0 < at2 W x b) := ⟨fun c => c.2, fun c => ⟨d1, c⟩⟩
  have e2 : (doneB n 0 b a ∧ thro W x b a) ↔ (0 < at2 W b x ∧ 0 < at2 W x a) := ⟨fun c => c.2, fun c => ⟨d2, c⟩⟩
  simp only [e1, e2]
  unfold added
  generalize at2 W a x = l at *
  generalize at2 W x b = r at *
  have hl : l = -1 ∨ l = 0 ∨ l = 1 := by omega
  have hr : r = -1 ∨ r = 0 ∨ r = 1 := by omega
  have hxa : at2 W x a = - l := by omega
  have hbx : at2 W b x = - r := by omega
  rw [hxa, hbx]
  rcases hl with rfl | rfl | rfl <;> rcases hr with rfl | rfl | rfl <;> simp <;> omega
/-- the second loop -/
def Edg (n : Nat) (W : Web) (x y : Nat) (F G : Nat → Nat → Int) : Prop := ∀ a, a < n → ∀ b, b < n → G a b = if a = x ∧ b < y ∨ b = x ∧ a < y then - at2 W a b else F a b
theorem Edg.start : Edg n W x 0 F F := fun a _ b _ => by rw [if_neg]; omega
theorem Edg.step {G' : Nat → Nat → Int} (e : Edg n W x y F G) (hG : ∀ a, a < n → ∀ b, b < n → G' a b = if y = a ∧ x = b then 0 - at2 W y x else if x = a ∧ y = b then 0 - at2 W x y else G a b) : Edg n W x (y + 1) F G' := fun a ha b hb => by
  rw [hG a ha b hb]
  by_cases c1 : y = a ∧ x = b
  · obtain ⟨rfl, rfl⟩ := c1
    rw [if_pos ⟨rfl, rfl⟩, if_pos (by omega)]; omega
  · rw [if_neg c1]
    by_cases c2 : x = a ∧ y = b
    · obtain ⟨rfl, rfl⟩ := c2
      rw [if_pos ⟨rfl, rfl⟩, if_pos (by omega)]; omega
    · rw [if_neg c2, e a ha b hb]
      have q : (a = x ∧ b < y ∨ b = x ∧ a < y) ↔ (a = x ∧ b < y + 1 ∨ b = x ∧ a < y + 1) := by omega
      simp only [q]
theorem turn_all (g : Good n W) (hx : x < n) (t : Tur n W x n 0 F) {T : Web} (hT : Sh n T) (e : Edg n W x n F (at2 T)) : T = turnW W x :=
  sh_ext hT (turn_sh g.sh) fun y hy z hz => by
    rw [e y hy z hz, turn_at g.sh hy hz, Tur.all g hx t hy hz]
    have q : (y = x ∧ z < n ∨ z = x ∧ y < n) ↔ (x = y ∨ x = z) := by omega
    simp only [q]
end
end DW
end

section
set_option Elab.async false
set_option linter.all false
set_option maxRecDepth 100000
set_option maxHeartbeats 2000000
/-! Layer R: t * 1 is t itself; t * n. -/
namespace L2.DL
open PySem PySem.Spec PyProof.Rows
theorem tuple_mul1 (l : Addr) (items : Array Value) (n : Nat) (dd : Option Addr) (sl : Array (Option Value)) (u : Tok) :
    Meets (Builtin.«tuple.__mul__» ⟨[.ref l, .int 1 u], []⟩) (fun _ R s => s.heap.get? l = some { cls := .type "tuple", dict := dd, data := .seq items n, slots := sl } ∧ R (.ok (.ret (Value.ref l))) s) :=
  .of_wp fun prog w A R s h => by
    obtain ⟨hp, g, d, tk, os⟩ := s
    obtain ⟨hl, h⟩ := h
    have f1 := AutoSeq1.idx_int
    wp_walk using wpAny_loadPart' hl
    exact ⟨_, rfl, h⟩
/-- a tuple times a positive number -/
def rRepN (K : PySem.W.Frag) : R2 := fun x y H Q => ∃ (l : Addr) (k : Nat) (xs : List V), x = .ref l ∧ y = .int (k : Nat) ∧ SqT K H l xs ∧ xs ≠ [] ∧ 1 ≤ k ∧ k ≤ 1000 ∧ xs.length ≤ 1000 ∧ ∀ H' p, Same H H' → SqT K H' p (List.replicate k xs).flatten → Q (.ref p) H'
theorem op_repN {X : Cx} : OpR X (binaryOp .Mult) (rRepN X.K) := by
  intro pins s σ H x y v u Q I rx ry h
  obtain ⟨l, k, xs, rfl, rfl, hT, hne, h1, h2, hz, q⟩ := h
  by_cases hk : k = 1
  · subst hk
    cases rx
    obtain ⟨t, rfl⟩ := ry
    obtain ⟨its, r, ⟨⟨cls, dd, data, sl⟩, ho, hc, n, hd⟩, hs⟩ := I.tuple hT
    simp only at hc hd
    subst hc hd
    refine wpAny_binaryOp_repeat_ref (T := "tuple") (U := "int") (by decide) ⟨_, ho, rfl⟩ (fun s' => typeIs_int s' _ t) noFill_tuple_mul F.fills_int_mul F.slot_int_rmul repeat_tuple F.slot_int_index.lookup
      (call_meets F.slot_int_rmul (typeIs_int s _ t) F.entry_int_rmul (F.args_int_rmul_2 _ _) (int_rmul_tuple _ t l its.toArray n dd sl)
        ⟨ho, rfl, ⟨_, ho, rfl⟩, call_meets F.slot_tuple_mul ⟨_, ho, rfl⟩ F.entry_tuple_mul (F.args_tuple_mul_2 _ _) (tuple_mul1 l its.toArray n dd sl t) ⟨ho, ?_⟩⟩)
    exact ⟨.ref l, H, I, rfl, q H l (Same.refl H) (by simpa using hT)⟩
  · refine op_repT pins s σ H _ _ _ _ Q I rx ry ⟨l, (k : Nat), xs, rfl, rfl, hT, hne, by omega, by omega, hz, fun p hp => ?_⟩
    refine q _ p (same_new hp) (SqT.of ?_)
    rw [upd_same, Int.toNat_natCast]
end L2.DL
end

section
set_option Elab.async false
set_option linter.all false
set_option maxRecDepth 100000
/-! Walk M: the law's own turn, turns, named, near, shape. -/
namespace L2.DL
open PySem PySem.Spec PyProof.Rows
open DW (Web at2 Good IsOrd og Sh)
structure rLstO (K : PySem.W.Frag) (xs : List V) (H : Hp) (Q : VK) : Prop where
  ex : ∃ p ys, xs = [.ref p] ∧ (SqL K H p ys ∨ SqT K H p ys) ∧ ∀ l, H l = none → Q (.ref l) (upd H l (.lst ys))
theorem call_listK {X : Cx} : CallR X (.type "list") (rLstO X.K) := fun pins s σ H vs us Q I r h => call_list_of pins s σ H vs us Q I r h.ex
section
variable {P : Program} {w : World} {K : PySem.W.Frag} {mg : Str → Option Value} {base : Heap}
theorem Mx.cellQ {H0 H : Hp} {t : Addr} {T : Web} {ps : List Addr} {i j : Nat} {Q : VK} (m : Mx H0 H t T ps) (hi : i < T.length) (hj : j < (T.getD i []).length) (q : Q (.int (at2 T i j)) H) : rIxL K (.ref (ps.getD i 0)) (.int (j : Nat)) H Q :=
  rd_lst (SqL.of (m.row i hi).2.2) (by rw [List.getElem?_map, getD_some 0 hj]; rfl) q
/-- tuple([tuple(line) for line in table]) as it is read -/
theorem frz_lc {H0 H : Hp} {t : Addr} {T : Web} {ps : List Addr} {n : Nat} {g : TG} {te : TE} {vs : List Nat} {σ : St} {Q : VK} (m : Mx H0 H t T ps) (g' : Sh n T) (h5 : n ≤ 5)
    (hs : ∀ i H', i < n → SqL K H' (ps.getD i 0) ((T.getD i []).map V.int) → ∀ (C : VK), (∀ H' v, Im K H' v (rowK (T.getD i [])) → C v H' → C v H') → ∀ N : Hp → Prop, (kTup K (.ref (ps.getD i 0)) H' C) →
      g (.ref (ps.getD i 0)) (wipe σ vs) H' fun σ2 H2 => wipe σ2 vs = wipe σ vs ∧ tYes σ2 H2 fun b H3 => if b = true then te σ2 H3 C else N H3)
    (q : ∀ H' u, Same H H' → Im K H' u (webK T) → Q u H') : ∀ D, H D = none → ∃ W : Nat → Nat → Hp → Prop, (∃ m, W 0 m (upd H D (.lst []))) ∧ ∀ i m H, W i m H →
      ((Itl K t).stop i H ∧ kTup K (.ref D) H Q) ∨ ((Itl K t).go i H ∧ ∃ Nx : Hp → Prop, (∀ H', Nx H' → ∃ m', m' < m ∧ W (i + 1) m' H') ∧ ∀ x H', (Itl K t).yld i H x H' → g x (wipe σ vs) H' fun σ2 H2 => wipe σ2 vs = wipe σ vs ∧ tYes σ2 H2 fun b H3 =>
        if b = true then te σ2 H3 fun y H4 => ∃ acc, H4 D = some (.lst acc) ∧ acc.length < sizeLine ∧ Nx (upd H4 D (.lst (acc ++ [y]))) else Nx H3) := by
  intro D hD
  have hl : (ps.map V.ref).length = T.length := by rw [List.length_map, m.len]
  have h1 : SqL K H t (ps.map V.ref) := SqL.of m.tab
  refine lcIm walk_list (K := K) hD (by rw [hl, g'.len]; omega) (fun _ => true) (fun i => rowK (T.getD i [])) (fun H' s1 => sql_same s1 h1) (fun i x H2 H3 hi s1 hy y C N hC hN => ?_) fun H4 xs s4 hx him => ?_
  · obtain ⟨rfl, hx⟩ := y
    rw [hl] at hi
    rw [List.getElem?_map, getD_some 0 (by rw [m.len]; exact hi)] at hx
    obtain rfl := Option.some.inj hx
    have hr := sql_same (K := K) s1 (SqL.of (m.row i hi).2.2)
    exact hs i _ (by rw [← g'.len]; exact hi) hr C (fun _ _ _ z => z) N (tup_row hr fun H' v s2 hv => hC rfl v H' s2 hv)
  · rw [all_range, hl, webK_range] at him
    exact tup_all (SqL.of hx) him fun H' v s5 hv => q H' v (s4.trans s5) hv
abbrev sLNamed : Stmt := topS 43
theorem scLNamed : FnScope ["_law_web", "_law_order", "_law_n", "_law_table", "_law_y", "_law_z", "_law_x", "_law_line"] ["_law_web", "_law_order"] (defScope sLNamed) := ⟨rfl, rfl, rfl, by decide +kernel, rfl, by decide +kernel, by decide +kernel⟩
theorem at_law_named (D : Def K mg "_law_named" sLNamed ["_law_web", "_law_order"]) (B : Bts mg) : At P w K mg base "_law_named" 1 ["_law_web", "_law_order"] (fun vs H Q _ => ∃ v p n W o, vs = [v, .ref p] ∧ Wb K H v n W ∧ IsOrd n o ∧ SqL K H p (nV o) ∧ Ret K (webK (DW.nameW W o)) H Q) := by
  refine D.at scLNamed (fun vs H Q E h => ?_) (fun f cdv A outer s H vs Q E hr h => ?_)
  · obtain ⟨v, u, n, W, o, rfl, _⟩ := h; rfl
  · obtain ⟨v, u, n, W, o, rfl, hw, ho, hu, q⟩ := h
    have h5 := hw.few
    have ixo : ∀ {H1 : Hp} {y : Nat} {Q : VK}, Same H H1 → y < n → Q (.int (og o y : Nat)) H1 → rIxL K (.ref u) (.int (y : Nat)) H1 Q := fun {H1 y Q} s1 hy q => rd_lst (sql_same s1 hu) (by rw [List.getElem?_map, ho.get hy]; rfl) q
    refine ⟨_, (pss_cons ((ps_set (i := 2) scLNamed.nd rfl (Or.inr rfl) ((pe_callB (r := rLen K) call_lenK (by rfl) B.len boot_len (pa_cons (pv 0) pa_nil))))) (pss_cons ((ps_setLc (i := 3) (own := [("_law_x", 6)]) (g := gName 6) (tt := tYes) (by rfl) scLNamed.nd rfl rfl (sw_true rfl rfl rfl (by decide +kernel)) ((pi_range1 (by rfl) B.range (pa_cons (pv 2) pa_nil))) (blkOk_by (own := [("_law_x", 6)]) (N := ["_law_web", "_law_order", "_law_n", "_law_table", "_law_y", "_law_z", "_law_x", "_law_line"]) (sc := defScope sLNamed) (by decide +kernel)) (fun _ _ _ _ _ => pg_name (i := 6) scLNamed.nd rfl (Or.inl rfl)) (fun _ _ _ _ _ => pts_nil) (fun _ _ _ _ _ => (pe_op op_rep ((pe_lst (pa_cons (pe_int) pa_nil))) (pv 2))))) (pss_cons ((ps_for PassesOwn.never rfl ((pi_range1 (by rfl) B.range (pa_cons (pv 2) pa_nil))) (pg_name (i := 4) scLNamed.nd rfl (Or.inl rfl)) (pss_one (ps_for PassesOwn.never rfl ((pi_range1 (by rfl) B.range (pa_cons (pv 2) pa_nil))) (pg_name (i := 5) scLNamed.nd rfl (Or.inl rfl)) (pss_one (ps_asg (pe_ix (r := rIxT K) ix_tup ((pe_ix (r := rIxT K) ix_tup (pv 0) (pv 4) (fun _ _ => rfl))) (pv 5) (fun _ _ => rfl)) (pg_sub ((pe_ix (r := rIxL K) ix_list (pv 3) ((pe_ix (r := rIxL K) ix_list (pv 1) (pv 4) (fun _ _ => rfl))) (fun _ _ => rfl))) ((pe_ix (r := rIxL K) ix_list (pv 1) (pv 5) (fun _ _ => rfl))) set_list))))))) (pss_one (ps_ret (pe_tupK K rfl (by rfl) B.tuple ((pe_lc (own := [("_law_line", 7)]) (g := gName 7) (tt := tYes) (by rfl) scLNamed.nd ((pi_listK K rfl (pv 3))) (blkOk_by (own := [("_law_line", 7)]) (N := ["_law_web", "_law_order", "_law_n", "_law_table", "_law_y", "_law_z", "_law_x", "_law_line"]) (sc := defScope sLNamed) (by decide +kernel)) (fun _ _ _ _ _ => pg_name (i := 7) scLNamed.nd rfl (Or.inl rfl)) (fun _ _ _ _ _ => pts_nil) (fun _ _ _ _ _ => (pe_tupK K rfl (by rfl) B.tuple (pv 7))))))))))), ?_⟩
    refine ⟨_, rfl, rd_lenW hw.im hw.len ?_⟩
    refine ⟨_, rfl, (n : Int), rfl, by omega, by omega, fun t ht => lcMx (walk_r0 (n := n)) ht (by omega) (fun _ => List.replicate n 0) (fun _ _ => trivial) (fun i x H9 H2 hi s1 hy C N hC => ?_) fun H3 ps s3 m => ?_⟩
    · obtain ⟨rfl, rfl⟩ := hy
      refine ⟨rfl, tyes ⟨by show 1 ≤ sizeLine; decide, fun l hl => ⟨_, rfl, l, _, _, rfl, rfl, upd_same, by omega, by omega, ?_, fun p hp => ?_⟩⟩⟩
      · rw [Int.toNat_natCast]
        exact Nat.le_trans (show 1 * n ≤ 100000 by omega) (by decide)
      · have np : H2 p = none := none_of (same_new hl) hp
        refine hC p _ (same_grow (same_new hl) np) np ?_
        rw [upd_same, rep_zero]
    · have h0 : (H : Hp) t = none := ht
      refine ⟨_, rfl, (n : Int), rfl, by omega, by omega, for_it (walk_r0 (n := n)) (fun i σ H1 => Same H H1 ∧ (∃ a b, σ = [some v, some (.ref u), some (.int (n : Nat)), some (.ref t), a, b, none, none]) ∧ ∃ T, Mx H H1 t T ps ∧ Filled n W T o i 0) ?_ (fun _ _ _ _ _ => trivial) (fun i v2 σ H9 H1 hi hp hy => ?_) fun σ H1 hp => ?_⟩
      · exact ⟨s3, ⟨_, _, rfl⟩, _, m, Filled.zero n W o⟩
      · obtain ⟨s1, ⟨a, b, rfl⟩, T, mT, fT⟩ := hp
        obtain ⟨rfl, rfl⟩ := hy
        refine ⟨_, rfl, (n : Int), rfl, by omega, by omega, for_it (walk_r0 (n := n)) (fun j σ H4 => Same H H4 ∧ (∃ b, σ = [some v, some (.ref u), some (.int (n : Nat)), some (.ref t), some (.int (i : Nat)), b, none, none]) ∧ ∃ T, Mx H H4 t T ps ∧ Filled n W T o i j) ?_ (fun _ _ _ _ _ => trivial) (fun j v3 σ H9 H4 hj hp hy => ?_) fun σ H4 hp => ?_⟩
        · exact ⟨s1, ⟨_, rfl⟩, T, mT, fT⟩
        · obtain ⟨s4, ⟨b, rfl⟩, T, mT, fT⟩ := hp
          obtain ⟨rfl, rfl⟩ := hy
          have hw4 := hw.same s4
          have lT := fT.1.len
          refine ⟨_, rfl, _, rfl, ix_web hw4.good.sh hw4.im hi fun r1 hr1 => ⟨_, rfl, hr1 _ hj _ ?_⟩⟩
          refine ⟨_, rfl, _, rfl, _, rfl, ixo s4 hi (mT.ix (by rw [lT]; exact ho.og_lt hi) ⟨_, rfl, _, rfl, ixo s4 hj ?_⟩)⟩
          refine mT.setQ (by rw [lT]; exact ho.og_lt hi) (by rw [sh_row fT.1 (ho.og_lt hi)]; exact ho.og_lt hj) fun H5 e5 m5 => ?_
          exact ⟨keep_same s4 e5, ⟨_, rfl⟩, _, m5, fT.step ho hi hj⟩
        · obtain ⟨s4, ⟨b, rfl⟩, T, mT, fT⟩ := hp
          exact ⟨s4, ⟨_, _, rfl⟩, T, mT, fT.row⟩
      · obtain ⟨s1, ⟨a, b, rfl⟩, T, mT, fT⟩ := hp
        have e := fT.all hw.good.sh ho
        subst e
        refine ⟨_, rfl, t, rfl, ⟨_, SqL.of mT.tab⟩, frz_lc mT fT.1 h5 (fun i H' hi hrow C _ N hk => ⟨rfl, tyes ⟨_, rfl, hk⟩⟩) fun H2 v2 s2 im => q H2 v2 (s1.trans s2) im⟩
abbrev sLTurn : Stmt := topS 40
theorem scLTurn : FnScope ["_law_web", "_law_x", "_law_n", "_law_table", "_law_y", "_law_z", "_law_more", "_law_line"] ["_law_web", "_law_x"] (defScope sLTurn) := ⟨rfl, rfl, rfl, by decide +kernel, rfl, by decide +kernel, by decide +kernel⟩
theorem at_law_turn (D : Def K mg "_law_turn" sLTurn ["_law_web", "_law_x"]) (B : Bts mg) : At P w K mg base "_law_turn" 1 ["_law_web", "_law_x"] (spBehindTurn K) := by
  refine D.at scLTurn (fun vs H Q E h => ?_) (fun f cdv A outer s H vs Q E hr h => ?_)
  · obtain ⟨v, n, W, x, rfl, _⟩ := h; rfl
  · obtain ⟨v, n, W, x, rfl, hw, hx, q⟩ := h
    have h5 := hw.few
    have gd := hw.good
    refine ⟨_, (pss_cons ((ps_par (i := 2) (j := 3) (by rfl) scLTurn.nd rfl rfl (by decide) rfl rfl (pa_cons ((pe_callB (r := rLen K) call_lenK (by rfl) B.len boot_len (pa_cons (pv 0) pa_nil))) (pa_cons ((pe_lc (own := [("_law_line", 7)]) (g := gName 7) (tt := tYes) (by rfl) scLTurn.nd ((pi_tupK K rfl (pv 0))) (blkOk_by (own := [("_law_line", 7)]) (N := ["_law_web", "_law_x", "_law_n", "_law_table", "_law_y", "_law_z", "_law_more", "_law_line"]) (sc := defScope sLTurn) (by decide +kernel)) (fun _ _ _ _ _ => pg_name (i := 7) scLTurn.nd rfl (Or.inl rfl)) (fun _ _ _ _ _ => pts_nil) (fun _ _ _ _ _ => pe_callTy (r := rLstO K) call_listK (by rfl) B.list (by decide +kernel) (pa_cons (pv 7) pa_nil)))) pa_nil)) (by rfl))) (pss_cons ((ps_for PassesOwn.never rfl ((pi_range1 (by rfl) B.range (pa_cons (pv 2) pa_nil))) (pg_name (i := 4) scLTurn.nd rfl (Or.inl rfl)) (pss_one (ps_for PassesOwn.never rfl ((pi_range1 (by rfl) B.range (pa_cons (pv 2) pa_nil))) (pg_name (i := 5) scLTurn.nd rfl (Or.inl rfl)) (pss_one (ps_if (PW.pt (pw_and (pt_cmpR op_gt ((pe_ix (r := rIxT K) ix_tup ((pe_ix (r := rIxT K) ix_tup (pv 0) (pv 4) (fun _ _ => rfl))) (pv 1) (fun _ _ => rfl))) (pe_int) (nomark _)) (pw_and1 (pt_cmpR op_gt ((pe_ix (r := rIxT K) ix_tup ((pe_ix (r := rIxT K) ix_tup (pv 0) (pv 1) (fun _ _ => rfl))) (pv 5) (fun _ _ => rfl))) (pe_int) (nomark _))))) (pss_cons ((ps_set (i := 6) scLTurn.nd rfl (Or.inl rfl) ((pe_op op_mul ((pe_ix (r := rIxT K) ix_tup ((pe_ix (r := rIxT K) ix_tup (pv 0) (pv 4) (fun _ _ => rfl))) (pv 1) (fun _ _ => rfl))) ((pe_ix (r := rIxT K) ix_tup ((pe_ix (r := rIxT K) ix_tup (pv 0) (pv 1) (fun _ _ => rfl))) (pv 5) (fun _ _ => rfl))))))) (pss_one (ps_asg (pe_tup (pa_cons ((pe_op op_add ((pe_ix (r := rIxL K) ix_list ((pe_ix (r := rIxL K) ix_list (pv 3) (pv 4) (fun _ _ => rfl))) (pv 5) (fun _ _ => rfl))) (pv 6))) (pa_cons ((pe_op op_sub ((pe_ix (r := rIxL K) ix_list ((pe_ix (r := rIxL K) ix_list (pv 3) (pv 5) (fun _ _ => rfl))) (pv 4) (fun _ _ => rfl))) (pv 6))) pa_nil))) (pg_tup (n := 2) rfl (pgs_cons (pg_sub ((pe_ix (r := rIxL K) ix_list (pv 3) (pv 4) (fun _ _ => rfl))) (pv 5) set_list) (pgs_cons (pg_sub ((pe_ix (r := rIxL K) ix_list (pv 3) (pv 5) (fun _ _ => rfl))) (pv 4) set_list) pgs_nil)))))) pss_nil)))))) (pss_cons ((ps_for PassesOwn.never rfl ((pi_range1 (by rfl) B.range (pa_cons (pv 2) pa_nil))) (pg_name (i := 4) scLTurn.nd rfl (Or.inl rfl)) (pss_one (ps_asg (pe_tup (pa_cons ((pe_op op_sub (pe_int) ((pe_ix (r := rIxT K) ix_tup ((pe_ix (r := rIxT K) ix_tup (pv 0) (pv 1) (fun _ _ => rfl))) (pv 4) (fun _ _ => rfl))))) (pa_cons ((pe_op op_sub (pe_int) ((pe_ix (r := rIxT K) ix_tup ((pe_ix (r := rIxT K) ix_tup (pv 0) (pv 4) (fun _ _ => rfl))) (pv 1) (fun _ _ => rfl))))) pa_nil))) (pg_tup (n := 2) rfl (pgs_cons (pg_sub ((pe_ix (r := rIxL K) ix_list (pv 3) (pv 1) (fun _ _ => rfl))) (pv 4) set_list) (pgs_cons (pg_sub ((pe_ix (r := rIxL K) ix_list (pv 3) (pv 4) (fun _ _ => rfl))) (pv 1) set_list) pgs_nil))))))) (pss_one (ps_ret (pe_tupK K rfl (by rfl) B.tuple ((pe_lc (own := [("_law_line", 7)]) (g := gName 7) (tt := tYes) (by rfl) scLTurn.nd ((pi_listK K rfl (pv 3))) (blkOk_by (own := [("_law_line", 7)]) (N := ["_law_web", "_law_x", "_law_n", "_law_table", "_law_y", "_law_z", "_law_more", "_law_line"]) (sc := defScope sLTurn) (by decide +kernel)) (fun _ _ _ _ _ => pg_name (i := 7) scLTurn.nd rfl (Or.inl rfl)) (fun _ _ _ _ _ => pts_nil) (fun _ _ _ _ _ => (pe_tupK K rfl (by rfl) B.tuple (pv 7))))))))))), ?_⟩
    obtain ⟨aw, xw, rfl, hsw, htw⟩ := hw.im.tup_inv
    have hlw : xw.length = n := by rw [htw.length, List.length_map, hw.len]
    have li : ∀ {T : Web} {i j : Nat}, Sh n T → i < n → j < n → j < (T.getD i []).length := fun {T i j} hT hi hj => by rw [sh_row hT hi]; exact hj
    have wk : Walk (Itt K aw) n (fun H => SqT K H aw xw) (YAt xw) := by
      have wk := walk_tup (K := K) (a := aw) (xs := xw)
      rw [hlw] at wk
      exact wk
    refine ⟨_, rfl, rd_lenW hw.im hw.len ⟨_, rfl, aw, rfl, ⟨_, hsw⟩, fun t ht => lcMx wk ht (by omega) (fun i => W.getD i []) (fun H' s' => Same.seqT s' hsw) (fun i x2 H9 H2 hi s1 hy C N hC => ?_) fun H3 ps s3 m => ⟨_, _, rfl, ?_⟩⟩⟩
    · obtain ⟨rfl, hx2⟩ := hy
      obtain ⟨k, hk, hv⟩ := htw.at hx2
      rw [List.getElem?_map, getD_some [] (by rw [hw.len]; exact hi)] at hk
      obtain rfl := Option.some.inj hk
      obtain ⟨b, ys, rfl, hbs, hbt⟩ := (hv.same s1).tup_inv
      have ey := im_ints_inv hbt
      subst ey
      exact ⟨rfl, tyes ⟨_, rfl, ⟨b, _, rfl, .inr hbs, fun l hl => hC l _ (same_new hl) hl upd_same⟩⟩⟩
    rw [sh_rows gd.sh] at m
    have h0 : (H : Hp) t = none := ht
    refine ⟨_, rfl, (n : Int), rfl, by omega, by omega, for_it (walk_r0 (n := n)) (fun i σ H1 => Same H H1 ∧ (∃ a b c, σ = [some (.ref aw), some (.int (x : Nat)), some (.int (n : Nat)), some (.ref t), a, b, c, none]) ∧ ∃ T, Mx H H1 t T ps ∧ Sh n T ∧ DW.Tur n W x i 0 (at2 T)) ?_ (fun _ _ _ _ _ => trivial) (fun i v2 σ H9 H1 hi hp hy => ?_) fun σ H1 hp => ?_⟩
    · exact ⟨s3, ⟨_, _, _, rfl⟩, W, m, gd.sh, DW.Tur.start⟩
    · obtain ⟨s1, ⟨a, b, c, rfl⟩, T, mT, hT, tT⟩ := hp
      obtain ⟨rfl, rfl⟩ := hy
      refine ⟨_, rfl, (n : Int), rfl, by omega, by omega, for_it (walk_r0 (n := n)) (fun j σ H4 => Same H H4 ∧ (∃ b c, σ = [some (.ref aw), some (.int (x : Nat)), some (.int (n : Nat)), some (.ref t), some (.int (i : Nat)), b, c, none]) ∧ ∃ T, Mx H H4 t T ps ∧ Sh n T ∧ DW.Tur n W x i j (at2 T)) ?_ (fun _ _ _ _ _ => trivial) (fun j v3 σ H9 H4 hj hp hy => ?_) fun σ H4 hp => ?_⟩
      · exact ⟨s1, ⟨_, _, rfl⟩, T, mT, hT, tT⟩
      · obtain ⟨s4, ⟨b, c, rfl⟩, T, mT, hT, tT⟩ := hp
        obtain ⟨rfl, rfl⟩ := hy
        have hw4 := hw.same s4
        have lT := hT.len
        refine ⟨_, rfl, _, rfl, ix_web hw4.good.sh hw4.im hi fun r1 hr1 => ⟨_, rfl, hr1 _ hx _ ⟨_, _, rfl, rfl, _, rfl, ite2 (fun hp1 => ?_) fun hp1 => ?_⟩⟩⟩
        · refine ⟨_, rfl, _, rfl, ix_web hw4.good.sh hw4.im hx fun r1 hr1 => ⟨_, rfl, hr1 _ hj _ ⟨_, _, rfl, rfl, _, rfl, ite2 (fun hp2 => ?_) fun hp2 => ?_⟩⟩⟩
          · have hth : DW.thro W x i j := ⟨of_decide_eq_true hp1, of_decide_eq_true hp2⟩
            obtain ⟨_, nij, hone⟩ := DW.thro_anti gd hx hi hj hth
            have b1 := gd.one i hi x hx
            have b2 := gd.low hi hx
            refine ⟨_, rfl, _, rfl, ix_web hw4.good.sh hw4.im hi fun r1 hr1 => ⟨_, rfl, hr1 _ hx _ ⟨_, rfl, _, rfl, ix_web hw4.good.sh hw4.im hx fun r1 hr1 => ⟨_, rfl, hr1 _ hj _ ⟨_, _, rfl, rfl, .inl ⟨by omega, by omega⟩, ?_⟩⟩⟩⟩⟩
            refine ⟨_, rfl, _, rfl, mT.ix (by rw [lT]; exact hi) ⟨_, rfl, mT.cellQ (by rw [lT]; exact hi) (li hT hi hj) ⟨_, rfl, _, _, rfl, rfl, ?_⟩⟩⟩
            refine ⟨_, rfl, _, rfl, mT.ix (by rw [lT]; exact hj) ⟨_, rfl, mT.cellQ (by rw [lT]; exact hj) (li hT hj hi) ⟨_, rfl, _, _, rfl, rfl, by show 2 ≤ sizeLine; decide, fun tp htp => ?_⟩⟩⟩
            have stp := same_new (o := .tup [.int (at2 T i j + at2 W i x * at2 W x j), .int (at2 T j i - at2 W i x * at2 W x j)]) htp
            have m5 := mT.same stp
            refine ⟨tp, _, rfl, SqT.of upd_same, rfl, _, _, rfl, _, rfl, _, rfl, m5.ix (by rw [lT]; exact hi) ⟨_, rfl, m5.setQ (by rw [lT]; exact hi) (li hT hi hj) fun H6 e6 m6 => ?_⟩⟩
            have hT6 : Sh n (put2 T i j (at2 T i j + at2 W i x * at2 W x j)) := put2_sh hT
            refine ⟨_, _, rfl, _, rfl, _, rfl, m6.ix (by rw [hT6.len]; exact hj) ⟨_, rfl, m6.setQ (by rw [hT6.len]; exact hj) (li hT6 hj hi) fun H7 e7 m7 => ⟨rfl, ?_⟩⟩⟩
            refine ⟨keep_same (keep_same (s4.trans stp) e6) e7, ⟨_, _, rfl⟩, _, m7, put2_sh hT6, tT.step gd hx hi hj hth fun a ha b hb => ?_⟩
            rw [put2_at hT6 hj hi, put2_at hT hi hj, hone]
          · refine ⟨s4, ⟨_, _, rfl⟩, T, mT, hT, tT.skip fun h => hp2 (decide_eq_true h.2)⟩
        · refine iteF ⟨s4, ⟨_, _, rfl⟩, T, mT, hT, tT.skip fun h => hp1 (decide_eq_true h.1)⟩
      · obtain ⟨s4, ⟨b, c, rfl⟩, T, mT, hT, tT⟩ := hp
        exact ⟨s4, ⟨_, _, _, rfl⟩, T, mT, hT, tT.row⟩
    · obtain ⟨s1, ⟨a, b, c, rfl⟩, T, mT, hT, tT⟩ := hp
      refine ⟨_, rfl, (n : Int), rfl, by omega, by omega, for_it (walk_r0 (n := n)) (fun i σ H1 => Same H H1 ∧ (∃ a, σ = [some (.ref aw), some (.int (x : Nat)), some (.int (n : Nat)), some (.ref t), a, b, c, none]) ∧ ∃ T2, Mx H H1 t T2 ps ∧ Sh n T2 ∧ DW.Edg n W x i (at2 T) (at2 T2)) ?_ (fun _ _ _ _ _ => trivial) (fun i v2 σ H9 H1 hi hp hy => ?_) fun σ H1 hp => ?_⟩
      · exact ⟨s1, ⟨_, rfl⟩, T, mT, hT, DW.Edg.start⟩
      · obtain ⟨s4, ⟨a, rfl⟩, T2, mT2, hT2, eT⟩ := hp
        obtain ⟨rfl, rfl⟩ := hy
        have hw4 := hw.same s4
        have lT := hT2.len
        refine ⟨_, rfl, _, rfl, ix_web hw4.good.sh hw4.im hx fun r1 hr1 => ⟨_, rfl, hr1 _ hi _ ⟨_, _, rfl, rfl, ?_⟩⟩⟩
        refine ⟨_, rfl, _, rfl, ix_web hw4.good.sh hw4.im hi fun r1 hr1 => ⟨_, rfl, hr1 _ hx _ ⟨_, _, rfl, rfl, by show 2 ≤ sizeLine; decide, fun tp htp => ?_⟩⟩⟩
        have stp := same_new (o := .tup [.int (0 - at2 W x i), .int (0 - at2 W i x)]) htp
        have m5 := mT2.same stp
        refine ⟨tp, _, rfl, SqT.of upd_same, rfl, _, _, rfl, _, rfl, _, rfl, m5.ix (by rw [lT]; exact hx) ⟨_, rfl, m5.setQ (by rw [lT]; exact hx) (li hT2 hx hi) fun H6 e6 m6 => ?_⟩⟩
        have hT6 : Sh n (put2 T2 x i (0 - at2 W x i)) := put2_sh hT2
        refine ⟨_, _, rfl, _, rfl, _, rfl, m6.ix (by rw [hT6.len]; exact hi) ⟨_, rfl, m6.setQ (by rw [hT6.len]; exact hi) (li hT6 hi hx) fun H7 e7 m7 => ⟨rfl, ?_⟩⟩⟩
        refine ⟨keep_same (keep_same (s4.trans stp) e6) e7, ⟨_, rfl⟩, _, m7, put2_sh hT6, eT.step fun a ha b hb => ?_⟩
        rw [put2_at hT6 hi hx, put2_at hT2 hx hi]
      · obtain ⟨s4, ⟨a, rfl⟩, T2, mT2, hT2, eT⟩ := hp
        have e := DW.turn_all gd hx tT hT2 eT
        subst e
        exact ⟨_, rfl, t, rfl, ⟨_, SqL.of mT2.tab⟩, frz_lc mT2 hT2 h5 (fun i H' hi hrow C _ N hk => ⟨rfl, tyes ⟨_, rfl, hk⟩⟩) fun H2 v2 s2 im => q H2 v2 (s4.trans s2) im⟩
end
end L2.DL
end

section
set_option Elab.async false
set_option linter.all false
set_option maxRecDepth 100000
/-! Plain J: drawing a tree and an order. -/
namespace DW
theorem edge_snoc (l : List ((Nat × Nat) × Int)) (y z : Nat) (v : Int) (a b : Nat) : edge (l ++ [((y, z), v)]) a b = if y = a ∧ z = b then v else if y = b ∧ z = a then -v else edge l a b := by
  unfold edge
  rw [List.foldl_append]
  rfl
theorem edge_nil (a b : Nat) : edge [] a b = 0 := rfl
/-- how far the edges are drawn -/
def Dra (n : Nat) (ps : List (Nat × Nat)) (T : Web) (s : List Int) : Prop := Sh n T ∧ (∀ v ∈ s, v = 1 ∨ v = -1) ∧ s.length ≤ ps.length ∧ ∀ a, a < n → ∀ b, b < n → at2 T a b = edge (ps.zip s) a b
theorem zip_snoc {α β : Type} : ∀ {ps : List α} {s : List β} {p : α} {v : β}, ps[s.length]? = some p → ps.zip (s ++ [v]) = ps.zip s ++ [(p, v)]
  | [], s, p, v, h => by simp at h
  | q :: ps, [], p, v, h => by simp at h; simp [h]
  | q :: ps, u :: s, p, v, h => by
    have := zip_snoc (ps := ps) (s := s) (p := p) (v := v) (by simpa using h)
    rw [List.cons_append, List.zip_cons_cons, this]; rfl
theorem Dra.step {n : Nat} {ps : List (Nat × Nat)} {T T' : Web} {s : List Int} {y z : Nat} {v : Int} (d : Dra n ps T s) (h : ps[s.length]? = some (y, z)) (hv : v = 1 ∨ v = -1) (ne : y ≠ z) (hT : Sh n T')
    (e : ∀ a, a < n → ∀ b, b < n → at2 T' a b = if z = a ∧ y = b then 0 - v else if y = a ∧ z = b then v else at2 T a b) : Dra n ps T' (s ++ [v]) := by
  refine ⟨hT, fun u hu => ?_, ?_, fun a ha b hb => ?_⟩
  · rcases List.mem_append.mp hu with c | c
    · exact d.2.1 u c
    · rw [List.mem_singleton.mp c]; exact hv
  · have := (List.getElem?_eq_some_iff.mp h).1
    simp; omega
  · rw [e a ha b hb, zip_snoc h, edge_snoc, d.2.2.2 a ha b hb]
    by_cases c1 : z = a ∧ y = b
    · rw [if_pos c1, if_neg (by omega), if_pos ⟨c1.2, c1.1⟩]; omega
    · rw [if_neg c1]
      by_cases c2 : y = a ∧ z = b
      · rw [if_pos c2, if_pos c2]
      · rw [if_neg c2, if_neg c2, if_neg fun c => c1 ⟨c.2, c.1⟩]
theorem Dra.tree {n : Nat} {ps : List (Nat × Nat)} {T : Web} {s : List Int} (d : Dra n ps T s) : T = treeW n (ps.zip s) :=
  sh_ext d.1 (mk_sh _ _) fun a ha b hb => by
    rw [d.2.2.2 a ha b hb]
    exact (mk_at (f := edge (ps.zip s)) ha hb).symm
theorem tree_good {n k : Nat} (h : Nk n k) {s : List Int} (hl : s.length = n - 1) (hv : ∀ v ∈ s, v = 1 ∨ v = -1) : Good n (treeW n ((pairsOf n k).zip s)) := by
  have := (drawn_of h hl hv (ord_id n)).2.1
  rw [name_id (n := n) (W := treeW n ((pairsOf n k).zip s)) (mk_sh _ _)] at this
  exact (kd_nk h).inGood this
theorem pairs_len {n k : Nat} (h : Nk n k) : (pairsOf n k).length = n - 1 := by
  cases h <;> decide
theorem pairs_ok {n k : Nat} (h : Nk n k) : ∀ p ∈ pairsOf n k, p.1 < n ∧ p.2 < n ∧ p.1 ≠ p.2 := by
  cases h <;> decide
theorem ord_perm {n : Nat} {o : List Nat} (h : o.Perm (List.range n)) : IsOrd n o :=
  ⟨by rw [h.length_eq, List.length_range], h.nodup_iff.mpr List.nodup_range, fun v hv => List.mem_range.mp (h.mem_iff.mp hv)⟩
theorem erase_perm : ∀ {l : List Nat} {k : Nat} {x : Nat}, l[k]? = some x → l.Perm (x :: l.eraseIdx k)
  | [], _, _, h => by simp at h
  | a :: l, 0, x, h => by
    have e : a = x := by simpa using h
    rw [e]; exact List.Perm.refl _
  | a :: l, k + 1, x, h => by
    have ih := erase_perm (l := l) (k := k) (x := x) (by simpa using h)
    exact (ih.cons a).trans (List.Perm.swap x a _)
theorem nk_of {n : Nat} (h1 : 1 ≤ n) (h5 : n ≤ 5) : Nk n 0 ∧ (3 < n → Nk n 1) := by
  match n, h1, h5 with
  | 1, _, _ => exact ⟨.a1, fun h => absurd h (by decide)⟩
  | 2, _, _ => exact ⟨.a2, fun h => absurd h (by decide)⟩
  | 3, _, _ => exact ⟨.a3, fun h => absurd h (by decide)⟩
  | 4, _, _ => exact ⟨.a4, fun _ => .d4⟩
  | 5, _, _ => exact ⟨.a5, fun _ => .d5⟩
theorem nk_bounds {n k : Nat} (h : Nk n k) : 1 ≤ n ∧ n ≤ 5 ∧ k ≤ 1 := by cases h <;> decide
end DW
end

section
set_option Elab.async false
set_option linter.all false
set_option maxRecDepth 100000
/-! Walk N: turns, nodes, pick, near, shape, joined. -/
namespace L2.DL
open PySem PySem.Spec PyProof.Rows
open DW (Web at2 Good IsOrd og Sh)
section
variable {P : Program} {w : World} {K : PySem.W.Frag} {mg : Str → Option Value} {base : Heap}
abbrev sLTurns : Stmt := topS 41
theorem scLTurns : FnScope ["_law_web", "_law_told", "_law_x"] ["_law_web", "_law_told"] (defScope sLTurns) := ⟨rfl, rfl, rfl, by decide +kernel, rfl, by decide +kernel, by decide +kernel⟩
theorem at_law_turns (D : Def K mg "_law_turns" sLTurns ["_law_web", "_law_told"]) (a1 : At P w K mg base "_law_turn" 1 ["_law_web", "_law_x"] (spBehindTurn K)) : At P w K mg base "_law_turns" 2 ["_law_web", "_law_told"] (fun vs H Q _ => ∃ v u n W xs, ∃ C : Web → Prop, vs = [v, u] ∧ Wb K H v n W ∧ Im K H u (partK xs) ∧ xs.length ≤ 1000 ∧ (∀ x ∈ xs, x < n) ∧ C W ∧ (∀ W, C W → Good n W) ∧ (∀ W, C W → ∀ x, x < n → C (DW.turnW W x)) ∧ ∀ H' u' W', Same H H' → Wb K H' u' n W' → C W' → Q u' H') := by
  refine D.at scLTurns (fun vs H Q E h => ?_) (fun f cdv A outer s H vs Q E hr h => ?_)
  · obtain ⟨v, u, n, W, xs, C, rfl, _⟩ := h; rfl
  · obtain ⟨v, u, n, W, xs, C, rfl, hw, hu, hxl, hxs, hC, hg, ht, q⟩ := h
    refine ⟨_, (pss_cons ((ps_for PassesOwn.never rfl ((pi_tupK K rfl (pv 1))) (pg_name (i := 2) scLTurns.nd rfl (Or.inl rfl)) (pss_one (ps_set (i := 0) scLTurns.nd rfl (Or.inl rfl) ((pe_at a1 hr (by decide) (pa_cons (pv 0) (pa_cons (pv 2) pa_nil)))))))) (pss_one (ps_ret (pv 0)))), ?_⟩
    obtain ⟨a, rfl, ha⟩ := hu.nats
    have nl : (nV xs).length = xs.length := by rw [List.length_map]
    refine ⟨_, rfl, a, rfl, ⟨_, ha⟩, for_it walk_tup (fun i σ H1 => Same H H1 ∧ ∃ v' W' b, σ = [some v', some (.ref a), b] ∧ Wb K H1 v' n W' ∧ C W') ?_ (fun _ _ H1 _ hP => Same.seqT hP.1 ha) (fun i x σ H9 H1 hi hP hy => ?_) fun σ H1 hP => ?_⟩
    · exact ⟨Same.refl _, v, W, _, rfl, hw, hC⟩
    · obtain ⟨s1, v', W', b, rfl, hw', hC'⟩ := hP
      obtain ⟨rfl, hx⟩ := hy
      rw [nl] at hi
      rw [List.getElem?_map, getD_some 0 hi] at hx
      obtain rfl := Option.some.inj hx
      have hz := hxs _ (List.mem_of_getElem? (getD_some 0 hi))
      refine ⟨_, rfl, _, rfl, v', n, W', _, rfl, hw', hz, fun H2 u2 s2 im2 => ?_⟩
      exact ⟨s1.trans s2, u2, _, _, rfl, ⟨im2, hg _ (ht _ hC' _ hz), hw.pos, hw.few⟩, ht _ hC' _ hz⟩
    · obtain ⟨s1, v', W', b, rfl, hw', hC'⟩ := hP
      exact ⟨_, rfl, q H1 v' W' s1 hw' hC'⟩
abbrev sLNodes : Stmt := topS 42
theorem scLNodes : FnScope ["_law_row", "_law_n", "_law_most", "_law_turn_here"] ["_law_row", "_law_n", "_law_most"] (defScope sLNodes) := ⟨rfl, rfl, rfl, by decide +kernel, rfl, by decide +kernel, by decide +kernel⟩
theorem at_law_nodes (D : Def K mg "_law_nodes" sLNodes ["_law_row", "_law_n", "_law_most"]) (B : Bts mg) (a1 : At P w K mg base "_law_taken" 1 ["_law_row", "_law_many"] (spTaken K)) : At P w K mg base "_law_nodes" 2 ["_law_row", "_law_n", "_law_most"] (fun vs H Q _ => ∃ rw sc ns n most, vs = [.ref rw, .int (n : Nat), .int (most : Nat)] ∧ Rw K H rw sc ns ∧ 1 ≤ n ∧ n ≤ 5 ∧ most ≤ 10 ∧ ∀ H' u xs, SameX rw H H' → Rw K H' rw sc ns → (∀ x ∈ xs, x < n) → xs.length ≤ 1000 → Im K H' u (partK xs) → Q u H') := by
  refine D.at scLNodes (fun vs H Q E h => ?_) (fun f cdv A outer s H vs Q E hr h => ?_)
  · obtain ⟨rw, sc, ns, n, most, rfl, _⟩ := h; rfl
  · obtain ⟨rw, sc, ns, n, most, rfl, hrw, h1, h5, hm, q⟩ := h
    refine ⟨_, pss_one (ps_ret (pe_tupK K rfl (by rfl) B.tuple ((pe_lc (own := [("_law_turn_here", 3)]) (g := gName 3) (tt := tYes) (by rfl) scLNodes.nd ((pi_range1 (by rfl) B.range (pa_cons ((pe_at a1 hr (by decide) (pa_cons (pv 0) (pa_cons ((pe_op op_add (pv 2) (pe_int))) pa_nil)))) pa_nil))) (blkOk_by (own := [("_law_turn_here", 3)]) (N := ["_law_row", "_law_n", "_law_most", "_law_turn_here"]) (sc := defScope sLNodes) (by decide +kernel)) (fun _ _ _ _ _ => pg_name (i := 3) scLNodes.nd rfl (Or.inl rfl)) (fun _ _ _ _ _ => pts_nil) (fun _ _ _ _ _ => (pe_at a1 hr (by decide) (pa_cons (pv 0) (pa_cons (pv 1) pa_nil)))))))), ?_⟩
    refine ⟨_, rfl, _, rfl, _, _, rfl, rfl, rw, sc, ns, most + 1, rfl, hrw, by omega, by omega, fun H1 k x1 r1 hk => ?_⟩
    refine ⟨(k : Int), rfl, by omega, by omega, fun D2 hD2 => lc_it (walk_r0 (n := k)) (fun i H2 => SameX rw H1 H2 ∧ Rw K H2 rw sc ns ∧ ∃ xs : List Nat, H2 D2 = some (.lst (nV xs)) ∧ xs.length = i ∧ ∀ x ∈ xs, x < n) ?_ (fun _ _ _ _ => trivial) (fun i y H9 H2 hi hP hy => ?_) fun H2 hP => ?_⟩
    · obtain ⟨g1, g2⟩ := r1.grow (o := .lst []) (SameX.refl rw H1) r1 hD2
      exact ⟨g1, g2, [], upd_same, rfl, fun _ h => absurd h List.not_mem_nil⟩
    · obtain ⟨x2, r2, xs, hxs, hl, hlt⟩ := hP
      obtain ⟨rfl, rfl⟩ := hy
      refine ⟨rfl, tyes ⟨_, rfl, _, rfl, rw, sc, ns, n, rfl, r2, h1, by omega, fun H3 z x3 r3 hz => ?_⟩⟩
      obtain ⟨ys, e⟩ := r1.lsts
      have nD : D2 ≠ rw := fun q => by rw [q, e] at hD2; cases hD2
      obtain ⟨g1, g2⟩ := r1.grow (o := .lst (nV xs ++ [.int (z : Nat)])) (x2.trans x3) r3 hD2
      refine ⟨nV xs, x3 _ _ nD hxs, ?_, g1, g2, xs ++ [z], ?_, by simp [hl], fun u hu => ?_⟩
      · rw [List.length_map, hl]; exact Nat.lt_of_le_of_lt (show i ≤ 100000 by omega) (by decide)
      · rw [upd_same, nV_snoc]
      · rcases List.mem_append.mp hu with c | c
        · exact hlt u c
        · rw [List.mem_singleton.mp c]; exact hz
    · obtain ⟨x2, r2, xs, hxs, hl, hlt⟩ := hP
      exact tup_all (SqL.of hxs) (im_nats xs) fun H3 u s3 im => q H3 u xs (x1.trans (x2.trans (SameX.of s3))) (r2.same s3) hlt (by omega) im
abbrev sLPick : Stmt := topS 39
theorem scLPick : FnScope ["_law_row", "_law_things"] ["_law_row", "_law_things"] (defScope sLPick) := ⟨rfl, rfl, rfl, by decide +kernel, rfl, by decide +kernel, by decide +kernel⟩
theorem at_law_pick (D : Def K mg "_law_pick" sLPick ["_law_row", "_law_things"]) (B : Bts mg) (a1 : At P w K mg base "_law_taken" 1 ["_law_row", "_law_many"] (spTaken K)) : At P w K mg base "_law_pick" 2 ["_law_row", "_law_things"] (fun vs H Q _ => ∃ rw sc ns tl, vs = [.ref rw, .ref tl] ∧ Rw K H rw sc ns ∧ H tl = some (.lst [.int 1, .int (-1)]) ∧ ∀ H' i, SameX rw H H' → Rw K H' rw sc ns → (i = 1 ∨ i = -1) → Q (.int i) H') := by
  refine D.at scLPick (fun vs H Q E h => ?_) (fun f cdv A outer s H vs Q E hr h => ?_)
  · obtain ⟨rw, sc, ns, tl, rfl, _⟩ := h; rfl
  · obtain ⟨rw, sc, ns, tl, rfl, hrw, htl, q⟩ := h
    refine ⟨_, pss_one (ps_ret (pe_ix (r := rIxL K) ix_list (pv 1) ((pe_at a1 hr (by decide) (pa_cons (pv 0) (pa_cons ((pe_callB (r := rLen K) call_lenK (by rfl) B.len boot_len (pa_cons (pv 1) pa_nil))) pa_nil)))) (fun _ _ => rfl))), ?_⟩
    have nt : tl ≠ rw := fun e => by
      obtain ⟨c, st, rest, e2⟩ := hrw.row
      rw [e, e2] at htl; cases htl
    refine ⟨_, rfl, _, rfl, _, rfl, rd_lenL (n := 2) (SqL.of htl) rfl ⟨rw, sc, ns, 2, rfl, hrw, by decide, by decide, fun H1 x x1 r1 hx => ?_⟩⟩
    have htl1 := x1 _ _ nt htl
    match x, hx with
    | 0, _ => exact rd_lst (SqL.of htl1) rfl (q H1 1 x1 r1 (.inl rfl))
    | 1, _ => exact rd_lst (SqL.of htl1) rfl (q H1 (-1) x1 r1 (.inr rfl))
abbrev sLNear : Stmt := topS 44
theorem scLNear : FnScope ["_law_web", "_law_x", "_law_y"] ["_law_web", "_law_x"] (defScope sLNear) := ⟨rfl, rfl, rfl, by decide +kernel, rfl, by decide +kernel, by decide +kernel⟩
theorem at_law_near (D : Def K mg "_law_near" sLNear ["_law_web", "_law_x"]) (B : Bts mg) : At P w K mg base "_law_near" 1 ["_law_web", "_law_x"] (spNeighbours K) := by
  refine D.at scLNear (fun vs H Q E h => ?_) (fun f cdv A outer s H vs Q E hr h => ?_)
  · obtain ⟨v, n, W, x, rfl, _⟩ := h; rfl
  · obtain ⟨v, n, W, x, rfl, hw, hx, q⟩ := h
    have h5 := hw.few
    refine ⟨_, pss_one (ps_ret (pe_lc (own := [("_law_y", 2)]) (g := gName 2) (by rfl) scLNear.nd ((pi_range1 (by rfl) B.range (pa_cons ((pe_callB (r := rLen K) call_lenK (by rfl) B.len boot_len (pa_cons (pv 0) pa_nil))) pa_nil))) (blkOk_by (own := [("_law_y", 2)]) (N := ["_law_web", "_law_x", "_law_y"]) (sc := defScope sLNear) (by decide +kernel)) (fun _ _ _ _ _ => pg_name (i := 2) scLNear.nd rfl (Or.inl rfl)) (fun _ _ _ _ _ => pts_one ((pt_cmpR op_ne ((pe_ix (r := rIxT K) ix_tup ((pe_ix (r := rIxT K) ix_tup (pv 0) (pv 1) (fun _ _ => rfl))) (pv 2) (fun _ _ => rfl))) (pe_int) (nomark _)))) (fun _ _ _ _ _ => pv 2))), ?_⟩
    refine ⟨_, rfl, rd_lenW hw.im hw.len ⟨(n : Int), rfl, by omega, by omega, fun D2 hD2 => lcIm (walk_r0 (n := n)) (K := K) hD2 (by omega) (fun z => at2 W x z != 0) (fun z => .num (z : Nat)) (fun _ _ => trivial) (fun i v2 H2 H3 hi s1 hy y C N hC hN => ?_) fun H4 xs s4 hx4 him => q H4 D2 xs s4 hD2 hx4 him⟩⟩
    obtain ⟨rfl, rfl⟩ := y
    have hw5 := hw.same s1
    refine ⟨rfl, _, rfl, _, rfl, ix_web hw5.good.sh hw5.im hx fun u hu => ⟨_, rfl, hu _ hi _ ⟨rfl, _, rfl, ?_⟩⟩⟩
    show if (!decide (V.int (at2 W x i) = V.int 0)) = true then _ else _
    by_cases hp : at2 W x i = 0
    · rw [hp]
      refine iteF (hN (by simp [hp]) _ (Same.refl _))
    · rw [show (!decide (V.int (at2 W x i) = V.int 0)) = true by simp [hp]]
      exact iteT ⟨_, rfl, hC (by simp [hp]) _ _ (Same.refl _) (.int _)⟩
abbrev sLShape : Stmt := topS 47
theorem scLShape : FnScope ["_law_web", "_law_n", "_law_x", "_law_near_here", "_law_y"] ["_law_web"] (defScope sLShape) := ⟨rfl, rfl, rfl, by decide +kernel, rfl, by decide +kernel, by decide +kernel⟩
theorem at_law_shape (D : Def K mg "_law_shape" sLShape ["_law_web"]) (B : Bts mg) (a1 : At P w K mg base "_law_near" 1 ["_law_web", "_law_x"] (spNeighbours K)) : At P w K mg base "_law_shape" 2 ["_law_web"] (spKindOfTree K) := by
  refine D.at scLShape (fun vs H Q E h => ?_) (fun f cdv A outer s H vs Q E hr h => ?_)
  · obtain ⟨v, n, W, rfl, _⟩ := h; rfl
  · obtain ⟨v, n, W, rfl, hw, q⟩ := h
    have h5 := hw.few
    refine ⟨_, (pss_cons ((ps_set (i := 1) scLShape.nd rfl (Or.inl rfl) ((pe_callB (r := rLen K) call_lenK (by rfl) B.len boot_len (pa_cons (pv 0) pa_nil))))) (pss_cons ((ps_for PassesOwn.never rfl ((pi_range1 (by rfl) B.range (pa_cons (pv 1) pa_nil))) (pg_name (i := 2) scLShape.nd rfl (Or.inl rfl)) ((pss_cons ((ps_set (i := 3) scLShape.nd rfl (Or.inl rfl) ((pe_at a1 hr (by decide) (pa_cons (pv 0) (pa_cons (pv 2) pa_nil)))))) (pss_one (ps_if (pt_cmpR op_eq ((pe_callB (r := rLen K) call_lenK (by rfl) B.len boot_len (pa_cons (pv 3) pa_nil))) (pe_int) (nomark _)) (pss_one (ps_ret (pe_op op_add_str (pe_ifExp (pt_cmpR op_gt ((pe_callB (r := rLen K) call_lenK (by rfl) B.len boot_len (pa_cons ((pe_lc (own := [("_law_y", 4)]) (g := gName 4) (by rfl) scLShape.nd ((pi_listK K rfl (pv 3))) (blkOk_by (own := [("_law_y", 4)]) (N := ["_law_web", "_law_n", "_law_x", "_law_near_here", "_law_y"]) (sc := defScope sLShape) (by decide +kernel)) (fun _ _ _ _ _ => pg_name (i := 4) scLShape.nd rfl (Or.inl rfl)) (fun _ _ _ _ _ => pts_one ((pt_cmpR op_eq ((pe_callB (r := rLen K) call_lenK (by rfl) B.len boot_len (pa_cons ((pe_at a1 hr (by decide) (pa_cons (pv 0) (pa_cons (pv 4) pa_nil)))) pa_nil))) (pe_int) (nomark _)))) (fun _ _ _ _ _ => pv 4))) pa_nil))) (pe_int) (nomark _)) pe_str pe_str) (pe_callTy call_str_int (by rfl) B.str (by decide +kernel) (pa_cons (pv 1) pa_nil))))) pss_nil)))))) (pss_one (ps_ret (pe_op op_add_str pe_str (pe_callTy call_str_int (by rfl) B.str (by decide +kernel) (pa_cons (pv 1) pa_nil))))))), ?_⟩
    refine ⟨_, rfl, rd_lenW hw.im hw.len ⟨_, rfl, (n : Int), rfl, by omega, by omega, for_it (walk_r0 (n := n)) (fun i σ H1 => Same H H1 ∧ (∃ a b, σ = [some v, some (.int (n : Nat)), a, b, none]) ∧ ∀ x, x < i → DW.deg n W x ≠ 3) ?_ (fun _ _ _ _ _ => trivial) (fun i v2 σ H9 H1 hi hp hy => ?_) fun σ H1 hp => ?_⟩⟩
    · exact ⟨Same.refl _, ⟨_, _, rfl⟩, fun x hx => absurd hx (Nat.not_lt_zero x)⟩
    · obtain ⟨s1, ⟨a, b, rfl⟩, hb⟩ := hp
      obtain ⟨rfl, rfl⟩ := hy
      have hw1 := hw.same s1
      refine ⟨_, rfl, _, rfl, v, n, W, i, rfl, hw1, hi, fun H2 p xs s2 hp hx im => ?_⟩
      have ex := im_nats_inv im
      subst ex
      refine ⟨_, rfl, rd_lenL (n := DW.deg n W i) (SqL.of hx) (by rw [List.length_map]; rfl) ⟨rfl, _, rfl, ?_⟩⟩
      show if decide (V.int ((DW.deg n W i : Nat) : Int) = V.int 3) = true then _ else _
      by_cases h3 : DW.deg n W i = 3
      · rw [show decide (V.int ((DW.deg n W i : Nat) : Int) = V.int 3) = true by rw [h3]; rfl]
        have nl : (nV (DW.near n W i)).length = (DW.near n W i).length := by rw [List.length_map]
        have nln := near_len n W i
        refine iteT ⟨_, rfl, p, rfl, ⟨_, SqL.of hx⟩, fun D2 hD2 => lcIm walk_list (K := K) hD2 (by omega) (fun j => DW.deg n W ((DW.near n W i).getD j 0) == 1) (fun j => .num ((DW.near n W i).getD j 0 : Nat)) (fun H' s' => sql_same s' (SqL.of hx)) (fun j x H9 H3 hj s3 _ hy C N hC hN => ?_) fun H4 ys s4 hys imy => ?_⟩
        · obtain ⟨rfl, hx2⟩ := hy
          rw [nl] at hj
          rw [List.getElem?_map, getD_some 0 hj] at hx2
          obtain rfl := Option.some.inj hx2
          have hzn := near_lt (List.mem_of_getElem? (getD_some 0 hj))
          refine ⟨rfl, _, rfl, _, rfl, v, n, W, _, rfl, hw1.same (s2.trans s3), hzn, fun H5 p5 xs5 s5 hp5 hx5 im5 => ?_⟩
          refine rd_lenL (n := DW.deg n W ((DW.near n W i).getD j 0)) (SqL.of hx5) (by rw [im5.length, List.length_map]; rfl) ⟨rfl, _, rfl, ?_⟩
          show if decide (V.int ((DW.deg n W ((DW.near n W i).getD j 0) : Nat) : Int) = V.int 1) = true then _ else _
          by_cases h1 : DW.deg n W ((DW.near n W i).getD j 0) = 1
          · rw [show decide (V.int ((DW.deg n W ((DW.near n W i).getD j 0) : Nat) : Int) = V.int 1) = true by rw [h1]; rfl]
            exact iteT ⟨_, rfl, hC (by rw [h1]; rfl) _ _ s5 (.int _)⟩
          · rw [show decide (V.int ((DW.deg n W ((DW.near n W i).getD j 0) : Nat) : Int) = V.int 1) = false by
              rw [decide_eq_false]
              intro e
              exact h1 (by have := V.int.inj e; omega)]
            exact iteF (hN (by simpa using h1) _ s5)
        · have el : ys.length = DW.ends n W i := by
            rw [imy.length, List.length_map, nl]
            exact range_filter (l := DW.near n W i) (p := fun z => DW.deg n W z == 1)
          refine rd_lenL (n := DW.ends n W i) (SqL.of hys) el ⟨_, _, rfl, rfl, _, rfl, ?_⟩
          have elt := letter_at hi h3 hb
          have hfin : ∀ k, DW.letter n W = k → (letS k).length + (numS (n : Int)).length ≤ sizeLine ∧ Q (.str (letS k ++ numS (n : Int))) H4 := fun k ek => by
            refine ⟨?_, by rw [← ek]; exact q H4 ((s1.trans s2).trans s4)⟩
            rw [letS_len, numS_len n h5]
            decide
          refine ite2 (fun hgt => ?_) fun hgt => ?_
          · have hgt' : 1 < DW.ends n W i := by have := of_decide_eq_true hgt; omega
            rw [if_pos hgt'] at elt
            obtain ⟨z1, z2⟩ := hfin 1 elt
            exact ⟨_, rfl, _, rfl, num_small n h5, _, _, rfl, rfl, z1, z2⟩
          · have hgt' : ¬ 1 < DW.ends n W i := fun c => hgt (decide_eq_true (by omega))
            rw [if_neg hgt'] at elt
            obtain ⟨z1, z2⟩ := hfin 2 elt
            exact ⟨_, rfl, _, rfl, num_small n h5, _, _, rfl, rfl, z1, z2⟩
      · rw [show decide (V.int ((DW.deg n W i : Nat) : Int) = V.int 3) = false by
          rw [decide_eq_false]
          intro e
          exact h3 (by have := V.int.inj e; omega)]
        refine iteF ⟨s1.trans s2, ⟨_, _, rfl⟩, fun x hx => ?_⟩
        rcases Nat.lt_succ_iff_lt_or_eq.mp hx with c | c
        · exact hb x c
        · rw [c]; exact h3
    · obtain ⟨s1, ⟨a, b, rfl⟩, hb⟩ := hp
      refine ⟨_, rfl, _, rfl, num_small n h5, _, _, rfl, rfl, ?_, ?_⟩
      · show (letS 0).length + (numS (n : Int)).length ≤ sizeLine
        rw [letS_len, numS_len n h5]
        decide
      · have := q H1 s1
        rw [letter_none hb] at this
        exact this
end
end L2.DL
end

section
set_option Elab.async false
set_option linter.all false
set_option maxRecDepth 100000
/-! Walk O: joined, tree. -/
namespace L2.DL
open PySem PySem.Spec PyProof.Rows
open DW (Web at2 Good IsOrd og Sh)
theorem rep_int (k : Nat) (x : V) : (List.replicate k [x]).flatten = List.replicate k x := by
  induction k with
  | zero => rfl
  | succ k ih => rw [List.replicate_succ, List.flatten_cons, ih, List.replicate_succ]; rfl
theorem rep_num (k : Nat) : (List.replicate k [V.int 0]).flatten = (List.replicate k (0 : Int)).map V.int := by
  rw [rep_int, List.map_replicate]
theorem none_ofX {rw l : Addr} {H H' : Hp} (x : SameX rw H H') (h : H' l = none) (e : ∃ o, H' rw = some o) : H l = none := by
  cases q : H l with
  | none => rfl
  | some o =>
    by_cases c : l = rw
    · obtain ⟨o2, e⟩ := e
      rw [c, e] at h; cases h
    · rw [x _ _ c q] at h; cases h
theorem Rw.there {K : PySem.W.Frag} {H : Hp} {rw sc : Addr} {ns : List Int} (h : Rw K H rw sc ns) : ∃ o, H rw = Option.some o := by
  obtain ⟨c, s, rest, e⟩ := h.row
  exact ⟨_, e⟩
theorem Rw.store {K : PySem.W.Frag} {Ht H H' : Hp} {rw sc : Addr} {ns : List Int} (rt : Rw K Ht rw sc ns) (x : SameX rw Ht H) (r : Rw K H rw sc ns) (e : ∀ b o, Ht b = Option.some o → H' b = H b) : SameX rw Ht H' ∧ Rw K H' rw sc ns := by
  have x2 : SameX rw Ht H' := fun b o n q => by rw [e b o q]; exact x b o n q
  obtain ⟨o, q⟩ := rt.there
  refine ⟨x2, rt.keepX x2 ?_⟩
  obtain ⟨c, s, rest, h⟩ := r.row
  exact ⟨c, s, rest, by rw [e _ _ q]; exact h⟩
theorem Mx.sameX {K : PySem.W.Frag} {Ht H H' : Hp} {t rw sc : Addr} {ns : List Int} {T : Web} {ps : List Addr} (m : Mx Ht H t T ps) (rt : Rw K Ht rw sc ns) (x : SameX rw H H') : Mx Ht H' t T ps := by
  obtain ⟨o, e⟩ := rt.there
  exact m.mono fun b u n q => x b u (fun c => by rw [c, e] at n; cases n) q
theorem Mx.updN {Ht H : Hp} {t l : Addr} {o : HO} {T : Web} {ps : List Addr} (m : Mx Ht H t T ps) (h1 : t ≠ l) (h2 : ∀ i, i < T.length → ps.getD i 0 ≠ l) : Mx Ht (upd H l o) t T ps :=
  ⟨m.len, m.nd, m.new, by rw [upd_ne h1]; exact m.tab, fun i hi => ⟨(m.row i hi).1, (m.row i hi).2.1, by rw [upd_ne (h2 i hi)]; exact (m.row i hi).2.2⟩⟩
def pK (p : Nat × Nat) : NestedKey := .tup [.num (p.1 : Nat), .num (p.2 : Nat)]
section
variable {P : Program} {w : World} {K : PySem.W.Frag} {mg : Str → Option Value} {base : Heap}
abbrev sLJoined : Stmt := topS 46
theorem scLJoined : FnScope ["_law_one", "_law_other", "_law_n", "_law_m", "_law_lines", "_law_line"] ["_law_one", "_law_other"] (defScope sLJoined) := ⟨rfl, rfl, rfl, by decide +kernel, rfl, by decide +kernel, by decide +kernel⟩
theorem at_law_joined (D : Def K mg "_law_joined" sLJoined ["_law_one", "_law_other"]) (B : Bts mg) : At P w K mg base "_law_joined" 1 ["_law_one", "_law_other"] (fun vs H Q _ => ∃ v u n m W V, vs = [v, u] ∧ Wb K H v n W ∧ Wb K H u m V ∧ Ret K (webK (DW.joinW W V)) H Q) := by
  refine D.at scLJoined (fun vs H Q E h => ?_) (fun f cdv A outer s H vs Q E hr h => ?_)
  · obtain ⟨v, u, n, m, W, V, rfl, _⟩ := h; rfl
  · obtain ⟨v, u, n, m, W, V, rfl, hw, hv, q⟩ := h
    have n5 := hw.few
    have m5 := hv.few
    have n1 := hw.pos
    have m1 := hv.pos
    refine ⟨_, (pss_cons (ps_asg (pe_tup (pa_cons ((pe_callB (r := rLen K) call_lenK (by rfl) B.len boot_len (pa_cons (pv 0) pa_nil))) (pa_cons ((pe_callB (r := rLen K) call_lenK (by rfl) B.len boot_len (pa_cons (pv 1) pa_nil))) pa_nil))) (pg_tup (n := 2) rfl (pgs_cons (pg_name (i := 2) scLJoined.nd rfl (Or.inr rfl)) (pgs_cons (pg_name (i := 3) scLJoined.nd rfl (Or.inr rfl)) pgs_nil)))) (pss_cons ((ps_set (i := 4) scLJoined.nd rfl (Or.inl rfl) ((pe_op op_cat ((pe_lc (own := [("_law_line", 5)]) (g := gName 5) (tt := tYes) (by rfl) scLJoined.nd ((pi_tupK K rfl (pv 0))) (blkOk_by (own := [("_law_line", 5)]) (N := ["_law_one", "_law_other", "_law_n", "_law_m", "_law_lines", "_law_line"]) (sc := defScope sLJoined) (by decide +kernel)) (fun _ _ _ _ _ => pg_name (i := 5) scLJoined.nd rfl (Or.inl rfl)) (fun _ _ _ _ _ => pts_nil) (fun _ _ _ _ _ => pe_op (r := rCatT K) op_catT (pv 5) (pe_op (r := rRepN K) op_repN (pe_tup (pa_cons (pe_int) pa_nil)) (pv 3))))) ((pe_lc (own := [("_law_line", 5)]) (g := gName 5) (tt := tYes) (by rfl) scLJoined.nd ((pi_tupK K rfl (pv 1))) (blkOk_by (own := [("_law_line", 5)]) (N := ["_law_one", "_law_other", "_law_n", "_law_m", "_law_lines", "_law_line"]) (sc := defScope sLJoined) (by decide +kernel)) (fun _ _ _ _ _ => pg_name (i := 5) scLJoined.nd rfl (Or.inl rfl)) (fun _ _ _ _ _ => pts_nil) (fun _ _ _ _ _ => pe_op (r := rCatT K) op_catT (pe_op (r := rRepN K) op_repN (pe_tup (pa_cons (pe_int) pa_nil)) (pv 2)) (pv 5)))))))) (pss_one (ps_ret (pe_tupK K rfl (by rfl) B.tuple (pv 4)))))), ?_⟩
    refine ⟨_, rfl, rd_lenW hw.im hw.len ⟨_, rfl, rd_lenW hv.im hv.len ⟨by show 2 ≤ sizeLine; decide, fun t ht => ⟨t, _, rfl, SqT.of upd_same, rfl, _, _, rfl, _, _, rfl, rfl, ?_⟩⟩⟩⟩
    have s1 := same_new (o := .tup [.int (n : Nat), .int (m : Nat)]) ht
    generalize upd H t (HO.tup [.int (n : Nat), .int (m : Nat)]) = H1 at s1
    have hw1 := hw.same s1
    have hv1 := hv.same s1
    obtain ⟨a, xs, rfl, hs, hx⟩ := hw1.im.tup_inv
    obtain ⟨b, ys, rfl, hys, hy⟩ := hv1.im.tup_inv
    have xl : xs.length = n := by rw [hx.length, List.length_map, hw.len]
    have yl : ys.length = m := by rw [hy.length, List.length_map, hv.len]
    refine ⟨_, rfl, a, rfl, ⟨_, hs⟩, fun D2 hD2 => lcIm walk_tup (K := K) hD2 (by omega) (fun _ => true) (fun i => rowK (W.getD i [] ++ List.replicate m 0)) (fun H' s' => Same.seqT s' hs) (fun i x H9 H2 hi s2 _ hyy C N hC _ => ?_) fun H2 zs s2 hzs imz => ?_⟩
    · obtain ⟨rfl, hx2⟩ := hyy
      obtain ⟨k, hk, hkv⟩ := hx.at hx2
      rw [xl] at hi
      rw [List.getElem?_map, getD_some [] (by rw [hw.len]; exact hi)] at hk
      obtain rfl := Option.some.inj hk
      obtain ⟨c, rs, rfl, hcs, hct⟩ := (hkv.same s2).tup_inv
      have er := im_ints_inv hct
      subst er
      have rl := hw.row hi
      refine ⟨rfl, tyes ⟨_, rfl, by show 1 ≤ sizeLine; decide, fun tz htz => ⟨_, rfl, tz, m, _, rfl, rfl, SqT.of upd_same, by simp, m1, by omega, by show 1 ≤ 1000; decide, fun H4 p s4 hp => ?_⟩⟩⟩
      rw [rep_num] at hp
      have s3 := same_new (o := .tup [.int 0]) htz
      have hcs4 := Same.seqT (s3.trans s4) hcs
      refine ⟨c, p, _, _, rfl, rfl, hcs4, hp, ?_, ?_, fun e => ?_, fun _ p2 hp2 => ?_⟩
      · intro e
        have := congrArg List.length e
        rw [List.length_map, rl] at this
        simp at this; omega
      · rw [List.length_map, List.length_map, rl, List.length_replicate]
        exact Nat.le_trans (show n + m ≤ 100000 by omega) (by decide)
      · have := congrArg List.length e
        simp at this; omega
      · refine hC rfl _ _ ((s3.trans s4).trans (same_new hp2)) (.tup (SqT.of upd_same) ?_)
        rw [← List.map_append]
        exact im_ints _
    · rw [all_range, xl] at imz
      have hv2 := hv1.same s2
      have hys2 := Same.seqT s2 hys
      refine ⟨_, rfl, b, rfl, ⟨_, hys2⟩, fun D3 hD3 => lcIm walk_tup (K := K) hD3 (by omega) (fun _ => true) (fun i => rowK (List.replicate n 0 ++ V.getD i [])) (fun H' s' => Same.seqT s' hys2) (fun i x H9 H3 hi s3 _ hyy C N hC _ => ?_) fun H3 us s3 hus imu => ?_⟩
      · obtain ⟨rfl, hx2⟩ := hyy
        obtain ⟨k, hk, hkv⟩ := hy.at hx2
        rw [yl] at hi
        rw [List.getElem?_map, getD_some [] (by rw [hv.len]; exact hi)] at hk
        obtain rfl := Option.some.inj hk
        obtain ⟨c, rs, rfl, hcs, hct⟩ := (hkv.same (s2.trans s3)).tup_inv
        have er := im_ints_inv hct
        subst er
        have rl := hv.row hi
        refine ⟨rfl, tyes ⟨by show 1 ≤ sizeLine; decide, fun tz htz => ⟨_, rfl, tz, n, _, rfl, rfl, SqT.of upd_same, by simp, n1, by omega, by show 1 ≤ 1000; decide, fun H4 p s4 hp => ?_⟩⟩⟩
        rw [rep_num] at hp
        have s5 := same_new (o := .tup [.int 0]) htz
        have hcs4 := Same.seqT (s5.trans s4) hcs
        refine ⟨_, rfl, p, c, _, _, rfl, rfl, hp, hcs4, ?_, ?_, fun e => ?_, fun _ p2 hp2 => ?_⟩
        · intro e
          have := congrArg List.length e
          simp at this; omega
        · rw [List.length_map, List.length_map, rl, List.length_replicate]
          exact Nat.le_trans (show n + m ≤ 100000 by omega) (by decide)
        · have := congrArg List.length e
          rw [List.length_map, rl] at this
          simp at this; omega
        · refine hC rfl _ _ ((s5.trans s4).trans (same_new hp2)) (.tup (SqT.of upd_same) ?_)
          rw [← List.map_append]
          exact im_ints _
      · rw [all_range, yl] at imu
        have hzs3 := s3 _ _ hzs
        have imz3 := imz.same s3
        refine ⟨D2, D3, _, _, rfl, rfl, hzs3, hus, ?_, fun p hp => ?_⟩
        · rw [imz3.length, imu.length, List.length_map, List.length_map, List.length_range, List.length_range]
          exact Nat.le_trans (show n + m ≤ 100000 by omega) (by decide)
        · have s4 := same_new (o := .lst (zs ++ us)) hp
          refine ⟨_, rfl, tup_all (SqL.of upd_same) ((imz3.append imu).same s4) fun H5 z s5 imf => q H5 z ((((s1.trans s2).trans s3).trans s4).trans s5) ?_⟩
          have e : ((List.range n).map (fun i => rowK (W.getD i [] ++ List.replicate m 0)) ++ (List.range m).map (fun i => rowK (List.replicate n 0 ++ V.getD i []))) = (DW.joinW W V).map rowK := by
            unfold DW.joinW
            rw [List.map_append, List.map_map, List.map_map, hw.len, hv.len]
            congr 1
            · conv => rhs; rw [← sh_rows hw.good.sh, List.map_map]
              rfl
            · conv => rhs; rw [← sh_rows hv.good.sh, List.map_map]
              rfl
          rw [e] at imf
          exact imf
end
end L2.DL
end

section
set_option Elab.async false
set_option linter.all false
set_option maxRecDepth 100000
/-! Walk P: tree. -/
namespace L2.DL
open PySem PySem.Spec PyProof.Rows
open DW (Web at2 Good IsOrd og Sh)
theorem line_pairs (k : Nat) : (List.range k).map (fun i => pK (i, i + 1)) = ((List.range k).map fun x => (x, x + 1)).map pK := by
  rw [List.map_map]; rfl
theorem seq_nat {k n : Nat} (h : k < n) : seqIndex? (k : Int) n = some k := by
  have h1 : ¬ ((k : Int) < 0) := by omega
  unfold seqIndex?
  simp [h, h1]
theorem nV_erase (l : List Nat) (k : Nat) : (nV l).eraseIdx k = nV (l.eraseIdx k) := by
  induction l generalizing k with
  | nil => rfl
  | cons a l ih =>
    cases k with
    | zero => rfl
    | succ k => exact congrArg (V.int a :: ·) (ih k)
section
variable {P : Program} {w : World} {K : PySem.W.Frag} {mg : Str → Option Value} {base : Heap}
abbrev sLTree : Stmt := topS 45
theorem scLTree : FnScope ["_law_row", "_law_most", "_law_n", "_law_pairs", "_law_table", "_law_y", "_law_z", "_law_many", "_law_left", "_law_order", "_law_turn_here", "_law_x", "_law_line"] ["_law_row", "_law_most"] (defScope sLTree) := ⟨rfl, rfl, rfl, by decide +kernel, rfl, by decide +kernel, by decide +kernel⟩
def spTree (K : PySem.W.Frag) : Sp := fun vs H Q _ => ∃ rw sc ns most, vs = [.ref rw, .int (most : Nat)] ∧ Rw K H rw sc ns ∧ 1 ≤ most ∧ most ≤ 5 ∧ ∀ H' u n k W, SameX rw H H' → Rw K H' rw sc ns → Im K H' u (webK W) → DW.Drawn n k W → n ≤ most → Q u H'
theorem at_law_tree (D : Def K mg "_law_tree" sLTree ["_law_row", "_law_most"]) (B : Bts mg) (a1 : At P w K mg base "_law_taken" 1 ["_law_row", "_law_many"] (spTaken K))
    (a2 : At P w K mg base "_law_pick" 2 ["_law_row", "_law_things"] (fun vs H Q _ => ∃ rw sc ns tl, vs = [.ref rw, .ref tl] ∧ Rw K H rw sc ns ∧ H tl = some (.lst [.int 1, .int (-1)]) ∧ ∀ H' i, SameX rw H H' → Rw K H' rw sc ns → (i = 1 ∨ i = -1) → Q (.int i) H'))
    (a3 : At P w K mg base "_law_named" 1 ["_law_web", "_law_order"] (fun vs H Q _ => ∃ v p n W o, vs = [v, .ref p] ∧ Wb K H v n W ∧ IsOrd n o ∧ SqL K H p (nV o) ∧ Ret K (webK (DW.nameW W o)) H Q)) :
    At P w K mg base "_law_tree" 3 ["_law_row", "_law_most"] (spTree K) := by
  refine D.at scLTree (fun vs H Q E h => ?_) (fun f cdv A outer s H vs Q E hr h => ?_)
  · obtain ⟨rw, sc, ns, most, rfl, _⟩ := h; rfl
  · obtain ⟨rw, sc, ns, most, rfl, hrw, h1, h5, q⟩ := h
    refine ⟨_, pss_cons (ps_set (i := 2) scLTree.nd rfl (Or.inr rfl) ((pe_op op_add (pe_int) ((pe_at a1 hr (by decide) (pa_cons (pv 0) (pa_cons (pv 1) pa_nil)))))))
      (pss_cons (ps_setLc (i := 3) (own := [("_law_x", 11)]) (g := gName 11) (tt := tYes) (by rfl) scLTree.nd rfl rfl (sw_true rfl rfl rfl (by decide +kernel)) ((pi_range1 (by rfl) B.range (pa_cons ((pe_op op_sub (pv 2) (pe_int))) pa_nil))) (blkOk_by (own := [("_law_x", 11)]) (N := ["_law_row", "_law_most", "_law_n", "_law_pairs", "_law_table", "_law_y", "_law_z", "_law_many", "_law_left", "_law_order", "_law_turn_here", "_law_x", "_law_line"]) (sc := defScope sLTree) (by decide +kernel)) (fun _ _ _ _ _ => pg_name (i := 11) scLTree.nd rfl (Or.inl rfl)) (fun _ _ _ _ _ => pts_nil) (fun _ _ _ _ _ => (pe_tup (pa_cons (pv 11) (pa_cons ((pe_op op_add (pv 11) (pe_int))) pa_nil)))))
      (C8.pss_cut (ps_if (PW.pt (pw_and (pt_cmpR op_gt (pv 2) (pe_int) (nomark _)) (pw_and1 (pt_cmpR op_eq ((pe_at a1 hr (by decide) (pa_cons (pv 0) (pa_cons (pe_int) pa_nil)))) (pe_int) (nomark _))))) (pss_cons ((ps_set (i := 3) scLTree.nd rfl (Or.inl rfl) ((pe_op op_cat ((pe_lc (own := [("_law_x", 11)]) (g := gName 11) (tt := tYes) (by rfl) scLTree.nd ((pi_range1 (by rfl) B.range (pa_cons ((pe_op op_sub (pv 2) (pe_int))) pa_nil))) (blkOk_by (own := [("_law_x", 11)]) (N := ["_law_row", "_law_most", "_law_n", "_law_pairs", "_law_table", "_law_y", "_law_z", "_law_many", "_law_left", "_law_order", "_law_turn_here", "_law_x", "_law_line"]) (sc := defScope sLTree) (by decide +kernel)) (fun _ _ _ _ _ => pg_name (i := 11) scLTree.nd rfl (Or.inl rfl)) (fun _ _ _ _ _ => pts_nil) (fun _ _ _ _ _ => (pe_tup (pa_cons (pv 11) (pa_cons ((pe_op op_add (pv 11) (pe_int))) pa_nil)))))) ((pe_lst (pa_cons ((pe_tup (pa_cons (pe_int) (pa_cons ((pe_op op_sub (pv 2) (pe_int))) pa_nil)))) pa_nil))))))) (pss_one (ps_if (PW.pt (pw_and (pt_cmpR op_eq (pv 2) (pe_int) (nomark _)) (pw_and1 (pt_cmpR op_eq ((pe_at a1 hr (by decide) (pa_cons (pv 0) (pa_cons (pe_int) pa_nil)))) (pe_int) (nomark _))))) pss_never pss_nil))) pss_nil)
      (pss_cons ((ps_setLc (i := 4) (own := [("_law_x", 11)]) (g := gName 11) (tt := tYes) (by rfl) scLTree.nd rfl rfl (sw_true rfl rfl rfl (by decide +kernel)) ((pi_range1 (by rfl) B.range (pa_cons (pv 2) pa_nil))) (blkOk_by (own := [("_law_x", 11)]) (N := ["_law_row", "_law_most", "_law_n", "_law_pairs", "_law_table", "_law_y", "_law_z", "_law_many", "_law_left", "_law_order", "_law_turn_here", "_law_x", "_law_line"]) (sc := defScope sLTree) (by decide +kernel)) (fun _ _ _ _ _ => pg_name (i := 11) scLTree.nd rfl (Or.inl rfl)) (fun _ _ _ _ _ => pts_nil) (fun _ _ _ _ _ => (pe_op op_rep ((pe_lst (pa_cons (pe_int) pa_nil))) (pv 2))))) (pss_cons (ps_for PassesOwn.never rfl (pi_list (pv 3)) (pg_tup (n := 2) rfl (pgs_cons (pg_name (i := 5) scLTree.nd rfl (Or.inl rfl)) (pgs_cons (pg_name (i := 6) scLTree.nd rfl (Or.inl rfl)) pgs_nil))) (pss_cons ((ps_set (i := 7) scLTree.nd rfl (Or.inl rfl) ((pe_at a2 hr (by decide) (pa_cons (pv 0) (pa_cons ((pe_lst (pa_cons (pe_int) (pa_cons ((pe_op op_sub (pe_int) (pe_int))) pa_nil)))) pa_nil)))))) (pss_one (ps_asg (pe_tup (pa_cons (pv 7) (pa_cons ((pe_op op_sub (pe_int) (pv 7))) pa_nil))) (pg_tup (n := 2) rfl (pgs_cons (pg_sub ((pe_ix (r := rIxL K) ix_list (pv 4) (pv 5) (fun _ _ => rfl))) (pv 6) set_list) (pgs_cons (pg_sub ((pe_ix (r := rIxL K) ix_list (pv 4) (pv 6) (fun _ _ => rfl))) (pv 5) set_list) pgs_nil))))))) (pss_cons ((ps_par (i := 8) (j := 9) (by rfl) scLTree.nd rfl rfl (by decide) rfl rfl (pa_cons (pe_listRg rfl (by rfl) B.list (prg_1 (by rfl) B.range (pv 2))) (pa_cons (pe_lst pa_nil) pa_nil)) (by rfl))) (pss_cons ((ps_for PassesOwn.never rfl ((pi_range1 (by rfl) B.range (pa_cons (pv 2) pa_nil))) (pg_name (i := 10) scLTree.nd rfl (Or.inl rfl)) (pss_one (ps_expr (pe_bm PySem.F.plainAttrs_list PySem.F.slot_list_append PySem.F.type_list_append mt_append (pv 9) (pa_cons ((pe_bm PySem.F.plainAttrs_list PySem.F.slot_list_pop PySem.F.type_list_pop mt_popAt (pv 8) (pa_cons ((pe_at a1 hr (by decide) (pa_cons (pv 0) (pa_cons ((pe_callB (r := rLen K) call_lenK (by rfl) B.len boot_len (pa_cons (pv 8) pa_nil))) pa_nil)))) pa_nil))) pa_nil)))))) (pss_one (ps_ret (pe_at a3 hr (by decide) (pa_cons ((pe_tupK K rfl (by rfl) B.tuple ((pe_lc (own := [("_law_line", 12)]) (g := gName 12) (tt := tYes) (by rfl) scLTree.nd ((pi_listK K rfl (pv 4))) (blkOk_by (own := [("_law_line", 12)]) (N := ["_law_row", "_law_most", "_law_n", "_law_pairs", "_law_table", "_law_y", "_law_z", "_law_many", "_law_left", "_law_order", "_law_turn_here", "_law_x", "_law_line"]) (sc := defScope sLTree) (by decide +kernel)) (fun _ _ _ _ _ => pg_name (i := 12) scLTree.nd rfl (Or.inl rfl)) (fun _ _ _ _ _ => pts_nil) (fun _ _ _ _ _ => (pe_tupK K rfl (by rfl) B.tuple (pv 12))))))) (pa_cons (pv 9) pa_nil))))))))))), ?_⟩
    refine ⟨_, rfl, _, rfl, rw, sc, ns, most, rfl, hrw, h1, by omega, fun H1 y x1 r1 hy => ⟨_, _, rfl, rfl, ?_⟩⟩
    obtain ⟨n, hn⟩ : ∃ n, 1 + y = n := ⟨_, rfl⟩
    have en : (1 : Int) + (y : Int) = (n : Int) := by omega
    show tSeq _ _ _ [some (.ref rw), some (.int (most : Nat)), some (.int ((1 : Int) + (y : Int))), none, none, none, none, none, none, none, none, none, none] H1
    rw [en]
    have hn1 : 1 ≤ n := by omega
    have hnm : n ≤ most := by omega
    have e1 : ((n : Int) - 1).toNat = n - 1 := by omega
    have e2 : ((n : Int) - 2).toNat = n - 2 := by omega
    obtain ⟨nkA, nkD⟩ := DW.nk_of hn1 (by omega)
    refine ⟨_, rfl, _, _, rfl, rfl, (n : Int) - 1, rfl, by omega, by omega, ?_⟩
    rw [e1]
    intro D2 hD2
    refine lcIm (walk_r0 (n := n - 1)) (K := K) hD2 (by omega) (fun _ => true) (fun i => pK (i, i + 1)) (fun _ _ => trivial) (fun i x H9 H2 hi s2 _ hyy C N hC _ => ?_) fun H2 xs s2 hxs imx => ?_
    · obtain ⟨rfl, rfl⟩ := hyy
      exact ⟨rfl, tyes ⟨_, rfl, _, rfl, _, _, rfl, rfl, by show 2 ≤ sizeLine; decide, fun t ht => hC rfl _ _ (same_new ht) (.tup (SqT.of upd_same) (.cons (.int _) (.cons (.int _) .nil)))⟩⟩
    rw [all_range, line_pairs] at imx
    have r2 := r1.same s2
    have x2 := x1.trans (SameX.of s2)
    refine ⟨fun σ Hm => ∃ k pl ys, σ = [some (.ref rw), some (.int (most : Nat)), some (.int (n : Nat)), some (.ref pl), none, none, none, none, none, none, none, none, none] ∧ DW.Nk n k ∧ SameX rw H Hm ∧ Rw K Hm rw sc ns ∧ pl ≠ rw ∧ Hm pl = some (.lst ys) ∧ ImAll K Hm ys ((DW.pairsOf n k).map pK), ?_, fun σ Hm hM => ?_⟩
    · have nD2 : D2 ≠ rw := fun e => by
        obtain ⟨o, q⟩ := r1.there
        rw [e, q] at hD2; cases hD2
      refine ⟨_, rfl, _, _, rfl, rfl, _, rfl, ite2 (fun c1 => ?_) fun c1 => ?_⟩
      · have h3 : 3 < n := by have := of_decide_eq_true c1; omega
        have en1 : (n : Int) - 1 = ((n - 1 : Nat) : Int) := by omega
        refine ⟨_, rfl, rw, sc, ns, 2, rfl, r2, by decide, by decide, fun H3 x x3 r3 hx => ⟨rfl, _, rfl, ?_⟩⟩
        show if decide (V.int ((x : Nat) : Int) = V.int 0) = true then _ else _
        have x23 := x2.trans x3
        by_cases c2 : x = 0
        · rw [show decide (V.int ((x : Nat) : Int) = V.int 0) = true by rw [c2]; rfl]
          refine iteT ⟨_, rfl, _, _, rfl, rfl, (n : Int) - 2, rfl, by omega, by omega, ?_⟩
          rw [e2]
          intro D4 hD4
          refine lcIm (walk_r0 (n := n - 2)) (K := K) hD4 (by omega) (fun _ => true) (fun i => pK (i, i + 1)) (fun _ _ => trivial) (fun i x H9 H4 hi s4 _ hyy C N hC _ => ?_) fun H4 zs s4 hzs imz => ?_
          · obtain ⟨rfl, rfl⟩ := hyy
            exact ⟨rfl, tyes ⟨_, rfl, _, rfl, _, _, rfl, rfl, by show 2 ≤ sizeLine; decide, fun t ht => hC rfl _ _ (same_new ht) (.tup (SqT.of upd_same) (.cons (.int _) (.cons (.int _) .nil)))⟩⟩
          rw [all_range, line_pairs] at imz
          refine ⟨_, rfl, _, _, rfl, rfl, by show 2 ≤ sizeLine; decide, fun t ht => ⟨by show 1 ≤ sizeLine; decide, fun l hl => ?_⟩⟩
          have st := same_new (o := .tup [.int 1, .int ((n : Int) - 1)]) ht
          have sl := same_new (o := .lst [.ref t]) hl
          have imt : Im K (upd H4 t (.tup [.int 1, .int ((n : Int) - 1)])) (.ref t) (pK (1, n - 1)) := .tup (SqT.of upd_same) (.cons (.int _) (.cons (by rw [en1]; exact .int _) .nil))
          refine ⟨D4, l, _, _, rfl, rfl, (st.trans sl) _ _ hzs, upd_same, ?_, fun p hp => ?_⟩
          · rw [imz.length, List.length_map, List.length_map, List.length_range]
            exact Nat.le_trans (show n - 2 + 1 ≤ 100000 by omega) (by decide)
          have sp := same_new (o := .lst (zs ++ [.ref t])) hp
          refine ⟨_, rfl, rfl, _, rfl, ?_⟩
          show if decide (V.int ((n : Nat) : Int) = V.int 6) = true then _ else _
          rw [show decide (V.int ((n : Nat) : Int) = V.int 6) = false by
            rw [decide_eq_false]
            intro e
            have := V.int.inj e
            omega]
          refine iteF (iteF ?_)
          have s5 := s4.trans ((st.trans sl).trans sp)
          have x5 := x23.trans (SameX.of s5)
          refine ⟨1, p, _, rfl, nkD h3, x5, r3.same s5, fun e => ?_, upd_same, ?_⟩
          · obtain ⟨o, q⟩ := r3.there
            have := (s4.trans (st.trans sl)) _ _ q
            rw [← e, hp] at this; cases this
          · have := ((imz.same (st.trans sl)).append (.cons (imt.same sl) .nil)).same sp
            unfold DW.pairsOf DW.pairsD
            rw [if_neg (by decide), List.map_append]
            exact this
        · rw [show decide (V.int ((x : Nat) : Int) = V.int 0) = false by
            rw [decide_eq_false]
            intro e
            exact c2 (by have := V.int.inj e; omega)]
          refine iteF ⟨0, D2, _, rfl, nkA, x23, r3, nD2, x3 _ _ nD2 hxs, ?_⟩
          obtain ⟨zz, ez⟩ := r2.lsts
          exact ImAll.mono (TEx.sameX x3 ⟨_, ez⟩) _ _ imx
      · exact iteF ⟨0, D2, _, rfl, nkA, x2, r2, nD2, hxs, imx⟩
    · obtain ⟨k, pl, ys, rfl, hk, xm, rm, npl, hpl, imp⟩ := hM
      have prl := DW.pairs_len hk
      have prs := DW.pairs_ok hk
      have yl : ys.length = n - 1 := by rw [imp.length, List.length_map, prl]
      obtain ⟨zm, ezm⟩ := rm.lsts
      refine ⟨_, rfl, (n : Int), rfl, by omega, by omega, fun t ht => lcMx (walk_r0 (n := n)) ht (by omega) (fun _ => List.replicate n 0) (fun _ _ => trivial) (fun i x H9 H2 hi s1 hyy C N hC => ?_) fun H3 ps s3 m => ?_⟩
      · obtain ⟨rfl, rfl⟩ := hyy
        refine ⟨rfl, tyes ⟨by show 1 ≤ sizeLine; decide, fun l hl => ⟨_, rfl, l, _, _, rfl, rfl, upd_same, by omega, by omega, ?_, fun p hp => ?_⟩⟩⟩
        · rw [Int.toNat_natCast]
          exact Nat.le_trans (show 1 * n ≤ 100000 by omega) (by decide)
        · have np := none_of (same_new (o := .lst [.int 0]) hl) hp
          refine hC p _ (same_grow (same_new hl) np) np ?_
          rw [upd_same, rep_zero]
      have xy : ∀ {y z : Nat} {T : Web}, Sh n T → y < n → z < n → y < T.length ∧ z < (T.getD y []).length := fun {y z T} hT hy hz => ⟨by rw [hT.len]; exact hy, by rw [sh_row hT hy]; exact hz⟩
      refine ⟨_, rfl, pl, rfl, ⟨_, SqL.of (s3 _ _ hpl)⟩, for_it walk_list (fun j σ Hc => (∃ a b c, σ = [some (.ref rw), some (.int (most : Nat)), some (.int (n : Nat)), some (.ref pl), some (.ref t), a, b, c, none, none, none, none, none]) ∧ SameX rw Hm Hc ∧ Rw K Hc rw sc ns ∧ ∃ T s, Mx Hm Hc t T ps ∧ DW.Dra n (DW.pairsOf n k) T s ∧ s.length = j) ?_ (fun j _ Hc _ hP => SqL.of (hP.2.1 _ _ npl hpl)) (fun j v3 σ H9 Hc hj hP hyy => ?_) fun σ Hc hP => ?_⟩
      · refine ⟨⟨_, _, _, rfl⟩, SameX.of s3, rm.same s3, _, [], m, ⟨zeros_sh n, fun _ h => absurd h List.not_mem_nil, Nat.zero_le _, fun a _ b _ => ?_⟩, rfl⟩
        rw [List.zip_nil_right, DW.edge_nil]
        exact zeros_at n a b
      · obtain ⟨⟨a, b, c, rfl⟩, xc, rc, T, ss, mT, dra, hss⟩ := hP
        obtain ⟨rfl, hx⟩ := hyy
        rw [yl] at hj
        obtain ⟨kk, hkk, hv⟩ := imp.at hx
        rw [List.getElem?_map, getD_some (0, 0) (by rw [prl]; exact hj)] at hkk
        obtain rfl := Option.some.inj hkk
        have hget := getD_some (0, 0) (show j < (DW.pairsOf n k).length by rw [prl]; exact hj)
        obtain ⟨⟨y', z'⟩, hp⟩ : ∃ p, (DW.pairsOf n k).getD j (0, 0) = p := ⟨_, rfl⟩
        rw [hp] at hv hget
        obtain ⟨hy', hz', nyz⟩ := prs _ (List.mem_of_getElem? hget)
        have hvc := Im.mono (TEx.sameX xc ⟨_, ezm⟩) _ _ hv
        obtain ⟨ad, xs2, rfl, had, imd⟩ := hvc.tup_inv
        cases imd with
        | cons i1 imd =>
          cases imd with
          | cons i2 imd =>
            cases imd
            have e1' := i1.num_inv
            have e2' := i2.num_inv
            subst e1' e2'
            refine ⟨ad, _, rfl, had, rfl, _, _, rfl, _, _, rfl, rfl, ?_⟩
            refine ⟨_, rfl, _, _, rfl, rfl, by show 2 ≤ sizeLine; decide, fun l hl => ?_⟩
            have sl := same_new (o := .lst [.int 1, .int (-1)]) hl
            refine ⟨rw, sc, ns, l, rfl, rc.same sl, upd_same, fun H5 v x5 r5 hv5 => ?_⟩
            have x5' := (xc.trans (SameX.of sl)).trans x5
            have m5 := mT.sameX rm ((SameX.of sl).trans x5)
            refine ⟨_, rfl, _, rfl, _, _, rfl, rfl, by show 2 ≤ sizeLine; decide, fun tp htp => ?_⟩
            have stp := same_new (o := .tup [.int v, .int (0 - v)]) htp
            have m6 := m5.same stp
            have x6 := x5'.trans (SameX.of stp)
            have r6 := r5.same stp
            obtain ⟨q1, q2⟩ := xy dra.1 hy' hz'
            refine ⟨tp, _, rfl, SqT.of upd_same, rfl, _, _, rfl, _, rfl, _, rfl, m6.ix q1 ⟨_, rfl, m6.setQ q1 q2 fun H7 e7 m7 => ?_⟩⟩
            have hT7 : Sh n (put2 T y' z' v) := put2_sh dra.1
            obtain ⟨q3, q4⟩ := xy hT7 hz' hy'
            refine ⟨_, _, rfl, _, rfl, _, rfl, m7.ix q3 ⟨_, rfl, m7.setQ q3 q4 fun H8 e8 m8 => ⟨rfl, ?_⟩⟩⟩
            obtain ⟨x7, r7⟩ := rm.store x6 r6 e7
            obtain ⟨x8, r8⟩ := rm.store x7 r7 e8
            refine ⟨⟨_, _, _, rfl⟩, x8, r8, _, ss ++ [v], m8, dra.step (by rw [hss]; exact hget) hv5 nyz (put2_sh hT7) fun a ha b hb => ?_, by simp [hss]⟩
            rw [put2_at hT7 hz' hy', put2_at dra.1 hy' hz']
      · obtain ⟨⟨a, b, c, rfl⟩, xc, rc, T, ss, mT, dra, hss⟩ := hP
        rw [yl] at hss
        have eT := dra.tree
        subst eT
        have gT := DW.tree_good hk hss dra.2.1
        refine ⟨_, rfl, (n : Int), rfl, RgOk.of_le (by omega) (by omega) (by omega) (by omega), fun lf hlf => ⟨by show 0 ≤ sizeLine; decide, fun od hod => ⟨_, _, rfl, ?_⟩⟩⟩
        have erg : rgV 0 (n : Int) = nV (List.range n) := by
          unfold rgV
          rw [show ((n : Int) - 0).toNat = n by omega]
          rw [List.map_congr_left fun i _ => by rw [Int.zero_add]]
        have hod1 : Hc od = none := none_of (same_new (o := .lst (rgV 0 (n : Int))) hlf) hod
        have nlo : lf ≠ od := fun e => by rw [← e, upd_same] at hod; cases hod
        have there := rm.there
        have lf0 : Hm lf = none := none_ofX xc hlf rc.there
        have od0 : Hm od = none := none_ofX xc hod1 rc.there
        have tlf : t ≠ lf := ne_of_none mT.tab hlf
        have tod : t ≠ od := ne_of_none mT.tab hod1
        have plf : ∀ i, i < (DW.treeW n ((DW.pairsOf n k).zip ss)).length → ps.getD i 0 ≠ lf := fun i hi => ne_of_none (mT.row i hi).2.2 hlf
        have pod : ∀ i, i < (DW.treeW n ((DW.pairsOf n k).zip ss)).length → ps.getD i 0 ≠ od := fun i hi => ne_of_none (mT.row i hi).2.2 hod1
        have nlr : lf ≠ rw := fun e => by obtain ⟨o, e2⟩ := rc.there; rw [e, e2] at hlf; cases hlf
        have nor : od ≠ rw := fun e => by obtain ⟨o, e2⟩ := rc.there; rw [e, e2] at hod1; cases hod1
        refine ⟨_, rfl, (n : Int), rfl, by omega, by omega, for_it (walk_r0 (n := n)) (fun i σ Hd => (∃ d, σ = [some (.ref rw), some (.int (most : Nat)), some (.int (n : Nat)), some (.ref pl), some (.ref t), a, b, c, some (.ref lf), some (.ref od), d, none, none]) ∧ SameX rw Hm Hd ∧ Rw K Hd rw sc ns ∧ Mx Hm Hd t (DW.treeW n ((DW.pairsOf n k).zip ss)) ps ∧ ∃ left ord : List Nat, Hd lf = some (.lst (nV left)) ∧ Hd od = some (.lst (nV ord)) ∧ (left ++ ord).Perm (List.range n) ∧ left.length = n - i) ?_ (fun _ _ _ _ _ => trivial) (fun i v2 σ H9 Hd hi hP hyy => ?_) fun σ Hd hP => ?_⟩
        · obtain ⟨x3, r3⟩ := rm.grow (o := .lst (rgV 0 (n : Int))) xc rc lf0
          obtain ⟨x4, r4⟩ := rm.grow (o := .lst []) x3 r3 od0
          refine ⟨⟨_, rfl⟩, x4, r4, (mT.updN tlf plf).updN tod pod, List.range n, [], ?_, upd_same, by rw [List.append_nil], by rw [List.length_range]; rfl⟩
          rw [upd_ne nlo, upd_same, erg]
        · obtain ⟨⟨d, rfl⟩, xd, rd, mD, left, ord, hlf2, hod2, hpm, hll⟩ := hP
          obtain ⟨rfl, rfl⟩ := hyy
          refine ⟨_, rfl, .inl ⟨rfl, _, SqL.of hod2⟩, _, rfl, .inl ⟨rfl, _, SqL.of hlf2⟩, _, rfl, _, rfl, rd_lenL (n := left.length) (SqL.of hlf2) (by rw [List.length_map]) ⟨rw, sc, ns, left.length, rfl, rd, by omega, by omega, fun He kk xe re hkk => ?_⟩⟩
          have hlf3 := xe _ _ nlr hlf2
          have hod3 := xe _ _ nor hod2
          have xde := xd.trans xe
          have mE := mD.sameX rm xe
          have hget := getD_some 0 hkk
          obtain ⟨g1, g2⟩ := rm.grow (o := .lst ((nV left).eraseIdx kk)) xde re lf0
          have hod4 : upd He lf (.lst ((nV left).eraseIdx kk)) od = some (.lst (nV ord)) := by rw [upd_ne (Ne.symm nlo)]; exact hod3
          refine ⟨lf, _, (kk : Int), kk, .int (left.getD kk 0 : Nat), rfl, rfl, hlf3, by omega, by omega, seq_nat (by rw [List.length_map]; exact hkk), by rw [List.getElem?_map, hget]; rfl, od, _, _, rfl, rfl, hod4, ?_, ?_⟩
          · have := hpm.length_eq
            rw [List.length_append, List.length_range] at this
            rw [List.length_map]
            exact Nat.lt_of_le_of_lt (show ord.length ≤ 100000 by omega) (by decide)
          obtain ⟨g3, g4⟩ := rm.grow (o := .lst (nV ord ++ [.int (left.getD kk 0 : Nat)])) g1 g2 od0
          refine ⟨⟨_, rfl⟩, g3, g4, (mE.updN tlf plf).updN tod pod, left.eraseIdx kk, ord ++ [left.getD kk 0], ?_, ?_, ?_, ?_⟩
          · rw [upd_ne nlo, upd_same, nV_erase]
          · rw [upd_same, nV_snoc]
          · have p1 := DW.erase_perm hget
            refine List.Perm.trans ?_ hpm
            refine List.Perm.trans ?_ (p1.symm.append_right ord)
            rw [← List.append_assoc]
            exact (List.perm_append_singleton _ _)
          · rw [List.length_eraseIdx_of_lt hkk]; omega
        · obtain ⟨⟨d, rfl⟩, xd, rd, mD, left, ord, hlf2, hod2, hpm, hll⟩ := hP
          have el : left = [] := List.eq_nil_of_length_eq_zero (by omega)
          subst el
          have ho := DW.ord_perm (n := n) (o := ord) (by simpa using hpm)
          refine ⟨_, rfl, t, rfl, ⟨_, SqL.of mD.tab⟩, frz_lc mD gT.sh (by omega) (fun i H' hi hrow C _ N hk => ⟨rfl, tyes ⟨_, rfl, hk⟩⟩) fun H6 u s6 imu => ⟨_, rfl, u, od, n, _, ord, rfl, ⟨imu, gT, hn1, by omega⟩, ho, SqL.of (s6 _ _ hod2), fun H7 v7 s7 im7 => ?_⟩⟩
          have s67 := s6.trans s7
          exact q H7 v7 n k _ (xm.trans (xd.trans (SameX.of s67))) (rd.same s67) im7 (DW.drawn_of hk hss dra.2.1 ho) hnm
end
end L2.DL
end

section
set_option Elab.async false
set_option linter.all false
set_option maxRecDepth 100000
/-! Walk Q: forest, law. -/
namespace L2.DL
open PySem PySem.Spec PyProof.Rows
open DW (Web at2 Good IsOrd og Sh)
/-- a family of webs, kept by turns, of the kinds ts -/
structure Fam (n : Nat) (C : Web → Prop) (ts : List Str) : Prop where
  good : ∀ W, C W → Good n W
  turn : ∀ W, C W → ∀ x, x < n → C (DW.turnW W x)
  kinds : ∀ W, C W → KindsOk n W ts
  fin : ∀ W, C W → ∃ C2 L, DW.Cl n C2 L ∧ C2 W
theorem fam_one {n k : Nat} {W : Web} (h : DW.Drawn n k W) : Fam n (DW.InK n (DW.tabOf n k)) [kindS k n] := by
  have c := DW.kd_nk h.1
  have b := DW.nk_bounds h.1
  exact ⟨fun W hW => c.inGood hW, fun W hW x hx => c.inTurn hW hx, fun W hW => whole_ok b.1 b.2.1 c hW, fun W hW => ⟨_, _, c.cl, hW⟩⟩
def Two (n m : Nat) (R S : List Web) (W : Web) : Prop := ∃ A B, DW.InK n R A ∧ DW.InK m S B ∧ W = DW.joinW A B
theorem tab_few {n k m j : Nat} (h : DW.Nk n k) (h' : DW.Nk m j) (h5 : n + m ≤ 5) : (DW.tabOf n k).length * (DW.tabOf m j).length ≤ 100 := by
  cases h <;> cases h' <;> first | (exfalso; omega) | decide
theorem fam_two {n k m j : Nat} {A B : Web} (h : DW.Drawn n k A) (h' : DW.Drawn m j B) (h5 : n + m ≤ 5) : Fam (n + m) (Two n m (DW.tabOf n k) (DW.tabOf m j)) [kindS k n, kindS j m] ∧ Two n m (DW.tabOf n k) (DW.tabOf m j) (DW.joinW A B) := by
  have c := DW.kd_nk h.1
  have d := DW.kd_nk h'.1
  have b := DW.nk_bounds h.1
  have b' := DW.nk_bounds h'.1
  have few := tab_few h.1 h'.1 h5
  refine ⟨⟨fun W hW => ?_, fun W hW x hx => ?_, fun W hW => ?_, fun W hW => ?_⟩, A, B, h.2.1, h'.2.1, rfl⟩
  · obtain ⟨A, B, hA, hB, rfl⟩ := hW
    exact DW.join_good (c.inGood hA) (d.inGood hB)
  · obtain ⟨A, B, hA, hB, rfl⟩ := hW
    have gA := (c.inGood hA).sh
    have gB := (d.inGood hB).sh
    by_cases q : x < n
    · exact ⟨_, _, c.inTurn hA q, hB, DW.join_turn_left gA gB q⟩
    · refine ⟨_, _, hA, d.inTurn hB (x := x - n) (by omega), ?_⟩
      rw [← DW.join_turn_right gA gB (x := x - n) (by omega), show n + (x - n) = x by omega]
  · obtain ⟨A, B, hA, hB, rfl⟩ := hW
    exact pair_ok b.1 b'.1 h5 c d few hA hB
  · obtain ⟨A, B, hA, hB, rfl⟩ := hW
    exact ⟨_, _, DW.Cl.pair c d few, A, B, hA, hB, DW.iso_refl (DW.join_sh (c.inGood hA).sh (d.inGood hB).sh)⟩
theorem srt_one (t : Str) : srt [t] = [t] := by
  have h := srt_len [t]
  match e : srt [t], h with
  | [u], _ =>
    have := srt_mem (ts := [t]) (s := u) (by rw [e]; simp)
    rw [List.mem_singleton.mp this]
theorem ite45 {c : Bool} {σ : St} {H : Hp} {Q : VK} (h : ∀ m : Nat, 1 ≤ m → m ≤ 5 → Q (.int (m : Nat)) H) : if c = true then tC (.int 5) σ H Q else tC (.int 4) σ H Q := by
  cases c
  · exact iteF (h 4 (by decide) (by decide))
  · exact iteT (h 5 (by decide) (by decide))
def kvsL : List (Key × V) := [(.inr "A1", .int 1), (.inr "A2", .int 1), (.inr "A3", .int 4), (.inr "A4", .int 6), (.inr "D4", .int 6), (.inr "A5", .int 19), (.inr "D5", .int 26)]
theorem kvs_len {n k : Nat} (h : DW.Nk n k) : valV (mergeK [] kvsL) (.inr (kindS k n)) = some (.int ((DW.tabOf n k).length : Nat)) := by
  cases h <;> decide +kernel
theorem rd_lenT {K : PySem.W.Frag} {H : Hp} {p : Addr} {xs : List V} {n : Nat} {Q : VK} (h : SqT K H p xs) (hn : xs.length = n) (q : Q (.int (n : Nat)) H) : rLen K [.ref p] H Q :=
  ⟨⟨p, xs, rfl, .inr h, by rw [hn]; exact q⟩⟩
theorem Wb.sameX {K : PySem.W.Frag} {H H' : Hp} {rw sc : Addr} {ns : List Int} {v : V} {n : Nat} {W : Web} (h : Wb K H v n W) (r : Rw K H rw sc ns) (x : SameX rw H H') : Wb K H' v n W := by
  obtain ⟨z, e⟩ := r.lsts
  exact ⟨Im.mono (TEx.sameX x ⟨_, e⟩) _ _ h.im, h.good, h.pos, h.few⟩
section
variable {P : Program} {w : World} {K : PySem.W.Frag} {mg : Str → Option Value} {base : Heap}
abbrev sLForest : Stmt := topS 48
theorem scLForest : FnScope ["_law_row", "_law_most", "_law_one", "_law_other"] ["_law_row", "_law_most"] (defScope sLForest) := ⟨rfl, rfl, rfl, by decide +kernel, rfl, by decide +kernel, by decide +kernel⟩
def spForest (K : PySem.W.Frag) : Sp := fun vs H Q _ => ∃ rw sc ns most, vs = [.ref rw, .int (most : Nat)] ∧ Rw K H rw sc ns ∧ 1 ≤ most ∧ most ≤ 5 ∧ ∀ H' p u l n W ts, ∀ C : Web → Prop, SameX rw H H' → Rw K H' rw sc ns → SqT K H' p [u, .ref l] → l ≠ rw → H' l = some (.lst ((srt ts).map V.str)) → Wb K H' u n W → Fam n C ts → C W → Q (.ref p) H'
theorem at_law_forest (D : Def K mg "_law_forest" sLForest ["_law_row", "_law_most"]) (B : Bts mg) (a1 : At P w K mg base "_law_taken" 1 ["_law_row", "_law_many"] (spTaken K)) (a2 : At P w K mg base "_law_tree" 3 ["_law_row", "_law_most"] (spTree K))
    (a3 : At P w K mg base "_law_joined" 1 ["_law_one", "_law_other"] (fun vs H Q _ => ∃ v u n m W V, vs = [v, u] ∧ Wb K H v n W ∧ Wb K H u m V ∧ Ret K (webK (DW.joinW W V)) H Q)) (a4 : At P w K mg base "_law_shape" 2 ["_law_web"] (spKindOfTree K)) : At P w K mg base "_law_forest" 4 ["_law_row", "_law_most"] (spForest K) := by
  refine D.at scLForest (fun vs H Q E h => ?_) (fun f cdv A outer s H vs Q E hr h => ?_)
  · obtain ⟨rw, sc, ns, most, rfl, _⟩ := h; rfl
  · obtain ⟨rw, sc, ns, most, rfl, hrw, h1, h5, q⟩ := h
    have hu := hr.units
    refine ⟨_, (pss_cons ((ps_set (i := 2) scLForest.nd rfl (Or.inl rfl) ((pe_at a2 hr (by decide) (pa_cons (pv 0) (pa_cons (pv 1) pa_nil)))))) (pss_cons (ps_if (PW.pt (pw_and (pt_cmpR op_lt ((pe_callB (r := rLen K) call_lenK (by rfl) B.len boot_len (pa_cons (pv 2) pa_nil))) (pv 1) (nomark _)) (pw_and1 (pt_cmpR op_eq ((pe_at a1 hr (by decide) (pa_cons (pv 0) (pa_cons (pe_int) pa_nil)))) (pe_int) (nomark _))))) (pss_cons ((ps_set (i := 3) scLForest.nd rfl (Or.inl rfl) ((pe_at a2 hr (by decide) (pa_cons (pv 0) (pa_cons ((pe_op op_sub (pv 1) ((pe_callB (r := rLen K) call_lenK (by rfl) B.len boot_len (pa_cons (pv 2) pa_nil))))) pa_nil)))))) (pss_one (ps_ret (pe_tup (pa_cons ((pe_at a3 hr (by decide) (pa_cons (pv 2) (pa_cons (pv 3) pa_nil)))) (pa_cons (pe_callB (r := rSrt K) (cr_srt hu) (by rfl) B.sorted (by decide +kernel) (pa_cons (pe_lst (pa_cons ((pe_at a4 hr (by decide) (pa_cons (pv 2) pa_nil))) (pa_cons ((pe_at a4 hr (by decide) (pa_cons (pv 3) pa_nil))) pa_nil))) pa_nil)) pa_nil)))))) pss_nil) (pss_one (ps_ret (pe_tup (pa_cons (pv 2) (pa_cons ((pe_lst (pa_cons ((pe_at a4 hr (by decide) (pa_cons (pv 2) pa_nil))) pa_nil))) pa_nil))))))), ?_⟩
    refine ⟨_, rfl, _, rfl, rw, sc, ns, most, rfl, hrw, h1, h5, fun H1 u n k W x1 r1 im1 dr hnm => ?_⟩
    have b := DW.nk_bounds dr.1
    have w1 : Wb K H1 u n W := ⟨im1, (DW.kd_nk dr.1).inGood dr.2.1, b.1, b.2.1⟩
    have single : ∀ H2, SameX rw H1 H2 → Rw K H2 rw sc ns → tRet (tTup (tCons (tVar 2) (tCons (tLst (tCons (tCall (spKindOfTree K) [] E0 (tCons (tVar 2) tNil)) tNil)) tNil))) { nx := fun x H' => Q V.non H', rt := Q } [some (.ref rw), some (.int (most : Nat)), some u, none] H2 := fun H2 x2 r2 => by
      have w2 := w1.sameX r1 x2
      refine ⟨_, rfl, _, rfl, u, n, W, rfl, w2, fun H3 s3 => ⟨by show 1 ≤ sizeLine; decide, fun l hl => ⟨by show 2 ≤ sizeLine; decide, fun p hp => ?_⟩⟩⟩
      have sl := same_new (o := .lst [.str (kindS (DW.letter n W) n)]) hl
      have sp := same_new (o := .tup [u, .ref l]) hp
      have s5 := (s3.trans sl).trans sp
      refine q _ p u l n W [kindS k n] _ ((x1.trans x2).trans (SameX.of s5)) (r2.same s5) (SqT.of upd_same) (fun e => ?_) ?_ (w2.same s5) (fam_one dr) dr.2.1
      · obtain ⟨o, q⟩ := r2.there
        have := s3 _ _ q
        rw [← e, hl] at this; cases this
      · rw [srt_one]
        have := sp _ _ (show upd H3 l (.lst [.str (kindS (DW.letter n W) n)]) l = some (.lst [.str (kindS (DW.letter n W) n)]) from upd_same)
        refine this.trans ?_
        rw [dr.2.2]
        rfl
    refine ⟨_, rfl, rd_lenW w1.im w1.len ⟨_, rfl, _, _, rfl, rfl, _, rfl, ite2 (fun c1 => ?_) fun c1 => ?_⟩⟩
    · have hlt : n < most := by have := of_decide_eq_true c1; omega
      have em : (most : Int) - (n : Int) = ((most - n : Nat) : Int) := by omega
      refine ⟨_, rfl, rw, sc, ns, 2, rfl, r1, by decide, by decide, fun H3 x x3 r3 hx => ⟨rfl, _, rfl, ?_⟩⟩
      show if decide (V.int ((x : Nat) : Int) = V.int 0) = true then _ else _
      by_cases c2 : x = 0
      · rw [show decide (V.int ((x : Nat) : Int) = V.int 0) = true by rw [c2]; rfl]
        have w3 := w1.sameX r1 x3
        refine iteT ⟨_, rfl, _, rfl, _, rfl, rd_lenW w3.im w3.len ⟨_, _, rfl, rfl, rw, sc, ns, most - n, congrArg (fun z => [V.ref rw, V.int z]) em, r3, by omega, by omega, fun H4 u4 m j Z x4 r4 im4 dr4 hmm => ?_⟩⟩
        have b4 := DW.nk_bounds dr4.1
        have w4 : Wb K H4 u4 m Z := ⟨im4, (DW.kd_nk dr4.1).inGood dr4.2.1, b4.1, b4.2.1⟩
        have w34 := w3.sameX r3 x4
        refine ⟨_, rfl, _, rfl, u, u4, n, m, W, Z, rfl, w34, w4, fun H5 j5 s5 im5 => ?_⟩
        have w5 := w34.same s5
        have w45 := w4.same s5
        refine ⟨_, rfl, u, n, W, rfl, w5, fun H6 s6 => ⟨_, rfl, u4, m, Z, rfl, w45.same s6, fun H7 s7 => ⟨by show 2 ≤ sizeLine; decide, fun l hl => ?_⟩⟩⟩
        refine rd_sortS (ts := [kindS (DW.letter n W) n, kindS (DW.letter m Z) m]) (SqL.of upd_same) (by show 2 ≤ 1000; decide) fun l2 hl2 => ⟨by show 2 ≤ sizeLine; decide, fun p hp => ?_⟩
        have sl := same_new (o := .lst [.str (kindS (DW.letter n W) n), .str (kindS (DW.letter m Z) m)]) hl
        have sl2 := same_new (o := .lst ((srt [kindS (DW.letter n W) n, kindS (DW.letter m Z) m]).map V.str)) hl2
        have sp := same_new (o := .tup [j5, .ref l2]) hp
        have s67 := s6.trans s7
        have sall := ((s67.trans sl).trans sl2).trans sp
        obtain ⟨fam, hC⟩ := fam_two dr dr4 (by omega)
        have gj := fam.good _ hC
        refine q _ p j5 l2 (n + m) _ _ _ (((x1.trans x3).trans x4).trans (SameX.of (s5.trans sall))) (r4.same (s5.trans sall)) (SqT.of upd_same) (fun e => ?_) ?_ ⟨im5.same sall, gj, by omega, by omega⟩ fam hC
        · obtain ⟨o, q⟩ := r4.there
          have := ((s5.trans s67).trans sl) _ _ q
          rw [← e, hl2] at this; cases this
        · have := sp _ _ (show upd (upd H7 l (.lst [.str (kindS (DW.letter n W) n), .str (kindS (DW.letter m Z) m)])) l2 (.lst ((srt [kindS (DW.letter n W) n, kindS (DW.letter m Z) m]).map V.str)) l2 = some (.lst ((srt [kindS (DW.letter n W) n, kindS (DW.letter m Z) m]).map V.str)) from upd_same)
          rw [dr.2.2, dr4.2.2] at this
          rw [dr.2.2, dr4.2.2]
          exact this
      · rw [show decide (V.int ((x : Nat) : Int) = V.int 0) = false by
          rw [decide_eq_false]
          intro e
          exact c2 (by have := V.int.inj e; omega)]
        exact iteF (single H3 x3 r3)
    · exact iteF (single H1 (SameX.refl _ _) r1)
end
end L2.DL
end

section
set_option Elab.async false
set_option linter.all false
set_option maxRecDepth 100000
/-! Walk R: the law. -/
namespace L2.DL
open PySem PySem.Spec PyProof.Rows
open DW (Web at2 Good IsOrd og Sh)
section
variable {P : Program} {w : World} {K : PySem.W.Frag} {mg : Str → Option Value} {base : Heap}
abbrev sLaw : Stmt := topS 49
theorem scLaw : FnScope ["_law_script", "_law_row", "_law_web", "_law_kinds", "_law_later", "_law_tree_here", "_law_many"] ["_law_script"] (defScope sLaw) := ⟨rfl, rfl, rfl, by decide +kernel, rfl, by decide +kernel, by decide +kernel⟩
def spLaw (K : PySem.W.Frag) : Sp := fun vs H Q _ => ∃ sc ns, vs = [.ref sc] ∧ SqL K H sc (List.map V.int ns) ∧ ∀ H', Q (.bl true) H'
def spTurns (K : PySem.W.Frag) : Sp := fun vs H Q _ => ∃ v u n W xs, ∃ C : Web → Prop, vs = [v, u] ∧ Wb K H v n W ∧ Im K H u (partK xs) ∧ xs.length ≤ 1000 ∧ (∀ x ∈ xs, x < n) ∧ C W ∧ (∀ W, C W → Good n W) ∧ (∀ W, C W → ∀ x, x < n → C (DW.turnW W x)) ∧ ∀ H' u' W', Same H H' → Wb K H' u' n W' → C W' → Q u' H'
def spNodes (K : PySem.W.Frag) : Sp := fun vs H Q _ => ∃ rw sc ns n most, vs = [.ref rw, .int (n : Nat), .int (most : Nat)] ∧ Rw K H rw sc ns ∧ 1 ≤ n ∧ n ≤ 5 ∧ most ≤ 10 ∧ ∀ H' u xs, SameX rw H H' → Rw K H' rw sc ns → (∀ x ∈ xs, x < n) → xs.length ≤ 1000 → Im K H' u (partK xs) → Q u H'
theorem ok_law {f : Addr} {fd : FuncData} (F : Fun K "law" "law" sLaw f fd) (B : Bts mg) (a1 : At P w K mg base "_law_taken" 1 ["_law_row", "_law_many"] (spTaken K)) (a2 : At P w K mg base "_law_forest" 4 ["_law_row", "_law_most"] (spForest K))
    (a3 : At P w K mg base "kind" 8 ["web"] (spKind K)) (a4 : At P w K mg base "_law_turns" 2 ["_law_web", "_law_told"] (spTurns K)) (a5 : At P w K mg base "_law_nodes" 2 ["_law_row", "_law_n", "_law_most"] (spNodes K))
    (a6 : At P w K mg base "is_finite" 6 ["web"] (spIsFinite K)) (a7 : At P w K mg base "_law_tree" 3 ["_law_row", "_law_most"] (spTree K)) (a8 : At P w K mg base "_law_shape" 2 ["_law_web"] (spKindOfTree K)) (a9 : At P w K mg base "class_of" 6 ["web"] (spClassOf K)) :
    FnOk P w K mg base CX0 9 f fd ["_law_script"] (spLaw K) := by
  refine F.ok scLaw (fun vs H Q E h => ?_) (fun cdv A outer s H vs Q E hr h => ?_)
  · obtain ⟨sc, ns, rfl, _⟩ := h; rfl
  · obtain ⟨sc, ns, rfl, hsc, q⟩ := h
    have hu := hr.units
    have hu1 := hu_of hr
    refine ⟨_, (pss_cons ((ps_set (i := 1) scLaw.nd rfl (Or.inl rfl) ((pe_lst (pa_cons (pv 0) (pa_cons (pe_int) (pa_cons (pe_int) (pa_cons (pe_int) pa_nil)))))))) (pss_cons (ps_asg (pe_at a2 hr (by decide) (pa_cons (pv 1) (pa_cons (pe_ifExp (pt_cmpR op_eq ((pe_at a1 hr (by decide) (pa_cons (pv 1) (pa_cons (pe_int) pa_nil)))) (pe_int) (nomark _)) pe_int pe_int) pa_nil))) (pg_tup (n := 2) rfl (pgs_cons (pg_name (i := 2) scLaw.nd rfl (Or.inl rfl)) (pgs_cons (pg_name (i := 3) scLaw.nd rfl (Or.inl rfl)) pgs_nil)))) (pss_cons (ps_if (pt_cmpR op_ne ((pe_at a3 hr (by decide) (pa_cons (pv 2) pa_nil))) (pe_join pe_str (pv 3)) (nomark _)) (pss_one (ps_ret pe_bl)) pss_nil) (pss_cons ((ps_set (i := 4) scLaw.nd rfl (Or.inl rfl) ((pe_at a4 hr (by decide) (pa_cons (pv 2) (pa_cons ((pe_at a5 hr (by decide) (pa_cons (pv 1) (pa_cons ((pe_callB (r := rLen K) call_lenK (by rfl) B.len boot_len (pa_cons (pv 2) pa_nil))) (pa_cons (pe_int) pa_nil))))) pa_nil)))))) (pss_cons (ps_if (PW.pt (pw_or (pt_cmpR op_notBl (pe_at a6 hr (by decide) (pa_cons (pv 4) pa_nil)) pe_bl (nomark _)) (pw_or1 (pt_cmpR op_ne ((pe_at a3 hr (by decide) (pa_cons (pv 4) pa_nil))) (pe_join pe_str (pv 3)) (nomark _))))) (pss_one (ps_ret pe_bl)) pss_nil) (pss_cons ((ps_set (i := 5) scLaw.nd rfl (Or.inl rfl) ((pe_at a7 hr (by decide) (pa_cons (pv 1) (pa_cons (pe_ifExp (pt_cmpR op_eq ((pe_at a1 hr (by decide) (pa_cons (pv 1) (pa_cons (pe_int) pa_nil)))) (pe_int) (nomark _)) pe_int pe_int) pa_nil)))))) (pss_cons ((ps_set (i := 6) scLaw.nd rfl (Or.inl rfl) (pe_dget hu1 (pe_disp (pps_cons pe_str pe_int (pps_cons pe_str pe_int (pps_cons pe_str pe_int (pps_cons pe_str pe_int (pps_cons pe_str pe_int (pps_cons pe_str pe_int (pps_cons pe_str pe_int pps_nil))))))) (by rfl) (by rfl) (fun z => by cases z) (by decide)) (pe_at a8 hr (by decide) (pa_cons (pv 5) pa_nil)) (fun _ _ => rfl)))) (pss_one (ps_ret (pe_cmpR op_eq ((pe_callB (r := rLen K) call_lenK (by rfl) B.len boot_len (pa_cons ((pe_at a9 hr (by decide) (pa_cons ((pe_at a4 hr (by decide) (pa_cons (pv 5) (pa_cons ((pe_at a5 hr (by decide) (pa_cons (pv 1) (pa_cons ((pe_callB (r := rLen K) call_lenK (by rfl) B.len boot_len (pa_cons (pv 5) pa_nil))) (pa_cons (pe_int) pa_nil))))) pa_nil)))) pa_nil))) pa_nil))) (pv 6) (nomark _))))))))))), ?_⟩
    refine ⟨_, rfl, by show 4 ≤ sizeLine; decide, fun rw hrw => ?_⟩
    have s0 := same_new (o := .lst [.ref sc, .int 0, .int 7318, .int 0]) hrw
    have r0 : Rw K (upd H rw (.lst [.ref sc, .int 0, .int 7318, .int 0])) rw sc ns := ⟨⟨0, 7318, 0, upd_same⟩, sql_same s0 hsc⟩
    show tSeq _ _ _ [some (.ref sc), some (.ref rw), none, none, none, none, none] (upd H rw (.lst [.ref sc, .int 0, .int 7318, .int 0]))
    generalize upd H rw (HO.lst [.ref sc, .int 0, .int 7318, .int 0]) = H0 at r0
    refine ⟨_, rfl, _, rfl, rw, sc, ns, 30, rfl, r0, by decide, by decide, fun H1 x x1 r1 hx => ⟨rfl, _, rfl, ite45 fun most h1 h5 => ?_⟩⟩
    refine ⟨rw, sc, ns, most, rfl, r1, h1, h5, fun H2 p u l n W ts C x2 r2 hp nl hl w2 fam hC => ?_⟩
    refine ⟨p, _, rfl, hp, rfl, _, _, rfl, _, _, rfl, rfl, ?_⟩
    have kk := fam.kinds W hC
    -- kind(web) is the text of the kinds
    refine ⟨_, rfl, u, n, W, ts, rfl, w2, kk, fun H3 s3 => ⟨⟨_, rfl⟩, _, rfl, ⟨_, l, srt ts, rfl, rfl, .inl (SqL.of (s3 _ _ hl)), join_room kk.few kk.short, rfl, _, rfl, ?_⟩⟩⟩
    have eqT : ∀ t : Str, (!decide (V.str t = V.str t)) = false := fun t => by simp
    show if (!decide (V.str (kindT ts) = V.str (kindT ts))) = true then _ else _
    rw [eqT]
    refine iteF ?_
    have w3 := w2.same s3
    have r3 := r2.same s3
    -- later
    refine ⟨_, rfl, _, rfl, _, rfl, rd_lenW w3.im w3.len ⟨rw, sc, ns, n, 6, rfl, r3, w3.pos, w3.few, by decide, fun H4 nd xs x4 r4 hxs hxl imn => ?_⟩⟩
    have w4 := w3.sameX r3 x4
    have l4 : H4 l = some (.lst ((srt ts).map V.str)) := x4 _ _ nl (s3 _ _ hl)
    refine ⟨u, nd, n, W, xs, C, rfl, w4, imn, hxl, hxs, hC, fam.good, fam.turn, fun H5 v W' s5 w5 hC' => ?_⟩
    obtain ⟨C2, L, hcl, hC2⟩ := fam.fin W' hC'
    have kk' := fam.kinds W' hC'
    refine ⟨_, rfl, v, n, W', C2, L, rfl, w5, hcl, hC2, fun H6 s6 => ⟨true, true, rfl, rfl, _, rfl, iteF ?_⟩⟩
    have w6 := w5.same s6
    refine ⟨_, rfl, v, n, W', ts, rfl, w6, kk', fun H7 s7 => ⟨⟨_, rfl⟩, _, rfl, ⟨_, l, srt ts, rfl, rfl, .inl (SqL.of (((s5.trans s6).trans s7) _ _ l4)), join_room kk.few kk.short, rfl, _, rfl, ?_⟩⟩⟩
    show if (!decide (V.str (kindT ts) = V.str (kindT ts))) = true then _ else _
    rw [eqT]
    refine iteF ?_
    have r7 := r4.same ((s5.trans s6).trans s7)
    -- the class of a tree
    refine ⟨_, rfl, _, rfl, rw, sc, ns, 30, rfl, r7, by decide, by decide, fun H8 x8' x8 r8 hx8 => ⟨rfl, _, rfl, ite45 fun most2 h12 h52 => ?_⟩⟩
    refine ⟨rw, sc, ns, most2, rfl, r8, h12, h52, fun H9 t m k Z x9 r9 im9 dr hm => ?_⟩
    have b := DW.nk_bounds dr.1
    have kd := DW.kd_nk dr.1
    have w9 : Wb K H9 t m Z := ⟨im9, kd.inGood dr.2.1, b.1, b.2.1⟩
    refine fun d hd => ⟨upd_same, kvsL, rfl, by decide, ?_⟩
    have sd := (same_new (o := .dK []) hd)
    have sd2 : Same H9 (upd (upd H9 d (.dK [])) d (.dK (mergeK [] kvsL))) := same_grow sd hd
    have hd2 : upd (upd H9 d (.dK [])) d (.dK (mergeK [] kvsL)) d = some (.dK (mergeK [] kvsL)) := upd_same
    refine ⟨_, rfl, t, m, Z, rfl, w9.same sd2, fun H10 s10 => ⟨d, .int ((DW.tabOf m k).length : Nat), rfl, ?_, ?_⟩⟩
    · have := DGet.k (k := Sum.inr (kindS (DW.letter m Z) m)) (s10 _ _ hd2)
      rw [dr.2.2, kvs_len dr.1] at this
      rw [dr.2.2]
      exact this
    have s9 := sd2.trans s10
    have w10 := w9.same s9
    have r10 := r9.same s9
    refine ⟨_, rfl, _, rfl, _, rfl, rd_lenW w10.im w10.len ⟨rw, sc, ns, m, 4, rfl, r10, b.1, b.2.1, by decide, fun H11 nd2 xs2 x11 r11 hxs2 hxl2 imn2 => ?_⟩⟩
    have w11 := w10.sameX r10 x11
    refine ⟨t, nd2, m, Z, xs2, DW.InK m (DW.tabOf m k), rfl, w11, imn2, hxl2, hxs2, dr.2.1, fun W h => kd.inGood h, fun W h x hx => kd.inTurn h hx, fun H12 v2 Z2 s12 w12 hC12 => ?_⟩
    refine ⟨v2, m, Z2, _, _, rfl, w12, kd.cl, hC12, fun H13 p13 xs13 fs s13 hp13 fn hln => ?_⟩
    have hlen : xs13.length = (DW.tabOf m k).length := by rw [hln, (kd.found hC12 fn).length_eq]
    refine rd_lenT hp13 hlen ⟨_, rfl, rfl, ?_⟩
    show Q (.bl (decide (V.int ((DW.tabOf m k).length : Nat) = V.int ((DW.tabOf m k).length : Nat)))) H13
    rw [decide_eq_true rfl]
    exact q H13
end
end L2.DL
end

section
set_option Elab.async false
set_option linter.all false
set_option maxRecDepth 100000
/-! Walk S: what the top has left, all together. -/
namespace L2.DL
open PySem PySem.Spec PyProof.Rows
/-- what the written part tells of a def of the top -/
def DefK (K : PySem.W.Frag) (x : Str) (st : Stmt) : Prop := ∃ (f : Addr) (oc : Value) (od an : Option Addr) (osl : Array (Option Value)) (kV doc pm cdv ct : Value), PySem.W.nsIn K mainGlobals x = some (some (.ref f)) ∧
  K.lookup f = some ⟨oc, od, .func (PySem.W.fnOf x x (defArgs st) (defBody st) (defScope st) .none kV doc pm an cdv ct), osl⟩ ∧ PySem.W.codeIn K cdv x = true ∧ PySem.W.keepIn K (.ref f) = true
theorem defk_mk {K : PySem.W.Frag} {x : Str} {st : Stmt} {f : Addr} {oc : Value} {od an : Option Addr} {osl : Array (Option Value)} {kV doc pm cdv ct : Value} (a : PySem.W.nsIn K mainGlobals x = some (some (.ref f)))
    (l : K.lookup f = some ⟨oc, od, .func (PySem.W.fnOf x x (defArgs st) (defBody st) (defScope st) .none kV doc pm an cdv ct), osl⟩) (c : PySem.W.codeIn K cdv x = true) (k : PySem.W.keepIn K (.ref f) = true) : DefK K x st := ⟨f, oc, od, an, osl, kV, doc, pm, cdv, ct, a, l, c, k⟩
theorem def_of {K : PySem.W.Frag} {h : Heap} {mg : Str → Option Value} {x : Str} {st : Stmt} {ps : List Str} (X : K.In h) (G : h.Ns mainGlobals mg) (d : DefK K x st)
    (hb : ∀ (kV doc pm : Value) (an : Option Addr) (cdv ct : Value) (us : List Value), us.length = ps.length → bindArgs (PySem.W.fnOf x x (defArgs st) (defBody st) (defScope st) .none kV doc pm an cdv ct) ⟨us, []⟩ = pure (ps.zip us)) : Def K mg x st ps := by
  obtain ⟨f, oc, od, an, osl, kV, doc, pm, cdv, ct, a, l, c, k⟩ := d
  have F := fun_mk l c k
  exact ⟨f, _, F, PySem.W.mg_of X G a, F.binds hb⟩

set_option maxHeartbeats 0 in
theorem all_ok {l : PySem.W.OpenLaw} {w : World} {K : PySem.W.Frag} {h : Heap} {mg : Str → Option Value} {fa : Addr} {t1 t2 : Tok} (X : K.In h) (G : h.Ns mainGlobals mg) (hfa : mg "law" = some (.ref fa))
    (d0 : DefK K "is_integer" sIsInteger)
    (d1 : DefK K "is_from" sIsFrom)
    (d2 : DefK K "is_line" sIsLine)
    (d3 : DefK K "is_web" sIsWeb)
    (d4 : DefK K "need_web" sNeedWeb)
    (d5 : DefK K "arrows_of" sArrowsOf)
    (d6 : DefK K "frozen" sFrozen)
    (d7 : DefK K "added_by" sAddedBy)
    (d8 : DefK K "behind_turn" sBehindTurn)
    (d9 : DefK K "with_names" sWithNames)
    (d10 : DefK K "neighbours" sNeighbours)
    (d11 : DefK K "parts_of" sPartsOf)
    (d12 : DefK K "is_simple" sIsSimple)
    (d13 : DefK K "is_a_tree" sIsATree)
    (d14 : DefK K "part_web" sPartWeb)
    (d15 : DefK K "refined" sRefined)
    (d16 : DefK K "marks_of" sMarksOf)
    (d17 : DefK K "orders_by" sOrdersBy)
    (d18 : DefK K "plain_name" sPlainName)
    (d19 : DefK K "all_orders" sAllOrders)
    (d20 : DefK K "least_by_name" sLeastByName)
    (d21 : DefK K "closed_list" sClosedList)
    (d22 : DefK K "is_finite" sIsFinite)
    (d23 : DefK K "need_finite" sNeedFinite)
    (d24 : DefK K "class_of" sClassOf)
    (d25 : DefK K "kind_of_tree" sKindOfTree)
    (d26 : DefK K "kind_of_part" sKindOfPart)
    (d27 : DefK K "kinds_of" sKindsOf)
    (d28 : DefK K "kind" sKind)
    (d29 : DefK K "_law_taken" sTaken)
    (d30 : DefK K "_law_pick" sLPick)
    (d31 : DefK K "_law_turn" sLTurn)
    (d32 : DefK K "_law_turns" sLTurns)
    (d33 : DefK K "_law_nodes" sLNodes)
    (d34 : DefK K "_law_named" sLNamed)
    (d35 : DefK K "_law_near" sLNear)
    (d36 : DefK K "_law_tree" sLTree)
    (d37 : DefK K "_law_joined" sLJoined)
    (d38 : DefK K "_law_shape" sLShape)
    (d39 : DefK K "_law_forest" sLForest)
    (dl : DefK K "law" sLaw)
    (z0 : PySem.W.nsIn K mainGlobals "isinstance" = some none)
    (z1 : PySem.W.nsIn K mainGlobals "int" = some none)
    (z2 : PySem.W.nsIn K mainGlobals "bool" = some none)
    (z3 : PySem.W.nsIn K mainGlobals "tuple" = some none)
    (z4 : PySem.W.nsIn K mainGlobals "len" = some none)
    (z5 : PySem.W.nsIn K mainGlobals "all" = some none)
    (z6 : PySem.W.nsIn K mainGlobals "range" = some none)
    (z7 : PySem.W.nsIn K mainGlobals "abs" = some none)
    (z8 : PySem.W.nsIn K mainGlobals "list" = some none)
    (z9 : PySem.W.nsIn K mainGlobals "enumerate" = some none)
    (z10 : PySem.W.nsIn K mainGlobals "sorted" = some none)
    (z11 : PySem.W.nsIn K mainGlobals "set" = some none)
    (z12 : PySem.W.nsIn K mainGlobals "min" = some none)
    (z13 : PySem.W.nsIn K mainGlobals "str" = some none)
    (n1 : PySem.W.nsIn K mainGlobals "MOST_NODES" = some (some (.int 6 t1))) (n2 : PySem.W.nsIn K mainGlobals "MOST_ARROWS" = some (some (.int 1000 t2))) :
    ∃ fd : FuncData, (∀ (s : Shared) (v : Value), BindsTo s fd ⟨[v], []⟩ [("_law_script", v)]) ∧ ∀ base : Heap, K.In base → base.Ns mainGlobals mg → FnOk l.prog w K mg base CX0 9 fa fd ["_law_script"] (spLaw K) := by
  have B : Bts mg := ⟨PySem.W.mg_none_of X G z0, PySem.W.mg_none_of X G z1, PySem.W.mg_none_of X G z2, PySem.W.mg_none_of X G z3, PySem.W.mg_none_of X G z4, PySem.W.mg_none_of X G z5, PySem.W.mg_none_of X G z6, PySem.W.mg_none_of X G z7, PySem.W.mg_none_of X G z8, PySem.W.mg_none_of X G z9, PySem.W.mg_none_of X G z10, PySem.W.mg_none_of X G z11, PySem.W.mg_none_of X G z12, PySem.W.mg_none_of X G z13, ⟨t1, PySem.W.mg_of X G n1⟩, ⟨t2, PySem.W.mg_of X G n2⟩⟩
  have D0 : Def K mg "is_integer" sIsInteger ["value"] := def_of X G d0 fun _ _ _ _ _ _ us hl => match us, hl with | [_], _ => rfl
  have D1 : Def K mg "is_from" sIsFrom ["value", "low", "high"] := def_of X G d1 fun _ _ _ _ _ _ us hl => match us, hl with | [_, _, _], _ => rfl
  have D2 : Def K mg "is_line" sIsLine ["n", "value"] := def_of X G d2 fun _ _ _ _ _ _ us hl => match us, hl with | [_, _], _ => rfl
  have D3 : Def K mg "is_web" sIsWeb ["value"] := def_of X G d3 fun _ _ _ _ _ _ us hl => match us, hl with | [_], _ => rfl
  have D4 : Def K mg "need_web" sNeedWeb ["value"] := def_of X G d4 fun _ _ _ _ _ _ us hl => match us, hl with | [_], _ => rfl
  have D5 : Def K mg "arrows_of" sArrowsOf ["web"] := def_of X G d5 fun _ _ _ _ _ _ us hl => match us, hl with | [_], _ => rfl
  have D6 : Def K mg "frozen" sFrozen ["table"] := def_of X G d6 fun _ _ _ _ _ _ us hl => match us, hl with | [_], _ => rfl
  have D7 : Def K mg "added_by" sAddedBy ["left", "right"] := def_of X G d7 fun _ _ _ _ _ _ us hl => match us, hl with | [_, _], _ => rfl
  have D8 : Def K mg "behind_turn" sBehindTurn ["web", "x"] := def_of X G d8 fun _ _ _ _ _ _ us hl => match us, hl with | [_, _], _ => rfl
  have D9 : Def K mg "with_names" sWithNames ["web", "order"] := def_of X G d9 fun _ _ _ _ _ _ us hl => match us, hl with | [_, _], _ => rfl
  have D10 : Def K mg "neighbours" sNeighbours ["web", "x"] := def_of X G d10 fun _ _ _ _ _ _ us hl => match us, hl with | [_, _], _ => rfl
  have D11 : Def K mg "parts_of" sPartsOf ["web"] := def_of X G d11 fun _ _ _ _ _ _ us hl => match us, hl with | [_], _ => rfl
  have D12 : Def K mg "is_simple" sIsSimple ["web"] := def_of X G d12 fun _ _ _ _ _ _ us hl => match us, hl with | [_], _ => rfl
  have D13 : Def K mg "is_a_tree" sIsATree ["web"] := def_of X G d13 fun _ _ _ _ _ _ us hl => match us, hl with | [_], _ => rfl
  have D14 : Def K mg "part_web" sPartWeb ["web", "part"] := def_of X G d14 fun _ _ _ _ _ _ us hl => match us, hl with | [_, _], _ => rfl
  have D15 : Def K mg "refined" sRefined ["web", "marks"] := def_of X G d15 fun _ _ _ _ _ _ us hl => match us, hl with | [_, _], _ => rfl
  have D16 : Def K mg "marks_of" sMarksOf ["web"] := def_of X G d16 fun _ _ _ _ _ _ us hl => match us, hl with | [_], _ => rfl
  have D17 : Def K mg "orders_by" sOrdersBy ["marks"] := def_of X G d17 fun _ _ _ _ _ _ us hl => match us, hl with | [_], _ => rfl
  have D18 : Def K mg "plain_name" sPlainName ["web"] := def_of X G d18 fun _ _ _ _ _ _ us hl => match us, hl with | [_], _ => rfl
  have D19 : Def K mg "all_orders" sAllOrders ["n"] := def_of X G d19 fun _ _ _ _ _ _ us hl => match us, hl with | [_], _ => rfl
  have D20 : Def K mg "least_by_name" sLeastByName ["web"] := def_of X G d20 fun _ _ _ _ _ _ us hl => match us, hl with | [_], _ => rfl
  have D21 : Def K mg "closed_list" sClosedList ["web"] := def_of X G d21 fun _ _ _ _ _ _ us hl => match us, hl with | [_], _ => rfl
  have D22 : Def K mg "is_finite" sIsFinite ["web"] := def_of X G d22 fun _ _ _ _ _ _ us hl => match us, hl with | [_], _ => rfl
  have D23 : Def K mg "need_finite" sNeedFinite ["web"] := def_of X G d23 fun _ _ _ _ _ _ us hl => match us, hl with | [_], _ => rfl
  have D24 : Def K mg "class_of" sClassOf ["web"] := def_of X G d24 fun _ _ _ _ _ _ us hl => match us, hl with | [_], _ => rfl
  have D25 : Def K mg "kind_of_tree" sKindOfTree ["web"] := def_of X G d25 fun _ _ _ _ _ _ us hl => match us, hl with | [_], _ => rfl
  have D26 : Def K mg "kind_of_part" sKindOfPart ["web"] := def_of X G d26 fun _ _ _ _ _ _ us hl => match us, hl with | [_], _ => rfl
  have D27 : Def K mg "kinds_of" sKindsOf ["web"] := def_of X G d27 fun _ _ _ _ _ _ us hl => match us, hl with | [_], _ => rfl
  have D28 : Def K mg "kind" sKind ["web"] := def_of X G d28 fun _ _ _ _ _ _ us hl => match us, hl with | [_], _ => rfl
  have D29 : Def K mg "_law_taken" sTaken ["_law_row", "_law_many"] := def_of X G d29 fun _ _ _ _ _ _ us hl => match us, hl with | [_, _], _ => rfl
  have D30 : Def K mg "_law_pick" sLPick ["_law_row", "_law_things"] := def_of X G d30 fun _ _ _ _ _ _ us hl => match us, hl with | [_, _], _ => rfl
  have D31 : Def K mg "_law_turn" sLTurn ["_law_web", "_law_x"] := def_of X G d31 fun _ _ _ _ _ _ us hl => match us, hl with | [_, _], _ => rfl
  have D32 : Def K mg "_law_turns" sLTurns ["_law_web", "_law_told"] := def_of X G d32 fun _ _ _ _ _ _ us hl => match us, hl with | [_, _], _ => rfl
  have D33 : Def K mg "_law_nodes" sLNodes ["_law_row", "_law_n", "_law_most"] := def_of X G d33 fun _ _ _ _ _ _ us hl => match us, hl with | [_, _, _], _ => rfl
  have D34 : Def K mg "_law_named" sLNamed ["_law_web", "_law_order"] := def_of X G d34 fun _ _ _ _ _ _ us hl => match us, hl with | [_, _], _ => rfl
  have D35 : Def K mg "_law_near" sLNear ["_law_web", "_law_x"] := def_of X G d35 fun _ _ _ _ _ _ us hl => match us, hl with | [_, _], _ => rfl
  have D36 : Def K mg "_law_tree" sLTree ["_law_row", "_law_most"] := def_of X G d36 fun _ _ _ _ _ _ us hl => match us, hl with | [_, _], _ => rfl
  have D37 : Def K mg "_law_joined" sLJoined ["_law_one", "_law_other"] := def_of X G d37 fun _ _ _ _ _ _ us hl => match us, hl with | [_, _], _ => rfl
  have D38 : Def K mg "_law_shape" sLShape ["_law_web"] := def_of X G d38 fun _ _ _ _ _ _ us hl => match us, hl with | [_], _ => rfl
  have D39 : Def K mg "_law_forest" sLForest ["_law_row", "_law_most"] := def_of X G d39 fun _ _ _ _ _ _ us hl => match us, hl with | [_, _], _ => rfl
  obtain ⟨f, oc, od, an, osl, kV, doc, pm, cdv, ct, a, lk, c, kp⟩ := dl
  have e := hfa.symm.trans (PySem.W.mg_of X G a)
  cases e
  have F := fun_mk lk c kp
  refine ⟨PySem.W.fnOf "law" "law" (defArgs sLaw) (defBody sLaw) (defScope sLaw) .none kV doc pm an cdv ct, fun s v => .of_eq rfl, fun base _ _ => ?_⟩
  have A0 := at_is_integer D0 B (P := l.prog) (w := w) (base := base)
  have A1 := at_is_from D1 A0 (P := l.prog) (w := w) (base := base)
  have A2 := at_is_line D2 B A1 (P := l.prog) (w := w) (base := base)
  have A3 := at_is_web D3 B A2 (P := l.prog) (w := w) (base := base)
  have A4 := at_need_web D4 A3 (P := l.prog) (w := w) (base := base)
  have A5 := at_arrows_of D5 B (P := l.prog) (w := w) (base := base)
  have A6 := at_frozen D6 B (P := l.prog) (w := w) (base := base)
  have A7 := at_added_by D7 B (P := l.prog) (w := w) (base := base)
  have A8 := at_behind_turn D8 B A7 A6 (P := l.prog) (w := w) (base := base)
  have A9 := at_with_names D9 B A6 (P := l.prog) (w := w) (base := base)
  have A10 := at_neighbours D10 B (P := l.prog) (w := w) (base := base)
  have A11 := at_parts_of D11 B A10 (P := l.prog) (w := w) (base := base)
  have A12 := at_is_simple D12 B (P := l.prog) (w := w) (base := base)
  have A13 := at_is_a_tree D13 B A12 A11 A5 (P := l.prog) (w := w) (base := base)
  have A14 := at_part_web D14 B (P := l.prog) (w := w) (base := base)
  have A15 := at_refined D15 B (P := l.prog) (w := w) (base := base)
  have A16 := at_marks_of D16 B A15 (P := l.prog) (w := w) (base := base)
  have A17 := at_orders_by D17 B (P := l.prog) (w := w) (base := base)
  have A18 := at_plain_name D18 B A16 A17 A9 (P := l.prog) (w := w) (base := base)
  have A19 := at_all_orders D19 B (P := l.prog) (w := w) (base := base)
  have A20 := at_least_by_name D20 B A19 A9 (P := l.prog) (w := w) (base := base)
  have A21 := at_closed_list D21 B A18 A12 A8 (P := l.prog) (w := w) (base := base)
  have A22 := at_is_finite D22 A4 A21 (P := l.prog) (w := w) (base := base)
  have A23 := at_need_finite D23 A21 (P := l.prog) (w := w) (base := base)
  have A24 := at_class_of D24 B A4 A23 A20 (P := l.prog) (w := w) (base := base)
  have A25 := at_kind_of_tree D25 B A10 (P := l.prog) (w := w) (base := base)
  have A26 := at_kind_of_part D26 A23 A13 A25 (P := l.prog) (w := w) (base := base)
  have A27 := at_kinds_of D27 B A23 A11 A14 A26 (P := l.prog) (w := w) (base := base)
  have A28 := at_kind D28 A4 A27 (P := l.prog) (w := w) (base := base)
  have A29 := at_taken D29 B (P := l.prog) (w := w) (base := base)
  have A30 := at_law_pick D30 B A29 (P := l.prog) (w := w) (base := base)
  have A31 := at_law_turn D31 B (P := l.prog) (w := w) (base := base)
  have A32 := at_law_turns D32 A31 (P := l.prog) (w := w) (base := base)
  have A33 := at_law_nodes D33 B A29 (P := l.prog) (w := w) (base := base)
  have A34 := at_law_named D34 B (P := l.prog) (w := w) (base := base)
  have A35 := at_law_near D35 B (P := l.prog) (w := w) (base := base)
  have A36 := at_law_tree D36 B A29 A30 A34 (P := l.prog) (w := w) (base := base)
  have A37 := at_law_joined D37 B (P := l.prog) (w := w) (base := base)
  have A38 := at_law_shape D38 B A35 (P := l.prog) (w := w) (base := base)
  have A39 := at_law_forest D39 B A29 A36 A37 A38 (P := l.prog) (w := w) (base := base)
  exact ok_law F B A29 A39 A28 A32 A33 A22 A36 A38 A24
end L2.DL
end

section
set_option Elab.async false
set_option linter.all false
set_option maxRecDepth 100000
open PySem PySem.W PyProof.Rows
set_option maxHeartbeats 0 in
theorem PySem.Challenge.cw_dartwebs_k18_whole_kinds_holds : PySem.Challenge.rw_dartwebs_k18_whole_kinds.Holds := by
  w_on; o_law; k_head; (case hw => w_witness2)
  k_fill
  refine L2.walk_of (l := PySem.Challenge.rw_dartwebs_k18_whole_kinds) (n := 63) (k := 9) (x := "_law_script") (CX := fun _ => L2.CX0) (sp := fun w => L2.DL.spLaw _) rfl (by decide) rfl ⟨rfl, by decide, by decide⟩ (fun w h Y => PySem.W.kIn_of Y) ?F (fun _ _ a ns hl _ hS => ⟨a, ns, rfl, hS, fun _ => rfl⟩) (fun _ _ _ _ _ h => h)
  case F =>
    intro w mg fa h KX G hmg
    refine' L2.DL.all_ok KX G hmg ?d0 ?d1 ?d2 ?d3 ?d4 ?d5 ?d6 ?d7 ?d8 ?d9 ?d10 ?d11 ?d12 ?d13 ?d14 ?d15 ?d16 ?d17 ?d18 ?d19 ?d20 ?d21 ?d22 ?d23 ?d24 ?d25 ?d26 ?d27 ?d28 ?d29 ?d30 ?d31 ?d32 ?d33 ?d34 ?d35 ?d36 ?d37 ?d38 ?d39 ?dl ?z0 ?z1 ?z2 ?z3 ?z4 ?z5 ?z6 ?z7 ?z8 ?z9 ?z10 ?z11 ?z12 ?z13 ?n1 ?n2
    (case d0 => (refine' L2.DL.defk_mk ?a ?l ?c ?k; (case a => k_is); (case l => k_is); (case c => k_is); (case k => k_is)))
    (case d1 => (refine' L2.DL.defk_mk ?a ?l ?c ?k; (case a => k_is); (case l => k_is); (case c => k_is); (case k => k_is)))
    (case d2 => (refine' L2.DL.defk_mk ?a ?l ?c ?k; (case a => k_is); (case l => k_is); (case c => k_is); (case k => k_is)))
    (case d3 => (refine' L2.DL.defk_mk ?a ?l ?c ?k; (case a => k_is); (case l => k_is); (case c => k_is); (case k => k_is)))
    (case d4 => (refine' L2.DL.defk_mk ?a ?l ?c ?k; (case a => k_is); (case l => k_is); (case c => k_is); (case k => k_is)))
    (case d5 => (refine' L2.DL.defk_mk ?a ?l ?c ?k; (case a => k_is); (case l => k_is); (case c => k_is); (case k => k_is)))
    (case d6 => (refine' L2.DL.defk_mk ?a ?l ?c ?k; (case a => k_is); (case l => k_is); (case c => k_is); (case k => k_is)))
    (case d7 => (refine' L2.DL.defk_mk ?a ?l ?c ?k; (case a => k_is); (case l => k_is); (case c => k_is); (case k => k_is)))
    (case d8 => (refine' L2.DL.defk_mk ?a ?l ?c ?k; (case a => k_is); (case l => k_is); (case c => k_is); (case k => k_is)))
    (case d9 => (refine' L2.DL.defk_mk ?a ?l ?c ?k; (case a => k_is); (case l => k_is); (case c => k_is); (case k => k_is)))
    (case d10 => (refine' L2.DL.defk_mk ?a ?l ?c ?k; (case a => k_is); (case l => k_is); (case c => k_is); (case k => k_is)))
    (case d11 => (refine' L2.DL.defk_mk ?a ?l ?c ?k; (case a => k_is); (case l => k_is); (case c => k_is); (case k => k_is)))
    (case d12 => (refine' L2.DL.defk_mk ?a ?l ?c ?k; (case a => k_is); (case l => k_is); (case c => k_is); (case k => k_is)))
    (case d13 => (refine' L2.DL.defk_mk ?a ?l ?c ?k; (case a => k_is); (case l => k_is); (case c => k_is); (case k => k_is)))
    (case d14 => (refine' L2.DL.defk_mk ?a ?l ?c ?k; (case a => k_is); (case l => k_is); (case c => k_is); (case k => k_is)))
    (case d15 => (refine' L2.DL.defk_mk ?a ?l ?c ?k; (case a => k_is); (case l => k_is); (case c => k_is); (case k => k_is)))
    (case d16 => (refine' L2.DL.defk_mk ?a ?l ?c ?k; (case a => k_is); (case l => k_is); (case c => k_is); (case k => k_is)))
    (case d17 => (refine' L2.DL.defk_mk ?a ?l ?c ?k; (case a => k_is); (case l => k_is); (case c => k_is); (case k => k_is)))
    (case d18 => (refine' L2.DL.defk_mk ?a ?l ?c ?k; (case a => k_is); (case l => k_is); (case c => k_is); (case k => k_is)))
    (case d19 => (refine' L2.DL.defk_mk ?a ?l ?c ?k; (case a => k_is); (case l => k_is); (case c => k_is); (case k => k_is)))
    (case d20 => (refine' L2.DL.defk_mk ?a ?l ?c ?k; (case a => k_is); (case l => k_is); (case c => k_is); (case k => k_is)))
    (case d21 => (refine' L2.DL.defk_mk ?a ?l ?c ?k; (case a => k_is); (case l => k_is); (case c => k_is); (case k => k_is)))
    (case d22 => (refine' L2.DL.defk_mk ?a ?l ?c ?k; (case a => k_is); (case l => k_is); (case c => k_is); (case k => k_is)))
    (case d23 => (refine' L2.DL.defk_mk ?a ?l ?c ?k; (case a => k_is); (case l => k_is); (case c => k_is); (case k => k_is)))
    (case d24 => (refine' L2.DL.defk_mk ?a ?l ?c ?k; (case a => k_is); (case l => k_is); (case c => k_is); (case k => k_is)))
    (case d25 => (refine' L2.DL.defk_mk ?a ?l ?c ?k; (case a => k_is); (case l => k_is); (case c => k_is); (case k => k_is)))
    (case d26 => (refine' L2.DL.defk_mk ?a ?l ?c ?k; (case a => k_is); (case l => k_is); (case c => k_is); (case k => k_is)))
    (case d27 => (refine' L2.DL.defk_mk ?a ?l ?c ?k; (case a => k_is); (case l => k_is); (case c => k_is); (case k => k_is)))
    (case d28 => (refine' L2.DL.defk_mk ?a ?l ?c ?k; (case a => k_is); (case l => k_is); (case c => k_is); (case k => k_is)))
    (case d29 => (refine' L2.DL.defk_mk ?a ?l ?c ?k; (case a => k_is); (case l => k_is); (case c => k_is); (case k => k_is)))
    (case d30 => (refine' L2.DL.defk_mk ?a ?l ?c ?k; (case a => k_is); (case l => k_is); (case c => k_is); (case k => k_is)))
    (case d31 => (refine' L2.DL.defk_mk ?a ?l ?c ?k; (case a => k_is); (case l => k_is); (case c => k_is); (case k => k_is)))
    (case d32 => (refine' L2.DL.defk_mk ?a ?l ?c ?k; (case a => k_is); (case l => k_is); (case c => k_is); (case k => k_is)))
    (case d33 => (refine' L2.DL.defk_mk ?a ?l ?c ?k; (case a => k_is); (case l => k_is); (case c => k_is); (case k => k_is)))
    (case d34 => (refine' L2.DL.defk_mk ?a ?l ?c ?k; (case a => k_is); (case l => k_is); (case c => k_is); (case k => k_is)))
    (case d35 => (refine' L2.DL.defk_mk ?a ?l ?c ?k; (case a => k_is); (case l => k_is); (case c => k_is); (case k => k_is)))
    (case d36 => (refine' L2.DL.defk_mk ?a ?l ?c ?k; (case a => k_is); (case l => k_is); (case c => k_is); (case k => k_is)))
    (case d37 => (refine' L2.DL.defk_mk ?a ?l ?c ?k; (case a => k_is); (case l => k_is); (case c => k_is); (case k => k_is)))
    (case d38 => (refine' L2.DL.defk_mk ?a ?l ?c ?k; (case a => k_is); (case l => k_is); (case c => k_is); (case k => k_is)))
    (case d39 => (refine' L2.DL.defk_mk ?a ?l ?c ?k; (case a => k_is); (case l => k_is); (case c => k_is); (case k => k_is)))
    (case dl => (refine' L2.DL.defk_mk ?a ?l ?c ?k; (case a => k_is); (case l => k_is); (case c => k_is); (case k => k_is)))
    (case z0 => k_is)
    (case z1 => k_is)
    (case z2 => k_is)
    (case z3 => k_is)
    (case z4 => k_is)
    (case z5 => k_is)
    (case z6 => k_is)
    (case z7 => k_is)
    (case z8 => k_is)
    (case z9 => k_is)
    (case z10 => k_is)
    (case z11 => k_is)
    (case z12 => k_is)
    (case z13 => k_is)
    (case n1 => k_is)
    (case n2 => k_is)
end
