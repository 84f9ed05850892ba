import PyProof.Rows.All
import Wide.All
import OpenK.AllK
import Wide.FinOn
import HandS.ForExc
import HandS.Comp
import HandS.Iter
import HandS.TupAny
import HandS.TupMul
import HandS.Zip
import HandS.IsInst
import HandS.Defaults
import HandS.Deep
import HandS.Text
import HandS.Style
import HandS.Wide
import HandS.WideMore
import HandS.WideBits
import PyProof.ListMulRoad
import PyProof.FactsAll.tuple_2
import PySem.Challenge.RW_blamekeep_k46_whole_direct_casts
set_option Elab.async false
set_option linter.all false
set_option maxRecDepth 100000
set_option maxHeartbeats 4000000
/-! BkA: plain values, how they lie in the abstract heap, worlds -/
namespace BK
open PySem PySem.Spec PyProof.Rows L2

/-- values as plain data; ref n: the n-th store object; fn k: the k-th def -/
inductive PV where
  | non
  | bl (b : Bool)
  | int (i : Int)
  | str (x : Str)
  | tup (xs : List PV)
  | lst (xs : List PV)
  | dct (ks : List PV) (vs : List PV)
  | fn (k : Nat)
  | ref (n : Nat)
  /-- the script's own list: read only -/
  | scr (xs : List PV)
  /-- a built-in type; a class of the program -/
  | ty (n : String)
  | cls (k : Nat)
deriving Inhabited

mutual
/-- how deep lists and tuples stand -/
def PV.depth : PV → Nat
  | .tup xs => PV.depths xs + 1
  | .lst xs => PV.depths xs + 1
  | _ => 0
def PV.depths : List PV → Nat
  | [] => 0
  | x :: xs => max (PV.depth x) (PV.depths xs)
end
mutual
/-- numbers, truths, texts, None, and lists and tuples of these -/
def PV.plain : PV → Bool
  | .non => true
  | .bl _ => true
  | .int _ => true
  | .str _ => true
  | .tup xs => PV.plains xs
  | .lst xs => PV.plains xs
  | .dct _ _ => false
  | .fn _ => false
  | .ref _ => false
  | .scr _ => false
  | .ty _ => false
  | .cls _ => false
def PV.plains : List PV → Bool
  | [] => true
  | x :: xs => PV.plain x && PV.plains xs
end
mutual
/-- no list, dict or store object in it -/
def PV.noL : PV → Bool
  | .tup xs => PV.noLs xs
  | .lst _ => false
  | .dct _ _ => false
  | .ref _ => false
  | .scr _ => false
  | _ => true
def PV.noLs : List PV → Bool
  | [] => true
  | x :: xs => PV.noL x && PV.noLs xs
end
mutual
/-- no store object in it -/
def PV.noR : PV → Bool
  | .tup xs => PV.noRs xs
  | .lst xs => PV.noRs xs
  | .dct ks vs => PV.noRs ks && PV.noRs vs
  | .ref _ => false
  | .scr xs => PV.noRs xs
  | _ => true
def PV.noRs : List PV → Bool
  | [] => true
  | x :: xs => PV.noR x && PV.noRs xs
end
mutual
def PV.eqv : PV → PV → Bool
  | .non, .non => true
  | .bl a, .bl b => a == b
  | .bl a, .int j => (if a then 1 else 0) == j
  | .int i, .bl b => i == (if b then 1 else 0)
  | .int i, .int j => i == j
  | .str x, .str y => x == y
  | .tup xs, .tup ys => PV.eqvs xs ys
  | .lst xs, .lst ys => PV.eqvs xs ys
  | _, _ => false
def PV.eqvs : List PV → List PV → Bool
  | [], [] => true
  | x :: xs, y :: ys => PV.eqv x y && PV.eqvs xs ys
  | _, _ => false
end
mutual
def PV.toD : PV → PyData
  | .non => .none
  | .bl b => .bool b
  | .int i => .int i
  | .str x => .str x
  | .tup xs => .tuple (PV.toDs xs)
  | .lst xs => .list (PV.toDs xs)
  | _ => .none
def PV.toDs : List PV → List PyData
  | [] => []
  | x :: xs => PV.toD x :: PV.toDs xs
end
theorem toDs_map : ∀ xs : List PV, PV.toDs xs = xs.map PV.toD
  | [] => rfl
  | x :: xs => by simp only [PV.toDs, List.map_cons, toDs_map xs]
mutual
theorem toD_depth : ∀ x : PV, (PV.toD x).depth = PV.depth x
  | .non | .bl _ | .int _ | .str _ | .dct _ _ | .fn _ | .ref _ | .scr _ | .ty _ | .cls _ => by simp only [PV.toD, PyData.depth, PV.depth]
  | .tup xs => by simp only [PV.toD, PyData.depth, PV.depth, toDs_depth xs]
  | .lst xs => by simp only [PV.toD, PyData.depth, PV.depth, toDs_depth xs]
theorem toDs_depth : ∀ xs : List PV, PyData.depthAll (PV.toDs xs) = PV.depths xs
  | [] => by simp only [PV.toDs, PyData.depthAll, PV.depths]
  | x :: xs => by simp only [PV.toDs, PyData.depthAll, PV.depths, toD_depth x, toDs_depth xs]
end
mutual
theorem toD_eqv : ∀ x y : PV, PV.plain x = true → PV.plain y = true → PyData.eqv (PV.toD x) (PV.toD y) = PV.eqv x y
  | .tup xs, .tup ys, h, k => by
    simp only [PV.plain] at h k
    simp only [PV.toD, PyData.eqv, PV.eqv, toDs_eqv xs ys h k]
  | .lst xs, .lst ys, h, k => by
    simp only [PV.plain] at h k
    simp only [PV.toD, PyData.eqv, PV.eqv, toDs_eqv xs ys h k]
  | x, y, h, k => by
    cases x <;> cases y <;> first | (simp [PV.plain] at h; done) | (simp [PV.plain] at k; done) | (simp only [PV.toD, PyData.eqv, PV.eqv]; done) | skip
    · rename_i xs ys
      simp only [PV.plain] at h k
      simp only [PV.toD, PyData.eqv, PV.eqv, toDs_eqv xs ys h k]
    · rename_i xs ys
      simp only [PV.plain] at h k
      simp only [PV.toD, PyData.eqv, PV.eqv, toDs_eqv xs ys h k]
theorem toDs_eqv : ∀ xs ys : List PV, PV.plains xs = true → PV.plains ys = true → PyData.eqvAll (PV.toDs xs) (PV.toDs ys) = PV.eqvs xs ys
  | [], [], _, _ => by simp only [PV.toDs, PyData.eqvAll, PV.eqvs]
  | [], _ :: _, _, _ => by simp only [PV.toDs, PyData.eqvAll, PV.eqvs]
  | _ :: _, [], _, _ => by simp only [PV.toDs, PyData.eqvAll, PV.eqvs]
  | x :: xs, y :: ys, h, k => by
    simp only [PV.plains, Bool.and_eq_true] at h k
    simp only [PV.toDs, PyData.eqvAll, PV.eqvs, toD_eqv x y h.1 k.1, toDs_eqv xs ys h.2 k.2]
end

/-! ### how values lie -/
mutual
inductive Rep (K : PySem.W.Frag) (fa : Nat → Option Addr) (F : Hp) (μ : List Addr) : V → PV → Prop
  | non : Rep K fa F μ .non .non
  | bl (b : Bool) : Rep K fa F μ (.bl b) (.bl b)
  | int (i : Int) : Rep K fa F μ (.int i) (.int i)
  | str (x : Str) (h : PyData.strOk x = true) (hl : x.length ≤ sizeLine) : Rep K fa F μ (.str x) (.str x)
  | tup {a : Addr} {vs : List V} {xs : List PV} (h : SqT K F a vs) (hl : vs.length ≤ sizeLine) (r : Reps K fa F μ vs xs) : Rep K fa F μ (.ref a) (.tup xs)
  | lst {a : Addr} {vs : List V} {xs : List PV} (h : F a = some (HO.lst vs)) (hl : vs.length ≤ sizeLine) (r : Reps K fa F μ vs xs) : Rep K fa F μ (.ref a) (.lst xs)
  | ty (n : String) : Rep K fa F μ (.ty n) (.ty n)
  | scr {a : Addr} {vs : List V} {xs : List PV} (h : SqL K F a vs) (hl : vs.length ≤ sizeLine) (r : Reps K fa F μ vs xs) : Rep K fa F μ (.ref a) (.scr xs)
  | fn {k : Nat} {a : Addr} (h : fa k = some a) : Rep K fa F μ (.ref a) (.fn k)
  | ref {n : Nat} {a : Addr} (h : μ[n]? = some a) : Rep K fa F μ (.ref a) (.ref n)
inductive Reps (K : PySem.W.Frag) (fa : Nat → Option Addr) (F : Hp) (μ : List Addr) : List V → List PV → Prop
  | nil : Reps K fa F μ [] []
  | cons {v : V} {x : PV} {vs : List V} {xs : List PV} (h : Rep K fa F μ v x) (t : Reps K fa F μ vs xs) : Reps K fa F μ (v :: vs) (x :: xs)
end
theorem sqT_same {K : PySem.W.Frag} {H H' : Hp} {a : Addr} {xs : List V} (e : Same H H') (h : SqT K H a xs) : SqT K H' a xs := by
  rcases h with (h | ⟨o, h⟩) | h
  · exact .inl (.inl (e _ _ h))
  · exact .inl (.inr ⟨o, e _ _ h⟩)
  · exact .inr h
section
variable {K : PySem.W.Frag} {fa : Nat → Option Addr} {F F' : Hp} {μ μ' : List Addr}
mutual
theorem Rep.mono (e : Same F F') (m : ∃ t, μ' = μ ++ t) : ∀ (x : PV) (v : V), Rep K fa F μ v x → Rep K fa F' μ' v x
  | .non, _, h => by cases h; exact .non
  | .bl _, _, h => by cases h; exact .bl _
  | .int _, _, h => by cases h; exact .int _
  | .str _, _, h => by cases h with | str _ h hl => exact .str _ h hl
  | .tup xs, _, h => by cases h with | tup h hl r => exact .tup (sqT_same e h) hl (Reps.mono e m xs _ r)
  | .lst xs, _, h => by cases h with | lst h hl r => exact .lst (e _ _ h) hl (Reps.mono e m xs _ r)
  | .scr xs, _, h => by cases h with | scr h hl r => exact .scr (e.seq h) hl (Reps.mono e m xs _ r)
  | .dct _ _, _, h => by cases h
  | .fn _, _, h => by cases h with | fn h => exact .fn h
  | .ty _, _, h => by cases h; exact .ty _
  | .cls _, _, h => by cases h
  | .ref n, _, h => by
    cases h with
    | ref h =>
      obtain ⟨t, rfl⟩ := m
      refine .ref ?_
      rw [List.getElem?_append_left (List.getElem?_eq_some_iff.mp h).1]
      exact h
theorem Reps.mono (e : Same F F') (m : ∃ t, μ' = μ ++ t) : ∀ (xs : List PV) (vs : List V), Reps K fa F μ vs xs → Reps K fa F' μ' vs xs
  | [], _, h => by cases h; exact .nil
  | x :: xs, _, h => by cases h with | cons h t => exact .cons (Rep.mono e m x _ h) (Reps.mono e m xs _ t)
end
theorem Reps.length : ∀ {vs : List V} {xs : List PV}, Reps K fa F μ vs xs → vs.length = xs.length
  | _, _, .nil => rfl
  | _, _, .cons _ t => by simp only [List.length_cons, Reps.length t]
theorem Reps.get : ∀ {vs : List V} {xs : List PV} {i : Nat} {x : PV}, Reps K fa F μ vs xs → xs[i]? = some x → ∃ v, vs[i]? = some v ∧ Rep K fa F μ v x
  | _, _, _, _, .nil, e => by simp at e
  | _, _, 0, _, .cons h _, e => by simp at e; subst e; exact ⟨_, rfl, h⟩
  | _, _, i + 1, x, .cons _ t, e => by
    obtain ⟨v, h1, h2⟩ := Reps.get (i := i) (x := x) t (by simpa using e)
    exact ⟨v, by simpa using h1, h2⟩
theorem Reps.get' : ∀ {vs : List V} {xs : List PV} {i : Nat} {v : V}, Reps K fa F μ vs xs → vs[i]? = some v → ∃ x, xs[i]? = some x ∧ Rep K fa F μ v x
  | _, _, _, _, .nil, e => by simp at e
  | _, _, 0, _, .cons h _, e => by simp at e; subst e; exact ⟨_, rfl, h⟩
  | _, _, i + 1, v, .cons _ t, e => by
    obtain ⟨x, h1, h2⟩ := Reps.get' (i := i) (v := v) t (by simpa using e)
    exact ⟨x, by simpa using h1, h2⟩
theorem Reps.append : ∀ {vs ws : List V} {xs ys : List PV}, Reps K fa F μ vs xs → Reps K fa F μ ws ys → Reps K fa F μ (vs ++ ws) (xs ++ ys)
  | _, _, _, _, .nil, h => h
  | _, _, _, _, .cons h t, k => .cons h (Reps.append t k)
theorem Reps.take : ∀ {vs : List V} {xs : List PV} (n : Nat), Reps K fa F μ vs xs → Reps K fa F μ (vs.take n) (xs.take n)
  | _, _, 0, _ => .nil
  | _, _, _ + 1, .nil => .nil
  | _, _, n + 1, .cons h t => .cons h (Reps.take n t)
theorem Reps.drop : ∀ {vs : List V} {xs : List PV} (n : Nat), Reps K fa F μ vs xs → Reps K fa F μ (vs.drop n) (xs.drop n)
  | _, _, 0, h => h
  | _, _, _ + 1, .nil => .nil
  | _, _, n + 1, .cons _ t => Reps.drop n t
theorem Reps.set : ∀ {vs : List V} {xs : List PV} (n : Nat) {v : V} {x : PV}, Reps K fa F μ vs xs → Rep K fa F μ v x → Reps K fa F μ (vs.set n v) (xs.set n x)
  | _, _, _, _, _, .nil, _ => .nil
  | _, _, 0, _, _, .cons _ t, h => .cons h t
  | _, _, n + 1, _, _, .cons h t, k => .cons h (Reps.set n t k)
theorem Reps.dropLast {vs : List V} {xs : List PV} (h : Reps K fa F μ vs xs) : Reps K fa F μ vs.dropLast xs.dropLast := by
  rw [List.dropLast_eq_take, List.dropLast_eq_take, h.length]
  exact h.take _
theorem Reps.rep {vs : List V} {xs : List PV} (h : Reps K fa F μ vs xs) : ∀ n : Nat, Reps K fa F μ (List.replicate n vs).flatten (List.replicate n xs).flatten
  | 0 => .nil
  | n + 1 => by
    rw [List.replicate_succ, List.replicate_succ, List.flatten_cons, List.flatten_cons]
    exact h.append (Reps.rep h n)
mutual
/-- for the library's equality -/
theorem Rep.dp {H : Hp} (e : Same F H) : ∀ (x : PV) (v : V), PV.plain x = true → Rep K fa F μ v x → Dp K H v (PV.toD x) ∧ (PV.toD x).canLay0 = true
  | .non, _, _, h => by cases h; exact ⟨.non, by simp only [PV.toD, PyData.canLay0]⟩
  | .bl _, _, _, h => by cases h; exact ⟨.bl _, by simp only [PV.toD, PyData.canLay0]⟩
  | .int _, _, _, h => by cases h; exact ⟨.int _, by simp only [PV.toD, PyData.canLay0]⟩
  | .str _, _, _, h => by cases h with | str _ h hl => exact ⟨.str _, by simp only [PV.toD, PyData.canLay0, h]⟩
  | .tup xs, _, p, h => by
    cases h with
    | tup h hl r =>
      simp only [PV.plain] at p
      obtain ⟨q1, q2⟩ := Reps.dp e xs _ p r
      exact ⟨.tup (sqT_same e h) q1, by simp only [PV.toD, PyData.canLay0, q2]⟩
  | .lst xs, _, p, h => by
    cases h with
    | lst h hl r =>
      simp only [PV.plain] at p
      obtain ⟨q1, q2⟩ := Reps.dp e xs _ p r
      exact ⟨.lst (SqL.of (e _ _ h)) q1, by simp only [PV.toD, PyData.canLay0, q2]⟩
  | .dct _ _, _, p, _ => by simp [PV.plain] at p
  | .fn _, _, p, _ => by simp [PV.plain] at p
  | .ref _, _, p, _ => by simp [PV.plain] at p
  | .scr _, _, p, _ => by simp [PV.plain] at p
  | .ty _, _, p, _ => by simp [PV.plain] at p
  | .cls _, _, p, _ => by simp [PV.plain] at p
theorem Reps.dp {H : Hp} (e : Same F H) : ∀ (xs : List PV) (vs : List V), PV.plains xs = true → Reps K fa F μ vs xs → DpAll K H vs (PV.toDs xs) ∧ PyData.canLayAll0 (PV.toDs xs) = true
  | [], _, _, h => by cases h; exact ⟨.nil, by simp only [PV.toDs, PyData.canLayAll0]⟩
  | x :: xs, _, p, h => by
    cases h with
    | cons h t =>
      simp only [PV.plains, Bool.and_eq_true] at p
      obtain ⟨q1, q2⟩ := Rep.dp e x _ p.1 h
      obtain ⟨q3, q4⟩ := Reps.dp e xs _ p.2 t
      exact ⟨.cons q1 q3, by simp only [PV.toDs, PyData.canLayAll0, q2, q4, Bool.and_self]⟩
end
end

/-! ### worlds -/
/-- store objects -/
inductive SO where
  | lst (xs : List PV)
deriving Inhabited
abbrev Sto := List SO
/-- F: what is frozen; μ: where the store objects lie; H: all that is tracked -/
structure Wok (K : PySem.W.Frag) (fa : Nat → Option Addr) (F : Hp) (μ : List Addr) (H : Hp) (st : Sto) : Prop where
  sub : Same F H
  len : μ.length = st.length
  nd : μ.Nodup
  off : ∀ a ∈ μ, F a = none
  obj : ∀ (n : Nat) (a : Addr), μ[n]? = some a → ∃ (xs : List PV) (vs : List V), st[n]? = some (SO.lst xs) ∧ H a = some (HO.lst vs) ∧ Reps K fa F μ vs xs ∧ vs.length ≤ sizeLine ∧ PV.noRs xs = true
structure Ext (F : Hp) (μ : List Addr) (H F' : Hp) (μ' : List Addr) (H' : Hp) : Prop where
  fs : Same F F'
  ms : ∃ t, μ' = μ ++ t
  hs : ∀ a o, H a = some o → a ∉ μ → H' a = some o
  hm : ∀ a ∈ μ, H a ≠ none → H' a ≠ none
  fn : ∀ a, F a = none → F' a ≠ none → H a = none
  mn : ∀ a ∈ μ', a ∉ μ → H a = none
theorem Ext.refl (F : Hp) (μ : List Addr) (H : Hp) : Ext F μ H F μ H :=
  ⟨Same.refl _, ⟨[], by simp⟩, fun _ _ h _ => h, fun _ _ h => h, fun _ h k => absurd h k, fun _ h k => absurd h k⟩
theorem Ext.keep {F μ H F' μ' H'} (e : Ext F μ H F' μ' H') {a : Addr} (h : H' a = none) : H a = none := by
  cases q : H a with
  | none => rfl
  | some o =>
    by_cases m : a ∈ μ
    · exact absurd h (e.hm a m (by rw [q]; simp))
    · rw [e.hs a o q m] at h; cases h
theorem Ext.trans {F μ H F1 μ1 H1 F2 μ2 H2} (e : Ext F μ H F1 μ1 H1) (k : Ext F1 μ1 H1 F2 μ2 H2) : Ext F μ H F2 μ2 H2 where
  fs := e.fs.trans k.fs
  ms := by
    obtain ⟨t, rfl⟩ := e.ms
    obtain ⟨u, rfl⟩ := k.ms
    exact ⟨t ++ u, by simp⟩
  hs := fun a o h m => k.hs a o (e.hs a o h m) fun z => by
    have := e.mn a z m
    rw [h] at this; cases this
  hm := fun a m h => k.hm a (by obtain ⟨t, rfl⟩ := e.ms; exact List.mem_append_left _ m) (e.hm a m h)
  fn := fun a h h' => by
    cases q : F1 a with
    | some o => exact e.fn a h (by rw [q]; simp)
    | none => exact e.keep (k.fn a q h')
  mn := fun a h m => by
    by_cases q : a ∈ μ1
    · exact e.mn a q m
    · exact e.keep (k.mn a h q)
section
variable {K : PySem.W.Frag} {fa : Nat → Option Addr} {F F' : Hp} {μ μ' : List Addr} {H H' : Hp} {st : Sto}
/-- a new frozen object -/
theorem Wok.alloc (w : Wok K fa F μ H st) {p : Addr} (hp : H p = none) (o : HO) : Ext F μ H (upd F p o) μ (upd H p o) ∧ Wok K fa (upd F p o) μ (upd H p o) st ∧ (upd F p o) p = some o := by
  have hF : F p = none := w.sub.free hp
  have hm : p ∉ μ := fun z => by
    obtain ⟨n, hn⟩ := List.mem_iff_getElem?.mp z
    obtain ⟨xs, vs, _, h, _⟩ := w.obj n p hn
    rw [hp] at h; cases h
  have sF : Same F (upd F p o) := fun b u h => by rw [upd_ne (ne_of_none h hF)]; exact h
  refine ⟨⟨sF, ⟨[], by simp⟩, fun a u h _ => by rw [upd_ne (ne_of_none h hp)]; exact h, fun a m h => ?_, fun a h k => ?_, fun a h k => absurd h k⟩, ⟨fun b u h => ?_, w.len, w.nd, fun a m => ?_, fun n a hn => ?_⟩, upd_same⟩
  · rw [upd_ne (fun z => hm (by rw [← z]; exact m))]; exact h
  · by_cases z : a = p
    · rw [z]; exact hp
    · rw [upd_ne z] at k; exact absurd h k
  · by_cases z : b = p
    · subst z; rw [upd_same] at h ⊢; exact h
    · rw [upd_ne z] at h ⊢; exact w.sub b u h
  · rw [upd_ne (fun z => hm (by rw [← z]; exact m))]; exact w.off a m
  · obtain ⟨xs, vs, h1, h2, h3, h4, h5⟩ := w.obj n a hn
    have ha : a ≠ p := fun z => by rw [z, hp] at h2; cases h2
    exact ⟨xs, vs, h1, by rw [upd_ne ha]; exact h2, Reps.mono sF ⟨[], by simp⟩ _ _ h3, h4, h5⟩
/-- a new object that is not frozen -/
theorem Wok.own (w : Wok K fa F μ H st) {p : Addr} (hp : H p = none) (o : HO) : Ext F μ H F μ (upd H p o) ∧ Wok K fa F μ (upd H p o) st ∧ F p = none ∧ p ∉ μ := by
  have hF : F p = none := w.sub.free hp
  have hm : p ∉ μ := fun z => by
    obtain ⟨n, hn⟩ := List.mem_iff_getElem?.mp z
    obtain ⟨xs, vs, _, h, _⟩ := w.obj n p hn
    rw [hp] at h; cases h
  refine ⟨⟨Same.refl _, ⟨[], by simp⟩, fun a u h _ => by rw [upd_ne (ne_of_none h hp)]; exact h, fun a m h => ?_, fun a h k => absurd h k, fun a h k => absurd h k⟩, ⟨fun b u h => ?_, w.len, w.nd, w.off, fun n a hn => ?_⟩, hF, hm⟩
  · rw [upd_ne (fun z => hm (by rw [← z]; exact m))]; exact h
  · rw [upd_ne (ne_of_none h hF)]; exact w.sub b u h
  · obtain ⟨xs, vs, h1, h2, h3, h4, h5⟩ := w.obj n a hn
    have ha : a ≠ p := fun z => by rw [z, hp] at h2; cases h2
    exact ⟨xs, vs, h1, by rw [upd_ne ha]; exact h2, h3, h4, h5⟩
/-- an object that nobody else has is frozen -/
theorem Wok.freeze {F0 : Hp} {μ0 : List Addr} {H0 : Hp} (e : Ext F0 μ0 H0 F μ H) (w : Wok K fa F μ H st) {p : Addr} {o : HO} (h0 : H0 p = none) (hF : F p = none) (hm : p ∉ μ) (hH : H p = some o) :
    Ext F0 μ0 H0 (upd F p o) μ H ∧ Wok K fa (upd F p o) μ H st ∧ (upd F p o) p = some o ∧ Same F (upd F p o) := by
  have sF : Same F (upd F p o) := fun b u h => by rw [upd_ne (ne_of_none h hF)]; exact h
  refine ⟨⟨e.fs.trans sF, e.ms, e.hs, e.hm, fun a h k => ?_, e.mn⟩, ⟨fun b u h => ?_, w.len, w.nd, fun a m => ?_, fun n a hn => ?_⟩, upd_same, sF⟩
  · by_cases z : a = p
    · rw [z]; exact h0
    · rw [upd_ne z] at k; exact e.fn a h k
  · by_cases z : b = p
    · subst z; rw [upd_same] at h; cases h; exact hH
    · rw [upd_ne z] at h; exact w.sub b u h
  · rw [upd_ne (fun z => hm (by rw [← z]; exact m))]; exact w.off a m
  · obtain ⟨xs, vs, h1, h2, h3, h4, h5⟩ := w.obj n a hn
    exact ⟨xs, vs, h1, h2, Reps.mono sF ⟨[], by simp⟩ _ _ h3, h4, h5⟩
end
end BK

/-! BkB: what an expression comes to, as a function of the slots' values and the store; readings -/
namespace BK
open PySem PySem.Spec PyProof.Rows L2

inductive Res (α : Type) where
  | ok (a : α) (st : Sto)
  | exn (c : Nat) (fs : List PV) (st : Sto)
  | bad
def Res.bind {α β : Type} (r : Res α) (k : α → Sto → Res β) : Res β := match r with
  | .ok a st => k a st
  | .exn c fs st => .exn c fs st
  | .bad => .bad
def Res.opt {α : Type} (o : Option α) (st : Sto) : Res α := match o with
  | some a => .ok a st
  | none => .bad
abbrev PEnv := List (Option PV)
abbrev EM := PEnv → Sto → Res PV
abbrev BM := PEnv → Sto → Res Bool
abbrev AM := PEnv → Sto → Res (List PV)

/-- the parameters: the written part, where the defs and the classes lie -/
structure Gx where
  K : PySem.W.Frag
  fa : Nat → Option Addr
  fc : Nat → Option Addr
/-- an exception: its class's number, its fields' values (under the class's names) -/
def XRep (g : Gx) (F : Hp) (μ : List Addr) (H : Hp) (c : Nat) (fs : List PV) (cls : Value) (d : Option Addr) : Prop :=
  ∃ C, g.fc c = some C ∧ cls = .ref C ∧ ((fs = [] ∧ d = none) ∨ ∃ (da : Addr) (us : List (Str × V)), d = some da ∧ H da = some (.xd us) ∧ Reps g.K g.fa F μ (us.map (·.2)) fs)
def Env (g : Gx) (F : Hp) (μ : List Addr) (σ : L2.St) (ρ : PEnv) : Prop := σ.length = ρ.length ∧ ∀ (i : Nat) (x : PV), ρ[i]? = some (some x) → ∃ v, σ[i]? = some (some v) ∧ Rep g.K g.fa F μ v x
/-- what is asked behind a result -/
def Post (g : Gx) (F : Hp) (μ : List Addr) (H : Hp) (W : WX) (σ : L2.St) {α : Type} (r : Res α) (k : α → Sto → Hp → List Addr → Hp → Prop) : Prop := match r with
  | .ok a st => ∀ F' μ' H', Ext F μ H F' μ' H' → Wok g.K g.fa F' μ' H' st → k a st F' μ' H'
  | .exn c fs st => ∀ F' μ' H' cls d, Ext F μ H F' μ' H' → Wok g.K g.fa F' μ' H' st → XRep g F' μ' H' c fs cls d → W cls d σ H'
  | .bad => False
section
variable {g : Gx} {F F1 : Hp} {μ μ1 : List Addr} {H H1 : Hp} {W : WX} {σ : L2.St} {α β : Type}
theorem Post.shift {r : Res α} {k : α → Sto → Hp → List Addr → Hp → Prop} (e : Ext F μ H F1 μ1 H1) (h : Post g F μ H W σ r k) : Post g F1 μ1 H1 W σ r k := by
  cases r with
  | ok a st => exact fun F' μ' H' e' w => h F' μ' H' (e.trans e') w
  | exn c fs st => exact fun F' μ' H' cls d e' w x => h F' μ' H' cls d (e.trans e') w x
  | bad => exact h
theorem Post.bind {r : Res α} {f : α → Sto → Res β} {k : β → Sto → Hp → List Addr → Hp → Prop} (h : Post g F μ H W σ (r.bind f) k) :
    Post g F μ H W σ r fun a st F1 μ1 H1 => Post g F1 μ1 H1 W σ (f a st) k := by
  cases r with
  | ok a st => exact fun F' μ' H' e w => Post.shift e h
  | exn c fs st => exact h
  | bad => exact h
theorem Post.imp {r : Res α} {k k' : α → Sto → Hp → List Addr → Hp → Prop} (h : Post g F μ H W σ r k) (i : ∀ a st F' μ' H', Ext F μ H F' μ' H' → Wok g.K g.fa F' μ' H' st → k a st F' μ' H' → k' a st F' μ' H') : Post g F μ H W σ r k' := by
  cases r with
  | ok a st => exact fun F' μ' H' e w => i _ _ _ _ _ e w (h F' μ' H' e w)
  | exn c fs st => exact h
  | bad => exact h
theorem Post.impE {r : Res α} {k k' : α → Sto → Hp → List Addr → Hp → Prop} (h : Post g F μ H W σ r k) (i : ∀ a st F' μ' H', r = .ok a st → Ext F μ H F' μ' H' → Wok g.K g.fa F' μ' H' st → k a st F' μ' H' → k' a st F' μ' H') : Post g F μ H W σ r k' := by
  cases r with
  | ok a st => exact fun F' μ' H' e w => i _ _ _ _ _ rfl e w (h F' μ' H' e w)
  | exn c fs st => exact h
  | bad => exact h
theorem Post.later {r : Res α} {k : α → Sto → Hp → List Addr → Hp → Prop} (h : Post g F μ H W σ r k) : Post g F μ H W σ r fun a st F1 μ1 H1 => ∀ F' μ' H', Ext F1 μ1 H1 F' μ' H' → Wok g.K g.fa F' μ' H' st → k a st F' μ' H' := by
  cases r with
  | ok a st => exact fun F1 μ1 H1 e w F' μ' H' e' w' => h F' μ' H' (e.trans e') w'
  | exn c fs st => exact h
  | bad => exact h
theorem Post.opt {o : Option α} {st : Sto} {k : α → Sto → Hp → List Addr → Hp → Prop} (h : Post g F μ H W σ (Res.opt o st) k) : ∃ a, o = some a ∧ ∀ F' μ' H', Ext F μ H F' μ' H' → Wok g.K g.fa F' μ' H' st → k a st F' μ' H' := by
  cases o with
  | some a => exact ⟨a, rfl, h⟩
  | none => exact h.elim
theorem Env.mono {ρ : PEnv} (e : Ext F μ H F1 μ1 H1) (h : Env g F μ σ ρ) : Env g F1 μ1 σ ρ := ⟨h.1, fun i x q =>
  let ⟨v, h1, h2⟩ := h.2 i x q
  ⟨v, h1, Rep.mono e.fs e.ms x v h2⟩⟩
theorem Rep.ext {v : V} {x : PV} (e : Ext F μ H F1 μ1 H1) (h : Rep g.K g.fa F μ v x) : Rep g.K g.fa F1 μ1 v x := Rep.mono e.fs e.ms x v h
theorem Reps.ext {vs : List V} {xs : List PV} (e : Ext F μ H F1 μ1 H1) (h : Reps g.K g.fa F μ vs xs) : Reps g.K g.fa F1 μ1 vs xs := Reps.mono e.fs e.ms xs vs h
end

/-- readings: a value; a truth; values; a new list that nobody else has -/
def tE (g : Gx) (W : WX) (m : EM) : TE := fun σ H Q => ∃ F μ st ρ, Wok g.K g.fa F μ H st ∧ Env g F μ σ ρ ∧ Post g F μ H W σ (m ρ st) fun x _ F' μ' H' => ∀ v, Rep g.K g.fa F' μ' v x → Q v H'
def tT (g : Gx) (W : WX) (m : BM) : TT := fun σ H Q => ∃ F μ st ρ, Wok g.K g.fa F μ H st ∧ Env g F μ σ ρ ∧ Post g F μ H W σ (m ρ st) fun b _ _ _ H' => Q b H'
def tA (g : Gx) (W : WX) (m : AM) : TA := fun σ H Q => ∃ F μ st ρ, Wok g.K g.fa F μ H st ∧ Env g F μ σ ρ ∧ Post g F μ H W σ (m ρ st) fun xs _ F' μ' H' => ∀ vs, Reps g.K g.fa F' μ' vs xs → Q vs H'
def tL (g : Gx) (W : WX) (m : AM) : TE := fun σ H Q => ∃ F μ st ρ, Wok g.K g.fa F μ H st ∧ Env g F μ σ ρ ∧ Post g F μ H W σ (m ρ st) fun xs _ F' μ' H' =>
  ∀ (a : Addr) (vs : List V), H a = none → F' a = none → a ∉ μ' → H' a = some (.lst vs) → vs.length ≤ sizeLine → Reps g.K g.fa F' μ' vs xs → Q (.ref a) H'
section
variable {X : Cx} {e : Expr}
theorem PE.mono {t t' : TE} (h : PE X e t) (i : ∀ σ H Q, t' σ H Q → t σ H Q) : PE X e t' := ⟨fun pins s σ H Q I q => h.run pins s σ H Q I (i _ _ _ q)⟩
theorem PT.mono {t t' : TT} (h : PT X e t) (i : ∀ σ H Q, t' σ H Q → t σ H Q) : PT X e t' := ⟨fun pins s σ H Q I q => h.run pins s σ H Q I (i _ _ _ q)⟩
theorem PA.mono {es : List Expr} {t t' : TA} (h : PA X es t) (i : ∀ σ H Q, t' σ H Q → t σ H Q) : PA X es t' := ⟨fun pos pins s σ H Q I q => h.run pos pins s σ H Q I (i _ _ _ q)⟩
end

/-! ### names, constants, displays -/
def mVar (i : Nat) : EM := fun ρ st => match ρ[i]? with
  | some (some x) => .ok x st
  | _ => .bad
def mC (x : PV) : EM := fun _ st => .ok x st
def aNil : AM := fun _ st => .ok [] st
def aCons (m : EM) (n : AM) : AM := fun ρ st => (m ρ st).bind fun x st1 => (n ρ st1).bind fun xs st2 => .ok (x :: xs) st2
def mTup (n : AM) : EM := fun ρ st => (n ρ st).bind fun xs st1 => .ok (.tup xs) st1
def mFz (n : AM) : EM := fun ρ st => (n ρ st).bind fun xs st1 => .ok (.lst xs) st1
section
variable {X : Cx} {g : Gx} {W : WX} {e : Expr} {pos : Pos}
theorem se_var {i : Nat} {x : Str} (hN : X.N[i]? = some x) (hv : Vis X.env.scope x) (hd : (x == ("__debug__" : Str)) = false) (hcd : (x == ("__classdict__" : Str)) = false) : PE X (.Name x pos) (tE g W (mVar i)) := by
  refine PE.mono (pe_var hN hv hd hcd) fun σ H Q h => ?_
  obtain ⟨F, μ, st, ρ, w, en, h⟩ := h
  unfold mVar at h
  cases q : ρ[i]? with
  | none => rw [q] at h; exact h.elim
  | some o =>
    cases o with
    | none => rw [q] at h; exact h.elim
    | some x =>
      rw [q] at h
      obtain ⟨v, h1, h2⟩ := en.2 i x q
      exact ⟨v, h1, h F μ H (Ext.refl ..) w v h2⟩
theorem se_const {v : V} {x : PV} (h : PE X e (tC v)) (r : ∀ F μ, Rep g.K g.fa F μ v x) : PE X e (tE g W (mC x)) := by
  refine PE.mono h fun σ H Q h => ?_
  obtain ⟨F, μ, st, ρ, w, en, h⟩ := h
  exact h F μ H (Ext.refl ..) w v (r F μ)
theorem sa_nil : PA X [] (tA g W aNil) := by
  refine PA.mono pa_nil fun σ H Q h => ?_
  obtain ⟨F, μ, st, ρ, w, en, h⟩ := h
  exact h F μ H (Ext.refl ..) w [] .nil
theorem sa_cons {es : List Expr} {m : EM} {n : AM} (he : PE X e (tE g W m)) (hr : PA X es (tA g W n)) (hs : starEach (e :: es) X.env = (false, eval e X.env) :: starEach es X.env) : PA X (e :: es) (tA g W (aCons m n)) := by
  refine PA.mono (pa_cons he hr hs) fun σ H Q h => ?_
  obtain ⟨F, μ, st, ρ, w, en, h⟩ := h
  refine ⟨F, μ, st, ρ, w, en, (Post.bind h).imp fun x st1 F1 μ1 H1 e1 w1 h1 v rv => ?_⟩
  refine ⟨F1, μ1, st1, ρ, w1, en.mono e1, (Post.bind h1).imp fun xs st2 F2 μ2 H2 e2 w2 h2 vs rvs => ?_⟩
  exact h2 F2 μ2 H2 (Ext.refl ..) w2 (v :: vs) (.cons (Rep.ext e2 rv) rvs)
/-- a bound on how many values come -/
def Few (n : AM) (k : Nat) : Prop := ∀ ρ st xs st', n ρ st = .ok xs st' → xs.length ≤ k
theorem few_nil : Few aNil 0 := fun _ _ _ _ h => by
  unfold aNil at h
  cases h
  exact Nat.le_refl _
theorem few_cons {m : EM} {n : AM} {k : Nat} (h : Few n k) : Few (aCons m n) (k + 1) := fun ρ st xs st' q => by
  unfold aCons at q
  cases e1 : m ρ st with
  | bad => rw [e1] at q; cases q
  | exn c fs s1 => rw [e1] at q; cases q
  | ok x s1 =>
    rw [e1] at q
    change (n ρ s1).bind _ = _ at q
    cases e2 : n ρ s1 with
    | bad => rw [e2] at q; cases q
    | exn c fs s2 => rw [e2] at q; cases q
    | ok ys s2 =>
      rw [e2] at q
      change Res.ok (x :: ys) s2 = _ at q
      cases q
      exact Nat.succ_le_succ (h ρ s1 ys st' e2)
theorem se_tup {es : List Expr} {n : AM} {k j : Nat} (h : PA X es (tA g W n)) (hf : Few n j) (hj : j ≤ sizeLine) : PE X (.Tuple es k pos) (tE g W (mTup n)) := by
  refine PE.mono (L2.pe_tup h) fun σ H Q h => ?_
  obtain ⟨F, μ, st, ρ, w, en, h⟩ := h
  refine ⟨F, μ, st, ρ, w, en, (Post.bind h).impE fun xs st1 F1 μ1 H1 eq e1 w1 h1 vs rvs => ?_⟩
  have hl : vs.length ≤ sizeLine := by rw [rvs.length]; exact Nat.le_trans (hf _ _ _ _ eq) hj
  refine ⟨hl, fun p hp => ?_⟩
  obtain ⟨e2, w2, q2⟩ := w1.alloc hp (.tup vs)
  exact h1 _ _ _ e2 w2 _ (.tup (.inl (.inl q2)) hl (Reps.ext e2 rvs))
/-- a new list, nobody else's -/
theorem sl_lst {es : List Expr} {n : AM} {j : Nat} (h : PA X es (tA g W n)) (hf : Few n j) (hj : j ≤ sizeLine) : PE X (.List es pos) (tL g W n) := by
  refine PE.mono (L2.pe_lst h) fun σ H Q h => ?_
  obtain ⟨F, μ, st, ρ, w, en, h⟩ := h
  refine ⟨F, μ, st, ρ, w, en, h.later.impE fun xs st1 F1 μ1 H1 eq e1 w1 h1 vs rvs => ?_⟩
  have hl : vs.length ≤ sizeLine := by rw [rvs.length]; exact Nat.le_trans (hf _ _ _ _ eq) hj
  refine ⟨hl, fun p hp => ?_⟩
  obtain ⟨e2, w2, q1, q2⟩ := w1.own hp (.lst vs)
  exact h1 _ _ _ e2 w2 p vs (e1.keep hp) q1 q2 upd_same hl rvs
/-- .. as a value: from now on it stays as it is -/
theorem se_fz {n : AM} (h : PE X e (tL g W n)) : PE X e (tE g W (mFz n)) := by
  refine PE.mono h fun σ H Q h => ?_
  obtain ⟨F, μ, st, ρ, w, en, h⟩ := h
  unfold mFz at h
  refine ⟨F, μ, st, ρ, w, en, ?_⟩
  cases q : n ρ st with
  | bad => rw [q] at h; exact h.elim
  | exn c fs s1 => rw [q] at h; exact h
  | ok xs st1 =>
    rw [q] at h
    intro F1 μ1 H1 e1 w1 a vs h0 hF hm hH hl r
    obtain ⟨e2, w2, q2, s2⟩ := Wok.freeze e1 w1 h0 hF hm hH
    exact h _ _ _ e2 w2 _ (.lst q2 hl (Reps.mono s2 ⟨[], by simp⟩ _ _ r))
end

/-! ### operators by values -/
def VOp (g : Gx) (r : R2) (f : PV → PV → Option PV) : Prop := ∀ (F : Hp) (μ : List Addr) (H : Hp) (st : Sto) (x y : V) (px py z : PV) (Q : VK), Wok g.K g.fa F μ H st → Rep g.K g.fa F μ x px → Rep g.K g.fa F μ y py → f px py = some z →
  (∀ F' H', Ext F μ H F' μ H' → Wok g.K g.fa F' μ H' st → ∀ v, Rep g.K g.fa F' μ v z → Q v H') → r x y H Q
def mBin (f : PV → PV → Option PV) (ma mb : EM) : EM := fun ρ st => (ma ρ st).bind fun x st1 => (mb ρ st1).bind fun y st2 => Res.opt (f x y) st2
section
variable {X : Cx} {g : Gx} {W : WX} {a b : Expr} {pos : Pos} {ma mb : EM}
theorem tOp_of {r : R2} {f : PV → PV → Option PV} (hf : VOp g r f) {σ : L2.St} {H : Hp} {Q : VK} (h : tE g W (mBin f ma mb) σ H Q) : tOp r (tE g W ma) (tE g W mb) σ H Q := by
  obtain ⟨F, μ, st, ρ, w, en, h⟩ := h
  refine ⟨F, μ, st, ρ, w, en, (Post.bind h).imp fun x st1 F1 μ1 H1 e1 w1 h1 v rv => ?_⟩
  refine ⟨F1, μ1, st1, ρ, w1, en.mono e1, (Post.bind h1).imp fun y st2 F2 μ2 H2 e2 w2 h2 u ru => ?_⟩
  obtain ⟨z, hz, h3⟩ := Post.opt h2
  exact hf F2 μ2 H2 st2 v u x y z Q w2 (Rep.ext e2 rv) ru hz fun F' H' e' w' v' r' => h3 F' μ2 H' e' w' v' r'
theorem se_bin {op : Operator} {r : R2} {f : PV → PV → Option PV} (ho : OpR X (binaryOp op) r) (hf : VOp g r f) (ha : PE X a (tE g W ma)) (hb : PE X b (tE g W mb)) : PE X (.BinOp a op b pos) (tE g W (mBin f ma mb)) :=
  PE.mono (pe_op ho ha hb) fun _ _ _ h => tOp_of hf h
theorem se_cmp {op : CmpOp} {r : R2} {f : PV → PV → Option PV} (ho : OpR X (compareOp op) r) (hf : VOp g r f) (ha : PE X a (tE g W ma)) (hb : PE X b (tE g W mb)) (hm : behindInMarks op b = false) : PE X (.Compare a [op] [b] pos) (tE g W (mBin f ma mb)) :=
  PE.mono (pe_cmpR ho ha hb hm) fun _ _ _ h => tOp_of hf h
theorem se_ix {r : R2} {f : PV → PV → Option PV} (ho : IxR X r) (hf : VOp g r f) (ha : PE X a (tE g W ma)) (hb : PE X b (tE g W mb)) (hs : PlainIx b) : PE X (.Subscript a b pos) (tE g W (mBin f ma mb)) :=
  PE.mono (pe_ix ho ha hb hs) fun _ _ _ h => tOp_of hf h
end
theorem VOp.or {g : Gx} {r r' : R2} {f f' : PV → PV → Option PV} (h : VOp g r f) (h' : VOp g r' f') : VOp g (fun x y H Q => r x y H Q ∨ r' x y H Q) fun a b => (f a b).or (f' a b) := by
  intro F μ H st x y px py z Q w rx ry hz k
  cases q : f px py with
  | some u =>
    dsimp only at hz
    rw [q] at hz
    exact .inl (h F μ H st x y px py z Q w rx ry (by rw [q]; exact hz) k)
  | none =>
    dsimp only at hz
    rw [q] at hz
    exact .inr (h' F μ H st x y px py z Q w rx ry hz k)
theorem VOp.imp {g : Gx} {r : R2} {f f' : PV → PV → Option PV} (h : VOp g r f) (i : ∀ a b z, f' a b = some z → f a b = some z) : VOp g r f' := fun F μ H st x y px py z Q w rx ry hz k => h F μ H st x y px py z Q w rx ry (i _ _ _ hz) k
def iI (C : Int → Int → Bool) (f : Int → Int → PV) : PV → PV → Option PV
  | .int i, .int j => if C i j = true then some (f i j) else none
  | _, _ => none
section
variable {g : Gx}
/-- two ints -/
theorem vo_int {C : Int → Int → Prop} {D : Int → Int → Bool} {f : Int → Int → V} {p : Int → Int → PV} (hC : ∀ i j, D i j = true → C i j) (hp : ∀ F μ i j, Rep g.K g.fa F μ (f i j) (p i j)) : VOp g (rI C f) (iI D p) := by
  intro F μ H st x y px py z Q w rx ry hz k
  cases rx <;> try (simp [iI] at hz; done)
  cases ry <;> try (simp [iI] at hz; done)
  rename_i i j
  simp only [iI] at hz
  split at hz
  · rename_i c
    cases hz
    exact ⟨i, j, rfl, rfl, hC i j c, k F H (Ext.refl ..) w _ (hp _ _ i j)⟩
  · cases hz
theorem vo_int0 {f : Int → Int → V} {p : Int → Int → PV} (hp : ∀ F μ i j, Rep g.K g.fa F μ (f i j) (p i j)) : VOp g (rI0 f) (iI (fun _ _ => true) p) := by
  intro F μ H st x y px py z Q w rx ry hz k
  cases rx <;> try (simp [iI] at hz; done)
  cases ry <;> try (simp [iI] at hz; done)
  rename_i i j
  simp only [iI, if_true, Option.some.injEq] at hz
  subst hz
  exact ⟨i, j, rfl, rfl, k F H (Ext.refl ..) w _ (hp _ _ i j)⟩
theorem strOk_append {a b : Str} (h : PyData.strOk a = true) (k : PyData.strOk b = true) : PyData.strOk (a ++ b) = true := by
  unfold PyData.strOk at h k ⊢
  show (a.cps ++ b.cps).all _ = true
  rw [Array.all_append, h, k]
  rfl
theorem str_length_append (a b : Str) : (a ++ b).length = a.length + b.length := by
  show (a.cps ++ b.cps).size = _
  rw [Array.size_append]
  rfl
def addS : PV → PV → Option PV
  | .str a, .str b => if a.length + b.length ≤ sizeLine then some (.str (a ++ b)) else none
  | _, _ => none
def addT : PV → PV → Option PV
  | .tup xs, .tup ys => if xs.length + ys.length ≤ sizeLine then some (.tup (xs ++ ys)) else none
  | _, _ => none
def addL : PV → PV → Option PV
  | .lst xs, .lst ys => if xs.length + ys.length ≤ sizeLine then some (.lst (xs ++ ys)) else none
  | _, _ => none
theorem vo_addS : VOp g (fun x y H Q => ∃ i j, x = .str i ∧ y = .str j ∧ i.length + j.length ≤ sizeLine ∧ Q (.str (i ++ j)) H) addS := by
  intro F μ H st x y px py z Q w rx ry hz k
  cases rx <;> try (simp [addS] at hz; done)
  cases ry <;> try (simp [addS] at hz; done)
  rename_i i hi hil j hj hjl
  simp only [addS] at hz
  split at hz
  · rename_i c
    cases hz
    exact ⟨i, j, rfl, rfl, c, k F H (Ext.refl ..) w _ (.str _ (strOk_append hi hj) (by rw [str_length_append]; exact c))⟩
  · cases hz
theorem vo_addT : VOp g (rCatA g.K) addT := by
  intro F μ H st x y px py z Q w rx ry hz k
  cases rx <;> try (simp [addT] at hz; done)
  cases ry <;> try (simp [addT] at hz; done)
  rename_i a vs xs h1 l1 r1 b ws ys h2 l2 r2
  simp only [addT] at hz
  split at hz
  · rename_i c
    cases hz
    have e1 := r1.length
    have e2 := r2.length
    have hz : vs.length + ws.length ≤ sizeLine := by omega
    refine ⟨a, b, vs, ws, rfl, rfl, sqT_same w.sub h1, sqT_same w.sub h2, hz, fun q => ?_, fun _ q => ?_, fun _ _ p hp => ?_⟩
    · subst q
      cases r1
      exact k F H (Ext.refl ..) w _ (.tup h2 l2 r2)
    · subst q
      cases r2
      rw [List.append_nil] at k
      exact k F H (Ext.refl ..) w _ (.tup h1 l1 r1)
    · obtain ⟨e, w2, q2⟩ := w.alloc hp (.tup (vs ++ ws))
      exact k _ _ e w2 _ (.tup (.inl (.inl q2)) (by rw [List.length_append]; exact hz) ((Reps.ext e r1).append (Reps.ext e r2)))
  · cases hz
theorem vo_addL : VOp g rCat addL := by
  intro F μ H st x y px py z Q w rx ry hz k
  cases rx <;> try (simp [addL] at hz; done)
  cases ry <;> try (simp [addL] at hz; done)
  rename_i a vs xs h1 l1 r1 b ws ys h2 l2 r2
  simp only [addL] at hz
  split at hz
  · rename_i c
    cases hz
    have e1 := r1.length
    have e2 := r2.length
    have hz : vs.length + ws.length ≤ sizeLine := by omega
    refine ⟨a, b, vs, ws, rfl, rfl, w.sub _ _ h1, w.sub _ _ h2, hz, fun p hp => ?_⟩
    obtain ⟨e, w2, q2⟩ := w.alloc hp (.lst (vs ++ ws))
    exact k _ _ e w2 _ (.lst q2 (by rw [List.length_append]; exact hz) ((Reps.ext e r1).append (Reps.ext e r2)))
  · cases hz
end
end BK

/-! BkC0: tuple * 0, tuple * 1 -/
namespace BK
open PySem PySem.Spec PyProof.Rows L2

/-- tuple * 1: the same object -/
theorem mul_one (l : Addr) (its : Array Value) (n : Nat) (dd : Option Addr) (sl : Array (Option Value)) (u : Tok) :
    Meets (Builtin.«tuple.__mul__» ⟨[.ref l, .int 1 u], []⟩) (fun _ R s => s.heap.get? l = some { cls := .type "tuple", dict := dd, data := .seq its n, slots := sl } ∧ R (.ok (.ret (Value.ref l))) s) :=
  .of_wp fun prog w A R s h => by
    obtain ⟨hp, g, d, tk, os⟩ := s
    obtain ⟨hl, h⟩ := h
    have f1 := AutoSeq1.idx_int
    have c0 : (decide ((1 : Int) < -(2 ^ 63)) || decide ((1 : Int) ≥ 2 ^ 63)) = false := by decide
    have c1 : (its.isEmpty || (1 : Int) == 1) = true := by simp
    wp_walk using wpAny_loadPart' hl
    repeat (first
      | (refine wpAny_ite_false (decide_eq_false (by rw [c0]; exact Bool.false_ne_true)) ?_; wp_walk using wpAny_loadPart' hl)
      | (refine wpAny_ite_true (decide_eq_true c1) ?_; wp_walk using wpAny_loadPart' hl))
    exact ⟨_, rfl, h⟩
/-- tuple * 0: a new empty tuple -/
theorem mul_zero (l : Addr) (its : Array Value) (n : Nat) (dd : Option Addr) (sl : Array (Option Value)) (u : Tok) (hi : its.isEmpty = false) :
    Meets (Builtin.«tuple.__mul__» ⟨[.ref l, .int 0 u], []⟩) (fun _ R s => s.heap.get? l = some { cls := .type "tuple", dict := dd, data := .seq its n, slots := sl } ∧
      R (.ok (.ret (Value.ref s.heap.objs.size))) { s with heap := s.heap.push { cls := Value.type "tuple", data := Data.seq #[] }, toks := s.toks }) :=
  .of_wp fun prog w A R s h => by
    obtain ⟨hp, g, d, tk, os⟩ := s
    obtain ⟨hl, h⟩ := h
    have f1 := AutoSeq1.idx_int
    have c0 : (decide ((0 : Int) < -(2 ^ 63)) || decide ((0 : Int) ≥ 2 ^ 63)) = false := by decide
    have c1 : (its.isEmpty || (0 : Int) == 1) = false := by rw [hi]; decide
    have c2 : (decide ((0 : Int) ≤ 0) || its.isEmpty) = true := by rw [hi]; decide
    wp_walk using wpAny_loadPart' hl
    repeat (first
      | (refine wpAny_ite_false (decide_eq_false (by rw [c0]; exact Bool.false_ne_true)) ?_; wp_walk using wpAny_loadPart' hl)
      | (refine wpAny_ite_false (decide_eq_false (by rw [c1]; exact Bool.false_ne_true)) ?_; wp_walk using wpAny_loadPart' hl)
      | (refine wpAny_ite_true (decide_eq_true c2) ?_; wp_walk using wpAny_loadPart' hl))
    repeat (first
      | (refine wpAny_ite_false (decide_eq_false (by decide)) ?_; wp_walk using wpAny_loadPart' hl))
    exact ⟨_, rfl, h⟩
def rRep1 (K : PySem.W.Frag) : R2 := fun x y H Q => ∃ l xs, x = .ref l ∧ y = .int 1 ∧ SqT K H l xs ∧ xs ≠ [] ∧ Q (.ref l) H
def rRep0 (K : PySem.W.Frag) : R2 := fun x y H Q => ∃ l xs, x = .ref l ∧ y = .int 0 ∧ SqT K H l xs ∧ xs ≠ [] ∧ ∀ p, H p = none → Q (.ref p) (upd H p (.tup []))
section
variable {X : Cx}
theorem op_rep1 : OpR X (binaryOp .Mult) (rRep1 X.K) := by
  intro pins s σ H x y v u Q I rx ry h
  obtain ⟨l, xs, rfl, rfl, hT, hne, q⟩ := h
  cases rx
  obtain ⟨t, rfl⟩ := ry
  obtain ⟨its, r, ⟨⟨cls, dd, data, sl⟩, ho, hc, n, hd⟩, hs⟩ := I.tuple hT
  simp only at hc hd
  subst hc hd
  refine wpAny_binaryOp_repeat_ref (T := "tuple") (U := "int") (by decide) ⟨_, ho, rfl⟩ (fun s' => typeIs_int s' 1 t) noFill_tuple_mul F.fills_int_mul F.slot_int_rmul repeat_tuple F.slot_int_index.lookup
    (call_meets F.slot_int_rmul (typeIs_int s 1 t) F.entry_int_rmul (F.args_int_rmul_2 _ _) (int_rmul_tuple 1 t l its.toArray n dd sl)
      ⟨ho, rfl, ⟨_, ho, rfl⟩, call_meets F.slot_tuple_mul ⟨_, ho, rfl⟩ F.entry_tuple_mul (F.args_tuple_mul_2 _ _) (mul_one l its.toArray n dd sl t) ⟨ho, ?_⟩⟩)
  exact ⟨.ref l, H, I, rfl, q⟩
theorem op_rep0 : OpR X (binaryOp .Mult) (rRep0 X.K) := by
  intro pins s σ H x y v u Q I rx ry h
  obtain ⟨l, xs, rfl, rfl, hT, hne, q⟩ := h
  cases rx
  obtain ⟨t, rfl⟩ := ry
  obtain ⟨its, r, ⟨⟨cls, dd, data, sl⟩, ho, hc, n, hd⟩, hs⟩ := I.tuple hT
  simp only at hc hd
  subst hc hd
  have hle : its.length = xs.length := r.length.symm
  have hi : its.toArray.isEmpty = false := by
    cases its with
    | nil => exact absurd (List.eq_nil_of_length_eq_zero hle.symm) hne
    | cons a b => rfl
  refine wpAny_binaryOp_repeat_ref (T := "tuple") (U := "int") (by decide) ⟨_, ho, rfl⟩ (fun s' => typeIs_int s' 0 t) noFill_tuple_mul F.fills_int_mul F.slot_int_rmul repeat_tuple F.slot_int_index.lookup
    (call_meets F.slot_int_rmul (typeIs_int s 0 t) F.entry_int_rmul (F.args_int_rmul_2 _ _) (int_rmul_tuple 0 t l its.toArray n dd sl)
      ⟨ho, rfl, ⟨_, ho, rfl⟩, call_meets F.slot_tuple_mul ⟨_, ho, rfl⟩ F.entry_tuple_mul (F.args_tuple_mul_2 _ _) (mul_zero l its.toArray n dd sl t hi) ⟨ho, ?_⟩⟩)
  refine ⟨.ref s.heap.objs.size, _, I.laid (t' := s.toks) (o := .tup []) (fun b ob z => Heap.get?_push_of_some _ z) (Nat.le_refl _) ?_, rfl, q _ (I.hok.fresh (Nat.le_refl _))⟩
  exact ⟨Nat.zero_le _, [], .nil, IsTup.new _ _⟩
end
section
variable {g : Gx}
def rep01 : PV → PV → Option PV
  | .tup xs, .int k => if xs ≠ [] ∧ k = 0 then some (.tup []) else if xs ≠ [] ∧ k = 1 then some (.tup xs) else none
  | _, _ => none
theorem vo_rep01 : VOp g (fun x y H Q => rRep0 g.K x y H Q ∨ rRep1 g.K x y H Q) rep01 := by
  intro F μ H st x y px py z Q w rx ry hz k
  cases rx <;> try (simp [rep01] at hz; done)
  cases ry <;> try (simp [rep01] at hz; done)
  rename_i a vs xs h1 l1 r1 n
  have e1 := r1.length
  simp only [rep01] at hz
  split at hz
  · rename_i c
    obtain ⟨c1, rfl⟩ := c
    cases hz
    have c1' : vs ≠ [] := fun q => c1 (by rw [q] at e1; exact List.eq_nil_of_length_eq_zero e1.symm)
    refine .inl ⟨a, vs, rfl, rfl, sqT_same w.sub h1, c1', fun p hp => ?_⟩
    obtain ⟨e, w2, q2⟩ := w.alloc hp (.tup [])
    exact k _ _ e w2 _ (.tup (.inl (.inl q2)) (Nat.zero_le _) .nil)
  · split at hz
    · rename_i c
      obtain ⟨c1, rfl⟩ := c
      cases hz
      have c1' : vs ≠ [] := fun q => c1 (by rw [q] at e1; exact List.eq_nil_of_length_eq_zero e1.symm)
      exact .inr ⟨a, vs, rfl, rfl, sqT_same w.sub h1, c1', k _ _ (Ext.refl ..) w _ (.tup h1 l1 r1)⟩
    · cases hz
end
end BK

/-! BkC: operators, comparisons, subscripts, slices, tests, by values -/
namespace BK
open PySem PySem.Spec PyProof.Rows L2

/-! ### + - * // % ** -/
def opAdd : PV → PV → Option PV
  | .int i, .int j => some (.int (i + j))
  | .str a, .str b => if a.length + b.length ≤ sizeLine then some (.str (a ++ b)) else none
  | .tup xs, .tup ys => if xs.length + ys.length ≤ sizeLine then some (.tup (xs ++ ys)) else none
  | .lst xs, .lst ys => if xs.length + ys.length ≤ sizeLine then some (.lst (xs ++ ys)) else none
  | _, _ => none
def opSub : PV → PV → Option PV
  | .int i, .int j => some (.int (i - j))
  | _, _ => none
def mulOk (i j : Int) : Bool := decide (-(2 ^ 64) < i ∧ i < 2 ^ 64) || decide (-(2 ^ 64) < j ∧ j < 2 ^ 64)
def opMul : PV → PV → Option PV
  | .int i, .int j => if mulOk i j = true then some (.int (i * j)) else none
  | .tup xs, .int k => if xs ≠ [] ∧ k = 0 then some (.tup []) else if xs ≠ [] ∧ k = 1 then some (.tup xs) else if xs ≠ [] ∧ 2 ≤ k ∧ k ≤ 1000 ∧ xs.length ≤ 1000 then some (.tup (List.replicate k.toNat xs).flatten) else none
  | _, _ => none
def opDiv : PV → PV → Option PV
  | .int i, .int j => if 0 < j ∧ j < 1073741824 then some (.int (i / j)) else none
  | _, _ => none
def opMod : PV → PV → Option PV
  | .int i, .int j => if 0 < j then some (.int (i % j)) else none
  | _, _ => none
def opPow : PV → PV → Option PV
  | .int i, .int j => if 0 ≤ j ∧ j ≤ 1000000 ∧ i.natAbs < 2 ^ 64 then some (.int (i ^ j.toNat)) else none
  | _, _ => none
section
variable {X : Cx} {g : Gx}
theorem vo_add : VOp g (fun x y H Q => rI0 (fun i j => .int (i + j)) x y H Q ∨ (∃ i j, x = .str i ∧ y = .str j ∧ i.length + j.length ≤ sizeLine ∧ Q (.str (i ++ j)) H) ∨ rCatA g.K x y H Q ∨ rCat x y H Q) opAdd :=
  VOp.imp (VOp.or (vo_int0 (p := fun i j => .int (i + j)) fun _ _ _ _ => .int _) (VOp.or vo_addS (VOp.or vo_addT vo_addL))) fun a b z h => by
    cases a <;> cases b <;> simp [opAdd] at h <;> simp [iI, addS, addT, addL, h]
theorem op_add4 : OpR X (binaryOp .Add) (fun x y H Q => rI0 (fun i j => .int (i + j)) x y H Q ∨ (∃ i j, x = .str i ∧ y = .str j ∧ i.length + j.length ≤ sizeLine ∧ Q (.str (i ++ j)) H) ∨ rCatA X.K x y H Q ∨ rCat x y H Q) :=
  op_add.or (op_add_str.or (op_catA.or op_cat))
theorem vo_sub : VOp g (rI0 fun i j => .int (i - j)) opSub := VOp.imp (vo_int0 (p := fun i j => .int (i - j)) fun _ _ _ _ => .int _) fun a b z h => by
  cases a <;> cases b <;> simp [opSub] at h <;> simp [iI, h]
def repT : PV → PV → Option PV
  | .tup xs, .int k => if xs ≠ [] ∧ 2 ≤ k ∧ k ≤ 1000 ∧ xs.length ≤ 1000 then some (.tup (List.replicate k.toNat xs).flatten) else none
  | _, _ => none
theorem vo_repT : VOp g (rRepT g.K) repT := by
  intro F μ H st x y px py z Q w rx ry hz k
  cases rx <;> try (simp [repT] at hz; done)
  cases ry <;> try (simp [repT] at hz; done)
  rename_i a vs xs h1 l1 r1 n
  simp only [repT] at hz
  split at hz
  · rename_i c
    cases hz
    obtain ⟨c1, c2, c3, c4⟩ := c
    have e1 := r1.length
    have c1' : vs ≠ [] := fun q => c1 (by rw [q] at e1; exact List.eq_nil_of_length_eq_zero e1.symm)
    refine ⟨a, n, vs, rfl, rfl, sqT_same w.sub h1, c1', c2, c3, by omega, fun p hp => ?_⟩
    obtain ⟨e, w2, q2⟩ := w.alloc hp (.tup (List.replicate n.toNat vs).flatten)
    refine k _ _ e w2 _ (.tup (.inl (.inl q2)) ?_ ((Reps.ext e r1).rep _))
    rw [PyProof.Rows.lm_len_rep_flat, sizeLine_eq]
    have a1 : n.toNat * vs.length ≤ 1000 * 1000 := Nat.mul_le_mul (by omega) (by omega)
    omega
  · cases hz
theorem vo_mul : VOp g (fun x y H Q => rI CMul (fun i j => .int (i * j)) x y H Q ∨ (rRep0 g.K x y H Q ∨ rRep1 g.K x y H Q) ∨ rRepT g.K x y H Q) opMul :=
  VOp.imp (VOp.or (vo_int (D := mulOk) (p := fun i j => .int (i * j)) (fun i j h => by
    unfold mulOk at h
    rw [Bool.or_eq_true] at h
    exact h.imp of_decide_eq_true of_decide_eq_true) fun _ _ _ _ => .int _) (VOp.or vo_rep01 vo_repT)) fun a b z h => by
    cases a <;> cases b <;> simp only [opMul] at h <;> try (cases h; done)
    · simp [iI, rep01, repT]; simpa using h
    · rename_i xs k
      simp only [iI, rep01, repT]
      split at h
      · rename_i c; rw [if_pos c]; simpa using h
      · rename_i c
        rw [if_neg c]
        split at h
        · rename_i c2; rw [if_pos c2]; simpa using h
        · rename_i c2; rw [if_neg c2]; simpa using h
theorem op_mul2 : OpR X (binaryOp .Mult) (fun x y H Q => rI CMul (fun i j => .int (i * j)) x y H Q ∨ (rRep0 X.K x y H Q ∨ rRep1 X.K x y H Q) ∨ rRepT X.K x y H Q) := op_mul.or ((op_rep0.or op_rep1).or op_repT)
theorem vo_div : VOp g (rI CDiv fun i j => .int (i / j)) opDiv :=
  VOp.imp (vo_int (D := fun _ j => decide (0 < j ∧ j < 1073741824)) (p := fun i j => .int (i / j)) (fun i j h => show 0 < j ∧ j < 1073741824 from of_decide_eq_true h) fun _ _ _ _ => .int _) fun a b z h => by
    cases a <;> cases b <;> simp [opDiv] at h <;> simp [iI, h]
theorem vo_mod : VOp g (rI (fun _ j => 0 < j) fun i j => .int (i % j)) opMod :=
  VOp.imp (vo_int (D := fun _ j => decide (0 < j)) (p := fun i j => .int (i % j)) (fun i j h => of_decide_eq_true h) fun _ _ _ _ => .int _) fun a b z h => by
    cases a <;> cases b <;> simp [opMod] at h <;> simp [iI, h]
theorem vo_pow : VOp g (rI CPow fun i j => .int (i ^ j.toNat)) opPow :=
  VOp.imp (vo_int (D := fun i j => decide (0 ≤ j ∧ j ≤ 1000000 ∧ i.natAbs < 2 ^ 64)) (p := fun i j => .int (i ^ j.toNat)) (fun i j h => show 0 ≤ j ∧ j ≤ 1000000 ∧ i.natAbs < 2 ^ 64 from of_decide_eq_true h) fun _ _ _ _ => .int _) fun a b z h => by
    cases a <;> cases b <;> simp [opPow] at h <;> simp [iI, h]
end

/-! ### comparisons -/
def eqOk (x y : PV) : Bool := x.plain && y.plain && decide (min x.depth y.depth ≤ 60)
def opEq (x y : PV) : Option PV := if eqOk x y = true then some (.bl (x.eqv y)) else none
def opNe (x y : PV) : Option PV := if eqOk x y = true then some (.bl (!x.eqv y)) else none
def opLt : PV → PV → Option PV
  | .int i, .int j => some (.bl (decide (i < j)))
  | _, _ => none
def opLe : PV → PV → Option PV
  | .int i, .int j => some (.bl (decide (i ≤ j)))
  | _, _ => none
def opGt : PV → PV → Option PV
  | .int i, .int j => some (.bl (decide (j < i)))
  | _, _ => none
def opGe : PV → PV → Option PV
  | .int i, .int j => some (.bl (decide (j ≤ i)))
  | _, _ => none
def inOk (x : PV) (xs : List PV) : Bool := x.plain && PV.plains xs && decide (min (PV.depths xs) x.depth ≤ 60)
def opIn : PV → PV → Option PV
  | x, .tup xs => if inOk x xs = true then some (.bl (xs.any fun y => y.eqv x)) else none
  | x, .lst xs => if inOk x xs = true then some (.bl (xs.any fun y => y.eqv x)) else none
  | .str x, .str y => if x.length = 1 then some (.bl (decide (x.cps.getD 0 0 ∈ y.cps.toList))) else none
  | _, _ => none
def opNotIn : PV → PV → Option PV
  | x, .tup xs => if inOk x xs = true then some (.bl (!xs.any fun y => y.eqv x)) else none
  | x, .lst xs => if inOk x xs = true then some (.bl (!xs.any fun y => y.eqv x)) else none
  | .str x, .str y => if x.length = 1 then some (.bl (!decide (x.cps.getD 0 0 ∈ y.cps.toList))) else none
  | _, _ => none
def isN : PV → Bool
  | .non => true
  | _ => false
def opIs : PV → PV → Option PV
  | x, .non => some (.bl (isN x))
  | .bl a, .bl b => some (.bl (decide (a = b)))
  | _, _ => none
def opIsNot : PV → PV → Option PV
  | x, .non => some (.bl (!isN x))
  | .bl a, .bl b => some (.bl (!decide (a = b)))
  | _, _ => none
section
variable {X : Cx} {g : Gx}
def rEqM (K : PySem.W.Frag) : R2 := fun x y H Q => ∃ d e, Dp K H x d ∧ Dp K H y e ∧ d.canLay0 = true ∧ e.canLay0 = true ∧ min d.depth e.depth ≤ 60 ∧ Q (.bl (PyData.eqv d e)) H
def rNeM (K : PySem.W.Frag) : R2 := fun x y H Q => ∃ d e, Dp K H x d ∧ Dp K H y e ∧ d.canLay0 = true ∧ e.canLay0 = true ∧ min d.depth e.depth ≤ 60 ∧ Q (.bl (!PyData.eqv d e)) H
theorem op_eqM (hu : X.A.units + 64 < cLine) : OpR X (compareOp .Eq) (rEqM X.K) := by
  intro pins s σ H x y v u Q I rx ry h
  obtain ⟨d, e, hd, he, sd, se, hm, q⟩ := h
  obtain ⟨as, r1⟩ := Dp.reads I d x v hd rx
  obtain ⟨bs, r2⟩ := Dp.reads I e y u he ry
  exact SeqAt.compareEq_reads r1 r2 sd se (by omega) ⟨.bl _, H, I, rfl, q⟩
theorem op_neM (hu : X.A.units + 64 < cLine) : OpR X (compareOp .NotEq) (rNeM X.K) := by
  intro pins s σ H x y v u Q I rx ry h
  obtain ⟨d, e, hd, he, sd, se, hm, q⟩ := h
  obtain ⟨as, r1⟩ := Dp.reads I d x v hd rx
  obtain ⟨bs, r2⟩ := Dp.reads I e y u he ry
  exact SeqAt.compareNe_reads r1 r2 sd se (by omega) ⟨.bl _, H, I, rfl, q⟩
theorem eqOk_inv {x y : PV} (h : eqOk x y = true) : x.plain = true ∧ y.plain = true ∧ min x.depth y.depth ≤ 60 := by
  unfold eqOk at h
  rw [Bool.and_eq_true, Bool.and_eq_true] at h
  exact ⟨h.1.1, h.1.2, of_decide_eq_true h.2⟩
theorem vo_eq : VOp g (rEqM g.K) opEq := by
  intro F μ H st x y px py z Q w rx ry hz k
  unfold opEq at hz
  split at hz
  · rename_i c
    cases hz
    obtain ⟨c1, c2, c3⟩ := eqOk_inv c
    obtain ⟨d1, l1⟩ := Rep.dp w.sub px x c1 rx
    obtain ⟨d2, l2⟩ := Rep.dp w.sub py y c2 ry
    refine ⟨_, _, d1, d2, l1, l2, by rw [toD_depth, toD_depth]; exact c3, ?_⟩
    rw [toD_eqv px py c1 c2]
    exact k F H (Ext.refl ..) w _ (.bl _)
  · cases hz
theorem vo_ne : VOp g (rNeM g.K) opNe := by
  intro F μ H st x y px py z Q w rx ry hz k
  unfold opNe at hz
  split at hz
  · rename_i c
    cases hz
    obtain ⟨c1, c2, c3⟩ := eqOk_inv c
    obtain ⟨d1, l1⟩ := Rep.dp w.sub px x c1 rx
    obtain ⟨d2, l2⟩ := Rep.dp w.sub py y c2 ry
    refine ⟨_, _, d1, d2, l1, l2, by rw [toD_depth, toD_depth]; exact c3, ?_⟩
    rw [toD_eqv px py c1 c2]
    exact k F H (Ext.refl ..) w _ (.bl _)
  · cases hz
theorem vo_lt : VOp g (rI0 fun i j => .bl (decide (i < j))) opLt := VOp.imp (vo_int0 (p := fun i j => .bl (decide (i < j))) fun _ _ _ _ => .bl _) fun a b z h => by
  cases a <;> cases b <;> simp [opLt] at h <;> simp [iI, h]
theorem vo_le : VOp g (rI0 fun i j => .bl (decide (i ≤ j))) opLe := VOp.imp (vo_int0 (p := fun i j => .bl (decide (i ≤ j))) fun _ _ _ _ => .bl _) fun a b z h => by
  cases a <;> cases b <;> simp [opLe] at h <;> simp [iI, h]
theorem vo_gt : VOp g (rI0 fun i j => .bl (decide (j < i))) opGt := VOp.imp (vo_int0 (p := fun i j => .bl (decide (j < i))) fun _ _ _ _ => .bl _) fun a b z h => by
  cases a <;> cases b <;> simp [opGt] at h <;> simp [iI, h]
theorem vo_ge : VOp g (rI0 fun i j => .bl (decide (j ≤ i))) opGe := VOp.imp (vo_int0 (p := fun i j => .bl (decide (j ≤ i))) fun _ _ _ _ => .bl _) fun a b z h => by
  cases a <;> cases b <;> simp [opGe] at h <;> simp [iI, h]
/-! ### in, not in -/
def rInM (K : PySem.W.Frag) (neg : Bool) : R2 := fun x y H Q => ∃ d ds, Dp K H x d ∧ (Dp K H y (.list ds) ∨ Dp K H y (.tuple ds)) ∧ d.canLay0 = true ∧ PyData.canLayAll0 ds = true ∧ min (PyData.depthAll ds) d.depth ≤ 60 ∧ Q (.bl (if neg then !ds.any fun z => PyData.eqv z d else ds.any fun z => PyData.eqv z d)) H
theorem op_inM (hu : X.A.units + 64 < cLine) : OpR X (compareOp .In) (rInM X.K false) := by
  intro pins s σ H x y v u Q I rx ry h
  obtain ⟨d, ds, hd, he, sd, se, hm, q⟩ := h
  obtain ⟨as, r1⟩ := Dp.reads I d x v hd rx
  rcases he with he | he
  · obtain ⟨bs, r2⟩ := Dp.reads I (.list ds) y u he ry
    exact SeqAt.in_list_reads r2 r1 se sd (by omega) ⟨.bl _, H, I, rfl, q⟩
  · obtain ⟨bs, r2⟩ := Dp.reads I (.tuple ds) y u he ry
    exact SeqAt.in_tuple_reads r2 r1 se sd (by omega) ⟨.bl _, H, I, rfl, q⟩
theorem op_notInM (hu : X.A.units + 64 < cLine) : OpR X (compareOp .NotIn) (rInM X.K true) := by
  intro pins s σ H x y v u Q I rx ry h
  obtain ⟨d, ds, hd, he, sd, se, hm, q⟩ := h
  obtain ⟨as, r1⟩ := Dp.reads I d x v hd rx
  rcases he with he | he
  · obtain ⟨bs, r2⟩ := Dp.reads I (.list ds) y u he ry
    exact SeqAt.notIn_list_reads r2 r1 se sd (by omega) ⟨.bl _, H, I, rfl, q⟩
  · obtain ⟨bs, r2⟩ := Dp.reads I (.tuple ds) y u he ry
    exact SeqAt.notIn_tuple_reads r2 r1 se sd (by omega) ⟨.bl _, H, I, rfl, q⟩
theorem inOk_inv {x : PV} {xs : List PV} (h : inOk x xs = true) : x.plain = true ∧ PV.plains xs = true ∧ min (PV.depths xs) x.depth ≤ 60 := by
  unfold inOk at h
  rw [Bool.and_eq_true, Bool.and_eq_true] at h
  exact ⟨h.1.1, h.1.2, of_decide_eq_true h.2⟩
theorem toDs_any {x : PV} (hx : x.plain = true) : ∀ {xs : List PV}, PV.plains xs = true → ((PV.toDs xs).any fun z => PyData.eqv z (PV.toD x)) = xs.any fun y => y.eqv x
  | [], _ => by simp [PV.toDs]
  | y :: ys, h => by
    simp only [PV.plains, Bool.and_eq_true] at h
    simp only [PV.toDs, List.any_cons, toD_eqv y x h.1 hx, toDs_any hx h.2]
def inSeq (neg : Bool) : PV → PV → Option PV
  | x, .tup xs => if inOk x xs = true then some (.bl (if neg then !xs.any fun y => y.eqv x else xs.any fun y => y.eqv x)) else none
  | x, .lst xs => if inOk x xs = true then some (.bl (if neg then !xs.any fun y => y.eqv x else xs.any fun y => y.eqv x)) else none
  | _, _ => none
theorem vo_inSeq (neg : Bool) : VOp g (rInM g.K neg) (inSeq neg) := by
  intro F μ H st x y px py z Q w rx ry hz k
  cases ry <;> try (simp [inSeq] at hz; done)
  · rename_i b ws ys h2 l2 r2
    simp only [inSeq] at hz
    split at hz
    · rename_i c
      cases hz
      obtain ⟨c1, c2, c3⟩ := inOk_inv c
      obtain ⟨d1, q1⟩ := Rep.dp w.sub px x c1 rx
      obtain ⟨d2, q2⟩ := Reps.dp w.sub ys ws c2 r2
      refine ⟨_, _, d1, .inr (.tup (sqT_same w.sub h2) d2), q1, q2, by rw [toD_depth, toDs_depth]; exact c3, ?_⟩
      rw [toDs_any c1 c2]
      exact k F H (Ext.refl ..) w _ (.bl _)
    · cases hz
  · rename_i b ws ys h2 l2 r2
    simp only [inSeq] at hz
    split at hz
    · rename_i c
      cases hz
      obtain ⟨c1, c2, c3⟩ := inOk_inv c
      obtain ⟨d1, q1⟩ := Rep.dp w.sub px x c1 rx
      obtain ⟨d2, q2⟩ := Reps.dp w.sub ys ws c2 r2
      refine ⟨_, _, d1, .inl (.lst (SqL.of (w.sub _ _ h2)) d2), q1, q2, by rw [toD_depth, toDs_depth]; exact c3, ?_⟩
      rw [toDs_any c1 c2]
      exact k F H (Ext.refl ..) w _ (.bl _)
    · cases hz
def inStr (neg : Bool) : PV → PV → Option PV
  | .str x, .str y => if x.length = 1 then some (.bl (if neg then !decide (x.cps.getD 0 0 ∈ y.cps.toList) else decide (x.cps.getD 0 0 ∈ y.cps.toList))) else none
  | _, _ => none
theorem str_one {x : Str} (h : x.length = 1) : x = ⟨#[x.cps.getD 0 0]⟩ := by
  obtain ⟨⟨l⟩⟩ := x
  match l, h with
  | [c], _ => rfl
theorem vo_inStr : VOp g (fun x y H Q => ∃ (c : Nat) (z : Str), x = .str ⟨#[c]⟩ ∧ y = .str z ∧ Q (.bl (decide (c ∈ z.cps.toList))) H) (inStr false) := by
  intro F μ H st x y px py z Q w rx ry hz k
  cases rx <;> try (simp [inStr] at hz; done)
  cases ry <;> try (simp [inStr] at hz; done)
  rename_i i hi hil j hj hjl
  simp only [inStr] at hz
  split at hz
  · rename_i c
    cases hz
    exact ⟨_, j, congrArg V.str (str_one c), rfl, k F H (Ext.refl ..) w _ (.bl _)⟩
  · cases hz
theorem vo_notInStr : VOp g (fun x y H Q => ∃ (c : Nat) (z : Str), x = .str ⟨#[c]⟩ ∧ y = .str z ∧ Q (.bl (!decide (c ∈ z.cps.toList))) H) (inStr true) := by
  intro F μ H st x y px py z Q w rx ry hz k
  cases rx <;> try (simp [inStr] at hz; done)
  cases ry <;> try (simp [inStr] at hz; done)
  rename_i i hi hil j hj hjl
  simp only [inStr] at hz
  split at hz
  · rename_i c
    cases hz
    exact ⟨_, j, congrArg V.str (str_one c), rfl, k F H (Ext.refl ..) w _ (.bl _)⟩
  · cases hz
theorem vo_in : VOp g (fun x y H Q => rInM g.K false x y H Q ∨ ∃ (c : Nat) (z : Str), x = .str ⟨#[c]⟩ ∧ y = .str z ∧ Q (.bl (decide (c ∈ z.cps.toList))) H) opIn :=
  VOp.imp (VOp.or (vo_inSeq false) vo_inStr) fun a b z h => by
    cases b <;> first | (simp only [opIn] at h; simp [inSeq, h]; done) | skip
    all_goals cases a <;> simp [opIn] at h <;> simp [inSeq, inStr, h]
theorem vo_notIn : VOp g (fun x y H Q => rInM g.K true x y H Q ∨ ∃ (c : Nat) (z : Str), x = .str ⟨#[c]⟩ ∧ y = .str z ∧ Q (.bl (!decide (c ∈ z.cps.toList))) H) opNotIn :=
  VOp.imp (VOp.or (vo_inSeq true) vo_notInStr) fun a b z h => by
    cases b <;> first | (simp only [opNotIn] at h; simp [inSeq, h]; done) | skip
    all_goals cases a <;> simp [opNotIn] at h <;> simp [inSeq, inStr, h]
theorem op_in2 (hu : X.A.units + 64 < cLine) : OpR X (compareOp .In) (fun x y H Q => rInM X.K false x y H Q ∨ ∃ (c : Nat) (z : Str), x = .str ⟨#[c]⟩ ∧ y = .str z ∧ Q (.bl (decide (c ∈ z.cps.toList))) H) := (op_inM hu).or op_in_sign
theorem op_notIn2 (hu : X.A.units + 64 < cLine) : OpR X (compareOp .NotIn) (fun x y H Q => rInM X.K true x y H Q ∨ ∃ (c : Nat) (z : Str), x = .str ⟨#[c]⟩ ∧ y = .str z ∧ Q (.bl (!decide (c ∈ z.cps.toList))) H) := (op_notInM hu).or op_notIn_sign
/-! ### is -/
theorem rep_isN {F : Hp} {μ : List Addr} {x : V} {px : PV} (r : Rep g.K g.fa F μ x px) : decide (x = .non) = isN px := by
  cases r <;> simp [isN]
def isB (neg : Bool) : PV → PV → Option PV
  | .bl a, .bl b => some (.bl (if neg then !decide (a = b) else decide (a = b)))
  | _, _ => none
def isNo (neg : Bool) : PV → PV → Option PV
  | x, .non => some (.bl (if neg then !isN x else isN x))
  | _, _ => none
theorem vo_isN : VOp g (fun x y H Q => y = .non ∧ Q (.bl (decide (x = .non))) H) (isNo false) := by
  intro F μ H st x y px py z Q w rx ry hz k
  cases ry <;> try (simp [isNo] at hz; done)
  simp only [isNo] at hz
  cases hz
  exact ⟨rfl, by rw [rep_isN rx]; exact k F H (Ext.refl ..) w _ (.bl _)⟩
theorem vo_notN : VOp g (fun x y H Q => y = .non ∧ Q (.bl (!decide (x = .non))) H) (isNo true) := by
  intro F μ H st x y px py z Q w rx ry hz k
  cases ry <;> try (simp [isNo] at hz; done)
  simp only [isNo] at hz
  cases hz
  exact ⟨rfl, by rw [rep_isN rx]; exact k F H (Ext.refl ..) w _ (.bl _)⟩
theorem vo_isB : VOp g rIsB (isB false) := by
  intro F μ H st x y px py z Q w rx ry hz k
  cases rx <;> try (simp [isB] at hz; done)
  cases ry <;> try (simp [isB] at hz; done)
  simp only [isB] at hz
  cases hz
  exact ⟨_, _, rfl, rfl, k F H (Ext.refl ..) w _ (.bl _)⟩
theorem vo_notB : VOp g rNotB (isB true) := by
  intro F μ H st x y px py z Q w rx ry hz k
  cases rx <;> try (simp [isB] at hz; done)
  cases ry <;> try (simp [isB] at hz; done)
  simp only [isB] at hz
  cases hz
  exact ⟨_, _, rfl, rfl, k F H (Ext.refl ..) w _ (.bl _)⟩
theorem vo_is : VOp g (fun x y H Q => (y = .non ∧ Q (.bl (decide (x = .non))) H) ∨ rIsB x y H Q) opIs := VOp.imp (VOp.or vo_isN vo_isB) fun a b z h => by
  cases a <;> cases b <;> simp [opIs] at h <;> simp [isNo, isB, h]
theorem vo_isNot : VOp g (fun x y H Q => (y = .non ∧ Q (.bl (!decide (x = .non))) H) ∨ rNotB x y H Q) opIsNot := VOp.imp (VOp.or vo_notN vo_notB) fun a b z h => by
  cases a <;> cases b <;> simp [opIsNot] at h <;> simp [isNo, isB, h]
end
end BK

/-! BkD: subscripts, slices, tests, calls of defs -/
namespace BK
open PySem PySem.Spec PyProof.Rows L2

/-! ### a[i] -/
def opIx (st : Sto) : PV → PV → Option PV
  | .tup xs, .int i => atI xs i
  | .lst xs, .int i => atI xs i
  | .scr xs, .int i => atI xs i
  | .str s, .int i => (atI s.cps.toList i).map fun c => .str ⟨#[c]⟩
  | .ref n, .int i => match st[n]? with
    | some (.lst xs) => atI xs i
    | none => none
  | _, _ => none
def VOpS (g : Gx) (r : R2) (f : Sto → PV → PV → Option PV) : Prop := ∀ (F : Hp) (μ : List Addr) (H : Hp) (st : Sto) (x y : V) (px py z : PV) (Q : VK), Wok g.K g.fa F μ H st → Rep g.K g.fa F μ x px → Rep g.K g.fa F μ y py → f st px py = some z →
  (∀ F' H', Ext F μ H F' μ H' → Wok g.K g.fa F' μ H' st → ∀ v, Rep g.K g.fa F' μ v z → Q v H') → r x y H Q
def mBinS (f : Sto → PV → PV → Option PV) (ma mb : EM) : EM := fun ρ st => (ma ρ st).bind fun x st1 => (mb ρ st1).bind fun y st2 => Res.opt (f st2 x y) st2
section
variable {g : Gx} {F : Hp} {μ : List Addr}
theorem Reps.atI {vs : List V} {xs : List PV} {i : Int} {x : PV} (r : Reps g.K g.fa F μ vs xs) (h : atI xs i = some x) : ∃ v, L2.atI vs i = some v ∧ Rep g.K g.fa F μ v x := by
  unfold L2.atI at h ⊢
  rw [r.length]
  cases q : ixN xs.length i with
  | none => rw [q] at h; cases h
  | some j =>
    rw [q] at h
    exact r.get h
end
section
variable {X : Cx} {g : Gx} {W : WX} {a b : Expr} {pos : Pos} {ma mb : EM}
theorem tOpS_of {r : R2} {f : Sto → PV → PV → Option PV} (hf : VOpS g r f) {σ : L2.St} {H : Hp} {Q : VK} (h : tE g W (mBinS f ma mb) σ H Q) : tOp r (tE g W ma) (tE g W mb) σ H Q := by
  obtain ⟨F, μ, st, ρ, w, en, h⟩ := h
  refine ⟨F, μ, st, ρ, w, en, (Post.bind h).imp fun x st1 F1 μ1 H1 e1 w1 h1 v rv => ?_⟩
  refine ⟨F1, μ1, st1, ρ, w1, en.mono e1, (Post.bind h1).imp fun y st2 F2 μ2 H2 e2 w2 h2 u ru => ?_⟩
  obtain ⟨z, hz, h3⟩ := Post.opt h2
  exact hf F2 μ2 H2 st2 v u x y z Q w2 (Rep.ext e2 rv) ru hz fun F' H' e' w' v' r' => h3 F' μ2 H' e' w' v' r'
theorem vo_ix : VOpS g (rIx g.K) opIx := by
  intro F μ H st x y px py z Q w rx ry hz k
  have fin : ∀ v, Rep g.K g.fa F μ v z → Q v H := fun v r => k F H (Ext.refl ..) w v r
  cases ry <;> try (cases rx <;> simp [opIx] at hz; done)
  rename_i i
  cases rx <;> try (simp [opIx] at hz; done)
  · rename_i s hs hl
    simp only [opIx, Option.map_eq_some_iff] at hz
    obtain ⟨c, hc, rfl⟩ := hz
    refine .inr (.inr ⟨s, i, c, rfl, rfl, hl, hc, fin _ (.str _ ?_ (by show 1 ≤ sizeLine; rw [sizeLine_eq]; omega))⟩)
    obtain ⟨j, _, hj, _⟩ := atI_get hc
    unfold PyData.strOk at hs ⊢
    rw [Array.all_eq_true_iff_forall_mem] at hs
    have := hs c (by rw [← Array.mem_toList_iff]; exact List.mem_of_getElem? hj)
    simpa using this
  · rename_i a vs xs h l r
    simp only [opIx] at hz
    obtain ⟨v, hv, rv⟩ := r.atI hz
    exact .inr (.inl ⟨a, vs, i, v, rfl, rfl, sqT_same w.sub h, hv, fin v rv⟩)
  · rename_i a vs xs h l r
    simp only [opIx] at hz
    obtain ⟨v, hv, rv⟩ := r.atI hz
    exact .inl ⟨a, vs, i, v, rfl, rfl, SqL.of (w.sub _ _ h), hv, fin v rv⟩
  · rename_i a vs xs h l r
    simp only [opIx] at hz
    obtain ⟨v, hv, rv⟩ := r.atI hz
    exact .inl ⟨a, vs, i, v, rfl, rfl, w.sub.seq h, hv, fin v rv⟩
  · rename_i n a h
    simp only [opIx] at hz
    obtain ⟨xs, vs, h1, h2, h3, h4, h5⟩ := w.obj n a h
    rw [h1] at hz
    obtain ⟨v, hv, rv⟩ := h3.atI (show atI xs i = some z from hz)
    exact .inl ⟨a, vs, i, v, rfl, rfl, SqL.of h2, hv, fin v rv⟩
theorem se_ixS (ha : PE X a (tE g W ma)) (hb : PE X b (tE g W mb)) (hK : g.K = X.K) (hs : PlainIx b) : PE X (.Subscript a b pos) (tE g W (mBinS opIx ma mb)) := by
  refine PE.mono (pe_ix ix_seq ha hb hs) fun _ _ _ h => ?_
  rw [← hK]
  exact tOpS_of vo_ix h
end

/-! ### a[lo:hi] -/
abbrev OM := PEnv → Sto → Res (Option Int)
def oNo : OM := fun _ st => .ok none st
def oInt (m : EM) : OM := fun ρ st => (m ρ st).bind fun x st1 => match x with
  | .int i => .ok (some i) st1
  | _ => .bad
def cut {α : Type} (xs : List α) (lo hi : Option Int) : List α := (xs.drop (HT.sIx xs.length 0 lo)).take (HT.sIx xs.length xs.length hi - HT.sIx xs.length 0 lo)
def opSl : PV → Option Int → Option Int → Option PV
  | .tup xs, lo, hi => some (.tup (cut xs lo hi))
  | .lst xs, lo, hi => some (.lst (cut xs lo hi))
  | _, _, _ => none
def mSl (m : EM) (l u : OM) : EM := fun ρ st => (m ρ st).bind fun x st1 => (l ρ st1).bind fun lo st2 => (u ρ st2).bind fun hi st3 => Res.opt (opSl x lo hi) st3
def tOx (g : Gx) (W : WX) (m : OM) : TO := fun σ H Q => ∃ F μ st ρ, Wok g.K g.fa F μ H st ∧ Env g F μ σ ρ ∧ Post g F μ H W σ (m ρ st) fun o _ _ _ H' => Q o H'
section
variable {X : Cx} {g : Gx} {W : WX} {e : Expr} {lo hi : Option Expr} {pos p2 : Pos} {m : EM} {l u : OM}
theorem PO.mono {e : Option Expr} {t t' : TO} (h : PO X e t) (i : ∀ σ H Q, t' σ H Q → t σ H Q) : PO X e t' := ⟨fun pins s σ H Q I q => h.run pins s σ H Q I (i _ _ _ q)⟩
theorem so_none : PO X none (tOx g W oNo) := PO.mono po_none fun σ H Q h => by
  obtain ⟨F, μ, st, ρ, w, en, h⟩ := h
  exact h F μ H (Ext.refl ..) w
theorem so_some (h : PE X e (tE g W m)) : PO X (some e) (tOx g W (oInt m)) := PO.mono (po_some h) fun σ H Q h => by
  obtain ⟨F, μ, st, ρ, w, en, h⟩ := h
  refine ⟨F, μ, st, ρ, w, en, (Post.bind h).imp fun x st1 F1 μ1 H1 e1 w1 h1 v rv => ?_⟩
  cases rv with
  | int i => exact ⟨i, rfl, h1 F1 μ1 H1 (Ext.refl ..) w1⟩
  | _ => exact h1.elim
theorem cutV_eq (vs : List V) (lo hi : Option Int) : cutV vs lo hi = cut vs lo hi := rfl
theorem Reps.cut {F : Hp} {μ : List Addr} {vs : List V} {xs : List PV} (r : Reps g.K g.fa F μ vs xs) (lo hi : Option Int) : Reps g.K g.fa F μ (cut vs lo hi) (BK.cut xs lo hi) := by
  unfold BK.cut
  rw [r.length]
  exact (r.drop _).take _
theorem cut_length {α : Type} (xs : List α) (lo hi : Option Int) : (cut xs lo hi).length ≤ xs.length := by
  unfold cut
  rw [List.length_take, List.length_drop]
  omega
theorem cut_whole {α : Type} {xs : List α} {lo hi : Option Int} (h : HT.sIx xs.length 0 lo = 0 ∧ HT.sIx xs.length xs.length hi = xs.length) : cut xs lo hi = xs := by
  unfold cut
  rw [h.1, h.2]
  simp
theorem se_sl (he : PE X e (tE g W m)) (hl : PO X lo (tOx g W l)) (hu : PO X hi (tOx g W u)) (hK : g.K = X.K) : PE X (.Subscript e (.Slice lo hi none p2) pos) (tE g W (mSl m l u)) := by
  refine PE.mono (pe_slice (sl_tupA.or sl_list) he hl hu) fun σ H Q h => ?_
  obtain ⟨F, μ, st, ρ, w, en, h⟩ := h
  refine ⟨F, μ, st, ρ, w, en, (Post.bind h).imp fun x st1 F1 μ1 H1 e1 w1 h1 v rv => ?_⟩
  refine ⟨F1, μ1, st1, ρ, w1, en.mono e1, (Post.bind h1).imp fun lo st2 F2 μ2 H2 e2 w2 h2 => ?_⟩
  refine ⟨F2, μ2, st2, ρ, w2, (en.mono e1).mono e2, (Post.bind h2).imp fun hi st3 F3 μ3 H3 e3 w3 h3 => ?_⟩
  obtain ⟨z, hz, h4⟩ := Post.opt h3
  have rv := Rep.ext e3 (Rep.ext e2 rv)
  cases rv <;> try (simp [opSl] at hz; done)
  · rename_i a vs xs h l r
    simp only [opSl] at hz
    cases hz
    rw [← hK]
    refine .inl ⟨a, vs, rfl, sqT_same w3.sub h, fun c => ?_, fun _ p hp => ?_⟩
    · have c' : HT.sIx xs.length 0 lo = 0 ∧ HT.sIx xs.length xs.length hi = xs.length := by rw [← r.length]; exact c
      rw [cut_whole c'] at h4
      exact h4 F3 μ3 H3 (Ext.refl ..) w3 _ (.tup h l r)
    · obtain ⟨e4, w4, q4⟩ := w3.alloc hp (.tup (cutV vs lo hi))
      exact h4 _ _ _ e4 w4 _ (.tup (.inl (.inl q4)) (Nat.le_trans (cut_length vs lo hi) l) ((Reps.ext e4 r).cut lo hi))
  · rename_i a vs xs h l r
    simp only [opSl] at hz
    cases hz
    refine .inr ⟨a, vs, rfl, SqL.of (w3.sub _ _ h), fun p hp => ?_⟩
    obtain ⟨e4, w4, q4⟩ := w3.alloc hp (.lst (cutV vs lo hi))
    exact h4 _ _ _ e4 w4 _ (.lst q4 (Nat.le_trans (cut_length vs lo hi) l) ((Reps.ext e4 r).cut lo hi))
end

/-! ### - a -/
def opNeg : PV → Option PV
  | .int i => some (.int (-i))
  | _ => none
def mUn (f : PV → Option PV) (m : EM) : EM := fun ρ st => (m ρ st).bind fun x st1 => Res.opt (f x) st1
section
variable {X : Cx} {g : Gx} {W : WX} {a b c : Expr} {pos : Pos} {m ma mb : EM}
theorem se_neg (ha : PE X a (tE g W m)) : PE X (.UnaryOp .USub a pos) (tE g W (mUn opNeg m)) := by
  refine PE.mono (pe_un un_neg ha) fun σ H Q h => ?_
  obtain ⟨F, μ, st, ρ, w, en, h⟩ := h
  refine ⟨F, μ, st, ρ, w, en, (Post.bind h).imp fun x st1 F1 μ1 H1 e1 w1 h1 v rv => ?_⟩
  obtain ⟨z, hz, h2⟩ := Post.opt h1
  cases rv <;> try (simp [opNeg] at hz; done)
  rename_i i
  simp only [opNeg] at hz
  cases hz
  exact ⟨i, rfl, h2 F1 μ1 H1 (Ext.refl ..) w1 _ (.int _)⟩
end

/-! ### tests -/
def bVal (m : EM) : BM := fun ρ st => (m ρ st).bind fun x st1 => match x with
  | .bl b => .ok b st1
  | _ => .bad
def bAnd (a b : BM) : BM := fun ρ st => (a ρ st).bind fun c st1 => if c = true then b ρ st1 else .ok false st1
def bOr (a b : BM) : BM := fun ρ st => (a ρ st).bind fun c st1 => if c = true then .ok true st1 else b ρ st1
def bNot (a : BM) : BM := fun ρ st => (a ρ st).bind fun c st1 => .ok (!c) st1
def mAndV (a b : EM) : EM := fun ρ st => (a ρ st).bind fun x st1 => match x with
  | .bl c => if c = true then b ρ st1 else .ok (.bl false) st1
  | _ => .bad
def mOrV (a b : EM) : EM := fun ρ st => (a ρ st).bind fun x st1 => match x with
  | .bl c => if c = true then .ok (.bl true) st1 else b ρ st1
  | _ => .bad
def mNotV (a : EM) : EM := fun ρ st => (a ρ st).bind fun x st1 => match x with
  | .bl c => .ok (.bl (!c)) st1
  | _ => .bad
def mIf (c : BM) (a b : EM) : EM := fun ρ st => (c ρ st).bind fun d st1 => if d = true then a ρ st1 else b ρ st1
section
variable {X : Cx} {g : Gx} {W : WX} {a b c : Expr} {pos : Pos} {ma mb : EM} {ta tb tc : BM} {rest : List Expr}
theorem tTest_of {σ : L2.St} {H : Hp} {Q : Bool → Hp → Prop} {t : TE} (i : ∀ σ H Q, tE g W ma σ H Q → t σ H Q) (h : tT g W (bVal ma) σ H Q) : tTest t σ H Q := by
  obtain ⟨F, μ, st, ρ, w, en, h⟩ := h
  refine i _ _ _ ⟨F, μ, st, ρ, w, en, (Post.bind h).imp fun x st1 F1 μ1 H1 e1 w1 h1 v rv => ?_⟩
  cases rv with
  | bl b => exact ⟨b, rfl, h1 F1 μ1 H1 (Ext.refl ..) w1⟩
  | _ => exact h1.elim
theorem st_cmp {op : CmpOp} {r : R2} {f : PV → PV → Option PV} (ho : OpR X (compareOp op) r) (hf : VOp g r f) (ha : PE X a (tE g W ma)) (hb : PE X b (tE g W mb)) (hm : behindInMarks op b = false) : PT X (.Compare a [op] [b] pos) (tT g W (bVal (mBin f ma mb))) :=
  PT.mono (pt_cmpR ho ha hb hm) fun _ _ _ h => tTest_of (fun _ _ _ h => tOp_of hf h) h
theorem st_val (h : PE X a (tE g W ma)) (he : ∀ whole, isTrue a X.env whole = (do let v ← whole; standAt a.pos; holding [v] (truthy v))) : PT X a (tT g W (bVal ma)) :=
  PT.mono (pt_val h he) fun _ _ _ h => tTest_of (fun _ _ _ h => h) h
theorem st_not (h : PT X a (tT g W ta)) : PT X (.UnaryOp .Not a pos) (tT g W (bNot ta)) := PT.mono (pt_not h) fun σ H Q h => by
  obtain ⟨F, μ, st, ρ, w, en, h⟩ := h
  exact ⟨F, μ, st, ρ, w, en, (Post.bind h).imp fun c st1 F1 μ1 H1 e1 w1 h1 => h1 F1 μ1 H1 (Ext.refl ..) w1⟩
theorem PW.mono {t t' : TT} (h : PW X a t) (i : ∀ σ H Q, t' σ H Q → t σ H Q) : PW X a t' := ⟨fun wh pins s σ H Q I q => h.run wh pins s σ H Q I (i _ _ _ q)⟩
theorem tAnd_of {σ : L2.St} {H : Hp} {Q : Bool → Hp → Prop} (h : tT g W (bAnd ta tb) σ H Q) : tAnd (tT g W ta) (tT g W tb) σ H Q := by
  obtain ⟨F, μ, st, ρ, w, en, h⟩ := h
  refine ⟨F, μ, st, ρ, w, en, (Post.bind h).imp fun c st1 F1 μ1 H1 e1 w1 h1 => ?_⟩
  cases c with
  | true =>
    rw [if_pos rfl] at h1 ⊢
    exact ⟨F1, μ1, st1, ρ, w1, en.mono e1, h1⟩
  | false =>
    rw [if_neg Bool.false_ne_true] at h1 ⊢
    exact h1 F1 μ1 H1 (Ext.refl ..) w1
theorem tOr_of {σ : L2.St} {H : Hp} {Q : Bool → Hp → Prop} (h : tT g W (bOr ta tb) σ H Q) : tOr (tT g W ta) (tT g W tb) σ H Q := by
  obtain ⟨F, μ, st, ρ, w, en, h⟩ := h
  refine ⟨F, μ, st, ρ, w, en, (Post.bind h).imp fun c st1 F1 μ1 H1 e1 w1 h1 => ?_⟩
  cases c with
  | true =>
    rw [if_pos rfl] at h1 ⊢
    exact h1 F1 μ1 H1 (Ext.refl ..) w1
  | false =>
    rw [if_neg Bool.false_ne_true] at h1 ⊢
    exact ⟨F1, μ1, st1, ρ, w1, en.mono e1, h1⟩
theorem sw_and1 (h : PT X a (tT g W ta)) : PW X (.BoolOp .And [a] pos) (tT g W ta) := pw_and1 h
theorem sw_or1 (h : PT X a (tT g W ta)) : PW X (.BoolOp .Or [a] pos) (tT g W ta) := pw_or1 h
theorem sw_and (h : PT X a (tT g W ta)) (k : PW X (.BoolOp .And (b :: rest) pos) (tT g W tb)) : PW X (.BoolOp .And (a :: b :: rest) pos) (tT g W (bAnd ta tb)) := PW.mono (pw_and h k) fun _ _ _ h => tAnd_of h
theorem sw_or (h : PT X a (tT g W ta)) (k : PW X (.BoolOp .Or (b :: rest) pos) (tT g W tb)) : PW X (.BoolOp .Or (a :: b :: rest) pos) (tT g W (bOr ta tb)) := PW.mono (pw_or h k) fun _ _ _ h => tOr_of h
theorem se_one {op} (h : PE X a (tE g W ma)) : PE X (.BoolOp op [a] pos) (tE g W ma) := pe_one h
theorem se_and (ha : PE X a (tE g W ma)) (hb : PE X (.BoolOp .And (b :: rest) pos) (tE g W mb)) : PE X (.BoolOp .And (a :: b :: rest) pos) (tE g W (mAndV ma mb)) := PE.mono (pe_and ha hb) fun σ H Q h => by
  obtain ⟨F, μ, st, ρ, w, en, h⟩ := h
  refine ⟨F, μ, st, ρ, w, en, (Post.bind h).imp fun x st1 F1 μ1 H1 e1 w1 h1 v rv => ?_⟩
  cases rv with
  | bl c =>
    refine ⟨c, rfl, ?_⟩
    change Post g F1 μ1 H1 W σ (if c = true then mb ρ st1 else .ok (.bl false) st1) _ at h1
    cases c with
    | true =>
      rw [if_pos rfl] at h1 ⊢
      exact ⟨F1, μ1, st1, ρ, w1, en.mono e1, h1⟩
    | false =>
      rw [if_neg Bool.false_ne_true] at h1 ⊢
      exact h1 F1 μ1 H1 (Ext.refl ..) w1 _ (.bl _)
  | _ => exact h1.elim
theorem se_or (ha : PE X a (tE g W ma)) (hb : PE X (.BoolOp .Or (b :: rest) pos) (tE g W mb)) : PE X (.BoolOp .Or (a :: b :: rest) pos) (tE g W (mOrV ma mb)) := PE.mono (pe_or ha hb) fun σ H Q h => by
  obtain ⟨F, μ, st, ρ, w, en, h⟩ := h
  refine ⟨F, μ, st, ρ, w, en, (Post.bind h).imp fun x st1 F1 μ1 H1 e1 w1 h1 v rv => ?_⟩
  cases rv with
  | bl c =>
    refine ⟨c, rfl, ?_⟩
    change Post g F1 μ1 H1 W σ (if c = true then .ok (.bl true) st1 else mb ρ st1) _ at h1
    cases c with
    | false =>
      rw [if_neg Bool.false_ne_true] at h1 ⊢
      exact ⟨F1, μ1, st1, ρ, w1, en.mono e1, h1⟩
    | true =>
      rw [if_pos rfl] at h1 ⊢
      exact h1 F1 μ1 H1 (Ext.refl ..) w1 _ (.bl _)
  | _ => exact h1.elim
theorem se_not (ha : PE X a (tE g W ma)) : PE X (.UnaryOp .Not a pos) (tE g W (mNotV ma)) := PE.mono (pe_not ha) fun σ H Q h => by
  obtain ⟨F, μ, st, ρ, w, en, h⟩ := h
  refine ⟨F, μ, st, ρ, w, en, (Post.bind h).imp fun x st1 F1 μ1 H1 e1 w1 h1 v rv => ?_⟩
  cases rv with
  | bl c => exact ⟨c, rfl, h1 F1 μ1 H1 (Ext.refl ..) w1 _ (.bl _)⟩
  | _ => exact h1.elim
theorem se_if (hc : PT X c (tT g W tc)) (ha : PE X a (tE g W ma)) (hb : PE X b (tE g W mb)) : PE X (.IfExp c a b pos) (tE g W (mIf tc ma mb)) := PE.mono (pe_ifExp hc ha hb) fun σ H Q h => by
  obtain ⟨F, μ, st, ρ, w, en, h⟩ := h
  refine ⟨F, μ, st, ρ, w, en, (Post.bind h).imp fun d st1 F1 μ1 H1 e1 w1 h1 => ?_⟩
  cases d with
  | true =>
    rw [if_pos rfl] at h1 ⊢
    exact ⟨F1, μ1, st1, ρ, w1, en.mono e1, h1⟩
  | false =>
    rw [if_neg Bool.false_ne_true] at h1 ⊢
    exact ⟨F1, μ1, st1, ρ, w1, en.mono e1, h1⟩
end
end BK

/-! BkE: calls of defs and of built-ins -/
namespace BK
open PySem PySem.Spec PyProof.Rows L2

/-! ### no stars -/
def isStar : Expr → Bool
  | .Starred _ _ => true
  | _ => false
theorem starEach_cons {e : Expr} {es : List Expr} {env : PySem.Env} (h : isStar e = false) : starEach (e :: es) env = (false, eval e env) :: starEach es env := by
  cases e <;> first | rfl | (simp [isStar] at h)
theorem starEach_any : ∀ {es : List Expr} {env : PySem.Env}, es.any isStar = false → (starEach es env).any (·.1) = false
  | [], _, _ => rfl
  | e :: es, env, h => by
    rw [List.any_cons, Bool.or_eq_false_iff] at h
    rw [starEach_cons h.1, List.any_cons, starEach_any h.2]
    rfl
theorem backTo_any {es : List Expr} {env : PySem.Env} {pos : Pos} (h : es.any isStar = false) : (backTo pos (starEach es env)).any (·.1) = false := by
  have := starEach_any (env := env) h
  unfold backTo
  rw [List.any_map]
  exact this

/-! ### what a def promises -/
def RepR (g : Gx) (fr : Bool) (H0 : Hp) (F : Hp) (μ : List Addr) (H : Hp) (v : V) (x : PV) : Prop :=
  if fr = true then ∃ (a : Addr) (vs : List V) (xs : List PV), v = .ref a ∧ x = .lst xs ∧ H0 a = none ∧ F a = none ∧ a ∉ μ ∧ H a = some (HO.lst vs) ∧ vs.length ≤ sizeLine ∧ Reps g.K g.fa F μ vs xs
  else Rep g.K g.fa F μ v x
def spM (g : Gx) (call : List PV → Sto → Res PV) (fr : Bool) (np : Nat) : Sp := fun vs H Q E => vs.length = np ∧ ∃ F μ st xs, Wok g.K g.fa F μ H st ∧ Reps g.K g.fa F μ vs xs ∧
  Post g F μ H (fun c d _ H' => E c d H') [] (call xs st) fun x _ F' μ' H' => ∀ v, RepR g fr H F' μ' H' v x → Q v H'
def mCall (call : List PV → Sto → Res PV) (n : AM) (dfl : List PV) : EM := fun ρ st => (n ρ st).bind fun xs st1 => call (xs ++ dfl) st1
/-- .. of a def that hands back a new list -/
def aCall (call : List PV → Sto → Res PV) (n : AM) (dfl : List PV) : AM := fun ρ st => (n ρ st).bind fun xs st1 => (call (xs ++ dfl) st1).bind fun x st2 => match x with
  | .lst ys => .ok ys st2
  | _ => .bad
section
variable {X : Cx} {g : Gx} {W : WX} {k : Nat} {f : Addr} {fd : FuncData} {ps : List Str} {sp : Sp} {x : Str} {p pos : Pos} {e : Expr} {es : List Expr} {t : TA} {dvs : List V} {ds : List Value}
theorem run_fnSD {CX : CXT} {E : L2.St → XK} {pins : List (Addr × Obj)} {σ : L2.St} {H : Hp} {s : Shared} {Q : VK} {us : List Value} {vs : List V} (Fn : FnOk X.prog X.w X.K X.mg X.base CX k f fd ps sp) (hr : Room k X.A) (hb : Binds X.K fd ps ds) (hd : Vals dvs ds) (hx : PassesAt CX X σ (E σ))
    (I : Inv X pins σ H s) (r : Vals vs us) (h : sp (vs ++ dvs) H Q (E σ)) : wpAny (model X.prog X.w) X.A (call (.ref f) us) (EP X pins σ Q) X.xe s := by
  have r2 : Vals (vs ++ dvs) (us ++ ds) := r.append hd
  have hl : (us ++ ds).length = ps.length := by rw [← r2.length]; exact Fn.len _ _ _ _ h
  refine wpAny_call (codeAny_mono (Fn.run X.A X.stack s H ⟨us, []⟩ (us ++ ds) (vs ++ dvs) Q (E σ) hr I.env0 (hb s us I.kIn hl) r2 h) fun r s' hq => ?_)
  cases r with
  | error e => exact hx pins H s e s' I hq
  | ok fl =>
    cases fl with
    | ret u => exact I.after hq
    | next => exact False.elim hq
    | brk => exact False.elim hq
    | cont => exact False.elim hq
def tCallSD (sp : Sp) (dvs : List V) (E : L2.St → XK) (t : TA) : TE := fun σ H Q => t σ H fun vs H1 => sp (vs ++ dvs) H1 Q (E σ)
theorem pe_callSD {CX : CXT} {E : L2.St → XK} (Fn : FnOk X.prog X.w X.K X.mg X.base CX k f fd ps sp) (hr : Room k X.A) (hg : Gl X x) (hm : X.mg x = some (.ref f)) (hk : PySem.W.keepIn X.K (.ref f) = true) (hb : Binds X.K fd ps ds) (hd : Vals dvs ds) (hx : ∀ σ, PassesAt CX X σ (E σ))
    (ha : PA X (e :: es) t) (hdb : (x == ("__debug__" : Str)) = false) (hs : (e :: es).any isStar = false) :
    PE X (.Call (.Name x p) (e :: es) [] pos) (tCallSD sp dvs E t) := by
  refine ⟨fun pins s σ H Q I h => ?_⟩
  rw [List.any_cons, Bool.or_eq_false_iff] at hs
  refine wpAny_Call_Name_kw (ld_glob I hg hm ?_ hdb)
  refine PySem.W.callWith_K (h₀ := X.base) I.ok.mod.kin hk (thn (ha.run pos pins s σ H _ I h) fun us s1 ⟨vs, H1, I1, r, q⟩ => ⟨I1.kIn, ?_⟩) (starEach_cons hs.1) (backTo_any hs.2)
  exact run_fnSD Fn hr hb hd (hx σ) I1 r q
theorem post_E {F : Hp} {μ : List Addr} {H : Hp} {σ : L2.St} {r : Res PV} {K : PV → Sto → Hp → List Addr → Hp → Prop} (h : Post g F μ H W σ r K) : Post g F μ H (fun c d _ H' => WE W σ c d H') [] r K := by
  cases r with
  | ok a st => exact h
  | exn c fs st => exact h
  | bad => exact h
theorem se_call {cl : List PV → Sto → Res PV} {np : Nat} {n : AM} {dfl : List PV} (Fn : FnOk X.prog X.w X.K X.mg X.base (L2.CX X.prog X.w) k f fd ps (spM g cl false np)) (hr : Room k X.A) (hg : Gl X x) (hm : X.mg x = some (.ref f)) (hk : PySem.W.keepIn X.K (.ref f) = true)
    (hb : Binds X.K fd ps ds) (hd : Vals dvs ds) (tk : Takes X W) (ha : PA X (e :: es) (tA g W n)) (hdb : (x == ("__debug__" : Str)) = false) (hs : (e :: es).any isStar = false)
    (hdf : ∀ F μ, Reps g.K g.fa F μ dvs dfl) (hn : ∀ ρ st xs st', n ρ st = .ok xs st' → xs.length + dfl.length = np) : PE X (.Call (.Name x p) (e :: es) [] pos) (tE g W (mCall cl n dfl)) := by
  refine PE.mono (pe_callSD (E := WE W) Fn hr hg hm hk hb hd (fun σ => passAt tk σ) ha hdb hs) fun σ H Q h => ?_
  obtain ⟨F, μ, st, ρ, w, en, h⟩ := h
  refine ⟨F, μ, st, ρ, w, en, (Post.bind h).impE fun xs st1 F1 μ1 H1 eq e1 w1 h1 vs rvs => ?_⟩
  have hl := hn _ _ _ _ eq
  refine ⟨?_, F1, μ1, st1, xs ++ dfl, w1, rvs.append (hdf _ _), (post_E h1).imp fun y st2 F2 μ2 H2 e2 w2 h2 v rv => ?_⟩
  · rw [List.length_append, rvs.length, (hdf F1 μ1).length]
    exact hl
  · exact h2 v rv
theorem sl_call {cl : List PV → Sto → Res PV} {np : Nat} {n : AM} {dfl : List PV} (Fn : FnOk X.prog X.w X.K X.mg X.base (L2.CX X.prog X.w) k f fd ps (spM g cl true np)) (hr : Room k X.A) (hg : Gl X x) (hm : X.mg x = some (.ref f)) (hk : PySem.W.keepIn X.K (.ref f) = true)
    (hb : Binds X.K fd ps ds) (hd : Vals dvs ds) (tk : Takes X W) (ha : PA X (e :: es) (tA g W n)) (hdb : (x == ("__debug__" : Str)) = false) (hs : (e :: es).any isStar = false)
    (hdf : ∀ F μ, Reps g.K g.fa F μ dvs dfl) (hn : ∀ ρ st xs st', n ρ st = .ok xs st' → xs.length + dfl.length = np) : PE X (.Call (.Name x p) (e :: es) [] pos) (tL g W (aCall cl n dfl)) := by
  refine PE.mono (pe_callSD (E := WE W) Fn hr hg hm hk hb hd (fun σ => passAt tk σ) ha hdb hs) fun σ H Q h => ?_
  obtain ⟨F, μ, st, ρ, w, en, h⟩ := h
  refine ⟨F, μ, st, ρ, w, en, (Post.bind h).impE fun xs st1 F1 μ1 H1 eq e1 w1 h1 vs rvs => ?_⟩
  have hl := hn _ _ _ _ eq
  refine ⟨?_, F1, μ1, st1, xs ++ dfl, w1, rvs.append (hdf _ _), (post_E (Post.bind h1)).imp fun y st2 F2 μ2 H2 e2 w2 h2 v rv => ?_⟩
  · rw [List.length_append, rvs.length, (hdf F1 μ1).length]
    exact hl
  · obtain ⟨a, vs2, ys, rfl, rfl, q0, q1, q2, q3, q4, q5⟩ := rv
    exact h2 F2 μ2 H2 (Ext.refl ..) w2 a vs2 (e1.keep q0) q1 q2 q3 q4 q5
end

/-! ### calls of built-ins by values -/
def VCall (g : Gx) (r : List V → Hp → VK → Prop) (f : Sto → List PV → Option PV) : Prop := ∀ (F : Hp) (μ : List Addr) (H : Hp) (st : Sto) (vs : List V) (xs : List PV) (z : PV) (Q : VK), Wok g.K g.fa F μ H st → Reps g.K g.fa F μ vs xs → f st xs = some z →
  (∀ F' H', Ext F μ H F' μ H' → Wok g.K g.fa F' μ H' st → ∀ v, Rep g.K g.fa F' μ v z → Q v H') → r vs H Q
def mBi (f : Sto → List PV → Option PV) (n : AM) : EM := fun ρ st => (n ρ st).bind fun xs st1 => Res.opt (f st1 xs) st1
section
variable {X : Cx} {g : Gx} {W : WX} {x : Str} {p pos : Pos} {e : Expr} {es : List Expr} {n : AM} {r : List V → Hp → VK → Prop} {f : Sto → List PV → Option PV} {id T : String}
theorem tCB_of (hf : VCall g r f) {σ : L2.St} {H : Hp} {Q : VK} (h : tE g W (mBi f n) σ H Q) : tCB r (tA g W n) σ H Q := by
  obtain ⟨F, μ, st, ρ, w, en, h⟩ := h
  refine ⟨F, μ, st, ρ, w, en, (Post.bind h).imp fun xs st1 F1 μ1 H1 e1 w1 h1 vs rvs => ?_⟩
  obtain ⟨z, hz, h2⟩ := Post.opt h1
  exact hf F1 μ1 H1 st1 vs xs z Q w1 rvs hz fun F' H' e' w' v' r' => h2 F' μ1 H' e' w' v' r'
theorem se_callB (hc : CallR X (.builtin id) r) (hf : VCall g r f) (hg : Gl X x) (hm : X.mg x = none) (hv : bootBuiltins x = some (.builtin id)) (ha : PA X (e :: es) (tA g W n)) (hn : x ≠ "__name__") (hdb : (x == ("__debug__" : Str)) = false) (hs : (e :: es).any isStar = false) :
    PE X (.Call (.Name x p) (e :: es) [] pos) (tE g W (mBi f n)) := by
  rw [List.any_cons, Bool.or_eq_false_iff] at hs
  exact PE.mono (pe_callB hc hg hm hv ha hn hdb (starEach_cons hs.1) (backTo_any hs.2)) fun _ _ _ h => tCB_of hf h
theorem se_callT (hc : CallR X (.type T) r) (hf : VCall g r f) (hg : Gl X x) (hm : X.mg x = none) (hv : bootBuiltins x = some (.type T)) (ha : PA X (e :: es) (tA g W n)) (hn : x ≠ "__name__") (hdb : (x == ("__debug__" : Str)) = false) (hs : (e :: es).any isStar = false) :
    PE X (.Call (.Name x p) (e :: es) [] pos) (tE g W (mBi f n)) := by
  rw [List.any_cons, Bool.or_eq_false_iff] at hs
  exact PE.mono (pe_callTy hc hg hm hv ha hn hdb (starEach_cons hs.1) (backTo_any hs.2)) fun _ _ _ h => tCB_of hf h
end
/-! len -/
def fLen (st : Sto) : List PV → Option PV
  | [.tup xs] => some (.int xs.length)
  | [.lst xs] => some (.int xs.length)
  | [.scr xs] => some (.int xs.length)
  | [.str s] => some (.int s.length)
  | [.ref n] => match st[n]? with
    | some (.lst xs) => some (.int xs.length)
    | none => none
  | _ => none
/-! tuple(..), list(..), int(..), all, any, sum, max, abs -/
def fTuple (_ : Sto) : List PV → Option PV
  | [.tup xs] => some (.tup xs)
  | [.lst xs] => some (.tup xs)
  | [.scr xs] => some (.tup xs)
  | _ => none
def fInt (_ : Sto) : List PV → Option PV
  | [.int i] => some (.int i)
  | [.bl b] => some (.int (if b then 1 else 0))
  | _ => none
def fAbs (_ : Sto) : List PV → Option PV
  | [.int i] => some (.int (if i < 0 then -i else i))
  | _ => none
def boolsOf : List PV → Option (List Bool)
  | [] => some []
  | .bl b :: r => (boolsOf r).map (b :: ·)
  | _ => none
def intsOf : List PV → Option (List Int)
  | [] => some []
  | .int i :: r => (intsOf r).map (i :: ·)
  | _ => none
def fAll (_ : Sto) : List PV → Option PV
  | [.lst xs] => (boolsOf xs).map fun bs => .bl (bs.all id)
  | _ => none
def fAny (_ : Sto) : List PV → Option PV
  | [.lst xs] => (boolsOf xs).map fun bs => .bl (bs.any id)
  | _ => none
def fSum (_ : Sto) : List PV → Option PV
  | [.lst xs] => (intsOf xs).map fun ns => .int ns.sum
  | _ => none
def maxI : List Int → Option Int
  | [] => none
  | i :: r => some (r.foldl max i)
def fMax (_ : Sto) : List PV → Option PV
  | [.lst xs] => (intsOf xs).bind fun ns => (maxI ns).map .int
  | _ => none
section
variable {X : Cx} {g : Gx}
theorem vc_len : VCall g (fun xs H Q => (∃ p ys, xs = [.ref p] ∧ (SqL g.K H p ys ∨ SqT g.K H p ys) ∧ Q (.int ys.length) H) ∨ ∃ z, xs = [.str z] ∧ z.length ≤ sizeLine ∧ Q (.int z.length) H) fLen := by
  intro F μ H st vs xs z Q w rs hz k
  have fin : ∀ i : Int, z = .int i → Q (.int i) H := fun i e => k F H (Ext.refl ..) w _ (by rw [e]; exact .int i)
  match xs, rs with
  | [], _ => simp [fLen] at hz
  | _ :: _ :: _, _ => simp [fLen] at hz
  | [y], .cons ry .nil =>
    cases ry <;> try (simp [fLen] at hz; done)
    · rename_i s hs hl
      simp only [fLen, Option.some.injEq] at hz
      exact .inr ⟨s, rfl, hl, fin _ hz.symm⟩
    · rename_i a us ys h l r
      simp only [fLen, Option.some.injEq] at hz
      exact .inl ⟨a, us, rfl, .inr (sqT_same w.sub h), by rw [r.length]; exact fin _ hz.symm⟩
    · rename_i a us ys h l r
      simp only [fLen, Option.some.injEq] at hz
      exact .inl ⟨a, us, rfl, .inl (SqL.of (w.sub _ _ h)), by rw [r.length]; exact fin _ hz.symm⟩
    · rename_i a us ys h l r
      simp only [fLen, Option.some.injEq] at hz
      exact .inl ⟨a, us, rfl, .inl (w.sub.seq h), by rw [r.length]; exact fin _ hz.symm⟩
    · rename_i n a h
      obtain ⟨ys, us, h1, h2, h3, h4, h5⟩ := w.obj n a h
      simp only [fLen, h1, Option.some.injEq] at hz
      exact .inl ⟨a, us, rfl, .inl (SqL.of h2), by rw [h3.length]; exact fin _ hz.symm⟩
theorem cr_len : CallR X (.builtin "len") (fun xs H Q => (∃ p ys, xs = [.ref p] ∧ (SqL X.K H p ys ∨ SqT X.K H p ys) ∧ Q (.int ys.length) H) ∨ ∃ z, xs = [.str z] ∧ z.length ≤ sizeLine ∧ Q (.int z.length) H) := call_len_seq.or call_len_str
theorem vc_tuple : VCall g (fun xs H Q => ∃ p ys, xs = [.ref p] ∧ ((SqL g.K H p ys ∧ ∀ l, H l = none → Q (.ref l) (upd H l (.tup ys))) ∨ (SqT g.K H p ys ∧ Q (.ref p) H))) fTuple := by
  intro F μ H st vs xs z Q w rs hz k
  match xs, rs with
  | [], _ => simp [fTuple] at hz
  | _ :: _ :: _, _ => simp [fTuple] at hz
  | [y], .cons ry .nil =>
    cases ry <;> try (simp [fTuple] at hz; done)
    · rename_i a us ys h l r
      simp only [fTuple, Option.some.injEq] at hz
      subst hz
      exact ⟨a, us, rfl, .inr ⟨sqT_same w.sub h, k F H (Ext.refl ..) w _ (.tup h l r)⟩⟩
    · rename_i a us ys h l r
      simp only [fTuple, Option.some.injEq] at hz
      subst hz
      refine ⟨a, us, rfl, .inl ⟨SqL.of (w.sub _ _ h), fun p hp => ?_⟩⟩
      obtain ⟨e, w2, q2⟩ := w.alloc hp (.tup us)
      exact k _ _ e w2 _ (.tup (.inl (.inl q2)) l (Reps.ext e r))
    · rename_i a us ys h l r
      simp only [fTuple, Option.some.injEq] at hz
      subst hz
      refine ⟨a, us, rfl, .inl ⟨w.sub.seq h, fun p hp => ?_⟩⟩
      obtain ⟨e, w2, q2⟩ := w.alloc hp (.tup us)
      exact k _ _ e w2 _ (.tup (.inl (.inl q2)) l (Reps.ext e r))
theorem vc_int : VCall g (fun xs H Q => (∃ i, xs = [.int i] ∧ Q (.int i) H) ∨ ∃ k, xs = [.bl k] ∧ Q (.int (if k then 1 else 0)) H) fInt := by
  intro F μ H st vs xs z Q w rs hz k
  match xs, rs with
  | [], _ => simp [fInt] at hz
  | _ :: _ :: _, _ => simp [fInt] at hz
  | [y], .cons ry .nil =>
    cases ry <;> try (simp [fInt] at hz; done)
    · simp only [fInt, Option.some.injEq] at hz
      subst hz
      exact .inr ⟨_, rfl, k F H (Ext.refl ..) w _ (.int _)⟩
    · simp only [fInt, Option.some.injEq] at hz
      subst hz
      exact .inl ⟨_, rfl, k F H (Ext.refl ..) w _ (.int _)⟩
theorem vc_abs : VCall g (fun xs H Q => ∃ i, xs = [.int i] ∧ Q (.int (if i < 0 then -i else i)) H) fAbs := by
  intro F μ H st vs xs z Q w rs hz k
  match xs, rs with
  | [], _ => simp [fAbs] at hz
  | _ :: _ :: _, _ => simp [fAbs] at hz
  | [y], .cons ry .nil =>
    cases ry <;> try (simp [fAbs] at hz; done)
    simp only [fAbs, Option.some.injEq] at hz
    subst hz
    exact ⟨_, rfl, k F H (Ext.refl ..) w _ (.int _)⟩
theorem bools_rep {F : Hp} {μ : List Addr} : ∀ {xs : List PV} {vs : List V} {bs : List Bool}, Reps g.K g.fa F μ vs xs → boolsOf xs = some bs → vs = bs.map V.bl
  | [], _, _, .nil, h => by
    simp only [boolsOf, Option.some.injEq] at h
    subst h
    rfl
  | x :: xs, _, _, .cons r t, h => by
    cases r <;> try (simp [boolsOf] at h; done)
    simp only [boolsOf, Option.map_eq_some_iff] at h
    obtain ⟨b2, h2, rfl⟩ := h
    rw [bools_rep t h2]
    rfl
theorem ints_rep {F : Hp} {μ : List Addr} : ∀ {xs : List PV} {vs : List V} {ns : List Int}, Reps g.K g.fa F μ vs xs → intsOf xs = some ns → vs = ns.map V.int
  | [], _, _, .nil, h => by
    simp only [intsOf, Option.some.injEq] at h
    subst h
    rfl
  | x :: xs, _, _, .cons r t, h => by
    cases r <;> try (simp [intsOf] at h; done)
    simp only [intsOf, Option.map_eq_some_iff] at h
    obtain ⟨b2, h2, rfl⟩ := h
    rw [ints_rep t h2]
    rfl
theorem vc_all : VCall g (rAll g.K) fAll := by
  intro F μ H st vs xs z Q w rs hz k
  match xs, rs with
  | [], _ => simp [fAll] at hz
  | _ :: _ :: _, _ => simp [fAll] at hz
  | [y], .cons ry .nil =>
    cases ry <;> try (simp [fAll] at hz; done)
    rename_i a us ys h l r
    simp only [fAll, Option.map_eq_some_iff] at hz
    obtain ⟨bs, hb, rfl⟩ := hz
    have e := bools_rep r hb
    subst e
    exact ⟨a, bs, rfl, SqL.of (w.sub _ _ h), k F H (Ext.refl ..) w _ (.bl _)⟩
theorem vc_any : VCall g (rAny g.K) fAny := by
  intro F μ H st vs xs z Q w rs hz k
  match xs, rs with
  | [], _ => simp [fAny] at hz
  | _ :: _ :: _, _ => simp [fAny] at hz
  | [y], .cons ry .nil =>
    cases ry <;> try (simp [fAny] at hz; done)
    rename_i a us ys h l r
    simp only [fAny, Option.map_eq_some_iff] at hz
    obtain ⟨bs, hb, rfl⟩ := hz
    have e := bools_rep r hb
    subst e
    exact ⟨a, bs, rfl, SqL.of (w.sub _ _ h), k F H (Ext.refl ..) w _ (.bl _)⟩
theorem vc_sum : VCall g (rSum g.K) fSum := by
  intro F μ H st vs xs z Q w rs hz k
  match xs, rs with
  | [], _ => simp [fSum] at hz
  | _ :: _ :: _, _ => simp [fSum] at hz
  | [y], .cons ry .nil =>
    cases ry <;> try (simp [fSum] at hz; done)
    rename_i a us ys h l r
    simp only [fSum, Option.map_eq_some_iff] at hz
    obtain ⟨ns, hb, rfl⟩ := hz
    have e := ints_rep r hb
    subst e
    exact ⟨a, ns, rfl, SqL.of (w.sub _ _ h), k F H (Ext.refl ..) w _ (.int _)⟩
theorem foldl_max : ∀ (r : List Int) (i m : Int), m ∈ i :: r → (∀ y ∈ i :: r, y ≤ m) → r.foldl max i = m
  | [], i, m, h, _ => by
    have : m = i := by simpa using h
    rw [this]
    rfl
  | j :: r, i, m, h, k => by
    rw [List.foldl_cons]
    refine foldl_max r (max i j) m ?_ fun y hy => ?_
    · have hi := k i (by simp)
      have hj := k j (by simp)
      rcases List.mem_cons.mp h with e | h
      · rw [← e, Int.max_eq_left hj] <;> simp
      · rcases List.mem_cons.mp h with e | h
        · rw [← e, Int.max_eq_right hi] <;> simp
        · exact List.mem_cons_of_mem _ h
    · rcases List.mem_cons.mp hy with e | h
      · rw [e]
        exact Int.max_le.mpr ⟨k i (by simp), k j (by simp)⟩
      · exact k y (List.mem_cons_of_mem _ (List.mem_cons_of_mem _ h))
theorem vc_max : VCall g (rMax g.K) fMax := by
  intro F μ H st vs xs z Q w rs hz k
  match xs, rs with
  | [], _ => simp [fMax] at hz
  | _ :: _ :: _, _ => simp [fMax] at hz
  | [y], .cons ry .nil =>
    cases ry <;> try (simp [fMax] at hz; done)
    rename_i a us ys h l r
    simp only [fMax, Option.bind_eq_some_iff, Option.map_eq_some_iff] at hz
    obtain ⟨ns, hb, m, hm, rfl⟩ := hz
    have e := ints_rep r hb
    subst e
    cases ns with
    | nil => simp [maxI] at hm
    | cons i ns =>
      refine ⟨a, i :: ns, rfl, SqL.of (w.sub _ _ h), by simp, fun m' h1 h2 => ?_⟩
      simp only [maxI, Option.some.injEq] at hm
      rw [foldl_max ns i m' h1 h2] at hm
      subst hm
      exact k F H (Ext.refl ..) w _ (.int _)
end
end BK

/-! BkF: isinstance, list(..), what is walked, targets, comprehensions -/
namespace BK
open PySem PySem.Spec PyProof.Rows L2 RZ

/-! ### isinstance -/
def tyOf : PV → Option String
  | .non => some "NoneType"
  | .bl _ => some "bool"
  | .int _ => some "int"
  | .str _ => some "str"
  | .tup _ => some "tuple"
  | .lst _ => some "list"
  | .scr _ => some "list"
  | .ref _ => some "list"
  | _ => none
def isT (t T : String) : Option Bool := if ["tuple", "list", "str", "int", "bool"].contains T then some (t == T || (t == "bool" && T == "int")) else none
def fIsi (_ : Sto) : List PV → Option PV
  | [x, .ty T] => (tyOf x).bind fun t => (isT t T).map .bl
  | _ => none
theorem isT_kit {t T : String} {b : Bool} (h : isT t T = some b) (ht : t = "NoneType" ∨ t = "bool" ∨ t = "int" ∨ t = "str" ∨ t = "tuple" ∨ t = "list") : kitB t T = some b := by
  unfold isT at h
  split at h
  · rename_i c
    have c' : T = "tuple" ∨ T = "list" ∨ T = "str" ∨ T = "int" ∨ T = "bool" := by simpa using c
    rcases ht with rfl | rfl | rfl | rfl | rfl | rfl <;> rcases c' with rfl | rfl | rfl | rfl | rfl <;> (cases h; decide +kernel)
  · cases h
section
variable {g : Gx}
theorem tyOf_x {F : Hp} {μ : List Addr} {H : Hp} {st : Sto} (w : Wok g.K g.fa F μ H st) {v : V} {x : PV} {t : String} (r : Rep g.K g.fa F μ v x) (h : tyOf x = some t) : TyX g.K H v (.type t) ∧ (t = "NoneType" ∨ t = "bool" ∨ t = "int" ∨ t = "str" ∨ t = "tuple" ∨ t = "list") := by
  cases r <;> simp only [tyOf, Option.some.injEq] at h <;> try (cases h; done)
  · subst h; exact ⟨.base .non, by simp⟩
  · subst h; exact ⟨.base (.bl _), by simp⟩
  · subst h; exact ⟨.base (.int _), by simp⟩
  · subst h; exact ⟨.base (.str _), by simp⟩
  · rename_i a vs xs q hl r
    subst h
    refine ⟨?_, by simp⟩
    rcases sqT_same w.sub q with (q | ⟨o, q⟩) | ⟨o, its, n, q, qc, _⟩
    · exact .base (.tup q)
    · exact .fTuple q
    · exact .kTuple q qc
  · rename_i a vs xs q hl r
    subst h
    exact ⟨.base (.lst (w.sub _ _ q)), by simp⟩
  · rename_i a vs xs q hl r
    subst h
    refine ⟨?_, by simp⟩
    rcases w.sub.seq q with (q | ⟨o, q⟩) | ⟨o, its, n, q, qc, _⟩
    · exact .base (.lst q)
    · exact .base (.frz q)
    · exact .kList q qc
  · rename_i n a q
    subst h
    obtain ⟨ys, us, h1, h2, h3, h4, h5⟩ := w.obj n a q
    exact ⟨.base (.lst h2), by simp⟩
theorem vc_isi : VCall g (rIsi g.K) fIsi := by
  intro F μ H st vs xs z Q w rs hz k
  match xs, rs with
  | [], _ => simp [fIsi] at hz
  | [_], _ => simp [fIsi] at hz
  | _ :: _ :: _ :: _, _ => simp [fIsi] at hz
  | [x, y], .cons rx (.cons ry .nil) =>
    cases ry <;> try (simp [fIsi] at hz; done)
    rename_i T
    simp only [fIsi, Option.bind_eq_some_iff, Option.map_eq_some_iff] at hz
    obtain ⟨t, ht, b, hb, rfl⟩ := hz
    obtain ⟨q1, q2⟩ := tyOf_x w rx ht
    exact ⟨_, _, _, _, b, rfl, .ty T, q1, kit_ty (isT_kit hb q2), k F H (Ext.refl ..) w _ (.bl _)⟩
end

/-! ### list(..): a new list -/
def itemsOf : PV → Option (List PV)
  | .tup xs => some xs
  | .lst xs => some xs
  | .scr xs => some xs
  | _ => none
def aList (n : AM) : AM := fun ρ st => (n ρ st).bind fun xs st1 => match xs with
  | [x] => Res.opt (itemsOf x) st1
  | _ => .bad
section
variable {X : Cx} {g : Gx} {W : WX} {p pos : Pos} {e : Expr} {n : AM}
theorem itemsOf_sq {F : Hp} {μ : List Addr} {H : Hp} {v : V} {x : PV} {xs : List PV} (s : Same F H) (r : Rep g.K g.fa F μ v x) (h : itemsOf x = some xs) : ∃ a vs, v = .ref a ∧ ((SqL g.K F a vs ∧ SqL g.K H a vs) ∨ (SqT g.K F a vs ∧ SqT g.K H a vs)) ∧ vs.length ≤ sizeLine ∧ Reps g.K g.fa F μ vs xs := by
  cases r <;> simp only [itemsOf, Option.some.injEq] at h <;> try (cases h; done)
  · rename_i a vs ys q hl r
    subst h
    exact ⟨a, vs, rfl, .inr ⟨q, sqT_same s q⟩, hl, r⟩
  · rename_i a vs ys q hl r
    subst h
    exact ⟨a, vs, rfl, .inl ⟨SqL.of q, SqL.of (s _ _ q)⟩, hl, r⟩
  · rename_i a vs ys q hl r
    subst h
    exact ⟨a, vs, rfl, .inl ⟨q, s.seq q⟩, hl, r⟩
theorem sl_list (hK : g.K = X.K) (hg : Gl X "list") (hm : X.mg "list" = none) (ha : PA X [e] (tA g W n)) (hs : isStar e = false) : PE X (.Call (.Name "list" p) [e] [] pos) (tL g W (aList n)) := by
  refine PE.mono (pe_callTy call_list_of hg hm (by decide +kernel) ha (by decide) (by decide) (starEach_cons hs) (by rfl)) fun σ H Q h => ?_
  obtain ⟨F, μ, st, ρ, w, en, h⟩ := h
  refine ⟨F, μ, st, ρ, w, en, (Post.bind h).imp fun xs st1 F1 μ1 H1 e1 w1 h1 vs rvs => ?_⟩
  match xs, rvs with
  | [], _ => exact h1.elim
  | _ :: _ :: _, _ => exact h1.elim
  | [x], .cons rx .nil =>
    obtain ⟨ys, hy, h2⟩ := Post.opt h1
    obtain ⟨a, us, rfl, q, hl, r⟩ := itemsOf_sq w1.sub rx hy
    refine ⟨a, us, rfl, by rw [← hK]; exact q.imp And.right And.right, fun l hl' => ?_⟩
    obtain ⟨e2, w2, q1, q2⟩ := w1.own hl' (.lst us)
    exact h2 _ _ _ e2 w2 l us (e1.keep hl') q1 q2 upd_same hl r
end

/-! ### what is walked: its items -/
def Goes (g : Gx) (F : Hp) (μ : List Addr) (xs : List PV) (J : It) : Prop := xs.length ≤ sizeLine ∧ ∀ (F' : Hp) (μ' : List Addr) (H' : Hp) (st' : Sto), Same F F' → (∃ t, μ' = μ ++ t) → Wok g.K g.fa F' μ' H' st' → ∀ i : Nat,
  (∀ x, xs[i]? = some x → J.go i H' ∧ ∀ v H'', J.yld i H' v H'' → ∃ F'', Ext F' μ' H' F'' μ' H'' ∧ Wok g.K g.fa F'' μ' H'' st' ∧ Rep g.K g.fa F'' μ' v x) ∧ (xs[i]? = none → J.stop i H')
def tI (g : Gx) (W : WX) (m : AM) : TI := fun σ H R => ∃ F μ st ρ, Wok g.K g.fa F μ H st ∧ Env g F μ σ ρ ∧ Post g F μ H W σ (m ρ st) fun xs _ F' μ' H' => ∀ J, Goes g F' μ' xs J → R J H'
def aSeq (m : EM) : AM := fun ρ st => (m ρ st).bind fun x st1 => Res.opt (itemsOf x) st1
def pairs : List PV → List PV → List PV
  | x :: xs, y :: ys => .tup [x, y] :: pairs xs ys
  | _, _ => []
def aZip (n : AM) : AM := fun ρ st => (n ρ st).bind fun xs st1 => match xs with
  | [.tup a, .tup b] => .ok (pairs a b) st1
  | [.lst a, .lst b] => .ok (pairs a b) st1
  | _ => .bad
def rangeL (lo : Int) : Nat → List PV
  | 0 => []
  | n + 1 => .int lo :: rangeL (lo + 1) n
def rOk (i : Int) : Bool := decide (-(2 ^ 62) ≤ i ∧ i < 2 ^ 62)
def aRange1 (n : AM) : AM := fun ρ st => (n ρ st).bind fun xs st1 => match xs with
  | [.int j] => if rOk j = true ∧ j.toNat ≤ sizeLine then .ok (rangeL 0 j.toNat) st1 else .bad
  | _ => .bad
def aRange2 (n : AM) : AM := fun ρ st => (n ρ st).bind fun xs st1 => match xs with
  | [.int i, .int j] => if rOk i = true ∧ rOk j = true ∧ (j - i).toNat ≤ sizeLine then .ok (rangeL i (j - i).toNat) st1 else .bad
  | _ => .bad
theorem pairs_length : ∀ (a b : List PV), (pairs a b).length = min a.length b.length
  | [], b => by simp [pairs]
  | _ :: _, [] => by simp [pairs]
  | x :: a, y :: b => by simp only [pairs, List.length_cons, pairs_length a b]; omega
theorem pairs_get : ∀ {a b : List PV} {i : Nat} {x : PV}, (pairs a b)[i]? = some x → ∃ u w, a[i]? = some u ∧ b[i]? = some w ∧ x = .tup [u, w]
  | [], b, i, x, h => by simp [pairs] at h
  | _ :: _, [], i, x, h => by simp [pairs] at h
  | u :: a, w :: b, 0, x, h => by simp [pairs] at h; exact ⟨u, w, rfl, rfl, h.symm⟩
  | u :: a, w :: b, i + 1, x, h => by
    simp only [pairs, List.getElem?_cons_succ] at h ⊢
    exact pairs_get h
theorem rangeL_length : ∀ (n : Nat) (lo : Int), (rangeL lo n).length = n
  | 0, _ => rfl
  | n + 1, lo => by simp only [rangeL, List.length_cons, rangeL_length n]
theorem rangeL_get : ∀ {n : Nat} {lo : Int} {i : Nat} {x : PV}, (rangeL lo n)[i]? = some x → x = .int (lo + i) ∧ i < n
  | 0, _, _, _, h => by simp [rangeL] at h
  | n + 1, lo, 0, x, h => by
    simp [rangeL] at h
    exact ⟨by rw [← h]; simp, by omega⟩
  | n + 1, lo, i + 1, x, h => by
    simp only [rangeL, List.getElem?_cons_succ] at h
    obtain ⟨h1, h2⟩ := rangeL_get h
    exact ⟨by rw [h1]; congr 1; omega, by omega⟩
section
variable {g : Gx} {F : Hp} {μ : List Addr}
theorem Reps.ofMap {vs : List V} {xs : List PV} {i : Nat} {x : PV} (r : Reps g.K g.fa F μ vs xs) (h : xs[i]? = none) : vs.length ≤ i := by
  rw [r.length]
  exact List.getElem?_eq_none_iff.mp h
theorem goes_list {a : Addr} {vs : List V} {xs : List PV} (h : SqL g.K F a vs) (hl : vs.length ≤ sizeLine) (r : Reps g.K g.fa F μ vs xs) : Goes g F μ xs (Itl g.K a) := by
  refine ⟨by rw [← r.length]; exact hl, fun F' μ' H' st' s m w i => ⟨fun x hx => ?_, fun hx => ?_⟩⟩
  · obtain ⟨v, hv, rv⟩ := r.get hx
    have hH := w.sub.seq (s.seq h)
    refine ⟨⟨vs, v, hH, hv⟩, fun u H'' y => ?_⟩
    obtain ⟨e, f⟩ := y
    subst e
    have q := f vs hH
    rw [hv] at q
    cases q
    exact ⟨F', Ext.refl .., w, Rep.mono s m x v rv⟩
  · exact ⟨vs, w.sub.seq (s.seq h), by rw [r.length]; exact List.getElem?_eq_none_iff.mp hx⟩
theorem goes_tup {a : Addr} {vs : List V} {xs : List PV} (h : SqT g.K F a vs) (hl : vs.length ≤ sizeLine) (r : Reps g.K g.fa F μ vs xs) : Goes g F μ xs (Itt g.K a) := by
  refine ⟨by rw [← r.length]; exact hl, fun F' μ' H' st' s m w i => ⟨fun x hx => ?_, fun hx => ?_⟩⟩
  · obtain ⟨v, hv, rv⟩ := r.get hx
    have hH := sqT_same w.sub (sqT_same s h)
    refine ⟨⟨vs, v, hH, hv⟩, fun u H'' y => ?_⟩
    obtain ⟨e, f⟩ := y
    subst e
    have q := f vs hH
    rw [hv] at q
    cases q
    exact ⟨F', Ext.refl .., w, Rep.mono s m x v rv⟩
  · exact ⟨vs, sqT_same w.sub (sqT_same s h), by rw [r.length]; exact List.getElem?_eq_none_iff.mp hx⟩
theorem goes_range {lo : Int} {n : Nat} (hn : n ≤ sizeLine) : Goes g F μ (rangeL lo n) (Itr lo n) := by
  refine ⟨by rw [rangeL_length]; exact hn, fun F' μ' H' st' s m w i => ⟨fun x hx => ?_, fun hx => ?_⟩⟩
  · obtain ⟨rfl, hi⟩ := rangeL_get hx
    refine ⟨hi, fun u H'' y => ?_⟩
    obtain ⟨e, f⟩ := y
    subst e f
    exact ⟨F', Ext.refl .., w, .int _⟩
  · have := List.getElem?_eq_none_iff.mp hx
    rw [rangeL_length] at this
    exact this
theorem goes_zipL {a b : Addr} {vs us : List V} {xs ys : List PV} (h : SqL g.K F a vs) (hl : vs.length ≤ sizeLine) (r : Reps g.K g.fa F μ vs xs) (h' : SqL g.K F b us) (r' : Reps g.K g.fa F μ us ys) : Goes g F μ (pairs xs ys) (Itz g.K a b) := by
  refine ⟨?_, fun F' μ' H' st' s m w i => ⟨fun x hx => ?_, fun hx => ?_⟩⟩
  · rw [pairs_length, ← r.length]
    omega
  · obtain ⟨x1, x2, hx1, hx2, rfl⟩ := pairs_get hx
    obtain ⟨v1, hv1, rv1⟩ := r.get hx1
    obtain ⟨v2, hv2, rv2⟩ := r'.get hx2
    have hH := w.sub.seq (s.seq h)
    have hH' := w.sub.seq (s.seq h')
    refine ⟨⟨vs, us, v1, v2, hH, hH', hv1, hv2⟩, fun u H'' y => ?_⟩
    obtain ⟨T, y1, y2, rfl, hT, rfl, f1, f2⟩ := y
    have q1 := f1 vs hH
    have q2 := f2 us hH'
    rw [hv1] at q1
    rw [hv2] at q2
    cases q1
    cases q2
    obtain ⟨e, w2, q⟩ := w.alloc hT (.tup [v1, v2])
    exact ⟨_, e, w2, .tup (.inl (.inl q)) (by show 2 ≤ sizeLine; rw [sizeLine_eq]; omega) (.cons (Rep.ext e (Rep.mono s m _ _ rv1)) (.cons (Rep.ext e (Rep.mono s m _ _ rv2)) .nil))⟩
  · refine ⟨vs, us, w.sub.seq (s.seq h), w.sub.seq (s.seq h'), ?_⟩
    have := List.getElem?_eq_none_iff.mp hx
    rw [pairs_length, ← r.length, ← r'.length] at this
    omega
theorem goes_zipT {a b : Addr} {vs us : List V} {xs ys : List PV} (h : SqT g.K F a vs) (hl : vs.length ≤ sizeLine) (r : Reps g.K g.fa F μ vs xs) (h' : SqT g.K F b us) (r' : Reps g.K g.fa F μ us ys) : Goes g F μ (pairs xs ys) (ItzT g.K a b) := by
  refine ⟨?_, fun F' μ' H' st' s m w i => ⟨fun x hx => ?_, fun hx => ?_⟩⟩
  · rw [pairs_length, ← r.length]
    omega
  · obtain ⟨x1, x2, hx1, hx2, rfl⟩ := pairs_get hx
    obtain ⟨v1, hv1, rv1⟩ := r.get hx1
    obtain ⟨v2, hv2, rv2⟩ := r'.get hx2
    have hH := sqT_same w.sub (sqT_same s h)
    have hH' := sqT_same w.sub (sqT_same s h')
    refine ⟨⟨vs, us, v1, v2, hH, hH', hv1, hv2⟩, fun u H'' y => ?_⟩
    obtain ⟨T, y1, y2, rfl, hT, rfl, f1, f2⟩ := y
    have q1 := f1 vs hH
    have q2 := f2 us hH'
    rw [hv1] at q1
    rw [hv2] at q2
    cases q1
    cases q2
    obtain ⟨e, w2, q⟩ := w.alloc hT (.tup [v1, v2])
    exact ⟨_, e, w2, .tup (.inl (.inl q)) (by show 2 ≤ sizeLine; rw [sizeLine_eq]; omega) (.cons (Rep.ext e (Rep.mono s m _ _ rv1)) (.cons (Rep.ext e (Rep.mono s m _ _ rv2)) .nil))⟩
  · refine ⟨vs, us, sqT_same w.sub (sqT_same s h), sqT_same w.sub (sqT_same s h'), ?_⟩
    have := List.getElem?_eq_none_iff.mp hx
    rw [pairs_length, ← r.length, ← r'.length] at this
    omega
end
section
variable {X : Cx} {g : Gx} {W : WX} {tg e e2 : Expr} {p pos tpos : Pos} {m : EM} {n : AM} {wi wi' : TI}
theorem PI.mono (h : PI X tg e wi) (i : ∀ σ H R, wi' σ H R → wi σ H R) : PI X tg e wi' := ⟨fun pins s σ H R I q => h.run pins s σ H R I (i _ _ _ q)⟩
def iSeq (K : PySem.W.Frag) (tl : TE) : TI := fun σ H R => tl σ H fun x H1 => (∃ a, x = .ref a ∧ (∃ xs, SqL K H1 a xs) ∧ R (Itl K a) H1) ∨ (∃ a, x = .ref a ∧ (∃ xs, SqT K H1 a xs) ∧ R (Itt K a) H1)
theorem pi_seq {l : Expr} {tl : TE} (hl : PE X l tl) : PI X tg l (iSeq X.K tl) := by
  refine ⟨fun pins s σ H R I h => ?_⟩
  refine thn (hl.run pins s σ H _ I h) fun v s1 ⟨x, H1, I1, r1, q1⟩ => ?_
  rcases q1 with ⟨a, e, ⟨xs, hq⟩, q⟩ | ⟨a, e, ⟨xs, hq⟩, q⟩
  · subst e
    cases r1
    obtain ⟨its, rv, p, hz⟩ := I1.list hq
    refine wpAny_pyIter_list p.isList ?_
    refine ⟨s1.heap.objs.size, [s1.heap.objs.size], _, _, H1, rfl, I1.kept (t' := s1.toks) fun b o e => Heap.get?_push_of_some _ e, turn_list a _, ⟨_, Heap.get?_push_size _ rfl, rfl, rfl⟩, fun b hb => ?_, q⟩
    have e : b = s1.heap.objs.size := by simpa using hb
    subst e
    exact I1.fpOk (Nat.le_refl _) (I1.hok.fresh (Nat.le_refl _))
  · subst e
    cases r1
    obtain ⟨its, rv, p, hz⟩ := I1.tuple hq
    refine wpAny_pyIter_tuple (show s1.heap.IsTuple a its.toArray from p) ?_
    refine ⟨s1.heap.objs.size, [s1.heap.objs.size], _, _, H1, rfl, I1.kept (t' := s1.toks) fun b o e => Heap.get?_push_of_some _ e, turn_tuple a _, ⟨_, Heap.get?_push_size _ rfl, rfl, rfl⟩, fun b hb => ?_, q⟩
    have e : b = s1.heap.objs.size := by simpa using hb
    subst e
    exact I1.fpOk (Nat.le_refl _) (I1.hok.fresh (Nat.le_refl _))
theorem si_seq (hK : g.K = X.K) (h : PE X e (tE g W m)) : PI X tg e (tI g W (aSeq m)) := by
  refine PI.mono (pi_seq h) fun σ H R h => ?_
  obtain ⟨F, μ, st, ρ, w, en, h⟩ := h
  refine ⟨F, μ, st, ρ, w, en, (Post.bind h).imp fun x st1 F1 μ1 H1 e1 w1 h1 v rv => ?_⟩
  obtain ⟨xs, hx, h2⟩ := Post.opt h1
  obtain ⟨a, vs, rfl, q, hl, r⟩ := itemsOf_sq w1.sub rv hx
  have h3 := h2 F1 μ1 H1 (Ext.refl ..) w1
  rcases q with ⟨q1, q2⟩ | ⟨q1, q2⟩
  · exact .inl ⟨a, rfl, ⟨vs, by rw [← hK]; exact q2⟩, by rw [← hK]; exact h3 _ (goes_list q1 hl r)⟩
  · exact .inr ⟨a, rfl, ⟨vs, by rw [← hK]; exact q2⟩, by rw [← hK]; exact h3 _ (goes_tup q1 hl r)⟩
theorem si_zip {elts : List Expr} {kk : Nat} (hK : g.K = X.K) (hg : Gl X "zip") (hm : X.mg "zip" = none) (ha : PA X [e, e2] (tA g W n)) (h1 : isStar e = false) (h2 : isStar e2 = false) :
    PI X (.Tuple elts kk tpos) (.Call (.Name "zip" p) [e, e2] [] pos) (tI g W (aZip n)) := by
  refine PI.mono (pi_zipA hg hm ha (starEach_cons h1) (backTo_any (by simp [h2]))) fun σ H R h => ?_
  obtain ⟨F, μ, st, ρ, w, en, h⟩ := h
  refine ⟨F, μ, st, ρ, w, en, (Post.bind h).imp fun xs st1 F1 μ1 H1 e1 w1 h1 vs rvs => ?_⟩
  match xs, rvs with
  | [], _ => exact h1.elim
  | [_], _ => simp at h1; exact h1.elim
  | _ :: _ :: _ :: _, _ => simp at h1; exact h1.elim
  | [x, y], .cons rx (.cons ry .nil) =>
    cases rx <;> try (simp at h1; exact h1.elim)
    · cases ry <;> try (simp at h1; exact h1.elim)
      rename_i a us xs q1 l1 r1 b ws ys q2 l2 r2
      refine ⟨a, b, us, ws, rfl, .inr ⟨by rw [← hK]; exact sqT_same w1.sub q1, by rw [← hK]; exact sqT_same w1.sub q2, ?_⟩⟩
      rw [← hK]
      exact h1 F1 μ1 H1 (Ext.refl ..) w1 _ (goes_zipT q1 l1 r1 q2 r2)
    · cases ry <;> try (simp at h1; exact h1.elim)
      rename_i a us xs q1 l1 r1 b ws ys q2 l2 r2
      refine ⟨a, b, us, ws, rfl, .inl ⟨SqL.of (w1.sub _ _ q1), SqL.of (w1.sub _ _ q2), ?_⟩⟩
      rw [← hK]
      exact h1 F1 μ1 H1 (Ext.refl ..) w1 _ (goes_zipL (SqL.of q1) l1 r1 (SqL.of q2) r2)
theorem rOk_inv {i : Int} (h : rOk i = true) : -(2 ^ 62) ≤ i ∧ i < 2 ^ 62 := of_decide_eq_true h
theorem si_range1 (hg : Gl X "range") (hm : X.mg "range" = none) (ha : PA X [e] (tA g W n)) (h1 : isStar e = false) : PI X tg (.Call (.Name "range" p) [e] [] pos) (tI g W (aRange1 n)) := by
  refine PI.mono (pi_range1 hg hm ha (starEach_cons h1)) fun σ H R h => ?_
  obtain ⟨F, μ, st, ρ, w, en, h⟩ := h
  refine ⟨F, μ, st, ρ, w, en, (Post.bind h).imp fun xs st1 F1 μ1 H1 e1 w1 h1 vs rvs => ?_⟩
  match xs, rvs with
  | [], _ => exact h1.elim
  | _ :: _ :: _, _ => simp at h1; exact h1.elim
  | [x], .cons rx .nil =>
    cases rx <;> try (simp at h1; exact h1.elim)
    rename_i j
    simp only at h1
    split at h1
    · rename_i c
      obtain ⟨c1, c2⟩ := rOk_inv c.1
      exact ⟨j, rfl, c1, c2, h1 F1 μ1 H1 (Ext.refl ..) w1 _ (goes_range c.2)⟩
    · exact h1.elim
theorem si_range2 (hg : Gl X "range") (hm : X.mg "range" = none) (ha : PA X [e, e2] (tA g W n)) (h1 : isStar e = false) (h2 : isStar e2 = false) : PI X tg (.Call (.Name "range" p) [e, e2] [] pos) (tI g W (aRange2 n)) := by
  refine PI.mono (pi_range2 hg hm ha (by rw [starEach_cons h1, starEach_cons h2]; rfl) (starEach_cons h2)) fun σ H R h => ?_
  obtain ⟨F, μ, st, ρ, w, en, h⟩ := h
  refine ⟨F, μ, st, ρ, w, en, (Post.bind h).imp fun xs st1 F1 μ1 H1 e1 w1 h1 vs rvs => ?_⟩
  match xs, rvs with
  | [], _ => exact h1.elim
  | [_], _ => simp at h1; exact h1.elim
  | _ :: _ :: _ :: _, _ => simp at h1; exact h1.elim
  | [x, y], .cons rx (.cons ry .nil) =>
    cases rx <;> try (simp at h1; exact h1.elim)
    cases ry <;> try (simp at h1; exact h1.elim)
    rename_i i j
    simp only at h1
    split at h1
    · rename_i c
      obtain ⟨c1, c2⟩ := rOk_inv c.1
      obtain ⟨c3, c4⟩ := rOk_inv c.2.1
      exact ⟨i, j, rfl, ⟨c1, c2, c3, c4⟩, h1 F1 μ1 H1 (Ext.refl ..) w1 _ (goes_range c.2.2)⟩
    · exact h1.elim
end
end BK

/-! BkG: targets, comprehensions -/
namespace BK
open PySem PySem.Spec PyProof.Rows L2 RZ

/-! ### targets -/
/-- a target takes a value to the slots that it sets -/
abbrev GM := PV → Option (List (Nat × PV))
abbrev GsM := List PV → Option (List (Nat × PV))
def gNm (i : Nat) : GM := fun x => some [(i, x)]
def gTp (t : GsM) : GM := fun x => match x with
  | .tup xs => t xs
  | _ => none
def gsNil : GsM := fun xs => match xs with
  | [] => some []
  | _ => none
def gsCons (t : GM) (u : GsM) : GsM := fun xs => match xs with
  | x :: r => (t x).bind fun a => (u r).map (a ++ ·)
  | [] => none
def setP (ρ : PEnv) : List (Nat × PV) → PEnv
  | [] => ρ
  | (i, x) :: r => setP (ρ.set i (some x)) r
theorem setP_append : ∀ (a b : List (Nat × PV)) (ρ : PEnv), setP ρ (a ++ b) = setP (setP ρ a) b
  | [], _, _ => rfl
  | (i, x) :: a, b, ρ => by simp only [List.cons_append, setP, setP_append a b]
/-- only the slots at vs may change -/
def Off (vs : List Nat) (σ σ' : L2.St) : Prop := σ'.length = σ.length ∧ ∀ j, j ∉ vs → σ'[j]? = σ[j]?
def tG (g : Gx) (vs : List Nat) (t : GM) : TG := fun v σ H Q => ∃ F μ st ρ x as, Wok g.K g.fa F μ H st ∧ Env g F μ σ ρ ∧ Rep g.K g.fa F μ v x ∧ t x = some as ∧ ∀ σ', Off vs σ σ' → Env g F μ σ' (setP ρ as) → Q σ' H
def tGs (g : Gx) (vs : List Nat) (t : GsM) : TGs := fun us σ H Q => ∃ F μ st ρ xs as, Wok g.K g.fa F μ H st ∧ Env g F μ σ ρ ∧ Reps g.K g.fa F μ us xs ∧ t xs = some as ∧ ∀ σ', Off vs σ σ' → Env g F μ σ' (setP ρ as) → Q σ' H
theorem Off.refl (vs : List Nat) (σ : L2.St) : Off vs σ σ := ⟨rfl, fun _ _ => rfl⟩
theorem Off.trans {vs : List Nat} {σ σ1 σ2 : L2.St} (a : Off vs σ σ1) (b : Off vs σ1 σ2) : Off vs σ σ2 := ⟨b.1.trans a.1, fun j h => (b.2 j h).trans (a.2 j h)⟩
theorem Off.mono {vs ws : List Nat} {σ σ1 : L2.St} (a : Off vs σ σ1) (h : ∀ j ∈ vs, j ∈ ws) : Off ws σ σ1 := ⟨a.1, fun j k => a.2 j fun z => k (h j z)⟩
section
variable {X : Cx} {g : Gx} {pos : Pos}
theorem env_set {F : Hp} {μ : List Addr} {σ : L2.St} {ρ : PEnv} {i : Nat} {v : V} {x : PV} (en : Env g F μ σ ρ) (r : Rep g.K g.fa F μ v x) : Env g F μ (σ.set i (some v)) (ρ.set i (some x)) := ⟨by simpa using en.1, fun j y h => by
  have hl := en.1
  by_cases e : i = j
  · subst e
    by_cases hi : i < ρ.length
    · rw [List.getElem?_set_self hi] at h
      cases h
      exact ⟨v, by rw [List.getElem?_set_self (by omega)], r⟩
    · rw [List.getElem?_eq_none (by simpa using hi)] at h
      cases h
  · rw [List.getElem?_set_ne e] at h ⊢
    exact en.2 j y h⟩
theorem sg_name {i : Nat} {x : Str} (hN : X.N.Nodup) (hi : X.N[i]? = some x) (hx : Loc X.env.scope x) (hf : X.fn x = true ∨ X.env.scope.names.lookup x = some .local) : PG X (.Name x pos) (tG g [i] (gNm i)) := by
  refine ⟨fun pins s σ H v u Q I r h => ?_⟩
  refine (pg_name hN hi hx hf).run pins s σ H v u Q I r ?_
  obtain ⟨F, μ, st, ρ, x, as, w, en, rv, ht, q⟩ := h
  simp only [gNm, Option.some.injEq] at ht
  subst ht
  refine q _ ⟨by simp, fun j hj => ?_⟩ (env_set en rv)
  rw [List.getElem?_set_ne (fun z => hj (by simp [z]))]
theorem sgs_nil : PGs X [] (tGs g [] gsNil) := by
  refine ⟨fun pins s σ H vs us Q I r h => ?_⟩
  refine pgs_nil.run pins s σ H vs us Q I r ?_
  obtain ⟨F, μ, st, ρ, xs, as, w, en, rv, ht, q⟩ := h
  cases xs with
  | nil =>
    cases rv
    simp only [gsNil, Option.some.injEq] at ht
    subst ht
    exact ⟨rfl, q σ (Off.refl _ _) en⟩
  | cons x xs => simp [gsNil] at ht
theorem sgs_cons {e : Expr} {es : List Expr} {t : GM} {u : GsM} {vs ws : List Nat} (h1 : PG X e (tG g vs t)) (h2 : PGs X es (tGs g ws u)) (hs : isStar e = false) : PGs X (e :: es) (tGs g (vs ++ ws) (gsCons t u)) := by
  have hs' : (assignEach (e :: es) X.env).map (·.2) = assign e X.env :: (assignEach es X.env).map (·.2) := by
    cases e <;> first | rfl | (simp [isStar] at hs)
  refine ⟨fun pins s σ H vv us Q I r h => ?_⟩
  refine (pgs_cons h1 h2 hs').run pins s σ H vv us Q I r ?_
  obtain ⟨F, μ, st, ρ, xs, as, w, en, rv, ht, q⟩ := h
  cases xs with
  | nil => simp [gsCons] at ht
  | cons x xs =>
    cases rv with
    | cons rv rt =>
      simp only [gsCons, Option.bind_eq_some_iff, Option.map_eq_some_iff] at ht
      obtain ⟨a1, ht1, a2, ht2, rfl⟩ := ht
      refine ⟨_, _, rfl, F, μ, st, ρ, x, a1, w, en, rv, ht1, fun σ1 o1 en1 => ?_⟩
      rw [setP_append] at q
      exact ⟨F, μ, st, setP ρ a1, xs, a2, w, en1, rt, ht2, fun σ2 o2 en2 => q σ2 ((o1.mono fun j h => List.mem_append_left _ h).trans (o2.mono fun j h => List.mem_append_right _ h)) en2⟩
theorem assignEach_length : ∀ {es : List Expr} {env : PySem.Env}, (assignEach es env).length = es.length
  | [], _ => rfl
  | e :: es, env => by
    have := assignEach_length (es := es) (env := env)
    cases e <;> simp only [assignEach, List.length_cons, this]
theorem assignEach_star : ∀ {es : List Expr} {env : PySem.Env}, es.any isStar = false → (assignEach es env).findIdx? (·.1) = none
  | [], _, _ => rfl
  | e :: es, env, h => by
    rw [List.any_cons, Bool.or_eq_false_iff] at h
    have := assignEach_star (es := es) (env := env) h.2
    cases e <;> first | (simp only [assignEach, List.findIdx?_cons, Bool.false_eq_true, if_false, this, Option.map_none]; done) | (simp [isStar] at h)
theorem sg_tup {es : List Expr} {k : Nat} {t : GsM} {vs : List Nat} (hc : X.calm = true) (hK : g.K = X.K) (h : PGs X es (tGs g vs t)) (hs : es.any isStar = false) (hn : ∀ xs as, t xs = some as → xs.length = es.length) : PG X (.Tuple es k pos) (tG g vs (gTp t)) := by
  refine ⟨fun pins s σ H v u Q I r hw => ?_⟩
  refine (pg_tup (n := es.length) hc h assignEach_length (assignEach_star hs)).run pins s σ H v u Q I r ?_
  obtain ⟨F, μ, st, ρ, x, as, w, en, rv, ht, q⟩ := hw
  cases rv <;> try (simp [gTp] at ht; done)
  rename_i a us xs h1 l1 r1
  simp only [gTp] at ht
  exact ⟨a, us, rfl, by rw [← hK]; exact sqT_same w.sub h1, by rw [r1.length]; exact hn _ _ ht, F, μ, st, ρ, xs, as, w, en, r1, ht, q⟩
end

/-! ### comprehensions -/
def noX {α : Type} (r : Res α) : Res α := match r with
  | .ok a st => .ok a st
  | _ => .bad
def wipeP (ρ : PEnv) : List Nat → PEnv
  | [] => ρ
  | v :: vs => (wipeP ρ vs).set v none
def bYes : BM := fun _ st => .ok true st
/-- a turn for each item -/
def compGo (t : GM) (c : BM) (m : EM) (ρ : PEnv) : List PV → Sto → Res (List PV)
  | [], st => .ok [] st
  | x :: xs, st => match (t x).map (setP ρ) with
    | none => .bad
    | some ρ1 => (c ρ1 st).bind fun b st1 => if b = true then (m ρ1 st1).bind fun y st2 => (compGo t c m ρ xs st2).bind fun ys st3 => .ok (y :: ys) st3 else compGo t c m ρ xs st1
def aLc (it : AM) (vs : List Nat) (t : GM) (c : BM) (m : EM) : AM := fun ρ st => (it ρ st).bind fun xs st1 => noX (compGo t c m (wipeP ρ vs) xs st1)
abbrev W0 : WX := fun _ _ _ _ => False
theorem wipeP_length (ρ : PEnv) : ∀ vs : List Nat, (wipeP ρ vs).length = ρ.length
  | [] => rfl
  | v :: vs => by unfold wipeP; rw [List.length_set, wipeP_length ρ vs]
theorem wipeP_some {ρ : PEnv} {i : Nat} {x : PV} : ∀ {vs : List Nat}, (wipeP ρ vs)[i]? = some (some x) → ρ[i]? = some (some x) ∧ i ∉ vs
  | [], h => ⟨h, by simp⟩
  | v :: vs, h => by
    unfold wipeP at h
    by_cases hi : v = i
    · subst hi
      by_cases hv : v < (wipeP ρ vs).length
      · rw [List.getElem?_set_self hv] at h; cases h
      · rw [List.getElem?_eq_none (by simpa using hv)] at h; cases h
    · rw [List.getElem?_set_ne hi] at h
      obtain ⟨h1, h2⟩ := wipeP_some h
      exact ⟨h1, by simp only [List.mem_cons, not_or]; exact ⟨fun e => hi e.symm, h2⟩⟩
theorem wipe_in {σ : L2.St} {i : Nat} : ∀ {vs : List Nat}, i ∈ vs → i < σ.length → (wipe σ vs)[i]? = some none
  | v :: vs, h, hl => by
    unfold wipe
    by_cases e : v = i
    · subst e
      rw [List.getElem?_set_self (by rw [wipe_length]; exact hl)]
    · rw [List.getElem?_set_ne e]
      exact wipe_in (by rcases List.mem_cons.mp h with z | z; exact absurd z.symm e; exact z) hl
theorem wipe_eq {σ σ' : L2.St} {vs : List Nat} (o : Off vs σ σ') : wipe σ' vs = wipe σ vs := by
  refine List.ext_getElem? fun i => ?_
  by_cases hm : i ∈ vs
  · by_cases hl : i < σ.length
    · rw [wipe_in hm (by rw [o.1]; exact hl), wipe_in hm hl]
    · rw [List.getElem?_eq_none (by rw [wipe_length, o.1]; omega), List.getElem?_eq_none (by rw [wipe_length]; omega)]
  · rw [wipe_out hm, wipe_out hm]
    exact o.2 i hm
theorem wipe_off (σ : L2.St) (vs : List Nat) : Off vs σ (wipe σ vs) := ⟨wipe_length σ vs, fun j h => wipe_out h⟩
section
variable {g : Gx} {F : Hp} {μ : List Addr}
theorem env_wipe {σ : L2.St} {ρ : PEnv} (en : Env g F μ σ ρ) (vs : List Nat) : Env g F μ (wipe σ vs) (wipeP ρ vs) := ⟨by rw [wipe_length, wipeP_length]; exact en.1, fun i x h => by
  obtain ⟨h1, h2⟩ := wipeP_some h
  rw [wipe_out h2]
  exact en.2 i x h1⟩
theorem Wok.put {fa : Nat → Option Addr} {K : PySem.W.Frag} {H : Hp} {st : Sto} (w : Wok K fa F μ H st) {p : Addr} (o : HO) (hF : F p = none) (hm : p ∉ μ) : Wok K fa F μ (upd H p o) st :=
  ⟨fun b u h => by rw [upd_ne (ne_of_none h hF)]; exact w.sub b u h, w.len, w.nd, w.off, fun n a hn => by
    obtain ⟨xs, vs, h1, h2, h3, h4, h5⟩ := w.obj n a hn
    have ha : a ≠ p := fun z => hm (by rw [← z]; exact List.mem_iff_getElem?.mpr ⟨n, hn⟩)
    exact ⟨xs, vs, h1, by rw [upd_ne ha]; exact h2, h3, h4, h5⟩⟩
theorem Ext.put {F0 : Hp} {μ0 : List Addr} {H0 H : Hp} (e : Ext F0 μ0 H0 F μ H) {p : Addr} (o : HO) (h0 : H0 p = none) : Ext F0 μ0 H0 F μ (upd H p o) :=
  ⟨e.fs, e.ms, fun a u h m => by rw [upd_ne (ne_of_none h h0)]; exact e.hs a u h m, fun a m h => by
    by_cases z : a = p
    · rw [z, upd_same]; simp
    · rw [upd_ne z]; exact e.hm a m h, e.fn, e.mn⟩
/-- what nobody else has stays so -/
theorem Ext.mine {F' : Hp} {μ' : List Addr} {H H' : Hp} (e : Ext F μ H F' μ' H') {p : Addr} {o : HO} (hF : F p = none) (hm : p ∉ μ) (hH : H p = some o) : F' p = none ∧ p ∉ μ' ∧ H' p = some o := by
  refine ⟨?_, fun z => ?_, e.hs p o hH hm⟩
  · cases q : F' p with
    | none => rfl
    | some u =>
      have := e.fn p hF (by rw [q]; simp)
      rw [hH] at this; cases this
  · have := e.mn p z hm
    rw [hH] at this; cases this
end
theorem noX_ok {α : Type} {r : Res α} {a : α} {st : Sto} (h : noX r = .ok a st) : r = .ok a st := by
  cases r with
  | ok b s => exact h
  | exn c fs s => cases h
  | bad => cases h
theorem Res.bind_ok {α β : Type} {r : Res α} {k : α → Sto → Res β} {b : β} {st : Sto} (h : r.bind k = .ok b st) : ∃ a s, r = .ok a s ∧ k a s = .ok b st := by
  cases r with
  | ok a s => exact ⟨a, s, rfl, h⟩
  | exn c fs s => cases h
  | bad => cases h
section
variable {X : Cx} {g : Gx} {W : WX}
/-- the reading of a comprehension's loop -/
theorem tLc_of {it : AM} {vs : List Nat} {t : GM} {c : BM} {m : EM} {wi : TI} {tt : TT} {te : TE} {σ : L2.St} {H : Hp} {Q : VK}
    (hi : ∀ σ H R, tI g W it σ H R → wi σ H R) (ht : ∀ σ H Q, tT g W0 c σ H Q → tt σ H Q) (he : ∀ σ H Q, tE g W0 m σ H Q → te σ H Q)
    (h : tL g W (aLc it vs t c m) σ H Q) : tLc wi (tG g vs t) tt te vs σ H Q := by
  obtain ⟨F, μ, st, ρ, w, en, h⟩ := h
  refine hi _ _ _ ⟨F, μ, st, ρ, w, en, (Post.bind h).imp fun xs st1 F1 μ1 H1 e1 w1 h1 J hJ D hD => ?_⟩
  obtain ⟨hxl, hJ⟩ := hJ
  cases q : noX (compGo t c m (wipeP ρ vs) xs st1) with
  | bad => rw [q] at h1; exact h1.elim
  | exn cn fs s2 =>
    cases q2 : compGo t c m (wipeP ρ vs) xs st1 <;> rw [q2] at q <;> cases q
  | ok zs stE =>
  rw [q] at h1
  have q := noX_ok q
  refine ⟨fun i n H2 => n = xs.length - i ∧ ∃ F2 μ2 st2 acc pacc ys, Ext F1 μ1 H1 F2 μ2 H2 ∧ Wok g.K g.fa F2 μ2 H2 st2 ∧ F2 D = none ∧ D ∉ μ2 ∧ H2 D = some (.lst acc) ∧ (acc.length ≤ i ∧ i ≤ xs.length) ∧ Reps g.K g.fa F2 μ2 acc pacc ∧
    compGo t c m (wipeP ρ vs) (xs.drop i) st2 = .ok ys stE ∧ zs = pacc ++ ys, ?_, ?_⟩
  · obtain ⟨e2, w2, q1, q2⟩ := w1.own hD (.lst [])
    exact ⟨_, rfl, F1, μ1, st1, [], [], zs, e2, w2, q1, q2, upd_same, ⟨Nat.le_refl _, Nat.zero_le _⟩, .nil, q, rfl⟩
  rintro i n H2 ⟨rfl, F2, μ2, st2, acc, pacc, ys, e2, w2, d1, d2, d3, d4, r2, g2, z2⟩
  obtain ⟨hgo, hstop⟩ := hJ F2 μ2 H2 st2 e2.fs e2.ms w2 i
  have en2 : Env g F2 μ2 σ ρ := (en.mono e1).mono e2
  by_cases hlt : i < xs.length
  · have hx : xs[i]? = some xs[i] := List.getElem?_eq_getElem hlt
    obtain ⟨go, yld⟩ := hgo _ hx
    rw [List.drop_eq_getElem_cons hlt] at g2
    unfold compGo at g2
    cases qt : t xs[i] with
    | none => rw [qt] at g2; cases g2
    | some as =>
    rw [qt] at g2
    rw [Option.map_some] at g2
    simp only at g2
    generalize hρ : setP (wipeP ρ vs) as = ρ1 at g2
    obtain ⟨b, s3, g3, g4⟩ := Res.bind_ok g2
    refine .inr ⟨go, fun H' => ∃ F2 μ2 st2 acc pacc ys, Ext F1 μ1 H1 F2 μ2 H' ∧ Wok g.K g.fa F2 μ2 H' st2 ∧ F2 D = none ∧ D ∉ μ2 ∧ H' D = some (.lst acc) ∧ (acc.length ≤ i + 1 ∧ i + 1 ≤ xs.length) ∧ Reps g.K g.fa F2 μ2 acc pacc ∧
      compGo t c m (wipeP ρ vs) (xs.drop (i + 1)) st2 = .ok ys stE ∧ zs = pacc ++ ys, fun H' h' => ⟨xs.length - (i + 1), by omega, rfl, h'⟩, fun v H3 y => ?_⟩
    obtain ⟨F3, e3, w3, rv⟩ := yld v H3 y
    obtain ⟨f1, f2, f3⟩ := e3.mine d1 d2 d3
    refine ⟨F3, μ2, st2, wipeP ρ vs, xs[i], as, w3, env_wipe (en2.mono e3) vs, rv, qt, fun σ3 o3 en3 => ⟨?_, ?_⟩⟩
    · exact wipe_eq ((wipe_off σ vs).trans o3)
    rw [hρ] at en3
    refine ht _ _ _ ⟨F3, μ2, st2, ρ1, w3, en3, ?_⟩
    rw [g3]
    intro F4 μ4 H4 e4 w4
    obtain ⟨k1, k2, k3⟩ := e4.mine f1 f2 f3
    cases b with
    | false =>
      rw [if_neg Bool.false_ne_true] at g4
      show if false = true then _ else _
      rw [if_neg Bool.false_ne_true]
      exact ⟨F4, μ4, s3, acc, pacc, ys, (e2.trans e3).trans e4, w4, k1, k2, k3, ⟨by omega, by omega⟩, Reps.ext e4 (Reps.ext e3 r2), g4, z2⟩
    | true =>
      rw [if_pos rfl] at g4
      obtain ⟨y, s5, g5, g6⟩ := Res.bind_ok g4
      obtain ⟨ys', s6, g7, g8⟩ := Res.bind_ok g6
      cases g8
      show if true = true then _ else _
      rw [if_pos rfl]
      refine he _ _ _ ⟨F4, μ4, s3, ρ1, w4, en3.mono e4, ?_⟩
      rw [g5]
      intro F5 μ5 H5 e5 w5 u ru
      obtain ⟨l1, l2, l3⟩ := e5.mine k1 k2 k3
      refine ⟨acc, l3, by omega, F5, μ5, s5, acc ++ [u], pacc ++ [y], ys', (((e2.trans e3).trans e4).trans e5).put _ hD, w5.put _ l1 l2, l1, l2, upd_same, ⟨by rw [List.length_append]; simp; omega, by omega⟩, ?_, g7, by rw [z2]; simp⟩
      exact (Reps.ext e5 (Reps.ext e4 (Reps.ext e3 r2))).append (.cons ru .nil)
  · have hn : xs[i]? = none := List.getElem?_eq_none (by omega)
    rw [List.drop_eq_nil_of_le (by omega)] at g2
    unfold compGo at g2
    cases g2
    rw [List.append_nil] at z2
    subst z2
    refine .inl ⟨hstop hn, ?_⟩
    exact h1 F2 μ2 H2 e2 w2 D acc (e1.keep hD) d1 d2 d3 (by omega) r2
theorem sl_lc {elt tg iter : Expr} {ifs : List Expr} {scope : Scope} {own : List (Str × Nat)} {pos : Pos} {it : AM} {t : GM} {c : BM} {m : EM} (hc : X.calm = true) (hN : X.N.Nodup) (hi : PI X tg iter (tI g W it)) (ok : BlkOk X.N X.env.scope scope own)
    (hg : ∀ (s : Shared) (H : Hp) (C : Addr) (cl : List (Str × Addr)) (fp : List Addr), PG (X.blk s H scope (compEnvC scope cl C X.env) fp) tg (tG g (own.map (·.2)) t))
    (ht : ∀ (s : Shared) (H : Hp) (C : Addr) (cl : List (Str × Addr)) (fp : List Addr), PTs (X.blk s H scope (compEnvC scope cl C X.env) fp) ifs (tT g W0 c))
    (he : ∀ (s : Shared) (H : Hp) (C : Addr) (cl : List (Str × Addr)) (fp : List Addr), PE (X.blk s H scope (compEnvC scope cl C X.env) fp) elt (tE g W0 m)) (hs : ∀ x, foldedSetIterable iter X.env x = pure x) :
    PE X (.ListComp elt [⟨tg, iter, ifs, 0⟩] scope pos) (tL g W (aLc it (own.map (·.2)) t c m)) :=
  PE.mono (pe_lc hc hN hi ok hg ht he hs) fun _ _ _ h => tLc_of (fun _ _ _ h => h) (fun _ _ _ h => h) (fun _ _ _ h => h) h
theorem sts_nil : PTs X [] (tT g W bYes) := ⟨fun pins s σ H Q I hw => pts_nil.run pins s σ H Q I (by
  obtain ⟨F, μ, st, ρ, w, en, h⟩ := hw
  exact h F μ H (Ext.refl ..) w)⟩
end
end BK

/-! BkQ: comprehensions of two and three clauses -/
namespace BK
open PySem PySem.Spec PyProof.Rows L2 RZ

def outG (t i : Expr) (ifs : List Expr) (i1 : Expr) (start : Value → Code) (loop : Code) (it : Value) (env : PySem.Env) : Sem Fin := do
  standAt i.pos
  match ← pyNext it with
  | none => pure (.done .next)
  | some v =>
    letOwnedTupleGo t it v
    assign t env v
    let mut ok := true
    for c in ifs do
      if ok then ok ← isTrue c env (eval c env)
    if ok then
      let x ← eval i1 env
      standAt i1.pos
      let x ← foldedSetIterable i1 env x
      let _ ← runOwn (start (← holding [x] (pyIter x))) env
    again loop
def inG (t i : Expr) (ifs : List Expr) (elt : Expr) (acc : Value) (loop : Code) (it : Value) (env : PySem.Env) : Sem Fin := do
  standAt i.pos
  match ← pyNext it with
  | none => pure (.done .next)
  | some v =>
    letOwnedTupleGo t it v
    assign t env v
    let mut ok := true
    for c in ifs do
      if ok then ok ← isTrue c env (eval c env)
    if ok then
      (do let _ ← call (.builtin "list.append") [acc, ← eval elt env])
    again loop
def startG (i : Expr) (loop : Value → Code) (it : Value) : Sem Fin := do
  if (← ask).params.followText "comprehension-iter-twice" then return ← again (loop it)
  rule "comprehension.iter-twice"
  standAt i.pos
  again (loop (← pyIter it))
section
variable (elt t0 i0 t1 i1 t2 i2 : Expr) (f0 f1 f2 : List Expr) (scope : Scope) (pos : Pos) (it acc : Value) (env : PySem.Env)
theorem turn2_0 : compTurn (.ListComp elt [⟨t0, i0, f0, 0⟩, ⟨t1, i1, f1, 0⟩] scope pos) 0 it acc env = outG t0 i0 f0 i1 (fun j => .compStart (.ListComp elt [⟨t0, i0, f0, 0⟩, ⟨t1, i1, f1, 0⟩] scope pos) 1 j acc env) (.compLoop (.ListComp elt [⟨t0, i0, f0, 0⟩, ⟨t1, i1, f1, 0⟩] scope pos) 0 it acc env) it env := by rfl
theorem turn2_1 : compTurn (.ListComp elt [⟨t0, i0, f0, 0⟩, ⟨t1, i1, f1, 0⟩] scope pos) 1 it acc env = inG t1 i1 f1 elt acc (.compLoop (.ListComp elt [⟨t0, i0, f0, 0⟩, ⟨t1, i1, f1, 0⟩] scope pos) 1 it acc env) it env := by rfl
theorem turn3_0 : compTurn (.ListComp elt [⟨t0, i0, f0, 0⟩, ⟨t1, i1, f1, 0⟩, ⟨t2, i2, f2, 0⟩] scope pos) 0 it acc env = outG t0 i0 f0 i1 (fun j => .compStart (.ListComp elt [⟨t0, i0, f0, 0⟩, ⟨t1, i1, f1, 0⟩, ⟨t2, i2, f2, 0⟩] scope pos) 1 j acc env) (.compLoop (.ListComp elt [⟨t0, i0, f0, 0⟩, ⟨t1, i1, f1, 0⟩, ⟨t2, i2, f2, 0⟩] scope pos) 0 it acc env) it env := by rfl
theorem turn3_1 : compTurn (.ListComp elt [⟨t0, i0, f0, 0⟩, ⟨t1, i1, f1, 0⟩, ⟨t2, i2, f2, 0⟩] scope pos) 1 it acc env = outG t1 i1 f1 i2 (fun j => .compStart (.ListComp elt [⟨t0, i0, f0, 0⟩, ⟨t1, i1, f1, 0⟩, ⟨t2, i2, f2, 0⟩] scope pos) 2 j acc env) (.compLoop (.ListComp elt [⟨t0, i0, f0, 0⟩, ⟨t1, i1, f1, 0⟩, ⟨t2, i2, f2, 0⟩] scope pos) 1 it acc env) it env := by rfl
theorem turn3_2 : compTurn (.ListComp elt [⟨t0, i0, f0, 0⟩, ⟨t1, i1, f1, 0⟩, ⟨t2, i2, f2, 0⟩] scope pos) 2 it acc env = inG t2 i2 f2 elt acc (.compLoop (.ListComp elt [⟨t0, i0, f0, 0⟩, ⟨t1, i1, f1, 0⟩, ⟨t2, i2, f2, 0⟩] scope pos) 2 it acc env) it env := by rfl
theorem start2_1 : compStart (.ListComp elt [⟨t0, i0, f0, 0⟩, ⟨t1, i1, f1, 0⟩] scope pos) 1 it acc env = startG i1 (fun j => .compLoop (.ListComp elt [⟨t0, i0, f0, 0⟩, ⟨t1, i1, f1, 0⟩] scope pos) 1 j acc env) it := by rfl
theorem start3_1 : compStart (.ListComp elt [⟨t0, i0, f0, 0⟩, ⟨t1, i1, f1, 0⟩, ⟨t2, i2, f2, 0⟩] scope pos) 1 it acc env = startG i1 (fun j => .compLoop (.ListComp elt [⟨t0, i0, f0, 0⟩, ⟨t1, i1, f1, 0⟩, ⟨t2, i2, f2, 0⟩] scope pos) 1 j acc env) it := by rfl
theorem start3_2 : compStart (.ListComp elt [⟨t0, i0, f0, 0⟩, ⟨t1, i1, f1, 0⟩, ⟨t2, i2, f2, 0⟩] scope pos) 2 it acc env = startG i2 (fun j => .compLoop (.ListComp elt [⟨t0, i0, f0, 0⟩, ⟨t1, i1, f1, 0⟩, ⟨t2, i2, f2, 0⟩] scope pos) 2 j acc env) it := by rfl
end
/-- what a turn's body runs -/
def NX := Sem Unit → Prop
section
variable {prog : Program} {w : World} {A : Around} {R : Result → Shared → Prop} {s : Shared} {e elt t i i1 : Expr} {ifs : List Expr} {d d1 : Nat} {gs : List Comprehension} {scope : Scope} {pos : Pos} {it acc : Value} {env : PySem.Env}
abbrev TestsG (prog : Program) (w : World) (A : Around) (env : PySem.Env) (ifs : List Expr) (Q : Bool → Shared → Prop) (s : Shared) : Prop :=
  wpAny (model prog w) A (forIn ifs true fun c r => if r = true then do let ok ← isTrue c env (eval c env); pure (ForInStep.yield ok) else pure (ForInStep.yield r)) Q (fun _ _ => False) s
abbrev NextG (prog : Program) (w : World) (A : Around) (env : PySem.Env) (t : Expr) (ifs : List Expr) (it : Value) (B : Shared → (Shared → Prop) → Prop) (Dn : Shared → Prop) (Nx : Shared → Prop) (s : Shared) : Prop :=
  wpAny (model prog w) A (pyNext it) (fun r s₁ => match r with
      | none => Dn s₁
      | some v => wpAny (model prog w) A (letOwnedTupleGo t it v) (fun _ s₁' => wpAny (model prog w) A (assign t env v) (fun _ s₂ =>
          TestsG prog w A env ifs (fun ok s₃ => if ok = true then B s₃ Nx else Nx s₃) s₂) (fun _ _ => False) s₁') (fun _ _ => False) s₁) (fun _ _ => False) s
/-- the elt's part -/
def emitB (prog : Program) (w : World) (A : Around) (env : PySem.Env) (elt : Expr) (acc : Value) (s : Shared) (Nx : Shared → Prop) : Prop :=
  wpAny (model prog w) A (eval elt env) (fun x s₄ => wpAny (model prog w) A (call (.builtin "list.append") [acc, x]) (fun _ s₅ => Nx s₅) (fun _ _ => False) s₄) (fun _ _ => False) s
/-- the next clause's part -/
def nestB (prog : Program) (w : World) (A : Around) (env : PySem.Env) (i1 : Expr) (start : Value → Code) (s : Shared) (Nx : Shared → Prop) : Prop :=
  wpAny (model prog w) A (eval i1 env) (fun x s₄ => wpAny (model prog w) A (pyIter x) (fun j s₅ => codeAny (model prog w) A (start j) (fun r s' => match r with
    | .ok _ => Nx s'
    | .error _ => False) s₅) (fun _ _ => False) s₄) (fun _ _ => False) s
theorem monoF {α : Type} {p : Sem α} {Q Q' : α → Shared → Prop} {M : Model} {E : Value → Shared → Prop} (h : wpAny M A p Q (fun _ _ => False) s) (hQ : ∀ a s, Q a s → Q' a s) : wpAny M A p Q' E s := wpAny_mono h hQ fun _ _ z => z.elim
theorem loop_out (hE : e = .ListComp elt gs scope pos) (he : compTurn e d it acc env = outG t i ifs i1 (fun j => .compStart e d1 j acc env) (.compLoop e d it acc env) it env) (hs : ∀ x, foldedSetIterable i1 env x = pure x) (I : Nat → Shared → Prop)
    (turn : ∀ n s, I n s → NextG prog w A env t ifs it (nestB prog w A env i1 fun j => .compStart e d1 j acc env) (fun s₁ => R (.ok .next) s₁) (fun s₁ => ∃ m, m < n ∧ I m s₁) s) (n : Nat) (h : I n s) : codeAny (model prog w) A (.compLoop e d it acc env) R s := by
  subst hE
  refine codeAny_loop rfl I (fun n s hI => ?_) n h
  show wpAny _ A ((compTurn (.ListComp elt gs scope pos) d it acc env).onRaise (fun x => do noteFrame x env; theTreesLotGoes x)) _ _ s
  refine wpAny_noted ?_
  rw [he]
  refine wpAny_bind (wpAny_standAt (wpAny_bind (monoF (turn n s hI) fun r s₁ h₁ => ?_)))
  cases r with
  | none => exact wpAny_pure h₁
  | some v =>
    refine wpAny_bind (monoF h₁ fun _ s₁' h₁' => wpAny_bind (monoF h₁' fun _ s₂ h₂ => wpAny_bind (monoF h₂ fun ok s₃ h₃ => ?_)))
    cases ok with
    | false => exact wpAny_pure ⟨rfl, h₃⟩
    | true =>
      refine wpAny_bind (monoF h₃ fun x s₄ h₄ => wpAny_bind (wpAny_standAt (wpAny_bind (wpAny_of_eq (hs x) (wpAny_bind (wpAny_holding (monoF h₄ fun it1 s₅ h₅ => ?_)))))))
      refine wpAny_bind (wpAny_runOwn ?_)
      rw [Around.mark_none]
      refine codeAny_mono h₅ fun r s' hr => ?_
      cases r with
      | ok f =>
        first
          | exact wpAny_pure ⟨rfl, hr⟩
          | exact wpAny_bind (wpAny_pure (wpAny_pure ⟨rfl, hr⟩))
      | error e => exact hr.elim
theorem loop_in (hE : e = .ListComp elt gs scope pos) (he : compTurn e d it acc env = inG t i ifs elt acc (.compLoop e d it acc env) it env) (I : Nat → Shared → Prop)
    (turn : ∀ n s, I n s → NextG prog w A env t ifs it (emitB prog w A env elt acc) (fun s₁ => R (.ok .next) s₁) (fun s₁ => ∃ m, m < n ∧ I m s₁) s) (n : Nat) (h : I n s) : codeAny (model prog w) A (.compLoop e d it acc env) R s := by
  subst hE
  refine codeAny_loop rfl I (fun n s hI => ?_) n h
  show wpAny _ A ((compTurn (.ListComp elt gs scope pos) d it acc env).onRaise (fun x => do noteFrame x env; theTreesLotGoes x)) _ _ s
  refine wpAny_noted ?_
  rw [he]
  refine wpAny_bind (wpAny_standAt (wpAny_bind (monoF (turn n s hI) fun r s₁ h₁ => ?_)))
  cases r with
  | none => exact wpAny_pure h₁
  | some v =>
    refine wpAny_bind (monoF h₁ fun _ s₁' h₁' => wpAny_bind (monoF h₁' fun _ s₂ h₂ => wpAny_bind (monoF h₂ fun ok s₃ h₃ => ?_)))
    cases ok with
    | false => exact wpAny_pure ⟨rfl, h₃⟩
    | true => exact wpAny_bind (wpAny_bind (monoF h₃ fun x s₄ h₄ => wpAny_bind (monoF h₄ fun _ s₅ h₅ => wpAny_pure (wpAny_pure ⟨rfl, h₅⟩))))
theorem start_ok (hE : e = .ListComp elt gs scope pos) (hst : compStart e d it acc env = startG i (fun j => .compLoop e d j acc env) it) (h0 : codeAny (model prog w) A (.compLoop e d it acc env) R s)
    (h : wpAny (model prog w) A (pyIter it) (fun it' s' => codeAny (model prog w) A (.compLoop e d it' acc env) R s') (notedBy (model prog w) A env fun x s' => R (.error x) s') s) : codeAny (model prog w) A (.compStart e d it acc env) R s := by
  subst hE
  refine codeAny_of_tree ?_
  show wpAny _ _ ((compStart (.ListComp elt gs scope pos) d it acc env).onRaise (fun x => do noteFrame x env; standAt theWindowsPlace)) _ _ s
  refine wpAny_notedAt ?_
  rw [hst]
  unfold startG
  show wpAny _ _ (ask >>= _) _ _ s
  refine wpAny_bind (wpAny_askSetting (wpAny_ite ?_))
  split
  · first
      | exact wpAny_bind (wpAny_pure (wpAny_pure (And.intro rfl h0)))
      | exact wpAny_pure (And.intro rfl h0)
  · refine wpAny_bind (wpAny_rule ?_)
    first
      | exact wpAny_bind (wpAny_standAt (wpAny_bind (wpAny_mono h (fun it' s' h' => wpAny_pure (And.intro rfl h')) fun _ _ x => x)))
      | (show wpAny _ _ (standAt i.pos >>= _) _ _ s; exact wpAny_bind (wpAny_standAt (wpAny_bind (wpAny_mono h (fun it' s' h' => wpAny_pure (And.intro rfl h')) fun _ _ x => x))))
end
end BK

/-! BkR: comprehensions of more clauses: the walk -/
namespace BK
open PySem PySem.Spec PyProof.Rows L2 RZ

abbrev BodyT := PySem.Env → Addr → Shared → (Shared → Prop) → Prop
abbrev TN := Addr → L2.St → Hp → (Hp → Prop) → Prop
/-- the inner part of a turn -/
def PN (Y : Cx) (vs : List Nat) (B : BodyT) (t : TN) : Prop := ∀ (D : Addr) (pins : List (Addr × Obj)) (s : Shared) (σ : L2.St) (H : Hp) (Q : Hp → Prop), Inv Y pins σ H s → t D σ H Q →
  B Y.env D s fun s' => ∃ (σ' : L2.St) (H' : Hp), Inv Y pins σ' H' s' ∧ σ'.length = σ.length ∧ (∀ (j : Nat) (v : V), (wipe σ vs)[j]? = some (some v) → σ'[j]? = some (some v)) ∧ Q H'
def tEmit (te : TE) : TN := fun D σ H Q => te σ H fun y H4 => ∃ acc, H4 D = some (.lst acc) ∧ acc.length < sizeLine ∧ Q (upd H4 D (.lst (acc ++ [y])))
def tNest (wi : TI) (g : TG) (tt : TT) (t2 : TN) (vs : List Nat) : TN := fun D σ H Q => wi σ H fun J H1 => ∃ W : Nat → Nat → Hp → Prop, (∃ m, W 0 m H1) ∧ ∀ i m H, W i m H →
  (J.stop i H ∧ Q H) ∨ (J.go i H ∧ ∃ Nx : Hp → Prop, (∀ H', Nx H' → ∃ m', m' < m ∧ W (i + 1) m' H') ∧ ∀ x H', J.yld i H x H' → g x (wipe σ vs) H' fun σ2 H2 => wipe σ2 vs = wipe σ vs ∧ tt σ2 H2 fun b H3 => if b = true then t2 D σ2 H3 Nx else Nx H3)
def tLcN (wi : TI) (g : TG) (tt : TT) (t2 : TN) (vs : List Nat) : TE := fun σ H Q => wi σ H fun J H1 => ∀ D, H1 D = none → ∃ W : Nat → Nat → Hp → Prop, (∃ m, W 0 m (upd H1 D (.lst []))) ∧ ∀ i m H, W i m H →
  (J.stop i H ∧ Q (.ref D) H) ∨ (J.go i H ∧ ∃ Nx : Hp → Prop, (∀ H', Nx H' → ∃ m', m' < m ∧ W (i + 1) m' H') ∧ ∀ x H', J.yld i H x H' → g x (wipe σ vs) H' fun σ2 H2 => wipe σ2 vs = wipe σ vs ∧ tt σ2 H2 fun b H3 => if b = true then t2 D σ2 H3 Nx else Nx H3)
/-- what a loop of clause d is served by -/
def LoopAt (P : Program) (w : World) (A : Around) (e : Expr) (d : Nat) (t : Expr) (ifs : List Expr) (B : BodyT) : Prop := ∀ (env : PySem.Env) (D : Addr) (it : Value) (R : Result → Shared → Prop) (s : Shared) (I : Nat → Shared → Prop),
  (∀ n s, I n s → NextG P w A env t ifs it (B env D) (fun s₁ => R (.ok .next) s₁) (fun s₁ => ∃ m, m < n ∧ I m s₁) s) → ∀ n, I n s → codeAny (model P w) A (.compLoop e d it (.ref D) env) R s
def MonoB (B : BodyT) : Prop := ∀ (env : PySem.Env) (D : Addr) (s : Shared) (Q Q' : Shared → Prop), B env D s Q → (∀ s', Q s' → Q' s') → B env D s Q'
section
variable {Y : Cx} {elt : Expr}
theorem mono_emit {P : Program} {w : World} {A : Around} : MonoB fun env D => emitB P w A env elt (.ref D) := fun env D s Q Q' h hq => monoF h fun x s4 h4 => monoF h4 fun _ s5 h5 => hq _ h5
theorem mono_nest {P : Program} {w : World} {A : Around} {i1 : Expr} {st : PySem.Env → Addr → Value → Code} : MonoB fun env D => nestB P w A env i1 (st env D) := fun env D s Q Q' h hq => monoF h fun x s4 h4 => monoF h4 fun j s5 h5 => codeAny_mono h5 fun r s' hr => by
  cases r with
  | ok f => exact hq _ hr
  | error e => exact hr
theorem pn_emit {te : TE} {vs : List Nat} (hx : Y.xe = fun _ _ => False) (h : PE Y elt te) : PN Y vs (fun env D => emitB Y.prog Y.w Y.A env elt (.ref D)) (tEmit te) := fun D pins s σ H Q I q => by
  have h1 := h.run pins s σ H _ I q
  rw [hx] at h1
  refine monoF h1 fun z s1 ⟨y, H1, I1, r1, acc, hD, hz, nx⟩ => ?_
  exact app_ok (X := Y) I1 hD hz r1 fun s2 I2 => ⟨σ, _, I2, rfl, fun j v e => (wipe_some e).1, nx⟩
theorem pn_nest {e tg i1 : Expr} {ifs : List Expr} {d : Nat} {wi : TI} {g : TG} {tt : TT} {t2 : TN} {B : BodyT} {vs vs2 : List Nat} {gs : List Comprehension} {scope : Scope} {pos : Pos} (hx : Y.xe = fun _ _ => False) (hc : Y.calm = true) (hE : e = .ListComp elt gs scope pos) (hst : ∀ env D it, compStart e d it (.ref D) env = startG i1 (fun j => .compLoop e d j (.ref D) env) it)
    (lp : LoopAt Y.prog Y.w Y.A e d tg ifs B) (hB : MonoB B) (pi : PI Y tg i1 wi) (pg : PG Y tg g) (pt : PTs Y ifs tt) (pn : PN Y vs2 B t2) (sub : ∀ i ∈ vs2, i ∈ vs) :
    PN Y vs (fun env D => nestB Y.prog Y.w Y.A env i1 fun j => .compStart e d j (.ref D) env) (tNest wi g tt t2 vs) := fun D pins s σ H Q I q => by
  have h1 := pi.run pins s σ H _ I q
  rw [hx] at h1
  refine monoF h1 fun xv s1 h1 => monoF h1 fun itv s2 h2 => ?_
  obtain ⟨it, fp, tn, J, H2, e2, I2, T, at2, f2, W, ⟨m0, w0⟩, turn⟩ := h2
  subst e2
  have stat : ∀ {Hz : Hp}, (∀ b ∈ fp, Hz b = none) → ∀ b ∈ fp, FpOk Y pins Hz b := fun hn b hb => ⟨hn b hb, (f2 b hb).2⟩
  have loop : codeAny (model Y.prog Y.w) Y.A (.compLoop e d (.ref it) (.ref D) Y.env) (fun r s' => match r with
      | .ok _ => ∃ (σ' : L2.St) (H' : Hp), Inv Y pins σ' H' s' ∧ σ'.length = σ.length ∧ (∀ (j : Nat) (v : V), (wipe σ vs)[j]? = some (some v) → σ'[j]? = some (some v)) ∧ Q H'
      | .error _ => False) s2 := by
    refine lp Y.env D _ _ _ (fun k sz => ∃ j Hz, Inv Y pins (wipe σ vs) Hz sz ∧ tn j sz.heap ∧ (∀ b ∈ fp, Hz b = none) ∧ W j k Hz) ?_ m0 ⟨0, H2, I2.weak (wipe_length _ _) (fun j v z => (wipe_some z).1), at2, fun b hb => (f2 b hb).1, w0⟩
    rintro k s3 ⟨j, H3, I3, at3, n3, w3⟩
    rcases turn j k H3 w3 with ⟨stop, qq⟩ | ⟨go, Nx, hNx, step⟩
    · refine monoF (T.done Y rfl rfl rfl hc j _ s3 (wipe σ vs) H3 (fun _ _ => False) I3 (stat n3) at3 stop) fun r s4 ⟨hr, I4⟩ => ?_
      subst hr
      exact ⟨_, H3, I4, wipe_length _ _, fun j v z => z, qq⟩
    · refine monoF (T.item Y rfl rfl rfl hc j _ s3 (wipe σ vs) H3 (fun _ _ => False) I3 (stat n3) at3 go) fun r s4 ⟨u, hr, h4⟩ => ?_
      subst hr
      refine monoF h4 fun _ s5 ⟨x, H5, I5, r5, y5, at5, n5⟩ => ?_
      have I5' := I5.pinned (stat n5) (T.obj _ _ at5)
      have hg := pg.run _ s5 (wipe σ vs) H5 x u _ I5' r5 (step x H5 y5)
      rw [hx] at hg
      refine monoF hg fun _ s6 ⟨σ6, H6, I6, hw6, q6⟩ => ?_
      have ht := pt.run _ s6 σ6 H6 _ I6 q6
      rw [hx] at ht
      refine monoF ht fun b s7 ⟨H7, I7, q7⟩ => ?_
      have fin : ∀ {σ9 : L2.St} {sz : Shared} {Hz : Hp}, Inv Y (pins ++ pinsAt fp s5.heap) σ9 Hz sz → (wipe σ vs).length = σ9.length → (∀ (j : Nat) v, (wipe σ vs)[j]? = some (some v) → σ9[j]? = some (some v)) → Nx Hz →
          ∃ m, m < k ∧ ∃ i Hy, Inv Y pins (wipe σ vs) Hy sz ∧ tn i sz.heap ∧ (∀ b ∈ fp, Hy b = none) ∧ W i m Hy := fun {σ9 sz Hz} Iz hl hk nx => by
        obtain ⟨m', hm, w'⟩ := hNx Hz nx
        have hp : ∀ b ∈ fp, ∀ o, s5.heap.get? b = some o → sz.heap.get? b = some o ∧ Hz b = none := fun b hb o z =>
          ⟨(Iz.pin (b, o) (List.mem_append_right _ (List.mem_append_right _ (mem_pinsAt hb z)))).1, (Iz.pin (b, o) (List.mem_append_right _ (List.mem_append_right _ (mem_pinsAt hb z)))).2.1⟩
        refine ⟨m', hm, j + 1, Hz, Iz.unpinned.weak hl hk, T.keep _ _ _ at5 fun b hb o z => (hp b hb o z).1, fun b hb => ?_, w'⟩
        obtain ⟨o, z, _⟩ := T.obj _ _ at5 b hb
        exact (hp b hb o z).2
      have hl6 : (wipe σ vs).length = σ6.length := by rw [← hw6, wipe_length]
      cases b with
      | false =>
        simp only [Bool.false_eq_true, if_false] at q7 ⊢
        exact fin I7 hl6 (fun j v z => by rw [← hw6] at z; exact (wipe_some z).1) q7
      | true =>
        simp only [if_true] at q7 ⊢
        refine hB _ _ _ _ _ (pn D _ s7 σ6 H7 _ I7 q7) fun s8 ⟨σ9, H9, I9, l9, k9, nx⟩ => fin I9 (hl6.trans l9.symm) (fun j v z => ?_) nx
        rw [← hw6] at z
        obtain ⟨e1, e2⟩ := wipe_some z
        exact k9 j v (by rw [wipe_out fun z => e2 (sub j z)]; exact e1)
  exact start_ok hE (hst _ _ _) loop (T.self Y.A 0 _ _ _ at2 loop)
end
section
variable {X : Cx}
theorem lcN_core {pins : List (Addr × Obj)} {s : Shared} {σ : L2.St} {H : Hp} {Q : VK} {elt tg iter : Expr} {ifs : List Expr} {rest : List Comprehension} {scope : Scope} {own : List (Str × Nat)} {vs2 : List Nat} {pos pos' : Pos} {wi : TI} {g : TG} {tt : TT} {t2 : TN} {B : BodyT} {use : Option (Value → Sem Unit)} {Qf : Value → Shared → Prop}
    (hc : X.calm = true) (hN : X.N.Nodup) (I : Inv X pins σ H s) (hi : PI X tg iter wi) (ok : BlkOk X.N X.env.scope scope own) (hv : ∀ i ∈ vs2, i ∈ own.map (·.2)) (hB : MonoB B)
    (lp : ∀ e, e = Expr.ListComp elt (⟨tg, iter, ifs, 0⟩ :: rest) scope pos → LoopAt X.prog X.w X.A e 0 tg ifs B)
    (hg : ∀ (s : Shared) (H : Hp) (C : Addr) (cl : List (Str × Addr)) (fp : List Addr), PG (X.blk s H scope (compEnvC scope cl C X.env) fp) tg g) (ht : ∀ (s : Shared) (H : Hp) (C : Addr) (cl : List (Str × Addr)) (fp : List Addr), PTs (X.blk s H scope (compEnvC scope cl C X.env) fp) ifs tt)
    (hn3 : ∀ (s : Shared) (H : Hp) (C : Addr) (cl : List (Str × Addr)) (fp : List Addr), PN (X.blk s H scope (compEnvC scope cl C X.env) fp) vs2 B t2) (hs : ∀ x, foldedSetIterable iter X.env x = pure x)
    (h : tLcN wi g tt t2 (own.map (·.2)) σ H Q)
    (hRR : ∀ D C s' m H', Inv X pins σ H' s' → Q (.ref D) H' → s'.heap.Ns C m → FpOk X pins H' C → compPost (model X.prog X.w) X.A X.xe use Qf (.ref D) C (.ok .next) s') :
    wpAny (model X.prog X.w) X.A (comprehension (.ListComp elt (⟨tg, iter, ifs, 0⟩ :: rest) scope pos) scope X.env pos' (newList []) false (eval iter X.env) use) Qf X.xe s := by
  have hfree : ∀ y ∈ scope.names, y.2 = .free → ∃ c, X.env.cells.lookup y.1 = some c := fun y hy e => by
    rcases ok.free y hy e with k | k
    · exact I.ok.has _ (.inl k)
    · exact I.ok.has _ (.inr k)
  refine wpAny_comprehension_free (use := use) rfl hs (closure_ok hfree) ok.kind (fun y hy e => by rw [ok.uniq y hy, e])
    (thn (hi.run pins s σ H _ I h) fun xv sh1 hx => thn hx fun itv sh2 h2 => ?_)
  obtain ⟨it, fp, tn, J, Hw2, e, Iv2, T, at2, fq2, q⟩ := h2
  subst e
  refine wpAny_newObj_type (newEnv_comp ?_) (by show 0 ≤ sizeLine; decide)
  generalize hD : sh2.heap.objs.size = D
  have hDn : Hw2 D = none := Iv2.hok.fresh (Nat.le_of_eq hD)
  obtain ⟨W, ⟨m0, w0⟩, turn⟩ := q D hDn
  -- the new list
  generalize hz3 : ({ sh2 with heap := sh2.heap.push { cls := .type "list", data := .seq ([] : List Value).toArray } } : Shared) = sh3
  have Iv3 : Inv X pins σ (upd Hw2 D (.lst [])) sh3 := by
    rw [← hz3]
    refine Iv2.laid (t' := sh2.toks) (fun b o e => Heap.get?_push_of_some _ e) (Nat.le_of_eq hD) ⟨Nat.zero_le _, [], 0, .nil, ?_⟩
    rw [← hD]
    exact Heap.get?_push_size _ rfl
  have h3 : sh3.heap = sh2.heap.push { cls := .type "list", data := .seq ([] : List Value).toArray } := by rw [← hz3]
  have sz : ∀ b ∈ fp, b < sh2.heap.objs.size := fun b hb => by
    obtain ⟨o, e, _⟩ := T.obj _ _ at2 b hb
    exact Heap.lt_size e
  have fq3 : ∀ b ∈ fp, FpOk X pins (upd Hw2 D (.lst [])) b ∧ b < sh3.heap.objs.size := fun b hb => by
    have hlt := sz b hb
    refine ⟨⟨?_, (fq2 b hb).2⟩, by rw [h3, Heap.size_push]; exact Nat.lt_succ_of_lt hlt⟩
    rw [upd_ne (by rw [← hD]; exact Nat.ne_of_lt hlt)]
    exact (fq2 b hb).1
  have at3 : tn 0 sh3.heap := T.keep _ _ _ at2 fun b _ o e => by rw [h3]; exact Heap.get?_push_of_some _ e
  have Iv4 := block_start Iv3 ok hN fq3
  have pg := hg sh3 (upd Hw2 D (.lst [])) sh3.heap.objs.size (cellsFrom (sh3.heap.objs.size + 1) scope.names (cloFrom X.env.cells scope.names [])) fp
  have pt := ht sh3 (upd Hw2 D (.lst [])) sh3.heap.objs.size (cellsFrom (sh3.heap.objs.size + 1) scope.names (cloFrom X.env.cells scope.names [])) fp
  have pn := hn3 sh3 (upd Hw2 D (.lst [])) sh3.heap.objs.size (cellsFrom (sh3.heap.objs.size + 1) scope.names (cloFrom X.env.cells scope.names [])) fp
  show codeAny _ _ (.compStart (.ListComp elt (⟨tg, iter, ifs, 0⟩ :: rest) scope pos) 0 (.ref it) (.ref D) (compEnvC scope (cellsFrom (sh3.heap.objs.size + 1) scope.names (cloFrom X.env.cells scope.names [])) sh3.heap.objs.size X.env)) (compPost (model X.prog X.w) X.A X.xe use Qf (.ref D) sh3.heap.objs.size) { sh3 with heap := pushCells (sh3.heap.push { cls := .type "dict", data := .dict #[] }) scope.names }
  have nfp : ∀ b ∈ fp, (upd Hw2 D (.lst [])) b = none := fun b hb => (fq3 b hb).1.1
  generalize hce : compEnvC scope (cellsFrom (sh3.heap.objs.size + 1) scope.names (cloFrom X.env.cells scope.names [])) sh3.heap.objs.size X.env = ce at Iv4 pg pt pn ⊢
  have cL : ce.locals = sh3.heap.objs.size := by subst hce; rfl
  generalize hH3 : upd Hw2 D (.lst []) = Hw3 at Iv3 Iv4 pg pt pn w0 nfp fq3
  generalize hz4 : ({ sh3 with heap := pushCells (sh3.heap.push { cls := .type "dict", data := .dict #[] }) scope.names } : Shared) = sh4 at Iv4 ⊢
  have at4 : tn 0 sh4.heap := T.keep _ _ _ at3 fun b _ o e => by rw [← hz4]; exact pushCells_keeps _ _ _ _ (Heap.get?_push_of_some _ e)
  have stat : ∀ {σ' : L2.St} {H' : Hp} {s' : Shared}, Inv (X.blk sh3 Hw3 scope ce fp) [] σ' H' s' → (∀ b ∈ fp, H' b = none) → ∀ b ∈ fp, FpOk (X.blk sh3 Hw3 scope ce fp) [] H' b := fun {σ' H' s'} I' hn b hb =>
    ⟨hn b hb, (I'.ok.exf b hb).1, I'.ok.exfs b hb, .inl hb, fun x c e => (I'.ok.exf b hb).2 x c e, fun p hp => absurd (show p ∈ ([] : List (Addr × Obj)) ++ [] from hp) (by simp)⟩
  have loop : codeAny (model X.prog X.w) X.A (.compLoop (.ListComp elt (⟨tg, iter, ifs, 0⟩ :: rest) scope pos) 0 (.ref it) (.ref D) ce) (compPost (model X.prog X.w) X.A X.xe use Qf (.ref D) sh3.heap.objs.size) sh4 := by
    refine lp _ rfl ce D _ _ _ (fun n s' => ∃ i H', Inv (X.blk sh3 Hw3 scope ce fp) [] (wipe σ (own.map (·.2))) H' s' ∧ tn i s'.heap ∧ (∀ b ∈ fp, H' b = none) ∧ W i n H') ?_ m0 ⟨0, Hw3, Iv4, at4, nfp, w0⟩
    rintro n sh5 ⟨i, Hw5, Iv5, at5, n5, w5⟩
    rcases turn i n Hw5 w5 with ⟨stop, qq⟩ | ⟨go, Nx, hNx, step⟩
    · have td := T.done (X.blk sh3 Hw3 scope ce fp) rfl rfl rfl hc i [] sh5 _ Hw5 (fun _ _ => False) Iv5 (stat Iv5 n5) at5 stop
      refine thnF td fun r sh6 ⟨hr, Iv6⟩ => ?_
      subst hr
      -- back in the def's context
      have Iv7 : Inv X pins σ Hw5 sh6 := Iv3.call' (ch := fp) Iv6.os Iv6.base Iv6.hok Iv6.bare fun b hb => ⟨(fq3 b hb).1.2.2.2.1, (fq3 b hb).1.2.1, (fq3 b hb).1.2.2.2.2.1, (fq3 b hb).1.2.2.2.2.2⟩
      have nC : Hw5 sh3.heap.objs.size = none := by
        have z : Hw5 ce.locals = none := Iv6.free
        rw [cL] at z
        exact z
      obtain ⟨m, hn, _⟩ := Iv6.loc
      have hn : sh6.heap.Ns ce.locals m := hn
      rw [cL] at hn
      exact hRR D sh3.heap.objs.size sh6 m Hw5 Iv7 qq hn (Iv3.fpOk (Nat.le_refl _) nC)
    · have ti := T.item (X.blk sh3 Hw3 scope ce fp) rfl rfl rfl hc i [] sh5 _ Hw5 (fun _ _ => False) Iv5 (stat Iv5 n5) at5 go
      refine thnF ti fun r sh6 ⟨u, hr, h6⟩ => ?_
      subst hr
      refine thnF h6 fun _ sh7 ⟨x, Hw7, Iv7, r7, y7, at7, n7⟩ => ?_
      have Iv7' := Iv7.pinned (stat Iv7 n7) (T.obj _ _ at7)
      refine thnF (pg.run _ sh7 _ Hw7 x u _ Iv7' r7 (step x Hw7 y7)) fun _ sh8 ⟨σ8, Hw8, Iv8, hw8, q8⟩ => ?_
      refine thnF (pt.run _ sh8 σ8 Hw8 _ Iv8 q8) fun b sh9 ⟨Hw9, Iv9, q9⟩ => ?_
      -- the turn's end
      have hl8 : (wipe σ (own.map (·.2))).length = σ8.length := by rw [← hw8, wipe_length]
      have fin : ∀ {σ9 : L2.St} {sz : Shared} {Hz : Hp}, Inv (X.blk sh3 Hw3 scope ce fp) ([] ++ pinsAt fp sh7.heap) σ9 Hz sz → (wipe σ (own.map (·.2))).length = σ9.length → (∀ (j : Nat) v, (wipe σ (own.map (·.2)))[j]? = some (some v) → σ9[j]? = some (some v)) → Nx Hz →
          ∃ m, m < n ∧ ∃ i Hy, Inv (X.blk sh3 Hw3 scope ce fp) [] (wipe σ (own.map (·.2))) Hy sz ∧ tn i sz.heap ∧ (∀ b ∈ fp, Hy b = none) ∧ W i m Hy := fun {σ9 sz Hz} Iz hl hk nx => by
        obtain ⟨m', hm, w'⟩ := hNx Hz nx
        have hp : ∀ b ∈ fp, ∀ o, sh7.heap.get? b = some o → sz.heap.get? b = some o ∧ Hz b = none := fun b hb o e =>
          ⟨(Iz.pin (b, o) (List.mem_append_right _ (List.mem_append_right _ (mem_pinsAt hb e)))).1, (Iz.pin (b, o) (List.mem_append_right _ (List.mem_append_right _ (mem_pinsAt hb e)))).2.1⟩
        refine ⟨m', hm, i + 1, Hz, (Iz.unpinned (pins := [])).weak hl hk, T.keep _ _ _ at7 fun b hb o e => (hp b hb o e).1, fun b hb => ?_, w'⟩
        obtain ⟨o, e, _⟩ := T.obj _ _ at7 b hb
        exact (hp b hb o e).2
      have hk8 : ∀ (j : Nat) v, (wipe σ (own.map (·.2)))[j]? = some (some v) → σ8[j]? = some (some v) := fun j v e => by
        rw [← hw8] at e
        exact (wipe_some e).1
      cases b with
      | false =>
        simp only [Bool.false_eq_true, if_false] at q9 ⊢
        exact fin Iv9 hl8 hk8 q9
      | true =>
        simp only [if_true] at q9 ⊢
        refine hB ce D _ _ _ (pn D _ sh9 σ8 Hw9 _ Iv9 q9) fun sh10 ⟨σ9, Hw10, Iv10, l10, k10, nx⟩ => ?_
        refine fin Iv10 (l10.trans hl8.symm).symm (fun j v e => ?_) nx
        have e0 : (wipe σ (own.map (·.2)))[j]? = some (some v) := e
        rw [← hw8] at e
        obtain ⟨e1, e2⟩ := wipe_some e
        exact k10 j v (by rw [wipe_out fun z => e2 (hv j z)]; exact e1)
  exact codeAny_compStart_list loop (T.self X.A 0 _ _ _ at4 loop)
end
end BK

/-! BkS: comprehensions of more clauses: what they compute -/
namespace BK
open PySem PySem.Spec PyProof.Rows L2 RZ

/-- all the items that the turns hand on, in order -/
def nGo (t : GM) (c : BM) (n : AM) (ρ : PEnv) : List PV → Sto → Res (List PV)
  | [], st => .ok [] st
  | x :: xs, st => match (t x).map (setP ρ) with
    | none => .bad
    | some ρ1 => (c ρ1 st).bind fun b st1 => if b = true then (n ρ1 st1).bind fun ys st2 => (nGo t c n ρ xs st2).bind fun zs st3 => .ok (ys ++ zs) st3 else nGo t c n ρ xs st1
def aNest (it : AM) (vs : List Nat) (t : GM) (c : BM) (n : AM) : AM := fun ρ st => (it ρ st).bind fun xs st1 => nGo t c n (wipeP ρ vs) xs st1
def aOne (m : EM) : AM := fun ρ st => (m ρ st).bind fun y st1 => .ok [y] st1
def fits (r : Res (List PV)) : Res (List PV) := match r with
  | .ok zs st => if zs.length ≤ sizeLine then .ok zs st else .bad
  | _ => .bad
def aLcN (it : AM) (vs : List Nat) (t : GM) (c : BM) (n : AM) : AM := fun ρ st => (it ρ st).bind fun xs st1 => fits (nGo t c n (wipeP ρ vs) xs st1)
theorem fits_ok {r : Res (List PV)} {zs : List PV} {st : Sto} (h : fits r = .ok zs st) : r = .ok zs st ∧ zs.length ≤ sizeLine := by
  cases r with
  | ok a s =>
    unfold fits at h
    simp only at h
    split at h
    · cases h; exact ⟨rfl, by assumption⟩
    · cases h
  | exn c fs s => cases h
  | bad => cases h
def tN (g : Gx) (n : AM) : TN := fun D σ H Q => ∃ F1 μ1 H1 F μ st ρ acc pacc ys st', Ext F1 μ1 H1 F μ H ∧ Wok g.K g.fa F μ H st ∧ Env g F μ σ ρ ∧ H1 D = none ∧ F D = none ∧ D ∉ μ ∧ H D = some (.lst acc) ∧ Reps g.K g.fa F μ acc pacc ∧
  n ρ st = .ok ys st' ∧ pacc.length + ys.length ≤ sizeLine ∧ ∀ F' μ' H' acc', Ext F1 μ1 H1 F' μ' H' → Same F F' → (∃ t, μ' = μ ++ t) → Wok g.K g.fa F' μ' H' st' → F' D = none → D ∉ μ' → H' D = some (.lst acc') → Reps g.K g.fa F' μ' acc' (pacc ++ ys) → Q H'
section
variable {g : Gx}
theorem tEmit_of {m : EM} {D : Addr} {σ : L2.St} {H : Hp} {Q : Hp → Prop} (h : tN g (aOne m) D σ H Q) : tEmit (tE g W0 m) D σ H Q := by
  obtain ⟨F1, μ1, H1, F, μ, st, ρ, acc, pacc, ys, st', e, w, en, b1, d1, d2, d3, r, hm, hl, k⟩ := h
  obtain ⟨y, s1, m1, m2⟩ := Res.bind_ok hm
  cases m2
  refine ⟨F, μ, st, ρ, w, en, ?_⟩
  rw [m1]
  intro F5 μ5 H5 e5 w5 u ru
  obtain ⟨l1, l2, l3⟩ := e5.mine d1 d2 d3
  have hr := r.length
  simp only [List.length_cons, List.length_nil] at hl
  refine ⟨acc, l3, by omega, k F5 μ5 _ (acc ++ [u]) ((e.trans e5).put _ b1) e5.fs e5.ms (w5.put _ l1 l2) l1 l2 upd_same ((Reps.ext e5 r).append (.cons ru .nil))⟩
theorem nest_turns {it : AM} {vs vt : List Nat} {t : GM} {c : BM} {n : AM} {D : Addr} {σ : L2.St} {Q : Hp → Prop} {J : It} {F1 F2 : Hp} {μ1 μ2 : List Addr} {H1 : Hp} {ρ : PEnv} {xs all : List PV} {stE : Sto} (hv : ∀ i ∈ vt, i ∈ vs) (b1 : H1 D = none) (en : Env g F2 μ2 σ ρ) (hxl : xs.length ≤ sizeLine)
    (hJ : ∀ (F' : Hp) (μ' : List Addr) (H' : Hp) (st' : Sto), Same F2 F' → (∃ t, μ' = μ2 ++ t) → Wok g.K g.fa F' μ' H' st' → ∀ i : Nat,
      (∀ x, xs[i]? = some x → J.go i H' ∧ ∀ v H'', J.yld i H' v H'' → ∃ F'', Ext F' μ' H' F'' μ' H'' ∧ Wok g.K g.fa F'' μ' H'' st' ∧ Rep g.K g.fa F'' μ' v x) ∧ (xs[i]? = none → J.stop i H')) (hl : all.length ≤ sizeLine)
    (fin : ∀ F' μ' H' acc', Ext F1 μ1 H1 F' μ' H' → Same F2 F' → (∃ t, μ' = μ2 ++ t) → Wok g.K g.fa F' μ' H' stE → F' D = none → D ∉ μ' → H' D = some (.lst acc') → Reps g.K g.fa F' μ' acc' all → Q H') :
    ∀ i k H, (k = xs.length - i ∧ ∃ F3 μ3 st3 acc3 pacc3 ys3, Ext F1 μ1 H1 F3 μ3 H ∧ Same F2 F3 ∧ (∃ t, μ3 = μ2 ++ t) ∧ Wok g.K g.fa F3 μ3 H st3 ∧ F3 D = none ∧ D ∉ μ3 ∧ H D = some (.lst acc3) ∧ i ≤ xs.length ∧ Reps g.K g.fa F3 μ3 acc3 pacc3 ∧ nGo t c n (wipeP ρ vs) (xs.drop i) st3 = .ok ys3 stE ∧ all = pacc3 ++ ys3) →
      (J.stop i H ∧ Q H) ∨ (J.go i H ∧ ∃ Nx : Hp → Prop, (∀ H', Nx H' → ∃ m', m' < k ∧ (m' = xs.length - (i + 1) ∧ ∃ F3 μ3 st3 acc3 pacc3 ys3, Ext F1 μ1 H1 F3 μ3 H' ∧ Same F2 F3 ∧ (∃ t, μ3 = μ2 ++ t) ∧ Wok g.K g.fa F3 μ3 H' st3 ∧ F3 D = none ∧ D ∉ μ3 ∧ H' D = some (.lst acc3) ∧ (i + 1) ≤ xs.length ∧ Reps g.K g.fa F3 μ3 acc3 pacc3 ∧ nGo t c n (wipeP ρ vs) (xs.drop (i + 1)) st3 = .ok ys3 stE ∧ all = pacc3 ++ ys3)) ∧
        ∀ x H', J.yld i H x H' → tG g vt t x (wipe σ vs) H' fun σ2 H2 => wipe σ2 vs = wipe σ vs ∧ tT g W0 c σ2 H2 fun b H3 => if b = true then tN g n D σ2 H3 Nx else Nx H3) := by
  rintro i k H ⟨rfl, F3, μ3, st3, acc3, pacc3, ys3, e3, sF, sM, w3, d1, d2, d3, hil, r3, g3, z3⟩
  obtain ⟨hgo, hstop⟩ := hJ F3 μ3 H st3 sF sM w3 i
  by_cases hlt : i < xs.length
  · have hx : xs[i]? = some xs[i] := List.getElem?_eq_getElem hlt
    obtain ⟨go, yld⟩ := hgo _ hx
    rw [List.drop_eq_getElem_cons hlt] at g3
    unfold nGo at g3
    cases qt : t xs[i] with
    | none => rw [qt] at g3; cases g3
    | some as =>
    rw [qt, Option.map_some] at g3
    simp only at g3
    generalize hρ : setP (wipeP ρ vs) as = ρ1 at g3
    obtain ⟨b, s4, g4, g5⟩ := Res.bind_ok g3
    refine .inr ⟨go, fun H' => ∃ F3 μ3 st3 acc3 pacc3 ys3, Ext F1 μ1 H1 F3 μ3 H' ∧ Same F2 F3 ∧ (∃ t, μ3 = μ2 ++ t) ∧ Wok g.K g.fa F3 μ3 H' st3 ∧ F3 D = none ∧ D ∉ μ3 ∧ H' D = some (.lst acc3) ∧ (i + 1) ≤ xs.length ∧ Reps g.K g.fa F3 μ3 acc3 pacc3 ∧ nGo t c n (wipeP ρ vs) (xs.drop (i + 1)) st3 = .ok ys3 stE ∧ all = pacc3 ++ ys3,
      fun H' h' => ⟨xs.length - (i + 1), by omega, rfl, h'⟩, fun v H4 y => ?_⟩
    obtain ⟨F4, e4, w4, rv⟩ := yld v H4 y
    obtain ⟨f1, f2, f3⟩ := e4.mine d1 d2 d3
    have en3 : Env g F3 μ3 σ ρ := ⟨en.1, fun i x h => let ⟨v, a, b⟩ := en.2 i x h; ⟨v, a, Rep.mono sF sM _ _ b⟩⟩
    refine ⟨F4, μ3, st3, wipeP ρ vs, xs[i], as, w4, env_wipe (en3.mono e4) vs, rv, qt, fun σ4 o4 en4 => ⟨wipe_eq ((wipe_off σ vs).trans (o4.mono hv)), ?_⟩⟩
    rw [hρ] at en4
    refine ⟨F4, μ3, st3, ρ1, w4, en4, ?_⟩
    rw [g4]
    intro F5 μ5 H5 e5 w5
    obtain ⟨k1, k2, k3⟩ := e5.mine f1 f2 f3
    have sF5 : Same F2 F5 := (sF.trans e4.fs).trans e5.fs
    have sM5 : ∃ t, μ5 = μ2 ++ t := by
      obtain ⟨t1, h1⟩ := sM
      obtain ⟨t2, h2⟩ := e5.ms
      exact ⟨t1 ++ t2, by rw [h2, h1]; simp⟩
    cases b with
    | false =>
      rw [if_neg Bool.false_ne_true] at g5
      show if false = true then _ else _
      rw [if_neg Bool.false_ne_true]
      exact ⟨F5, μ5, s4, acc3, pacc3, ys3, (e3.trans e4).trans e5, sF5, sM5, w5, k1, k2, k3, by omega, Reps.ext e5 (Reps.ext e4 r3), g5, z3⟩
    | true =>
      rw [if_pos rfl] at g5
      obtain ⟨ys, s6, g6, g7⟩ := Res.bind_ok g5
      obtain ⟨zs, s7, g8, g9⟩ := Res.bind_ok g7
      cases g9
      show if true = true then _ else _
      rw [if_pos rfl]
      refine ⟨F1, μ1, H1, F5, μ5, s4, ρ1, acc3, pacc3, ys, s6, (e3.trans e4).trans e5, w5, en4.mono e5, b1, k1, k2, k3, Reps.ext e5 (Reps.ext e4 r3), g6, ?_, fun F' μ' H' acc' q1 q2 q3 q4 q5 q6 q7 q8 => ?_⟩
      · rw [z3] at hl
        simp only [List.length_append] at hl
        omega
      · refine ⟨F', μ', s6, acc', pacc3 ++ ys, zs, q1, sF5.trans q2, ?_, q4, q5, q6, q7, by omega, q8, g8, by rw [z3]; simp⟩
        obtain ⟨t1, h1⟩ := sM5
        obtain ⟨t2, h2⟩ := q3
        exact ⟨t1 ++ t2, by rw [h2, h1]; simp⟩
  · have hn : xs[i]? = none := List.getElem?_eq_none (by omega)
    rw [List.drop_eq_nil_of_le (by omega)] at g3
    unfold nGo at g3
    cases g3
    rw [List.append_nil] at z3
    subst z3
    exact .inl ⟨hstop hn, fin F3 μ3 H acc3 e3 sF sM w3 d1 d2 d3 r3⟩
theorem tNest_of {it : AM} {vs vt : List Nat} {t : GM} {c : BM} {n : AM} (hv : ∀ i ∈ vt, i ∈ vs) {D : Addr} {σ : L2.St} {H : Hp} {Q : Hp → Prop} (h : tN g (aNest it vs t c n) D σ H Q) : tNest (tI g W0 it) (tG g vt t) (tT g W0 c) (tN g n) vs D σ H Q := by
  obtain ⟨F1, μ1, H1, F, μ, st, ρ, acc, pacc, ys, st', e, w, en, b1, d1, d2, d3, r, hm, hl, k⟩ := h
  obtain ⟨xs, s1, m1, m2⟩ := Res.bind_ok hm
  refine ⟨F, μ, st, ρ, w, en, ?_⟩
  rw [m1]
  intro F2 μ2 H2 e2 w2 J hJ
  obtain ⟨hxl, hJ⟩ := hJ
  obtain ⟨l1, l2, l3⟩ := e2.mine d1 d2 d3
  refine ⟨fun i k H => k = xs.length - i ∧ ∃ F3 μ3 st3 acc3 pacc3 ys3, Ext F1 μ1 H1 F3 μ3 H ∧ Same F2 F3 ∧ (∃ t, μ3 = μ2 ++ t) ∧ Wok g.K g.fa F3 μ3 H st3 ∧ F3 D = none ∧ D ∉ μ3 ∧ H D = some (.lst acc3) ∧ i ≤ xs.length ∧ Reps g.K g.fa F3 μ3 acc3 pacc3 ∧ nGo t c n (wipeP ρ vs) (xs.drop i) st3 = .ok ys3 st' ∧ pacc ++ ys = pacc3 ++ ys3, ?_, ?_⟩
  · exact ⟨_, rfl, F2, μ2, s1, acc, pacc, ys, e.trans e2, Same.refl _, ⟨[], by simp⟩, w2, l1, l2, l3, Nat.zero_le _, Reps.ext e2 r, m2, rfl⟩
  refine nest_turns (it := it) hv b1 (en.mono e2) hxl hJ (by rw [List.length_append]; exact hl) fun F' μ' H' acc' q1 q2 q3 q4 q5 q6 q7 q8 => k F' μ' H' acc' q1 (e2.fs.trans q2) ?_ q4 q5 q6 q7 q8
  obtain ⟨t1, h1⟩ := e2.ms
  obtain ⟨t2, h2⟩ := q3
  exact ⟨t1 ++ t2, by rw [h2, h1]; simp⟩
theorem tLcN_of {W : WX} {it : AM} {vs vt : List Nat} {t : GM} {c : BM} {n : AM} (hv : ∀ i ∈ vt, i ∈ vs) {σ : L2.St} {H : Hp} {Q : VK} (h : tL g W (aLcN it vs t c n) σ H Q) : tLcN (tI g W it) (tG g vt t) (tT g W0 c) (tN g n) vs σ H Q := by
  obtain ⟨F, μ, st, ρ, w, en, h⟩ := h
  refine ⟨F, μ, st, ρ, w, en, (Post.bind h).imp fun xs st1 F1 μ1 H1 e1 w1 h1 J hJ D hD => ?_⟩
  obtain ⟨hxl, hJ⟩ := hJ
  cases q : fits (nGo t c n (wipeP ρ vs) xs st1) with
  | bad => rw [q] at h1; exact h1.elim
  | exn cn fs s2 => cases q2 : nGo t c n (wipeP ρ vs) xs st1 <;> rw [q2] at q <;> unfold fits at q <;> simp only at q <;> (try split at q) <;> cases q
  | ok zs stE =>
  rw [q] at h1
  obtain ⟨q, hz⟩ := fits_ok q
  obtain ⟨e2, w2, q1, q2⟩ := w1.own hD (.lst [])
  refine ⟨fun i k H => k = xs.length - i ∧ ∃ F3 μ3 st3 acc3 pacc3 ys3, Ext F1 μ1 H1 F3 μ3 H ∧ Same F1 F3 ∧ (∃ t, μ3 = μ1 ++ t) ∧ Wok g.K g.fa F3 μ3 H st3 ∧ F3 D = none ∧ D ∉ μ3 ∧ H D = some (.lst acc3) ∧ i ≤ xs.length ∧ Reps g.K g.fa F3 μ3 acc3 pacc3 ∧ nGo t c n (wipeP ρ vs) (xs.drop i) st3 = .ok ys3 stE ∧ zs = pacc3 ++ ys3, ?_, ?_⟩
  · exact ⟨_, rfl, F1, μ1, st1, [], [], zs, e2, Same.refl _, ⟨[], by simp⟩, w2, q1, q2, upd_same, Nat.zero_le _, .nil, q, rfl⟩
  refine nest_turns (it := it) (Q := fun H => Q (.ref D) H) hv hD (en.mono e1) hxl hJ hz fun F' μ' H' acc' q1 q2 q3 q4 q5 q6 q7 q8 => ?_
  exact h1 F' μ' H' q1 q4 D acc' (e1.keep hD) q5 q6 q7 (by rw [q8.length]; exact hz) q8
end
section
variable {X : Cx} {g : Gx} {W : WX}
theorem pe_lcN {elt tg iter : Expr} {ifs : List Expr} {rest : List Comprehension} {scope : Scope} {own : List (Str × Nat)} {vs2 : List Nat} {pos : Pos} {wi : TI} {gt : TG} {tt : TT} {t2 : TN} {B : BodyT} (hc : X.calm = true) (hN : X.N.Nodup) (hi : PI X tg iter wi) (ok : BlkOk X.N X.env.scope scope own) (hv : ∀ i ∈ vs2, i ∈ own.map (·.2)) (hB : MonoB B)
    (lp : ∀ e, e = Expr.ListComp elt (⟨tg, iter, ifs, 0⟩ :: rest) scope pos → LoopAt X.prog X.w X.A e 0 tg ifs B)
    (hg : ∀ (s : Shared) (H : Hp) (C : Addr) (cl : List (Str × Addr)) (fp : List Addr), PG (X.blk s H scope (compEnvC scope cl C X.env) fp) tg gt) (ht : ∀ (s : Shared) (H : Hp) (C : Addr) (cl : List (Str × Addr)) (fp : List Addr), PTs (X.blk s H scope (compEnvC scope cl C X.env) fp) ifs tt)
    (hn3 : ∀ (s : Shared) (H : Hp) (C : Addr) (cl : List (Str × Addr)) (fp : List Addr), PN (X.blk s H scope (compEnvC scope cl C X.env) fp) vs2 B t2) (hs : ∀ x, foldedSetIterable iter X.env x = pure x) :
    PE X (.ListComp elt (⟨tg, iter, ifs, 0⟩ :: rest) scope pos) (tLcN wi gt tt t2 (own.map (·.2))) := ⟨fun pins s σ H Q I h => by
  rw [eval_ListComp]
  refine lcN_core hc hN I hi ok hv hB lp hg ht hn3 hs h fun D C s' m Hz Iz q hn fz => ⟨m, hn, fun hh sb => ?_⟩
  exact ⟨.ref D, Hz, Iz.turned (t' := s'.toks) (fun b o hb e => (sb.2 b hb).trans e) fz.1 fz.2.1 fz.2.2.2.1 fz.2.2.2.2.1 fz.2.2.2.2.2, rfl, q⟩⟩
theorem pn_mono {Y : Cx} {vs : List Nat} {B : BodyT} {t t' : TN} (h : PN Y vs B t) (i : ∀ D σ H Q, t' D σ H Q → t D σ H Q) : PN Y vs B t' := fun D pins s σ H Q I q => h D pins s σ H Q I (i _ _ _ _ q)
/-- two clauses -/
theorem sl_lc2 {elt tg iter tg1 iter1 : Expr} {ifs ifs1 : List Expr} {scope : Scope} {own : List (Str × Nat)} {v0 v1 : List Nat} {pos : Pos} {it it1 : AM} {t t1 : GM} {c c1 : BM} {m : EM} (hc : X.calm = true) (hN : X.N.Nodup) (hi : PI X tg iter (tI g W it)) (ok : BlkOk X.N X.env.scope scope own)
    (hv0 : ∀ i ∈ v0, i ∈ own.map (·.2)) (hv1 : ∀ i ∈ v1, i ∈ own.map (·.2))
    (hg : ∀ (s : Shared) (H : Hp) (C : Addr) (cl : List (Str × Addr)) (fp : List Addr), PG (X.blk s H scope (compEnvC scope cl C X.env) fp) tg (tG g v0 t) ∧ PTs (X.blk s H scope (compEnvC scope cl C X.env) fp) ifs (tT g W0 c) ∧
      PI (X.blk s H scope (compEnvC scope cl C X.env) fp) tg1 iter1 (tI g W0 it1) ∧ PG (X.blk s H scope (compEnvC scope cl C X.env) fp) tg1 (tG g v1 t1) ∧ PTs (X.blk s H scope (compEnvC scope cl C X.env) fp) ifs1 (tT g W0 c1) ∧
      PE (X.blk s H scope (compEnvC scope cl C X.env) fp) elt (tE g W0 m)) (hs : ∀ x, foldedSetIterable iter X.env x = pure x) (hs1 : ∀ env x, foldedSetIterable iter1 env x = pure x) :
    PE X (.ListComp elt [⟨tg, iter, ifs, 0⟩, ⟨tg1, iter1, ifs1, 0⟩] scope pos) (tL g W (aLcN it (own.map (·.2)) t c (aNest it1 v1 t1 c1 (aOne m)))) := by
  refine PE.mono (pe_lcN (vs2 := v1) (t2 := tN g (aNest it1 v1 t1 c1 (aOne m))) (B := fun env D => nestB X.prog X.w X.A env iter1 fun j => .compStart (.ListComp elt [⟨tg, iter, ifs, 0⟩, ⟨tg1, iter1, ifs1, 0⟩] scope pos) 1 j (.ref D) env) hc hN hi ok hv1 mono_nest ?_
    (fun s H C cl fp => (hg s H C cl fp).1) (fun s H C cl fp => (hg s H C cl fp).2.1) ?_ hs) fun _ _ _ h => tLcN_of hv0 h
  · intro e he env D j R s I turn n h
    subst he
    exact loop_out rfl (turn2_0 ..) (hs1 env) I turn n h
  · intro s H C cl fp
    obtain ⟨h1, h2, h3, h4, h5, h6⟩ := hg s H C cl fp
    refine pn_mono (pn_nest (B := fun env D => emitB X.prog X.w X.A env elt (.ref D)) (vs2 := []) rfl hc rfl (fun env D j => start2_1 ..) ?_ mono_emit h3 h4 h5 (pn_mono (pn_emit rfl h6) fun D σ H Q h => tEmit_of h) (by simp)) fun D σ H Q h => tNest_of (fun i hi => hi) h
    intro env D j R s I turn n h
    exact loop_in rfl (turn2_1 ..) I turn n h
/-- three clauses -/
theorem sl_lc3 {elt tg iter tg1 iter1 tg2 iter2 : Expr} {ifs ifs1 ifs2 : List Expr} {scope : Scope} {own : List (Str × Nat)} {v0 v1 w1 v2 : List Nat} {pos : Pos} {it it1 it2 : AM} {t t1 t2 : GM} {c c1 c2 : BM} {m : EM} (hc : X.calm = true) (hN : X.N.Nodup) (hi : PI X tg iter (tI g W it)) (ok : BlkOk X.N X.env.scope scope own)
    (hv0 : ∀ i ∈ v0, i ∈ own.map (·.2)) (hv1 : ∀ i ∈ v1, i ∈ own.map (·.2)) (hw1 : ∀ i ∈ w1, i ∈ v1) (hv2 : ∀ i ∈ v2, i ∈ v1)
    (hg : ∀ (s : Shared) (H : Hp) (C : Addr) (cl : List (Str × Addr)) (fp : List Addr), PG (X.blk s H scope (compEnvC scope cl C X.env) fp) tg (tG g v0 t) ∧ PTs (X.blk s H scope (compEnvC scope cl C X.env) fp) ifs (tT g W0 c) ∧
      PI (X.blk s H scope (compEnvC scope cl C X.env) fp) tg1 iter1 (tI g W0 it1) ∧ PG (X.blk s H scope (compEnvC scope cl C X.env) fp) tg1 (tG g w1 t1) ∧ PTs (X.blk s H scope (compEnvC scope cl C X.env) fp) ifs1 (tT g W0 c1) ∧
      PI (X.blk s H scope (compEnvC scope cl C X.env) fp) tg2 iter2 (tI g W0 it2) ∧ PG (X.blk s H scope (compEnvC scope cl C X.env) fp) tg2 (tG g v2 t2) ∧ PTs (X.blk s H scope (compEnvC scope cl C X.env) fp) ifs2 (tT g W0 c2) ∧
      PE (X.blk s H scope (compEnvC scope cl C X.env) fp) elt (tE g W0 m)) (hs : ∀ x, foldedSetIterable iter X.env x = pure x) (hs1 : ∀ env x, foldedSetIterable iter1 env x = pure x) (hs2 : ∀ env x, foldedSetIterable iter2 env x = pure x) :
    PE X (.ListComp elt [⟨tg, iter, ifs, 0⟩, ⟨tg1, iter1, ifs1, 0⟩, ⟨tg2, iter2, ifs2, 0⟩] scope pos) (tL g W (aLcN it (own.map (·.2)) t c (aNest it1 v1 t1 c1 (aNest it2 v2 t2 c2 (aOne m))))) := by
  refine PE.mono (pe_lcN (vs2 := v1) (t2 := tN g (aNest it1 v1 t1 c1 (aNest it2 v2 t2 c2 (aOne m)))) (B := fun env D => nestB X.prog X.w X.A env iter1 fun j => .compStart (.ListComp elt [⟨tg, iter, ifs, 0⟩, ⟨tg1, iter1, ifs1, 0⟩, ⟨tg2, iter2, ifs2, 0⟩] scope pos) 1 j (.ref D) env) hc hN hi ok hv1 mono_nest ?_
    (fun s H C cl fp => (hg s H C cl fp).1) (fun s H C cl fp => (hg s H C cl fp).2.1) ?_ hs) fun _ _ _ h => tLcN_of hv0 h
  · intro e he env D j R s I turn n h
    subst he
    exact loop_out rfl (turn3_0 ..) (hs1 env) I turn n h
  · intro s H C cl fp
    obtain ⟨h1, h2, h3, h4, h5, h6, h7, h8, h9⟩ := hg s H C cl fp
    refine pn_mono (pn_nest (B := fun env D => nestB X.prog X.w X.A env iter2 fun j => .compStart (.ListComp elt [⟨tg, iter, ifs, 0⟩, ⟨tg1, iter1, ifs1, 0⟩, ⟨tg2, iter2, ifs2, 0⟩] scope pos) 2 j (.ref D) env) (vs2 := v2) rfl hc rfl (fun env D j => start3_1 ..) ?_ mono_nest h3 h4 h5
      (pn_mono (pn_nest (B := fun env D => emitB X.prog X.w X.A env elt (.ref D)) (vs2 := []) rfl hc rfl (fun env D j => start3_2 ..) ?_ mono_emit h6 h7 h8 (pn_mono (pn_emit rfl h9) fun D σ H Q h => tEmit_of h) (by simp)) fun D σ H Q h => tNest_of (fun i hi => hi) h) hv2) fun D σ H Q h => tNest_of hw1 h
    · intro env D j R s I turn n h
      exact loop_out rfl (turn3_1 ..) (hs2 env) I turn n h
    · intro env D j R s I turn n h
      exact loop_in rfl (turn3_2 ..) I turn n h
end
end BK

/-! BkH: statements -/
namespace BK
open PySem PySem.Spec PyProof.Rows L2 RZ

/-- a slot: nothing, a value, or a list that nobody else has -/
inductive Slot where
  | no
  | val (x : PV)
  | own (xs : List PV)
abbrev SEnv := List Slot
def Slot.h : Slot → Option PV
  | .val x => some x
  | _ => none
def Slot.r : Slot → Option PV
  | .val x => some x
  | .own xs => some (.lst xs)
  | .no => none
def viewH (ρ : SEnv) : PEnv := ρ.map Slot.h
def viewR (ρ : SEnv) : PEnv := ρ.map Slot.r
inductive SR where
  | nx (ρ : SEnv) (st : Sto)
  | ret (x : PV) (st : Sto)
  | brk (ρ : SEnv) (st : Sto)
  | ct (ρ : SEnv) (st : Sto)
  | exn (c : Nat) (fs : List PV) (st : Sto)
  | bad
abbrev SM := SEnv → Sto → SR
def SR.of {α : Type} (r : Res α) (k : α → Sto → SR) : SR := match r with
  | .ok a st => k a st
  | .exn c fs st => .exn c fs st
  | .bad => .bad
structure SEnvOk (g : Gx) (H0 F : Hp) (μ : List Addr) (H : Hp) (σ : L2.St) (ρ : SEnv) : Prop where
  len : σ.length = ρ.length
  val : ∀ (i : Nat) (x : PV), ρ[i]? = some (.val x) → ∃ v, σ[i]? = some (some v) ∧ Rep g.K g.fa F μ v x
  own : ∀ (i : Nat) (xs : List PV), ρ[i]? = some (.own xs) → ∃ (a : Addr) (vs : List V), σ[i]? = some (some (.ref a)) ∧ H0 a = none ∧ F a = none ∧ a ∉ μ ∧ H a = some (HO.lst vs) ∧ vs.length ≤ sizeLine ∧ Reps g.K g.fa F μ vs xs
  dis : ∀ (i j : Nat) (a : Addr) (xs ys : List PV), ρ[i]? = some (.own xs) → ρ[j]? = some (.own ys) → σ[i]? = some (some (.ref a)) → σ[j]? = some (some (.ref a)) → i = j
/-- a state within a def's body: entered at F0 μ0 H0; B stays frozen -/
structure SOk (g : Gx) (F0 : Hp) (μ0 : List Addr) (H0 : Hp) (B : Hp × List Addr) (F : Hp) (μ : List Addr) (H : Hp) (σ : L2.St) (ρ : SEnv) (st : Sto) : Prop where
  w : Wok g.K g.fa F μ H st
  e : Ext F0 μ0 H0 F μ H
  b : Same B.1 F ∧ ∃ t, μ = B.2 ++ t
  en : SEnvOk g H0 F μ H σ ρ
def SPost (g : Gx) (W : WX) (fr : Bool) (F0 : Hp) (μ0 : List Addr) (H0 : Hp) (B : Hp × List Addr) (r : SR) (D : Ends) : Prop := match r with
  | .nx ρ st => ∀ σ' F' μ' H', SOk g F0 μ0 H0 B F' μ' H' σ' ρ st → D.nx σ' H'
  | .brk ρ st => ∀ σ' F' μ' H', SOk g F0 μ0 H0 B F' μ' H' σ' ρ st → D.bk σ' H'
  | .ct ρ st => ∀ σ' F' μ' H', SOk g F0 μ0 H0 B F' μ' H' σ' ρ st → D.ct σ' H'
  | .ret x st => ∀ v F' μ' H', Wok g.K g.fa F' μ' H' st → Ext F0 μ0 H0 F' μ' H' → RepR g fr H0 F' μ' H' v x → D.rt v H'
  | .exn c fs st => ∀ cls d σ' F' μ' H', Wok g.K g.fa F' μ' H' st → Ext F0 μ0 H0 F' μ' H' → XRep g F' μ' H' c fs cls d → W cls d σ' H'
  | .bad => False
def tS (g : Gx) (W : WX) (fr : Bool) (m : SM) : TS := fun D σ H => ∃ F0 μ0 H0 B F μ ρ st, SOk g F0 μ0 H0 B F μ H σ ρ st ∧ SPost g W fr F0 μ0 H0 B (m ρ st) D
section
variable {X : Cx} {s : Stmt} {ss : List Stmt}
theorem PS.mono {t t' : TS} (h : PS X s t) (i : ∀ D σ H, t' D σ H → t D σ H) : PS X s t' := ⟨fun pins s σ H D I q => h.run pins s σ H D I (i _ _ _ q)⟩
theorem PSs.mono {t t' : TS} (h : PSs X ss t) (i : ∀ D σ H, t' D σ H → t D σ H) : PSs X ss t' := ⟨fun pins s σ H D I q => h.run pins s σ H D I (i _ _ _ q)⟩
end
section
variable {g : Gx} {F0 : Hp} {μ0 : List Addr} {H0 F F' : Hp} {B : Hp × List Addr} {μ μ' : List Addr} {H H' : Hp} {σ : L2.St} {ρ : SEnv} {st st' : Sto}
theorem SOk.ext (o : SOk g F0 μ0 H0 B F μ H σ ρ st) (e : Ext F μ H F' μ' H') (w : Wok g.K g.fa F' μ' H' st') : SOk g F0 μ0 H0 B F' μ' H' σ ρ st' where
  w := w
  e := o.e.trans e
  b := ⟨o.b.1.trans e.fs, by
    obtain ⟨t, h⟩ := o.b.2
    obtain ⟨u, k⟩ := e.ms
    exact ⟨t ++ u, by rw [k, h]; simp⟩⟩
  en := ⟨o.en.len, fun i x h => let ⟨v, h1, h2⟩ := o.en.val i x h; ⟨v, h1, Rep.ext e h2⟩, fun i xs h => by
    obtain ⟨a, vs, h1, h2, h3, h4, h5, h6, h7⟩ := o.en.own i xs h
    obtain ⟨k1, k2, k3⟩ := e.mine h3 h4 h5
    exact ⟨a, vs, h1, h2, k1, k2, k3, h6, Reps.ext e h7⟩, o.en.dis⟩
theorem viewH_get {i : Nat} {x : PV} (h : (viewH ρ)[i]? = some (some x)) : ρ[i]? = some (.val x) := by
  unfold viewH at h
  rw [List.getElem?_map, Option.map_eq_some_iff] at h
  obtain ⟨s, h1, h2⟩ := h
  cases s <;> simp [Slot.h] at h2
  rw [h1, h2]
theorem viewR_get {i : Nat} {x : PV} (h : (viewR ρ)[i]? = some (some x)) : ρ[i]? = some (.val x) ∨ ∃ xs, ρ[i]? = some (.own xs) ∧ x = .lst xs := by
  unfold viewR at h
  rw [List.getElem?_map, Option.map_eq_some_iff] at h
  obtain ⟨s, h1, h2⟩ := h
  cases s <;> simp [Slot.r] at h2
  · exact .inl (by rw [h1, h2])
  · exact .inr ⟨_, h1, h2.symm⟩
theorem SEnvOk.viewH (o : SEnvOk g H0 F μ H σ ρ) : Env g F μ σ (viewH ρ) := ⟨by rw [o.len]; simp [BK.viewH], fun i x h => o.val i x (viewH_get h)⟩
/-- a slot is set to a value -/
theorem SOk.set (o : SOk g F0 μ0 H0 B F μ H σ ρ st) {i : Nat} {v : V} {x : PV} (r : Rep g.K g.fa F μ v x) : SOk g F0 μ0 H0 B F μ H (σ.set i (some v)) (ρ.set i (.val x)) st where
  w := o.w
  e := o.e
  b := o.b
  en := by
    have hl := o.en.len
    refine ⟨by simpa using hl, fun j y h => ?_, fun j xs h => ?_, fun j k a xs ys h1 h2 h3 h4 => ?_⟩
    · by_cases e : i = j
      · subst e
        by_cases hi : i < ρ.length
        · rw [List.getElem?_set_self hi] at h
          cases h
          exact ⟨v, by rw [List.getElem?_set_self (by omega)], r⟩
        · rw [List.getElem?_eq_none (by simpa using hi)] at h
          cases h
      · rw [List.getElem?_set_ne e] at h ⊢
        exact o.en.val j y h
    · by_cases e : i = j
      · subst e
        by_cases hi : i < ρ.length
        · rw [List.getElem?_set_self hi] at h
          cases h
        · rw [List.getElem?_eq_none (by simpa using hi)] at h
          cases h
      · rw [List.getElem?_set_ne e] at h ⊢
        exact o.en.own j xs h
    · have ne : ∀ {m : Nat} {zs : List PV}, (ρ.set i (.val x))[m]? = some (.own zs) → i ≠ m := fun {m zs} h e => by
        subst e
        by_cases hi : i < ρ.length
        · rw [List.getElem?_set_self hi] at h
          cases h
        · rw [List.getElem?_eq_none (by simpa using hi)] at h
          cases h
      have e1 := ne h1
      have e2 := ne h2
      rw [List.getElem?_set_ne e1] at h1 h3
      rw [List.getElem?_set_ne e2] at h2 h4
      exact o.en.dis j k a xs ys h1 h2 h3 h4
/-- a slot gets a new list that nobody else has -/
theorem SOk.setOwn (o : SOk g F0 μ0 H0 B F μ H σ ρ st) {i : Nat} {a : Addr} {vs : List V} {xs : List PV} (h0 : H0 a = none) (hF : F a = none) (hm : a ∉ μ) (hH : H a = some (HO.lst vs)) (hl : vs.length ≤ sizeLine) (r : Reps g.K g.fa F μ vs xs)
    (hd : ∀ j ys, ρ[j]? = some (.own ys) → j ≠ i → σ[j]? ≠ some (some (.ref a))) : SOk g F0 μ0 H0 B F μ H (σ.set i (some (.ref a))) (ρ.set i (.own xs)) st where
  w := o.w
  e := o.e
  b := o.b
  en := by
    have hl' := o.en.len
    have at_i : ∀ {m : Nat} {s : Slot}, (ρ.set i (.own xs))[m]? = some s → (m = i ∧ i < ρ.length ∧ s = .own xs) ∨ (i ≠ m ∧ ρ[m]? = some s) := fun {m s} h => by
      by_cases e : i = m
      · subst e
        by_cases hi : i < ρ.length
        · rw [List.getElem?_set_self hi] at h
          cases h
          exact .inl ⟨rfl, hi, rfl⟩
        · rw [List.getElem?_eq_none (by simpa using hi)] at h
          cases h
      · rw [List.getElem?_set_ne e] at h
        exact .inr ⟨e, h⟩
    refine ⟨by simpa using hl', fun j y h => ?_, fun j ys h => ?_, fun j k b ys zs h1 h2 h3 h4 => ?_⟩
    · rcases at_i h with ⟨_, _, z⟩ | ⟨e, h⟩
      · cases z
      · rw [List.getElem?_set_ne e]
        exact o.en.val j y h
    · rcases at_i h with ⟨e, hi, z⟩ | ⟨e, h⟩
      · subst e
        cases z
        exact ⟨a, vs, by rw [List.getElem?_set_self (by omega)], h0, hF, hm, hH, hl, r⟩
      · rw [List.getElem?_set_ne e]
        exact o.en.own j ys h
    · rcases at_i h1 with ⟨e1, hi, z1⟩ | ⟨e1, y1⟩ <;> rcases at_i h2 with ⟨e2, hi2, z2⟩ | ⟨e2, y2⟩
      · rw [e1, e2]
      · subst e1
        rw [List.getElem?_set_self (by omega)] at h3
        rw [List.getElem?_set_ne e2] at h4
        cases h3
        exact absurd h4 (hd k zs y2 (Ne.symm e2))
      · subst e2
        rw [List.getElem?_set_self (by omega)] at h4
        rw [List.getElem?_set_ne e1] at h3
        cases h4
        exact absurd h3 (hd j ys y1 (Ne.symm e1))
      · rw [List.getElem?_set_ne e1] at h3
        rw [List.getElem?_set_ne e2] at h4
        exact o.en.dis j k b ys zs y1 y2 h3 h4
/-- a slot's own list is written -/
theorem SOk.write (o : SOk g F0 μ0 H0 B F μ H σ ρ st) {i : Nat} {a : Addr} {xs ys : List PV} {us : List V} (hi : ρ[i]? = some (.own xs)) (ha : σ[i]? = some (some (.ref a))) (hl : us.length ≤ sizeLine) (r : Reps g.K g.fa F μ us ys) :
    SOk g F0 μ0 H0 B F μ (upd H a (.lst us)) σ (ρ.set i (.own ys)) st := by
  obtain ⟨a', vs, h1, h2, h3, h4, h5, h6, h7⟩ := o.en.own i xs hi
  rw [ha] at h1
  cases h1
  have hil : i < ρ.length := (List.getElem?_eq_some_iff.mp hi).1
  have at_i : ∀ {m : Nat} {s : Slot}, (ρ.set i (.own ys))[m]? = some s → (m = i ∧ s = .own ys) ∨ (i ≠ m ∧ ρ[m]? = some s) := fun {m s} h => by
    by_cases e : i = m
    · subst e
      rw [List.getElem?_set_self hil] at h
      cases h
      exact .inl ⟨rfl, rfl⟩
    · rw [List.getElem?_set_ne e] at h
      exact .inr ⟨e, h⟩
  refine ⟨o.w.put _ h3 h4, o.e.put _ h2, o.b, by simpa using o.en.len, fun j y h => ?_, fun j zs h => ?_, fun j k b zs qs k1 k2 k3 k4 => ?_⟩
  · rcases at_i h with ⟨_, z⟩ | ⟨e, h⟩
    · cases z
    · exact o.en.val j y h
  · rcases at_i h with ⟨e, z⟩ | ⟨e, h⟩
    · subst e
      cases z
      exact ⟨a, us, ha, h2, h3, h4, upd_same, hl, r⟩
    · obtain ⟨b, ws, q1, q2, q3, q4, q5, q6, q7⟩ := o.en.own j zs h
      have ne : b ≠ a := fun z => by
        subst z
        exact e (o.en.dis i j b xs zs hi h ha q1)
      exact ⟨b, ws, q1, q2, q3, q4, by rw [upd_ne ne]; exact q5, q6, q7⟩
  · rcases at_i k1 with ⟨e1, z1⟩ | ⟨e1, y1⟩ <;> rcases at_i k2 with ⟨e2, z2⟩ | ⟨e2, y2⟩
    · rw [e1, e2]
    · subst e1
      exact o.en.dis _ k b xs qs hi y2 k3 k4
    · subst e2
      exact o.en.dis j _ b zs xs y1 hi k3 k4
    · exact o.en.dis j k b zs qs y1 y2 k3 k4
open Classical in
/-- all own lists frozen -/
noncomputable def plus (F H : Hp) (σ : L2.St) (ρ : SEnv) : Hp := fun b => if (∃ (i : Nat) (xs : List PV), ρ[i]? = some (.own xs) ∧ σ[i]? = some (some (.ref b))) then H b else F b
theorem plus_cases (F H : Hp) (σ : L2.St) (ρ : SEnv) (b : Addr) : ((∃ (i : Nat) (xs : List PV), ρ[i]? = some (.own xs) ∧ σ[i]? = some (some (.ref b))) ∧ plus F H σ ρ b = H b) ∨ (¬ (∃ (i : Nat) (xs : List PV), ρ[i]? = some (.own xs) ∧ σ[i]? = some (some (.ref b))) ∧ plus F H σ ρ b = F b) := by
  unfold plus
  by_cases h : ∃ (i : Nat) (xs : List PV), ρ[i]? = some (.own xs) ∧ σ[i]? = some (some (.ref b))
  · exact .inl ⟨h, by rw [if_pos h]⟩
  · exact .inr ⟨h, by rw [if_neg h]⟩
theorem plus_same (o : SEnvOk g H0 F μ H σ ρ) : Same F (plus F H σ ρ) := fun b u h => by
  rcases plus_cases F H σ ρ b with ⟨⟨i, xs, h1, h2⟩, e⟩ | ⟨_, e⟩
  · obtain ⟨a, vs, k1, k2, k3, _⟩ := o.own i xs h1
    rw [h2] at k1
    cases k1
    rw [k3] at h
    cases h
  · rw [e]; exact h
theorem SOk.freeze (o : SOk g F0 μ0 H0 B F μ H σ ρ st) : Wok g.K g.fa (plus F H σ ρ) μ H st ∧ Ext F0 μ0 H0 (plus F H σ ρ) μ H ∧ Env g (plus F H σ ρ) μ σ (viewR ρ) := by
  have sP := plus_same o.en
  refine ⟨⟨fun b u h => ?_, o.w.len, o.w.nd, fun a m => ?_, fun n a hn => ?_⟩, ⟨o.e.fs.trans sP, o.e.ms, o.e.hs, o.e.hm, fun a h k => ?_, o.e.mn⟩, by rw [o.en.len]; simp [viewR], fun i x h => ?_⟩
  · rcases plus_cases F H σ ρ b with ⟨_, e⟩ | ⟨_, e⟩
    · rw [e] at h; exact h
    · rw [e] at h; exact o.w.sub b u h
  · rcases plus_cases F H σ ρ a with ⟨⟨i, xs, h1, h2⟩, e⟩ | ⟨_, e⟩
    · obtain ⟨b, vs, k1, k2, k3, k4, _⟩ := o.en.own i xs h1
      rw [h2] at k1
      cases k1
      exact absurd m k4
    · rw [e]; exact o.w.off a m
  · obtain ⟨xs, vs, h1, h2, h3, h4, h5⟩ := o.w.obj n a hn
    exact ⟨xs, vs, h1, h2, Reps.mono sP ⟨[], by simp⟩ _ _ h3, h4, h5⟩
  · rcases plus_cases F H σ ρ a with ⟨⟨i, xs, h1, h2⟩, e⟩ | ⟨_, e⟩
    · obtain ⟨b, vs, k1, k2, _⟩ := o.en.own i xs h1
      rw [h2] at k1
      cases k1
      exact k2
    · rw [e] at k
      exact o.e.fn a h k
  · rcases viewR_get h with y | ⟨xs, y, rfl⟩
    · obtain ⟨v, h1, h2⟩ := o.en.val i x y
      exact ⟨v, h1, Rep.mono sP ⟨[], by simp⟩ _ _ h2⟩
    · obtain ⟨a, vs, k1, k2, k3, k4, k5, k6, k7⟩ := o.en.own i xs y
      refine ⟨_, k1, .lst (vs := vs) ?_ k6 (Reps.mono sP ⟨[], by simp⟩ _ _ k7)⟩
      rcases plus_cases F H σ ρ a with ⟨_, e⟩ | ⟨n, _⟩
      · rw [e]; exact k5
      · exact absurd ⟨i, xs, y, k1⟩ n
/-- one own list is frozen for good -/
theorem SOk.frz (o : SOk g F0 μ0 H0 B F μ H σ ρ st) {i : Nat} {xs : List PV} (hi : ρ[i]? = some (.own xs)) : ∃ F', SOk g F0 μ0 H0 B F' μ H σ (ρ.set i (.val (.lst xs))) st := by
  obtain ⟨a, vs, h1, h2, h3, h4, h5, h6, h7⟩ := o.en.own i xs hi
  obtain ⟨e, w, q, sF⟩ := Wok.freeze o.e o.w h2 h3 h4 h5
  have hil : i < ρ.length := (List.getElem?_eq_some_iff.mp hi).1
  have at_i : ∀ {m : Nat} {s : Slot}, (ρ.set i (.val (.lst xs)))[m]? = some s → (m = i ∧ s = .val (.lst xs)) ∨ (i ≠ m ∧ ρ[m]? = some s) := fun {m s} h => by
    by_cases e : i = m
    · subst e
      rw [List.getElem?_set_self hil] at h
      cases h
      exact .inl ⟨rfl, rfl⟩
    · rw [List.getElem?_set_ne e] at h
      exact .inr ⟨e, h⟩
  refine ⟨_, w, e, ⟨o.b.1.trans sF, o.b.2⟩, by simpa using o.en.len, fun j y h => ?_, fun j zs h => ?_, fun j k b zs qs k1 k2 k3 k4 => ?_⟩
  · rcases at_i h with ⟨e, z⟩ | ⟨e, h⟩
    · subst e
      cases z
      exact ⟨_, h1, .lst q h6 (Reps.mono sF ⟨[], by simp⟩ _ _ h7)⟩
    · obtain ⟨v, k1, k2⟩ := o.en.val j y h
      exact ⟨v, k1, Rep.mono sF ⟨[], by simp⟩ _ _ k2⟩
  · rcases at_i h with ⟨_, z⟩ | ⟨ne0, y⟩
    · cases z
    · obtain ⟨b, ws, q1, q2, q3, q4, q5, q6, q7⟩ := o.en.own j zs y
      have ne : b ≠ a := fun z => by
        subst z
        exact ne0 (o.en.dis i j b xs zs hi y h1 q1)
      exact ⟨b, ws, q1, q2, by rw [upd_ne ne]; exact q3, q4, q5, q6, Reps.mono sF ⟨[], by simp⟩ _ _ q7⟩
  · rcases at_i k1 with ⟨e1, z1⟩ | ⟨e1, y1⟩
    · cases z1
    · rcases at_i k2 with ⟨e2, z2⟩ | ⟨e2, y2⟩
      · cases z2
      · exact o.en.dis j k b zs qs y1 y2 k3 k4
end
end BK

/-! BkI: rules for statements -/
namespace BK
open PySem PySem.Spec PyProof.Rows L2 RZ

def setS (ρ : SEnv) : List (Nat × PV) → SEnv
  | [] => ρ
  | (i, x) :: r => setS (ρ.set i (.val x)) r
theorem viewH_setS : ∀ (as : List (Nat × PV)) (ρ : SEnv), viewH (setS ρ as) = setP (viewH ρ) as
  | [], _ => rfl
  | (i, x) :: r, ρ => by
    simp only [setS, setP, viewH_setS r]
    congr 1
    unfold viewH
    rw [List.map_set]
    rfl
theorem setS_own : ∀ (as : List (Nat × PV)) (ρ : SEnv) {j : Nat} {xs : List PV}, (setS ρ as)[j]? = some (.own xs) → ρ[j]? = some (.own xs) ∧ j ∉ as.map (·.1)
  | [], _, _, _, h => ⟨h, by simp⟩
  | (i, x) :: r, ρ, j, xs, h => by
    simp only [setS] at h
    obtain ⟨h1, h2⟩ := setS_own r _ h
    by_cases e : i = j
    · subst e
      by_cases hi : i < ρ.length
      · rw [List.getElem?_set_self hi] at h1
        cases h1
      · rw [List.getElem?_eq_none (by simpa using hi)] at h1
        cases h1
    · rw [List.getElem?_set_ne e] at h1
      exact ⟨h1, by simp only [List.map_cons, List.mem_cons, not_or]; exact ⟨fun z => e z.symm, h2⟩⟩
theorem setS_length : ∀ (as : List (Nat × PV)) (ρ : SEnv), (setS ρ as).length = ρ.length
  | [], _ => rfl
  | (i, x) :: r, ρ => by simp only [setS, setS_length r, List.length_set]
/-- what a target's slots are -/
def Keys (t : GM) (vs : List Nat) : Prop := ∀ x as, t x = some as → as.map (·.1) = vs
section
variable {g : Gx} {F0 : Hp} {μ0 : List Addr} {H0 F : Hp} {B B' : Hp × List Addr} {μ : List Addr} {H : Hp} {σ σ' : L2.St} {ρ : SEnv} {st : Sto}
theorem SOk.assign (o : SOk g F0 μ0 H0 B F μ H σ ρ st) {as : List (Nat × PV)} {vs : List Nat} (off : Off vs σ σ') (en : Env g F μ σ' (setP (viewH ρ) as)) (hk : as.map (·.1) = vs) : SOk g F0 μ0 H0 B F μ H σ' (setS ρ as) st where
  w := o.w
  e := o.e
  b := o.b
  en := by
    rw [← viewH_setS] at en
    refine ⟨by rw [off.1, o.en.len, setS_length], fun i x h => en.2 i x ?_, fun i xs h => ?_, fun i j a xs ys h1 h2 h3 h4 => ?_⟩
    · unfold viewH
      rw [List.getElem?_map, h]
      rfl
    · obtain ⟨k1, k2⟩ := setS_own as ρ h
      obtain ⟨a, us, q1, q⟩ := o.en.own i xs k1
      exact ⟨a, us, by rw [off.2 i (by rw [← hk]; exact k2)]; exact q1, q⟩
    · obtain ⟨k1, k2⟩ := setS_own as ρ h1
      obtain ⟨m1, m2⟩ := setS_own as ρ h2
      rw [off.2 i (by rw [← hk]; exact k2)] at h3
      rw [off.2 j (by rw [← hk]; exact m2)] at h4
      exact o.en.dis i j a xs ys k1 m1 h3 h4
theorem SOk.base (o : SOk g F0 μ0 H0 B' F μ H σ ρ st) (h : Same B.1 B'.1 ∧ ∃ t, B'.2 = B.2 ++ t) : SOk g F0 μ0 H0 B F μ H σ ρ st := ⟨o.w, o.e, ⟨h.1.trans o.b.1, by
  obtain ⟨t, h⟩ := h.2
  obtain ⟨u, k⟩ := o.b.2
  exact ⟨t ++ u, by rw [k, h]; simp⟩⟩, o.en⟩
theorem SOk.now (o : SOk g F0 μ0 H0 B F μ H σ ρ st) : SOk g F0 μ0 H0 (F, μ) F μ H σ ρ st := ⟨o.w, o.e, ⟨Same.refl _, [], by simp⟩, o.en⟩
end
/-- the step from an expression's result to a statement's -/
theorem SPost.of {g : Gx} {W : WX} {fr : Bool} {F0 : Hp} {μ0 : List Addr} {H0 F : Hp} {B : Hp × List Addr} {μ : List Addr} {H : Hp} {σ : L2.St} {ρ : SEnv} {st : Sto} {D : Ends} {α : Type} {r : Res α} {k : α → Sto → SR} (o : SOk g F0 μ0 H0 B F μ H σ ρ st) (h : SPost g W fr F0 μ0 H0 B (SR.of r k) D) :
    Post g F μ H W σ r fun a st' F' μ' H' => SOk g F0 μ0 H0 B F' μ' H' σ ρ st' ∧ SPost g W fr F0 μ0 H0 B (k a st') D := by
  cases r with
  | ok a st' => exact fun F' μ' H' e w => ⟨o.ext e w, h⟩
  | exn c fs st' => exact fun F' μ' H' cls d e w x => h cls d σ F' μ' H' w (o.e.trans e) x
  | bad => exact h

def sNil : SM := fun ρ st => .nx ρ st
def sSeq (a b : SM) : SM := fun ρ st => match a ρ st with
  | .nx ρ1 st1 => b ρ1 st1
  | r => r
def sBrk : SM := fun ρ st => .brk ρ st
def sCt : SM := fun ρ st => .ct ρ st
def sIf (c : BM) (a b : SM) : SM := fun ρ st => SR.of (c (viewH ρ) st) fun d st1 => if d = true then a ρ st1 else b ρ st1
def sSet (i : Nat) (m : EM) : SM := fun ρ st => SR.of (m (viewH ρ) st) fun x st1 => .nx (ρ.set i (.val x)) st1
def sOwn (i : Nat) (n : AM) : SM := fun ρ st => SR.of (n (viewH ρ) st) fun xs st1 => .nx (ρ.set i (.own xs)) st1
def sAsg (t : GM) (m : EM) : SM := fun ρ st => SR.of (m (viewH ρ) st) fun x st1 => match t x with
  | some as => .nx (setS ρ as) st1
  | none => .bad
def sDrop (m : EM) : SM := fun ρ st => SR.of (m (viewH ρ) st) fun _ st1 => .nx ρ st1
def sRet (m : EM) : SM := fun ρ st => SR.of (m (viewR ρ) st) fun x st1 => .ret x st1
def sRetN : SM := fun _ st => .ret .non st
def sRetL (n : AM) : SM := fun ρ st => SR.of (n (viewR ρ) st) fun xs st1 => .ret (.lst xs) st1
def sRetOwn (i : Nat) : SM := fun ρ st => match ρ[i]? with
  | some (.own xs) => .ret (.lst xs) st
  | _ => .bad
def sApp (i : Nat) (m : EM) : SM := fun ρ st => match ρ[i]? with
  | some (.own _) => SR.of (m (viewH ρ) st) fun x st1 => match ρ[i]? with
    | some (.own xs) => if xs.length < sizeLine then .nx (ρ.set i (.own (xs ++ [x]))) st1 else .bad
    | _ => .bad
  | _ => .bad
def sExt (i : Nat) (m : EM) : SM := fun ρ st => match ρ[i]? with
  | some (.own xs) => SR.of (m (viewH ρ) st) fun x st1 => match x with
    | .lst ys => if xs.length + ys.length ≤ sizeLine then .nx (ρ.set i (.own (xs ++ ys))) st1 else .bad
    | _ => .bad
  | _ => .bad
def sPop (i : Nat) (t : GM) : SM := fun ρ st => match ρ[i]? with
  | some (.own xs) => match xs[xs.length - 1]? with
    | some x => match t x with
      | some as => .nx (setS (ρ.set i (.own xs.dropLast)) as) st
      | none => .bad
    | none => .bad
  | _ => .bad
def sFrz (i : Nat) : SM := fun ρ st => match ρ[i]? with
  | some (.own xs) => .nx (ρ.set i (.val (.lst xs))) st
  | _ => .nx ρ st
def forGo (t : GM) (body : SM) : List PV → SEnv → Sto → SR
  | [], ρ, st => .nx ρ st
  | x :: xs, ρ, st => match t x with
    | none => .bad
    | some as => match body (setS ρ as) st with
      | .nx ρ1 st1 => forGo t body xs ρ1 st1
      | .ct ρ1 st1 => forGo t body xs ρ1 st1
      | .brk ρ1 st1 => .nx ρ1 st1
      | r => r
def sFor (t : GM) (it : AM) (body : SM) : SM := fun ρ st => SR.of (it (viewH ρ) st) fun xs st1 => forGo t body xs ρ st1
def whileGo (c : BM) (body : SM) : Nat → SEnv → Sto → SR
  | 0, _, _ => .bad
  | n + 1, ρ, st => SR.of (c (viewH ρ) st) fun b st1 => if b = true then match body ρ st1 with
      | .nx ρ1 st2 => whileGo c body n ρ1 st2
      | .ct ρ1 st2 => whileGo c body n ρ1 st2
      | .brk ρ1 st2 => .nx ρ1 st2
      | r => r
    else .nx ρ st1
/-- how many rounds a while is given -/
def wfuel : Nat := 1000000
def sWhile (c : BM) (body : SM) : SM := fun ρ st => whileGo c body wfuel ρ st
section
variable {X : Cx} {g : Gx} {W : WX} {fr : Bool} {s : Stmt} {ss : List Stmt} {a b : SM} {e e2 : Expr} {m : EM} {n : AM} {c : BM} {pos pos' p : Pos}
theorem ss_nil : PSs X [] (tS g W fr sNil) := PSs.mono pss_nil fun D σ H h => by
  obtain ⟨F0, μ0, H0, B, F, μ, ρ, st, o, h⟩ := h
  exact h σ F μ H o
theorem ss_cons (h1 : PS X s (tS g W fr a)) (h2 : PSs X ss (tS g W fr b)) : PSs X (s :: ss) (tS g W fr (sSeq a b)) := PSs.mono (pss_cons h1 h2) fun D σ H h => by
  obtain ⟨F0, μ0, H0, B, F, μ, ρ, st, o, h⟩ := h
  refine ⟨F0, μ0, H0, B, F, μ, ρ, st, o, ?_⟩
  unfold sSeq at h
  cases q : a ρ st with
  | nx ρ1 st1 =>
    rw [q] at h
    exact fun σ' F' μ' H' o' => ⟨F0, μ0, H0, B, F', μ', ρ1, st1, o', h⟩
  | ret x st1 => rw [q] at h; exact h
  | brk ρ1 st1 => rw [q] at h; exact h
  | ct ρ1 st1 => rw [q] at h; exact h
  | exn cn fs st1 => rw [q] at h; exact h
  | bad => rw [q] at h; exact h
/-- a step of ours that is none of Python's -/
theorem ss_pre {f : SM} (hf : ∀ F0 μ0 H0 B F μ H σ ρ st D, SOk g F0 μ0 H0 B F μ H σ ρ st → SPost g W fr F0 μ0 H0 B (sSeq f a ρ st) D → ∃ F' ρ', SOk g F0 μ0 H0 B F' μ H σ ρ' st ∧ SPost g W fr F0 μ0 H0 B (a ρ' st) D) (h : PSs X ss (tS g W fr a)) : PSs X ss (tS g W fr (sSeq f a)) := PSs.mono h fun D σ H h => by
  obtain ⟨F0, μ0, H0, B, F, μ, ρ, st, o, h⟩ := h
  obtain ⟨F', ρ', o', h'⟩ := hf _ _ _ _ _ _ _ _ _ _ _ o h
  exact ⟨F0, μ0, H0, B, F', μ, ρ', st, o', h'⟩
theorem ss_frz (i : Nat) (h : PSs X ss (tS g W fr a)) : PSs X ss (tS g W fr (sSeq (sFrz i) a)) := ss_pre (fun F0 μ0 H0 B F μ H σ ρ st D o h => by
  unfold sSeq sFrz at h
  cases q : ρ[i]? with
  | none => rw [q] at h; exact ⟨F, ρ, o, h⟩
  | some sl =>
    rw [q] at h
    cases sl with
    | no => exact ⟨F, ρ, o, h⟩
    | val x => exact ⟨F, ρ, o, h⟩
    | own xs =>
      obtain ⟨F', o'⟩ := o.frz q
      exact ⟨F', _, o', h⟩) h
theorem s_pass : PS X (.Pass pos) (tS g W fr sNil) := PS.mono ps_pass fun D σ H h => by
  obtain ⟨F0, μ0, H0, B, F, μ, ρ, st, o, h⟩ := h
  exact h σ F μ H o
theorem s_break : PS X (.Break pos) (tS g W fr sBrk) := PS.mono ps_break fun D σ H h => by
  obtain ⟨F0, μ0, H0, B, F, μ, ρ, st, o, h⟩ := h
  exact h σ F μ H o
theorem s_cont : PS X (.Continue pos) (tS g W fr sCt) := PS.mono ps_continue fun D σ H h => by
  obtain ⟨F0, μ0, H0, B, F, μ, ρ, st, o, h⟩ := h
  exact h σ F μ H o
theorem s_if {cond : Expr} {th el : List Stmt} (hc : PT X cond (tT g W c)) (ha : PSs X th (tS g W fr a)) (hb : PSs X el (tS g W fr b)) : PS X (.If cond th el pos) (tS g W fr (sIf c a b)) := PS.mono (ps_if hc ha hb) fun D σ H h => by
  obtain ⟨F0, μ0, H0, B, F, μ, ρ, st, o, h⟩ := h
  refine ⟨F, μ, st, viewH ρ, o.w, o.en.viewH, (SPost.of o h).imp fun d st1 F1 μ1 H1 e1 w1 ⟨o1, h1⟩ => ?_⟩
  cases d with
  | true =>
    rw [if_pos rfl] at h1 ⊢
    exact ⟨F0, μ0, H0, B, F1, μ1, ρ, st1, o1, h1⟩
  | false =>
    rw [if_neg Bool.false_ne_true] at h1 ⊢
    exact ⟨F0, μ0, H0, B, F1, μ1, ρ, st1, o1, h1⟩
theorem tSet_of {i : Nat} {D : Ends} {σ : L2.St} {H : Hp} (h : tS g W fr (sSet i m) D σ H) : tAsg (tE g W m) (gName i) D σ H := by
  obtain ⟨F0, μ0, H0, B, F, μ, ρ, st, o, h⟩ := h
  refine ⟨F, μ, st, viewH ρ, o.w, o.en.viewH, (SPost.of o h).imp fun x st1 F1 μ1 H1 e1 w1 ⟨o1, h1⟩ v rv => ?_⟩
  exact h1 _ F1 μ1 H1 (o1.set rv)
theorem s_set {i : Nat} {x : Str} (hN : X.N.Nodup) (hi : X.N[i]? = some x) (hx : Loc X.env.scope x) (he : PE X e (tE g W m)) (hs : swapsWith e (some (.Name x pos')) pos.line X.env = pure false) (hf : X.fn x = true ∨ X.env.scope.names.lookup x = some .local) :
    PS X (.Assign [.Name x pos'] e pos) (tS g W fr (sSet i m)) := PS.mono (ps_set hN hi hx he hs hf) fun _ _ _ h => tSet_of h
theorem tOwn_of {i : Nat} {D : Ends} {σ : L2.St} {H : Hp} (h : tS g W fr (sOwn i n) D σ H) : tAsg (tL g W n) (gName i) D σ H := by
  obtain ⟨F0, μ0, H0, B, F, μ, ρ, st, o, h⟩ := h
  refine ⟨F, μ, st, viewH ρ, o.w, o.en.viewH, (SPost.of o h).imp fun xs st1 F1 μ1 H1 e1 w1 ⟨o1, h1⟩ a vs k1 k2 k3 k4 k5 k6 => ?_⟩
  refine h1 _ F1 μ1 H1 (o1.setOwn (o.e.keep k1) k2 k3 k4 k5 k6 fun j ys hj _ hc => ?_)
  obtain ⟨b, us, q1, q2, q3, q4, q5, _⟩ := o.en.own j ys hj
  rw [hc] at q1
  cases q1
  rw [k1] at q5
  cases q5
theorem s_own {i : Nat} {x : Str} (hN : X.N.Nodup) (hi : X.N[i]? = some x) (hx : Loc X.env.scope x) (he : PE X e (tL g W n)) (hs : swapsWith e (some (.Name x pos')) pos.line X.env = pure false) (hf : X.fn x = true ∨ X.env.scope.names.lookup x = some .local) :
    PS X (.Assign [.Name x pos'] e pos) (tS g W fr (sOwn i n)) := PS.mono (ps_set hN hi hx he hs hf) fun _ _ _ h => tOwn_of h
theorem tAsg_of {t : GM} {vs : List Nat} (hk : Keys t vs) {D : Ends} {σ : L2.St} {H : Hp} (h : tS g W fr (sAsg t m) D σ H) : tAsg (tE g W m) (tG g vs t) D σ H := by
  obtain ⟨F0, μ0, H0, B, F, μ, ρ, st, o, h⟩ := h
  refine ⟨F, μ, st, viewH ρ, o.w, o.en.viewH, (SPost.of o h).imp fun x st1 F1 μ1 H1 e1 w1 ⟨o1, h1⟩ v rv => ?_⟩
  cases q : t x with
  | none => rw [q] at h1; exact h1.elim
  | some as =>
    rw [q] at h1
    exact ⟨F1, μ1, st1, viewH ρ, x, as, w1, o1.en.viewH, rv, q, fun σ' off en => h1 _ F1 μ1 H1 (o1.assign off en (hk x as q))⟩
theorem s_asg {tg : Expr} {t : GM} {vs : List Nat} (hk : Keys t vs) (he : PE X e (tE g W m)) (hg : PG X tg (tG g vs t)) (hs : swapsWithSole [tg] e pos.line X.env = pure false) (hw : swappedStores [tg] e X.env = pure none) (h1 : (assignEach [tg] X.env).map (·.2) = [assign tg X.env]) :
    PS X (.Assign [tg] e pos) (tS g W fr (sAsg t m)) := PS.mono (ps_asg he hg hs hw h1) fun _ _ _ h => tAsg_of hk h
theorem s_drop (he : PE X e (tE g W m)) (hs : swapsWith e none pos.line X.env = pure false) : PS X (.Expr e pos) (tS g W fr (sDrop m)) := PS.mono (ps_expr he hs) fun D σ H h => by
  obtain ⟨F0, μ0, H0, B, F, μ, ρ, st, o, h⟩ := h
  refine ⟨F, μ, st, viewH ρ, o.w, o.en.viewH, (SPost.of o h).imp fun x st1 F1 μ1 H1 e1 w1 ⟨o1, h1⟩ v rv => ?_⟩
  exact h1 _ F1 μ1 H1 o1
theorem s_doc {x j} {pos pos' : Pos} : PS X (.Expr (.Constant (.str x) j pos) pos') (tS g W fr sNil) := PS.mono ps_doc fun D σ H h => by
  obtain ⟨F0, μ0, H0, B, F, μ, ρ, st, o, h⟩ := h
  exact h σ F μ H o
/-! ### return -/
theorem SPost.ofR {F0 : Hp} {μ0 : List Addr} {H0 F : Hp} {B : Hp × List Addr} {μ : List Addr} {H : Hp} {σ : L2.St} {ρ : SEnv} {st : Sto} {D : Ends} {α : Type} {r : Res α} {k : α → Sto → SR} (o : SOk g F0 μ0 H0 B F μ H σ ρ st) (h : SPost g W fr F0 μ0 H0 B (SR.of r k) D) :
    Post g (plus F H σ ρ) μ H W σ r fun a st' F' μ' H' => Ext F0 μ0 H0 F' μ' H' ∧ SPost g W fr F0 μ0 H0 B (k a st') D := by
  obtain ⟨w, e, en⟩ := o.freeze
  cases r with
  | ok a st' => exact fun F' μ' H' e' w' => ⟨e.trans e', h⟩
  | exn c fs st' => exact fun F' μ' H' cls d e' w' x => h cls d σ F' μ' H' w' (e.trans e') x
  | bad => exact h
theorem s_ret (he : PE X e (tE g W m)) : PS X (.Return (some e) pos) (tS g W false (sRet m)) := PS.mono (ps_ret he) fun D σ H h => by
  obtain ⟨F0, μ0, H0, B, F, μ, ρ, st, o, h⟩ := h
  obtain ⟨w, _, en⟩ := o.freeze
  exact ⟨_, μ, st, viewR ρ, w, en, (SPost.ofR o h).imp fun x st1 F1 μ1 H1 e1 w1 ⟨e2, h1⟩ v rv => h1 v F1 μ1 H1 w1 e2 rv⟩
theorem s_retN : PS X (.Return none pos) (tS g W false sRetN) := PS.mono ps_retN fun D σ H h => by
  obtain ⟨F0, μ0, H0, B, F, μ, ρ, st, o, h⟩ := h
  exact h .non F μ H o.w o.e (.non)
theorem s_retL (he : PE X e (tL g W n)) : PS X (.Return (some e) pos) (tS g W true (sRetL n)) := PS.mono (ps_ret he) fun D σ H h => by
  obtain ⟨F0, μ0, H0, B, F, μ, ρ, st, o, h⟩ := h
  obtain ⟨w, _, en⟩ := o.freeze
  refine ⟨_, μ, st, viewR ρ, w, en, (SPost.ofR o h).imp fun xs st1 F1 μ1 H1 e1 w1 ⟨e2, h1⟩ a vs k1 k2 k3 k4 k5 k6 => ?_⟩
  exact h1 _ F1 μ1 H1 w1 e2 ⟨a, vs, xs, rfl, rfl, o.e.keep k1, k2, k3, k4, k5, k6⟩
theorem s_retOwn {i : Nat} {x : Str} (hN : X.N[i]? = some x) (hv : Vis X.env.scope x) (hd : (x == ("__debug__" : Str)) = false) (hcd : (x == ("__classdict__" : Str)) = false) : PS X (.Return (some (.Name x p)) pos) (tS g W true (sRetOwn i)) := PS.mono (ps_ret (pe_var hN hv hd hcd)) fun D σ H h => by
  obtain ⟨F0, μ0, H0, B, F, μ, ρ, st, o, h⟩ := h
  unfold sRetOwn at h
  cases q : ρ[i]? with
  | none => rw [q] at h; exact h.elim
  | some sl =>
    rw [q] at h
    cases sl with
    | no => exact h.elim
    | val x => exact h.elim
    | own xs =>
      obtain ⟨a, vs, k1, k2, k3, k4, k5, k6, k7⟩ := o.en.own i xs q
      exact ⟨_, k1, h _ F μ H o.w o.e ⟨a, vs, xs, rfl, rfl, k2, k3, k4, k5, k6, k7⟩⟩
end
end BK

/-! BkJ: lists that grow, store objects, loops -/
namespace BK
open PySem PySem.Spec PyProof.Rows L2 RZ
section
variable {g : Gx} {F0 : Hp} {μ0 : List Addr} {H0 F : Hp} {B : Hp × List Addr} {μ : List Addr} {H : Hp} {σ : L2.St} {ρ : SEnv} {st : Sto}
/-- a store object is written -/
theorem SOk.store (o : SOk g F0 μ0 H0 B F μ H σ ρ st) {n : Nat} {a : Addr} {us : List V} {ys : List PV} (ha : μ[n]? = some a) (hl : us.length ≤ sizeLine) (r : Reps g.K g.fa F μ us ys) (hn : PV.noRs ys = true) :
    SOk g F0 μ0 H0 B F μ (upd H a (.lst us)) σ ρ (st.set n (SO.lst ys)) := by
  have ham : a ∈ μ := List.mem_iff_getElem?.mpr ⟨n, ha⟩
  have hF : F a = none := o.w.off a ham
  have hnl : n < μ.length := (List.getElem?_eq_some_iff.mp ha).1
  refine ⟨⟨fun b u h => by rw [upd_ne (ne_of_none h hF)]; exact o.w.sub b u h, by rw [List.length_set]; exact o.w.len, o.w.nd, o.w.off, fun m b hb => ?_⟩, ⟨o.e.fs, o.e.ms, fun b u h hm => ?_, fun b m h => ?_, o.e.fn, o.e.mn⟩, o.b, o.en.len, o.en.val, fun i xs h => ?_, o.en.dis⟩
  · by_cases e : n = m
    · subst e
      rw [ha] at hb
      cases hb
      exact ⟨ys, us, by rw [List.getElem?_set_self (by rw [← o.w.len]; exact hnl)], upd_same, r, hl, hn⟩
    · obtain ⟨xs, vs, h1, h2, h3, h4, h5⟩ := o.w.obj m b hb
      have nb : b ≠ a := fun z => by
        subst z
        obtain ⟨p1, e1⟩ := List.getElem?_eq_some_iff.mp ha
        obtain ⟨p2, e2⟩ := List.getElem?_eq_some_iff.mp hb
        exact e ((List.getElem_inj o.w.nd).mp (e1.trans e2.symm))
      exact ⟨xs, vs, by rw [List.getElem?_set_ne e]; exact h1, by rw [upd_ne nb]; exact h2, h3, h4, h5⟩
  · have nb : b ≠ a := fun z => by
      subst z
      have := o.e.mn b ham hm
      rw [h] at this
      cases this
    rw [upd_ne nb]
    exact o.e.hs b u h hm
  · by_cases z : b = a
    · rw [z, upd_same]; simp
    · rw [upd_ne z]; exact o.e.hm b m h
  · obtain ⟨b, vs, h1, h2, h3, h4, h5, h6, h7⟩ := o.en.own i xs h
    have nb : b ≠ a := fun z => h4 (by rw [z]; exact ham)
    exact ⟨b, vs, h1, h2, h3, h4, by rw [upd_ne nb]; exact h5, h6, h7⟩
end
def sPut (o i v : EM) : SM := fun ρ st => SR.of (v (viewH ρ) st) fun x st1 => SR.of (o (viewH ρ) st1) fun a st2 => SR.of (i (viewH ρ) st2) fun k st3 => match a, k with
  | .ref n, .int j => match st3[n]? with
    | some (.lst xs) => match ixN xs.length j with
      | some m => if x.noR = true then .nx ρ (st3.set n (.lst (xs.set m x))) else .bad
      | none => .bad
    | none => .bad
  | _, _ => .bad
def sNew (i : Nat) (n : AM) : SM := fun ρ st => SR.of (n (viewH ρ) st) fun xs st1 => if PV.noRs xs = true then .nx (ρ.set i (.val (.ref st1.length))) (st1 ++ [SO.lst xs]) else .bad
def sAug (i : Nat) (f : PV → PV → Option PV) (m : EM) : SM := fun ρ st => match ρ[i]? with
  | some (.val x) => SR.of (m (viewH ρ) st) fun y st1 => match f x y with
    | some z => .nx (ρ.set i (.val z)) st1
    | none => .bad
  | _ => .bad
def augAdd : PV → PV → Option PV
  | .int i, .int j => some (.int (i + j))
  | _, _ => none
def augSub : PV → PV → Option PV
  | .int i, .int j => some (.int (i - j))
  | _, _ => none
theorem noRs_set : ∀ (xs : List PV) (m : Nat) (x : PV), PV.noRs xs = true → x.noR = true → PV.noRs (xs.set m x) = true
  | [], _, _, h, _ => h
  | y :: ys, 0, x, h, k => by
    simp only [PV.noRs, Bool.and_eq_true, List.set_cons_zero] at h ⊢
    exact ⟨k, h.2⟩
  | y :: ys, m + 1, x, h, k => by
    simp only [PV.noRs, Bool.and_eq_true, List.set_cons_succ] at h ⊢
    exact ⟨h.1, noRs_set ys m x h.2 k⟩
section
variable {X : Cx} {g : Gx} {W : WX} {fr : Bool} {s : Stmt} {ss : List Stmt} {a b : SM} {e e2 : Expr} {m mo mi mv : EM} {n : AM} {c : BM} {pos pos' p apos cpos : Pos}
theorem tyV_lst {a : Addr} {vs : List V} {H : Hp} (h : H a = some (HO.lst vs)) : tyV X.K "list" (.ref a) H := Or.inl ⟨rfl, _, Or.inl (Or.inl h)⟩
theorem own_inv {F0 : Hp} {μ0 : List Addr} {H0 : Hp} {B : Hp × List Addr} {ρ : SEnv} {i : Nat} {D : Ends} {f : List PV → SR} (h : SPost g W fr F0 μ0 H0 B (match ρ[i]? with
  | some (.own xs) => f xs
  | _ => .bad) D) : ∃ xs, ρ[i]? = some (.own xs) ∧ SPost g W fr F0 μ0 H0 B (f xs) D := by
  cases q : ρ[i]? with
  | none => rw [q] at h; exact h.elim
  | some sl =>
    rw [q] at h
    cases sl with
    | no => exact h.elim
    | val x => exact h.elim
    | own xs => exact ⟨xs, rfl, h⟩
theorem few1 (hs : isStar e = false) : ((backTo cpos (starEach [e] X.env)).all (fun x => !x.1) && (backToKw cpos (keywordEach [] X.env)).all (fun x => x.1.isSome)
      && decide (([e] : List Expr).length + ([] : List Keyword).length + (if ([] : List Keyword).isEmpty then 0 else 1) < 30)) = true := by
  rw [starEach_cons hs]
  rfl
theorem s_app {i : Nat} {x : Str} (hN : X.N[i]? = some x) (hv : Vis X.env.scope x) (hd : (x == ("__debug__" : Str)) = false) (hcd : (x == ("__classdict__" : Str)) = false) (he : PE X e (tE g W m)) (hs : isStar e = false) (hln : (apos.endLine == cpos.line) = true) :
    PS X (.Expr (.Call (.Attribute (.Name x p) "append" apos) [e] [] cpos) pos) (tS g W fr (sApp i m)) := by
  refine PS.mono (ps_expr (pe_bm PySem.F.plainAttrs_list PySem.F.slot_list_append PySem.F.type_list_append mt_append (pe_var hN hv hd hcd) (pa_cons he pa_nil (starEach_cons hs)) rfl (few1 hs) hln (starEach_cons hs) rfl)) fun D σ H h => ?_
  obtain ⟨F0, μ0, H0, B, F, μ, ρ, st, o, h⟩ := h
  obtain ⟨xs, hx, h⟩ := own_inv h
  obtain ⟨a, vs, k1, k2, k3, k4, k5, k6, k7⟩ := o.en.own i xs hx
  refine ⟨_, k1, tyV_lst k5, F, μ, st, viewH ρ, o.w, o.en.viewH, (SPost.of o h).imp fun y st1 F1 μ1 H1 e1 w1 ⟨o1, h1⟩ v rv => ?_⟩
  rw [hx] at h1
  simp only at h1
  split at h1
  · rename_i c
    obtain ⟨f1, f2, f3⟩ := e1.mine k3 k4 k5
    have hl := k7.length
    refine ⟨a, vs, v, rfl, rfl, f3, by omega, h1 _ _ _ _ (o1.write hx k1 (by rw [List.length_append]; simp; omega) ((Reps.ext e1 k7).append (.cons rv .nil)))⟩
  · exact h1.elim
theorem s_ext {i : Nat} {x : Str} (hN : X.N[i]? = some x) (hv : Vis X.env.scope x) (hd : (x == ("__debug__" : Str)) = false) (hcd : (x == ("__classdict__" : Str)) = false) (he : PE X e (tE g W m)) (hs : isStar e = false) (hln : (apos.endLine == cpos.line) = true) :
    PS X (.Expr (.Call (.Attribute (.Name x p) "extend" apos) [e] [] cpos) pos) (tS g W fr (sExt i m)) := by
  refine PS.mono (ps_expr (pe_bm PySem.F.plainAttrs_list PySem.F.slot_list_extend PySem.F.type_list_extend mt_extend (pe_var hN hv hd hcd) (pa_cons he pa_nil (starEach_cons hs)) rfl (few1 hs) hln (starEach_cons hs) rfl)) fun D σ H h => ?_
  obtain ⟨F0, μ0, H0, B, F, μ, ρ, st, o, h⟩ := h
  obtain ⟨xs, hx, h⟩ := own_inv h
  obtain ⟨a, vs, k1, k2, k3, k4, k5, k6, k7⟩ := o.en.own i xs hx
  refine ⟨_, k1, tyV_lst k5, F, μ, st, viewH ρ, o.w, o.en.viewH, (SPost.of o h).imp fun y st1 F1 μ1 H1 e1 w1 ⟨o1, h1⟩ v rv => ?_⟩
  cases rv with
  | @lst b us ys q1 q2 q3 =>
    simp only at h1
    split at h1
    · rename_i c
      obtain ⟨f1, f2, f3⟩ := e1.mine k3 k4 k5
      have hl := k7.length
      have hl2 := q3.length
      have hz : vs.length + us.length ≤ sizeLine := by omega
      refine ⟨a, b, vs, us, rfl, rfl, f3, w1.sub _ _ q1, hz, h1 _ _ _ _ (o1.write hx k1 (by rw [List.length_append]; exact hz) ((Reps.ext e1 k7).append q3))⟩
    · exact h1.elim
  | _ => exact h1.elim
theorem s_pop {i : Nat} {x : Str} {tg : Expr} {t : GM} {vs : List Nat} (hk : Keys t vs) (hN : X.N[i]? = some x) (hv : Vis X.env.scope x) (hd : (x == ("__debug__" : Str)) = false) (hcd : (x == ("__classdict__" : Str)) = false) (hg : PG X tg (tG g vs t)) (hln : (apos.endLine == cpos.line) = true)
    (h1 : (assignEach [tg] X.env).map (·.2) = [assign tg X.env]) (hs : swapsWithSole [tg] (.Call (.Attribute (.Name x p) "pop" apos) [] [] cpos) pos.line X.env = pure false) (hw : swappedStores [tg] (.Call (.Attribute (.Name x p) "pop" apos) [] [] cpos) X.env = pure none) :
    PS X (.Assign [tg] (.Call (.Attribute (.Name x p) "pop" apos) [] [] cpos) pos) (tS g W fr (sPop i t)) := by
  refine PS.mono (ps_asg (pe_bm0 PySem.F.plainAttrs_list PySem.F.slot_list_pop PySem.F.type_list_pop mt_pop (pe_var hN hv hd hcd) rfl hln) hg hs hw h1) fun D σ H h => ?_
  obtain ⟨F0, μ0, H0, B, F, μ, ρ, st, o, h⟩ := h
  obtain ⟨xs, hx, h⟩ := own_inv h
  obtain ⟨a, us, k1, k2, k3, k4, k5, k6, k7⟩ := o.en.own i xs hx
  cases q : xs[xs.length - 1]? with
  | none => rw [q] at h; exact h.elim
  | some y =>
    rw [q] at h
    simp only at h
    cases q2 : t y with
    | none => rw [q2] at h; exact h.elim
    | some as =>
      rw [q2] at h
      obtain ⟨v, hv', rv⟩ := k7.get q
      have o2 := o.write (ys := xs.dropLast) hx k1 (us := us.dropLast) (by rw [List.length_dropLast]; omega) k7.dropLast
      refine ⟨_, k1, tyV_lst k5, a, us, v, rfl, rfl, k5, by rw [k7.length]; exact hv', F, μ, st, viewH (ρ.set i (.own xs.dropLast)), y, as, o2.w, o2.en.viewH, rv, q2, fun σ' off en => h σ' F μ _ (o2.assign off en (hk y as q2))⟩
theorem s_put {o i : Expr} {tpos : Pos} (ho : PE X o (tE g W mo)) (hi : PE X i (tE g W mi)) (he : PE X e (tE g W mv))
    (ha : ∀ v, assign (.Subscript o i tpos) X.env v = (do
      let ov ← holding [v] (eval o X.env)
      let iv ← holding [v, ov] (eval i X.env)
      standAt tpos
      holding [v, ov, iv] (setItem ov iv v)
      release [v, ov, iv] [])) (hs : swapsWithSole [.Subscript o i tpos] e pos.line X.env = pure false) (hw : swappedStores [.Subscript o i tpos] e X.env = pure none) :
    PS X (.Assign [.Subscript o i tpos] e pos) (tS g W fr (sPut mo mi mv)) := by
  refine PS.mono (ps_asg he (pg_sub ho hi set_list ha) hs hw) fun D σ H h => ?_
  obtain ⟨F0, μ0, H0, B, F, μ, ρ, st, ok, h⟩ := h
  refine ⟨F, μ, st, viewH ρ, ok.w, ok.en.viewH, (SPost.of ok h).imp fun x st1 F1 μ1 H1 e1 w1 ⟨o1, h1⟩ v rv => ?_⟩
  refine ⟨F1, μ1, st1, viewH ρ, o1.w, o1.en.viewH, (SPost.of o1 h1).imp fun a st2 F2 μ2 H2 e2 w2 ⟨o2, h2⟩ va ra => ?_⟩
  refine ⟨F2, μ2, st2, viewH ρ, o2.w, o2.en.viewH, (SPost.of o2 h2).imp fun k st3 F3 μ3 H3 e3 w3 ⟨o3, h3⟩ vk rk => ?_⟩
  have ra := Rep.ext e3 ra
  have hb : ∃ nn j, a = PV.ref nn ∧ k = PV.int j := by
    cases a <;> cases k <;> first | exact ⟨_, _, rfl, rfl⟩ | exact h3.elim
  obtain ⟨nn, j, rfl, rfl⟩ := hb
  cases rk
  cases ra with
  | @ref _ ad q =>
    obtain ⟨xs, us, q1, q2, q3, q4, q5⟩ := w3.obj nn ad q
    simp only [q1] at h3
    cases q6 : ixN xs.length j with
    | none => rw [q6] at h3; exact h3.elim
    | some mm =>
      rw [q6] at h3
      simp only at h3
      split at h3
      · rename_i c
        refine ⟨ad, us, j, mm, rfl, rfl, q2, by rw [q3.length]; exact q6, ?_⟩
        exact h3 _ _ _ _ (o3.store q (by rw [List.length_set]; exact q4) (q3.set mm (Rep.ext e3 (Rep.ext e2 rv))) (noRs_set _ _ _ q5 c))
      · exact h3.elim
theorem tNew_of {i : Nat} {D : Ends} {σ : L2.St} {H : Hp} (h : tS g W fr (sNew i n) D σ H) : tAsg (tL g W n) (gName i) D σ H := by
  obtain ⟨F0, μ0, H0, B, F, μ, ρ, st, o, h⟩ := h
  refine ⟨F, μ, st, viewH ρ, o.w, o.en.viewH, (SPost.of o h).imp fun xs st1 F1 μ1 H1 e1 w1 ⟨o1, h1⟩ a vs k1 k2 k3 k4 k5 k6 => ?_⟩
  split at h1
  · rename_i c
    have mm : ∃ t, μ1 ++ [a] = μ1 ++ t := ⟨_, rfl⟩
    have h0 : H0 a = none := o.e.keep k1
    have o2 : SOk g F0 μ0 H0 B F1 (μ1 ++ [a]) H1 σ ρ (st1 ++ [SO.lst xs]) := by
      refine ⟨⟨w1.sub, by simp [w1.len], ?_, fun b hb => ?_, fun k b hb => ?_⟩, ⟨o1.e.fs, ?_, o1.e.hs, o1.e.hm, o1.e.fn, fun b hb hm => ?_⟩, ⟨o1.b.1, ?_⟩, o1.en.len, fun j y hy => ?_, fun j ys hy => ?_, o1.en.dis⟩
      · rw [List.nodup_append]
        refine ⟨w1.nd, by simp, fun x hx y hy => ?_⟩
        have : y = a := by simpa using hy
        subst this
        exact fun z => k3 (by rw [← z]; exact hx)
      · rcases List.mem_append.mp hb with hb | hb
        · exact w1.off b hb
        · have : b = a := by simpa using hb
          rw [this]; exact k2
      · by_cases hk : k < μ1.length
        · rw [List.getElem?_append_left hk] at hb
          obtain ⟨zs, us, q1, q2, q3, q4, q5⟩ := w1.obj k b hb
          exact ⟨zs, us, by rw [List.getElem?_append_left (by rw [← w1.len]; exact hk)]; exact q1, q2, Reps.mono (Same.refl _) mm _ _ q3, q4, q5⟩
        · have hk2 : k = μ1.length := by
            have := (List.getElem?_eq_some_iff.mp hb).1
            simp at this
            omega
          subst hk2
          have e : b = a := by simpa using hb.symm
          subst e
          exact ⟨xs, vs, by rw [w1.len]; simp, k4, Reps.mono (Same.refl _) mm _ _ k6, k5, c⟩
      · obtain ⟨t, ht⟩ := o1.e.ms
        exact ⟨t ++ [a], by rw [ht]; simp⟩
      · rcases List.mem_append.mp hb with hb | hb
        · exact o1.e.mn b hb hm
        · have : b = a := by simpa using hb
          rw [this]; exact h0
      · obtain ⟨t, ht⟩ := o1.b.2
        exact ⟨t ++ [a], by rw [ht]; simp⟩
      · obtain ⟨v, q1, q2⟩ := o1.en.val j y hy
        exact ⟨v, q1, Rep.mono (Same.refl _) mm _ _ q2⟩
      · obtain ⟨b, us, q1, q2, q3, q4, q5, q6, q7⟩ := o1.en.own j ys hy
        refine ⟨b, us, q1, q2, q3, fun z => ?_, q5, q6, Reps.mono (Same.refl _) mm _ _ q7⟩
        rcases List.mem_append.mp z with z | z
        · exact q4 z
        · have e : b = a := by simpa using z
          obtain ⟨b', us', r1, r2, r3, r4, r5, r6, r7⟩ := o.en.own j ys hy
          rw [q1] at r1
          cases r1
          rw [e, k1] at r5
          cases r5
    refine h1 _ F1 _ H1 (o2.set (.ref ?_))
    rw [← w1.len]
    simp
  · exact h1.elim
theorem s_new {i : Nat} {x : Str} (hN : X.N.Nodup) (hi : X.N[i]? = some x) (hx : Loc X.env.scope x) (he : PE X e (tL g W n)) (hs : swapsWith e (some (.Name x pos')) pos.line X.env = pure false) (hf : X.fn x = true ∨ X.env.scope.names.lookup x = some .local) :
    PS X (.Assign [.Name x pos'] e pos) (tS g W fr (sNew i n)) := PS.mono (ps_set hN hi hx he hs hf) fun _ _ _ h => tNew_of h
theorem s_aug {i : Nat} {x : Str} {op : Operator} {f : PV → PV → Option PV} {k : Int → Int → Int} (hN : X.N.Nodup) (hi : X.N[i]? = some x) (hx : Loc X.env.scope x) (he : PE X e (tE g W m)) (ho : PIp X op (ipI k)) (hf : X.fn x = true ∨ X.env.scope.names.lookup x = some .local)
    (hk : ∀ a b z, f a b = some z → ∃ i j, a = .int i ∧ b = .int j ∧ z = .int (k i j)) : PS X (.AugAssign (.Name x pos') op e pos) (tS g W fr (sAug i f m)) := PS.mono (ps_aug hN hi hx he ho hf) fun D σ H h => by
  obtain ⟨F0, μ0, H0, B, F, μ, ρ, st, o, h⟩ := h
  unfold sAug at h
  cases q : ρ[i]? with
  | none => rw [q] at h; exact h.elim
  | some sl =>
    rw [q] at h
    cases sl with
    | no => exact h.elim
    | own xs => exact h.elim
    | val y =>
      obtain ⟨v, hv, rv⟩ := o.en.val i y q
      refine ⟨v, hv, F, μ, st, viewH ρ, o.w, o.en.viewH, (SPost.of o h).imp fun z st1 F1 μ1 H1 e1 w1 ⟨o1, h1⟩ u ru => ?_⟩
      cases q2 : f y z with
      | none => rw [q2] at h1; exact h1.elim
      | some r =>
        rw [q2] at h1
        obtain ⟨i1, j1, rfl, rfl, rfl⟩ := hk _ _ _ q2
        cases rv
        cases ru
        exact ⟨i1, j1, rfl, rfl, h1 _ F1 μ1 H1 (o1.set (.int _))⟩
/-! ### loops -/
theorem s_for {tg iter : Expr} {body : List Stmt} {t : GM} {vs : List Nat} {it : AM} (hk : Keys t vs) (hp : PassesOwn (model X.prog X.w) X.A X.env X.xe) (hc : X.calm = true) (hi : PI X tg iter (tI g W it)) (hg : PG X tg (tG g vs t)) (hb : PSs X body (tS g W fr a))
    (hs : ∀ x, foldedSetIterable iter X.env x = pure x) : PS X (.For tg iter body [] pos) (tS g W fr (sFor t it a)) := by
  refine PS.mono (ps_for hp hc hi hg hb hs) fun D σ H h => ?_
  obtain ⟨F0, μ0, H0, B, F, μ, ρ, st, o, h⟩ := h
  refine ⟨F, μ, st, viewH ρ, o.w, o.en.viewH, (SPost.of o h).imp fun xs st1 F1 μ1 H1 e1 w1 ⟨o1, h1⟩ J hJ => ?_⟩
  obtain ⟨hxl, hJ⟩ := hJ
  have bF : Same B.1 (F1, μ1).1 ∧ ∃ t, (F1, μ1).2 = B.2 ++ t := o1.b
  refine ⟨fun i n σ2 H2 => n = xs.length - i ∧ i ≤ xs.length ∧ ∃ F2 μ2 ρ2 st2, SOk g F0 μ0 H0 (F1, μ1) F2 μ2 H2 σ2 ρ2 st2 ∧ SPost g W fr F0 μ0 H0 B (forGo t a (xs.drop i) ρ2 st2) D, ⟨_, rfl, Nat.zero_le _, F1, μ1, ρ, st1, o1.now, h1⟩, ?_⟩
  rintro i n σ2 H2 ⟨rfl, hil, F2, μ2, ρ2, st2, o2, h2⟩
  obtain ⟨hgo, hstop⟩ := hJ F2 μ2 H2 st2 o2.b.1 o2.b.2 o2.w i
  by_cases hlt : i < xs.length
  · have hx : xs[i]? = some xs[i] := List.getElem?_eq_getElem hlt
    obtain ⟨go, yld⟩ := hgo _ hx
    rw [List.drop_eq_getElem_cons hlt] at h2
    unfold forGo at h2
    cases qt : t xs[i] with
    | none => rw [qt] at h2; exact h2.elim
    | some as =>
    rw [qt] at h2
    simp only at h2
    refine .inr ⟨go, fun σ' H' => ∃ F2 μ2 ρ2 st2, SOk g F0 μ0 H0 (F1, μ1) F2 μ2 H' σ' ρ2 st2 ∧ SPost g W fr F0 μ0 H0 B (forGo t a (xs.drop (i + 1)) ρ2 st2) D, fun σ' H' h' => ⟨xs.length - (i + 1), by omega, rfl, hlt, h'⟩, fun v H3 y => ?_⟩
    obtain ⟨F3, e3, w3, rv⟩ := yld v H3 y
    have o3 := o2.ext e3 w3
    refine ⟨F3, μ2, st2, viewH ρ2, xs[i], as, w3, o3.en.viewH, rv, qt, fun σ4 off en => ?_⟩
    have o4 := o3.assign off en (hk _ _ qt)
    refine ⟨F0, μ0, H0, (F1, μ1), F3, μ2, setS ρ2 as, st2, o4, ?_⟩
    cases q : a (setS ρ2 as) st2 with
    | nx ρ1 st3 =>
      rw [q] at h2
      exact fun σ' F' μ' H' oo => ⟨F', μ', ρ1, st3, oo, h2⟩
    | ct ρ1 st3 =>
      rw [q] at h2
      exact fun σ' F' μ' H' oo => ⟨F', μ', ρ1, st3, oo, h2⟩
    | brk ρ1 st3 =>
      rw [q] at h2
      exact fun σ' F' μ' H' oo => h2 σ' F' μ' H' (oo.base bF)
    | ret x st3 => rw [q] at h2; exact h2
    | exn cn fs st3 => rw [q] at h2; exact h2
    | bad => rw [q] at h2; exact h2
  · have hn : xs[i]? = none := List.getElem?_eq_none (by omega)
    rw [List.drop_eq_nil_of_le (by omega)] at h2
    exact .inl ⟨hstop hn, h2 σ2 F2 μ2 H2 (o2.base bF)⟩
end
end BK

/-! BkK: from the row's syntax to functions on plain values -/
namespace BK
open PySem PySem.Spec PyProof.Rows L2 RZ

/-- what a module's name stands for: a def (its number, how many parameters, whether it hands back a new list, its defaults), or a constant -/
inductive GI where
  | fn (k np : Nat) (fr : Bool) (dfl : List PV)
  | const (x : PV)
structure Cs where
  N : List Str
  sc : Scope
  fnc : Str → Bool
  glob : List (Str × GI)
  blt : List Str
  call : Nat → List PV → Sto → Res PV
  mts : List Nat
  sto : List Nat
  fr : Bool
def visB (sc : Scope) (x : Str) : Bool := match sc.names.lookup x with
  | some .local => true
  | some .cell => true
  | some .free => true
  | _ => false
def glB (sc : Scope) (x : Str) : Bool := match sc.names.lookup x with
  | some .globalImplicit => true
  | _ => false
def locB (sc : Scope) (x : Str) : Bool := match sc.names.lookup x with
  | some .local => true
  | some .cell => true
  | _ => false
def dbg (x : Str) : Bool := x == ("__debug__" : Str)
def cdct (x : Str) : Bool := x == ("__classdict__" : Str)
def ixOf (N : List Str) (x : Str) : Option Nat := if N[N.idxOf x]? = some x then some (N.idxOf x) else none
def slotOf (c : Cs) (x : Str) : Option Nat := if visB c.sc x = true ∧ dbg x = false ∧ cdct x = false then ixOf c.N x else none
/-- the same for a target -/
def tgtOf (c : Cs) (x : Str) : Option Nat := if locB c.sc x = true ∧ (c.fnc x = true ∨ c.sc.names.lookup x = some .local) then ixOf c.N x else none
theorem ixOf_some {N : List Str} {x : Str} {i : Nat} (h : ixOf N x = some i) : N[i]? = some x := by
  unfold ixOf at h
  split at h
  · rename_i q
    cases h
    exact q
  · cases h
theorem vis_of {sc : Scope} {x : Str} (h : visB sc x = true) : Vis sc x := by
  unfold visB at h
  split at h <;> first | exact .inl (by assumption) | exact .inr (.inl (by assumption)) | exact .inr (.inr (by assumption)) | cases h
theorem loc_of {sc : Scope} {x : Str} (h : locB sc x = true) : Loc sc x := by
  unfold locB at h
  split at h <;> first | exact .inl (by assumption) | exact .inr (by assumption) | cases h
theorem gl_of {sc : Scope} {x : Str} (h : glB sc x = true) : sc.names.lookup x = some .globalImplicit := by
  unfold glB at h
  split at h <;> first | assumption | cases h
structure GlobOk (c : Cs) (g : Gx) (X : Cx) : Prop where
  const : ∀ x v, c.glob.lookup x = some (.const v) → ∃ u w, X.mg x = some u ∧ RelV w u ∧ ∀ F μ, Rep g.K g.fa F μ w v
  fn : ∀ x k np fr dfl, c.glob.lookup x = some (.fn k np fr dfl) → ∃ (n : Nat) (f : Addr) (fd : FuncData) (ps : List Str), Room n X.A ∧ X.mg x = some (.ref f) ∧ PySem.W.keepIn X.K (.ref f) = true ∧
    FnOk X.prog X.w X.K X.mg X.base (L2.CX X.prog X.w) n f fd ps (spM g (c.call k) fr np) ∧ ∀ j, j ≤ dfl.length → ∃ dvs ds, Vals dvs ds ∧ Binds X.K fd ps ds ∧ ∀ F μ, Reps g.K g.fa F μ dvs (dfl.drop j)
  blt : ∀ x ∈ c.blt, X.mg x = none
structure CxOk (c : Cs) (g : Gx) (W : WX) (X : Cx) : Prop where
  K : g.K = X.K
  N : X.N = c.N
  nd : X.N.Nodup
  sc : X.env.scope = c.sc
  kind : c.sc.kind = .function
  calm : X.calm = true
  units : X.A.units + 64 < cLine
  tk : Takes X W
  own : PassesOwn (model X.prog X.w) X.A X.env X.xe
  fnc : ∀ x, X.fn x = c.fnc x
  glob : GlobOk c g X
/-! ### names and constants -/
def tyNames : List Str := ["tuple", "list", "str", "int", "bool"]
def cTy (x : Str) : Option String := if x = ("tuple" : Str) then some "tuple" else if x = ("list" : Str) then some "list" else if x = ("str" : Str) then some "str" else if x = ("int" : Str) then some "int" else if x = ("bool" : Str) then some "bool" else none
def isG (c : Cs) (x : Str) : Bool := glB c.sc x && !dbg x
def isBl (c : Cs) (x : Str) : Bool := isG c x && c.blt.contains x && !(x == ("__name__" : Str))
def cName (c : Cs) (x : Str) : Option EM := match slotOf c x with
  | some i => some (mVar i)
  | none => if isG c x = true then match c.glob.lookup x with
      | some (.const v) => some (mC v)
      | some _ => none
      | none => if isBl c x = true then (cTy x).map fun T => mC (.ty T) else none
    else none
def cConst : Const → Option EM
  | .none => some (mC .non)
  | .bool b => some (mC (.bl b))
  | .int i => some (mC (.int i))
  | .str x => if PyData.strOk x = true ∧ x.length ≤ 1000000 then some (mC (.str x)) else none
  | _ => none
section
variable {c : Cs} {g : Gx} {W : WX} {X : Cx} {x : Str} {pos : Pos}
theorem slotOf_some (o : CxOk c g W X) {i : Nat} (h : slotOf c x = some i) : X.N[i]? = some x ∧ Vis X.env.scope x ∧ (x == ("__debug__" : Str)) = false ∧ (x == ("__classdict__" : Str)) = false := by
  unfold slotOf at h
  split at h
  · rename_i q
    exact ⟨by rw [o.N]; exact ixOf_some h, by rw [o.sc]; exact vis_of q.1, q.2.1, q.2.2⟩
  · cases h
theorem tgtOf_some (o : CxOk c g W X) {i : Nat} (h : tgtOf c x = some i) : X.N[i]? = some x ∧ Loc X.env.scope x ∧ (X.fn x = true ∨ X.env.scope.names.lookup x = some .local) := by
  unfold tgtOf at h
  split at h
  · rename_i q
    exact ⟨by rw [o.N]; exact ixOf_some h, by rw [o.sc]; exact loc_of q.1, by rw [o.sc, o.fnc]; exact q.2⟩
  · cases h
theorem isG_some (o : CxOk c g W X) (h : isG c x = true) : Gl X x ∧ (x == ("__debug__" : Str)) = false := by
  unfold isG at h
  rw [Bool.and_eq_true] at h
  refine ⟨?_, by simpa [dbg] using h.2⟩
  show X.env.scope.names.lookup x = _
  rw [o.sc]
  exact gl_of h.1
theorem isB_some (o : CxOk c g W X) (h : isBl c x = true) : Gl X x ∧ X.mg x = none ∧ x ≠ "__name__" ∧ (x == ("__debug__" : Str)) = false := by
  unfold isBl at h
  rw [Bool.and_eq_true, Bool.and_eq_true] at h
  obtain ⟨h1, h2⟩ := isG_some o h.1.1
  exact ⟨h1, o.glob.blt x (by simpa using h.1.2), by simpa using h.2, h2⟩
theorem cTy_boot {T : String} (h : cTy x = some T) : bootBuiltins x = some (.type T) := by
  unfold cTy at h
  split at h
  · rename_i e; cases h; rw [e]; decide +kernel
  · split at h
    · rename_i e; cases h; rw [e]; decide +kernel
    · split at h
      · rename_i e; cases h; rw [e]; decide +kernel
      · split at h
        · rename_i e; cases h; rw [e]; decide +kernel
        · split at h
          · rename_i e; cases h; rw [e]; decide +kernel
          · cases h
theorem cName_ok (o : CxOk c g W X) {m : EM} (h : cName c x = some m) : PE X (.Name x pos) (tE g W m) := by
  unfold cName at h
  split at h
  · rename_i i q
    cases h
    obtain ⟨h1, h2, h3, h4⟩ := slotOf_some o q
    exact se_var h1 h2 h3 h4
  · split at h
    · rename_i q
      split at h
      · rename_i v q2
        cases h
        obtain ⟨u, w, k1, k2, k3⟩ := o.glob.const x v q2
        obtain ⟨h1, h2⟩ := isG_some o q
        exact se_const (pe_glob h1 k1 k2 h2) k3
      · cases h
      · split at h
        · rename_i q3
          rw [Option.map_eq_some_iff] at h
          obtain ⟨T, hT, rfl⟩ := h
          obtain ⟨k1, k2, k3, k4⟩ := isB_some o q3
          exact se_const (v := .ty T) (pe_bltn k1 k2 (cTy_boot hT) rfl k3 k4) fun _ _ => .ty T
        · cases h
    · cases h
theorem cConst_ok {k : Const} {j : Nat} {m : EM} (h : cConst k = some m) : PE X (.Constant k j pos) (tE g W m) := by
  unfold cConst at h
  split at h
  · cases h; exact se_const pe_non fun _ _ => .non
  · cases h; exact se_const pe_bl fun _ _ => .bl _
  · cases h; exact se_const pe_int fun _ _ => .int _
  · split at h
    · rename_i q
      cases h
      exact se_const pe_str fun _ _ => .str _ q.1 (by rw [sizeLine_eq]; omega)
    · cases h
  · cases h
end
/-! ### operators -/
def cBin : Operator → EM → EM → Option EM
  | .Add, a, b => some (mBin opAdd a b)
  | .Sub, a, b => some (mBin opSub a b)
  | .Mult, a, b => some (mBin opMul a b)
  | .FloorDiv, a, b => some (mBin opDiv a b)
  | .Mod, a, b => some (mBin opMod a b)
  | .Pow, a, b => some (mBin opPow a b)
  | _, _, _ => none
def cCmp : CmpOp → EM → EM → EM
  | .Eq, a, b => mBin opEq a b
  | .NotEq, a, b => mBin opNe a b
  | .Lt, a, b => mBin opLt a b
  | .LtE, a, b => mBin opLe a b
  | .Gt, a, b => mBin opGt a b
  | .GtE, a, b => mBin opGe a b
  | .Is, a, b => mBin opIs a b
  | .IsNot, a, b => mBin opIsNot a b
  | .In, a, b => mBin opIn a b
  | .NotIn, a, b => mBin opNotIn a b
section
variable {c : Cs} {g : Gx} {W : WX} {X : Cx} {a b : Expr} {ma mb m : EM} {pos : Pos}
theorem cBin_ok (o : CxOk c g W X) {op : Operator} (ha : PE X a (tE g W ma)) (hb : PE X b (tE g W mb)) (h : cBin op ma mb = some m) : PE X (.BinOp a op b pos) (tE g W m) := by
  cases op <;> simp only [cBin, Option.some.injEq] at h <;> first | (cases h; done) | subst h
  · exact se_bin op_add4 (by have := vo_add (g := g); rw [o.K] at this; exact this) ha hb
  · exact se_bin op_sub vo_sub ha hb
  · exact se_bin op_mul2 (by have := vo_mul (g := g); rw [o.K] at this; exact this) ha hb
  · exact se_bin op_mod vo_mod ha hb
  · exact se_bin op_pow vo_pow ha hb
  · exact se_bin op_fdiv vo_div ha hb
theorem cmp_any (o : CxOk c g W X) (op : CmpOp) : ∃ r f, OpR X (compareOp op) r ∧ VOp g r f ∧ ∀ ma mb, cCmp op ma mb = mBin f ma mb := by
  cases op
  · exact ⟨_, opEq, op_eqM o.units, by have := vo_eq (g := g); rw [o.K] at this; exact this, fun _ _ => rfl⟩
  · exact ⟨_, opNe, op_neM o.units, by have := vo_ne (g := g); rw [o.K] at this; exact this, fun _ _ => rfl⟩
  · exact ⟨_, opLt, op_lt, vo_lt, fun _ _ => rfl⟩
  · exact ⟨_, opLe, op_le, vo_le, fun _ _ => rfl⟩
  · exact ⟨_, opGt, op_gt, vo_gt, fun _ _ => rfl⟩
  · exact ⟨_, opGe, op_ge, vo_ge, fun _ _ => rfl⟩
  · exact ⟨_, opIs, op_isN.or op_isBl, vo_is, fun _ _ => rfl⟩
  · exact ⟨_, opIsNot, op_notN.or op_notBl, vo_isNot, fun _ _ => rfl⟩
  · exact ⟨_, opIn, op_in2 o.units, by have := vo_in (g := g); rw [o.K] at this; exact this, fun _ _ => rfl⟩
  · exact ⟨_, opNotIn, op_notIn2 o.units, by have := vo_notIn (g := g); rw [o.K] at this; exact this, fun _ _ => rfl⟩
def noSet : Expr → Bool
  | .Set _ _ _ => false
  | _ => true
theorem noSet_marks {op : CmpOp} {e : Expr} (h : noSet e = true) : behindInMarks op e = false := by
  cases e <;> first | rfl | (simp [noSet] at h)
theorem noSet_folded {e : Expr} (h : noSet e = true) {env : PySem.Env} {x : Value} : foldedSetIterable e env x = pure x := by
  cases e <;> first | rfl | (simp [noSet] at h)
end
/-! ### built-ins -/
inductive Bf where
  | len | isi | tup | int | abs | all | any | sum | max
def bfOf (x : Str) : Option Bf :=
  if x = ("len" : Str) then some .len else if x = ("isinstance" : Str) then some .isi else if x = ("tuple" : Str) then some .tup else if x = ("int" : Str) then some .int else if x = ("all" : Str) then some .all
  else if x = ("any" : Str) then some .any else if x = ("sum" : Str) then some .sum else if x = ("max" : Str) then some .max else if x = ("abs" : Str) then some .abs else none
def Bf.f : Bf → Sto → List PV → Option PV
  | .len => fLen
  | .isi => fIsi
  | .tup => fTuple
  | .int => fInt
  | .abs => fAbs
  | .all => fAll
  | .any => fAny
  | .sum => fSum
  | .max => fMax
section
variable {c : Cs} {g : Gx} {W : WX} {X : Cx} {x : Str} {e : Expr} {es : List Expr} {n : AM} {p pos : Pos}
theorem bf_ok (o : CxOk c g W X) {b : Bf} (h : bfOf x = some b) (hb : isBl c x = true) (ha : PA X (e :: es) (tA g W n)) (hs : (e :: es).any isStar = false) : PE X (.Call (.Name x p) (e :: es) [] pos) (tE g W (mBi b.f n)) := by
  obtain ⟨h1, h2, h3, h4⟩ := isB_some o hb
  unfold bfOf at h
  split at h
  · rename_i q; cases h
    exact se_callB cr_len (by have := vc_len (g := g); rw [o.K] at this; exact this) h1 h2 (by rw [q]; decide +kernel) ha h3 h4 hs
  split at h
  · rename_i q; cases h
    exact se_callB call_isi (by have := vc_isi (g := g); rw [o.K] at this; exact this) h1 h2 (by rw [q]; decide +kernel) ha h3 h4 hs
  split at h
  · rename_i q; cases h
    exact se_callT call_tuple_of (by have := vc_tuple (g := g); rw [o.K] at this; exact this) h1 h2 (by rw [q]; decide +kernel) ha h3 h4 hs
  split at h
  · rename_i q; cases h
    exact se_callT call_int1 vc_int h1 h2 (by rw [q]; decide +kernel) ha h3 h4 hs
  split at h
  · rename_i q; cases h
    exact se_callB (cr_all o.calm) (by have := vc_all (g := g); rw [o.K] at this; exact this) h1 h2 (by rw [q]; decide +kernel) ha h3 h4 hs
  split at h
  · rename_i q; cases h
    exact se_callB (cr_any o.calm) (by have := vc_any (g := g); rw [o.K] at this; exact this) h1 h2 (by rw [q]; decide +kernel) ha h3 h4 hs
  split at h
  · rename_i q; cases h
    exact se_callB (cr_sum o.calm) (by have := vc_sum (g := g); rw [o.K] at this; exact this) h1 h2 (by rw [q]; decide +kernel) ha h3 h4 hs
  split at h
  · rename_i q; cases h
    exact se_callB (cr_max o.calm) (by have := vc_max (g := g); rw [o.K] at this; exact this) h1 h2 (by rw [q]; decide +kernel) ha h3 h4 hs
  split at h
  · rename_i q; cases h
    exact se_callB call_abs vc_abs h1 h2 (by rw [q]; decide +kernel) ha h3 h4 hs
  · cases h
end
end BK

/-! BkL: expressions from the row's syntax -/
namespace BK
open PySem PySem.Spec PyProof.Rows L2 RZ

/-! ### targets -/
def cGs (rec : Expr → Option (GM × List Nat)) : List Expr → Option (GsM × List Nat)
  | [] => some (gsNil, [])
  | e :: es => (rec e).bind fun p => (cGs rec es).map fun q => (gsCons p.1 q.1, p.2 ++ q.2)
def cG : Nat → Cs → Expr → Option (GM × List Nat)
  | 0, _, _ => none
  | n + 1, c, e => match e with
    | .Name x _ => (tgtOf c x).map fun i => (gNm i, [i])
    | .Tuple es _ _ => if es.any isStar = false then (cGs (cG n c) es).map fun p => (gTp p.1, p.2) else none
    | _ => none
theorem keys_nm (i : Nat) : Keys (gNm i) [i] := fun x as h => by
  simp only [gNm, Option.some.injEq] at h
  rw [← h]
  rfl
section
variable {c : Cs} {g : Gx} {W : WX} {X : Cx}
theorem cGs_ok {rec : Expr → Option (GM × List Nat)} (hr : ∀ e t vs, rec e = some (t, vs) → PG X e (tG g vs t) ∧ Keys t vs) : ∀ (es : List Expr) (t : GsM) (vs : List Nat), es.any isStar = false → cGs rec es = some (t, vs) →
    PGs X es (tGs g vs t) ∧ (∀ xs as, t xs = some as → as.map (·.1) = vs) ∧ ∀ xs as, t xs = some as → xs.length = es.length
  | [], t, vs, _, h => by
    simp only [cGs, Option.some.injEq, Prod.mk.injEq] at h
    obtain ⟨rfl, rfl⟩ := h
    refine ⟨sgs_nil, fun xs as h => ?_, fun xs as h => ?_⟩ <;> cases xs <;> simp [gsNil] at h
    · rw [h]; rfl
    · rfl
  | e :: es, t, vs, hs, h => by
    rw [List.any_cons, Bool.or_eq_false_iff] at hs
    simp only [cGs, Option.bind_eq_some_iff, Option.map_eq_some_iff] at h
    obtain ⟨⟨t1, v1⟩, h1, ⟨t2, v2⟩, h2, h3⟩ := h
    simp only [Prod.mk.injEq] at h3
    obtain ⟨rfl, rfl⟩ := h3
    obtain ⟨p1, k1⟩ := hr e t1 v1 h1
    obtain ⟨p2, k2, l2⟩ := cGs_ok hr es t2 v2 hs.2 h2
    refine ⟨sgs_cons p1 p2 hs.1, fun xs as h => ?_, fun xs as h => ?_⟩
    · cases xs with
      | nil => simp [gsCons] at h
      | cons x xs =>
        simp only [gsCons, Option.bind_eq_some_iff, Option.map_eq_some_iff] at h
        obtain ⟨a1, q1, a2, q2, rfl⟩ := h
        rw [List.map_append, k1 x a1 q1, k2 xs a2 q2]
    · cases xs with
      | nil => simp [gsCons] at h
      | cons x xs =>
        simp only [gsCons, Option.bind_eq_some_iff, Option.map_eq_some_iff] at h
        obtain ⟨a1, q1, a2, q2, rfl⟩ := h
        simp only [List.length_cons, l2 xs a2 q2]
theorem cG_ok (o : CxOk c g W X) : ∀ (n : Nat) (e : Expr) (t : GM) (vs : List Nat), cG n c e = some (t, vs) → PG X e (tG g vs t) ∧ Keys t vs
  | 0, _, _, _, h => by simp [cG] at h
  | n + 1, e, t, vs, h => by
    unfold cG at h
    split at h
    · rename_i x p
      simp only [Option.map_eq_some_iff, Prod.mk.injEq] at h
      obtain ⟨i, hi, rfl, rfl⟩ := h
      obtain ⟨h1, h2, h3⟩ := tgtOf_some o hi
      exact ⟨sg_name o.nd h1 h2 h3, keys_nm i⟩
    · rename_i es k p
      split at h
      · rename_i hs
        simp only [Option.map_eq_some_iff, Prod.mk.injEq] at h
        obtain ⟨⟨t2, v2⟩, h1, rfl, rfl⟩ := h
        obtain ⟨p1, k1, l1⟩ := cGs_ok (fun e t vs h => cG_ok o n e t vs h) es t2 v2 hs h1
        refine ⟨sg_tup o.calm o.K p1 hs l1, fun x as h => ?_⟩
        cases x <;> simp only [gTp] at h <;> try (cases h; done)
        exact k1 _ _ h
      · cases h
    · cases h
end

/-! ### expressions -/
def cAs (rec : Expr → Option EM) : List Expr → Option AM
  | [] => some aNil
  | e :: es => (rec e).bind fun m => (cAs rec es).map fun n => aCons m n
def cBs (f : BM → BM → BM) (rec : Expr → Option BM) : List Expr → Option BM
  | [] => none
  | e :: es => match es with
    | [] => rec e
    | _ :: _ => (rec e).bind fun a => (cBs f rec es).map fun b => f a b
def cVs (f : EM → EM → EM) (rec : Expr → Option EM) : List Expr → Option EM
  | [] => none
  | e :: es => match es with
    | [] => rec e
    | _ :: _ => (rec e).bind fun a => (cVs f rec es).map fun b => f a b
def noSlice : Expr → Bool
  | .Slice _ _ _ _ => false
  | _ => true
def plainT : Expr → Bool
  | .Name _ _ => true
  | .Call _ _ _ _ => true
  | .Subscript _ _ _ => true
  | .Constant _ _ _ => true
  | _ => false
def cO (rec : Expr → Option EM) : Option Expr → Option OM
  | none => some oNo
  | some e => (rec e).map oInt
/-- how a def's number, its parameters and its defaults fit a call -/
def dflFor (k np : Nat) (dfl : List PV) : Option (List PV) := if k ≤ np ∧ np ≤ k + dfl.length then some (dfl.drop (k + dfl.length - np)) else none
def cCall (c : Cs) (x : Str) (k : Nat) (na : Option AM) : Option EM := match bfOf x with
  | some b => if isBl c x = true ∧ c.glob.lookup x = none then na.map (mBi b.f) else none
  | none => match c.glob.lookup x with
    | some (.fn f np false dfl) => if isG c x = true then (dflFor k np dfl).bind fun d => na.map fun n => mCall (c.call f) n d else none
    | _ => none
def cCallL (c : Cs) (x : Str) (k : Nat) (na : Option AM) : Option AM := match c.glob.lookup x with
  | some (.fn f np true dfl) => if isG c x = true then (dflFor k np dfl).bind fun d => na.map fun n => aCall (c.call f) n d else none
  | some _ => none
  | none => if x = ("list" : Str) ∧ isBl c x = true ∧ k = 1 then na.map aList else none
def blkCs (c : Cs) (scope : Scope) : Cs := { c with sc := relS scope c.sc, fnc := fun x => scope.names.lookup x == some .cell }
def ownFor (c : Cs) (vs : List Nat) : List (Str × Nat) := vs.map fun i => (c.N.getD i ⟨#[]⟩, i)
def cIt (c : Cs) (tg : Expr) (rec : Expr → Option EM) (e : Expr) : Option AM := match e with
  | .Call (.Name x _) [a] [] _ => if x = ("range" : Str) ∧ isBl c x = true ∧ isStar a = false then (cAs rec [a]).map aRange1 else (rec e).map aSeq
  | .Call (.Name x _) [a, b] [] _ => if x = ("range" : Str) ∧ isBl c x = true ∧ isStar a = false ∧ isStar b = false then (cAs rec [a, b]).map aRange2
    else match tg with
      | .Tuple _ _ _ => if x = ("zip" : Str) ∧ isBl c x = true ∧ isStar a = false ∧ isStar b = false then (cAs rec [a, b]).map aZip else (rec e).map aSeq
      | _ => (rec e).map aSeq
  | _ => (rec e).map aSeq
def cIfs (rec : Expr → Option BM) : List Expr → Option BM
  | [] => some bYes
  | [e] => rec e
  | _ => none
mutual
def cE : Nat → Cs → Expr → Option EM
  | 0, _, _ => none
  | n + 1, c, e => match e with
    | .Name x _ => cName c x
    | .Constant k _ _ => cConst k
    | .Tuple es _ _ => if es.length ≤ 1000 ∧ es.any isStar = false then (cAs (cE n c) es).map mTup else none
    | .BinOp a op b _ => (cE n c a).bind fun ma => (cE n c b).bind fun mb => cBin op ma mb
    | .UnaryOp .USub a _ => (cE n c a).map (mUn opNeg)
    | .UnaryOp .Not a _ => (cE n c a).map mNotV
    | .Compare a [op] [b] _ => if noSet b = true then (cE n c a).bind fun ma => (cE n c b).map fun mb => cCmp op ma mb else none
    | .BoolOp .And es _ => cVs mAndV (cE n c) es
    | .BoolOp .Or es _ => cVs mOrV (cE n c) es
    | .IfExp t a b _ => (cB n c t).bind fun bt => (cE n c a).bind fun ma => (cE n c b).map fun mb => mIf bt ma mb
    | .Subscript a (.Slice lo hi none _) _ => (cE n c a).bind fun ma => (cO (cE n c) lo).bind fun l => (cO (cE n c) hi).map fun u => mSl ma l u
    | .Subscript a b _ => if noSlice b = true then (cE n c a).bind fun ma => (cE n c b).map fun mb => mBinS opIx ma mb else none
    | .Call (.Name x p) (a :: es) [] q => if (a :: es).any isStar = false then match cCall c x (a :: es).length (cAs (cE n c) (a :: es)) with
        | some m => some m
        | none => (cL n c (.Call (.Name x p) (a :: es) [] q)).map mFz
      else none
    | .List es p => (cL n c (.List es p)).map mFz
    | .ListComp elt gs sc p => (cL n c (.ListComp elt gs sc p)).map mFz
    | _ => none
def cB : Nat → Cs → Expr → Option BM
  | 0, _, _ => none
  | n + 1, c, e => match e with
    | .Compare a [op] [b] _ => if noSet b = true then (cE n c a).bind fun ma => (cE n c b).map fun mb => bVal (cCmp op ma mb) else none
    | .UnaryOp .Not a _ => (cB n c a).map bNot
    | .BoolOp .And es _ => cBs bAnd (cB n c) es
    | .BoolOp .Or es _ => cBs bOr (cB n c) es
    | _ => if plainT e = true then (cE n c e).map bVal else none
def cL : Nat → Cs → Expr → Option AM
  | 0, _, _ => none
  | n + 1, c, e => match e with
    | .List es _ => if es.length ≤ 1000 ∧ es.any isStar = false then cAs (cE n c) es else none
    | .Call (.Name x _) (a :: es) [] _ => if (a :: es).any isStar = false then cCallL c x (a :: es).length (cAs (cE n c) (a :: es)) else none
    | .ListComp elt [⟨tg, iter, ifs, 0⟩] scope _ => if noSet iter = true then (cG n (blkCs c scope) tg).bind fun p => if blkC c.N c.sc scope (ownFor c p.2) = true ∧ scope.kind = .function then
        (cIt c tg (cE n c) iter).bind fun it => (cIfs (cB n (blkCs c scope)) ifs).bind fun t => (cE n (blkCs c scope) elt).map fun m => aLc it p.2 p.1 t m else none else none
    | .ListComp elt [⟨tg, iter, ifs, 0⟩, ⟨tg1, iter1, ifs1, 0⟩] scope _ => if noSet iter = true ∧ noSet iter1 = true then (cG n (blkCs c scope) tg).bind fun p => (cG n (blkCs c scope) tg1).bind fun p1 => if blkC c.N c.sc scope (ownFor c (p.2 ++ p1.2)) = true ∧ scope.kind = .function then
        (cIt c tg (cE n c) iter).bind fun it => (cIfs (cB n (blkCs c scope)) ifs).bind fun t => (cIt (blkCs c scope) tg1 (cE n (blkCs c scope)) iter1).bind fun it1 => (cIfs (cB n (blkCs c scope)) ifs1).bind fun t1 =>
          (cE n (blkCs c scope) elt).map fun m => aLcN it (p.2 ++ p1.2) p.1 t (aNest it1 p1.2 p1.1 t1 (aOne m)) else none else none
    | .ListComp elt [⟨tg, iter, ifs, 0⟩, ⟨tg1, iter1, ifs1, 0⟩, ⟨tg2, iter2, ifs2, 0⟩] scope _ => if noSet iter = true ∧ noSet iter1 = true ∧ noSet iter2 = true then (cG n (blkCs c scope) tg).bind fun p => (cG n (blkCs c scope) tg1).bind fun p1 => (cG n (blkCs c scope) tg2).bind fun p2 => if blkC c.N c.sc scope (ownFor c (p.2 ++ (p1.2 ++ p2.2))) = true ∧ scope.kind = .function then
        (cIt c tg (cE n c) iter).bind fun it => (cIfs (cB n (blkCs c scope)) ifs).bind fun t => (cIt (blkCs c scope) tg1 (cE n (blkCs c scope)) iter1).bind fun it1 => (cIfs (cB n (blkCs c scope)) ifs1).bind fun t1 =>
        (cIt (blkCs c scope) tg2 (cE n (blkCs c scope)) iter2).bind fun it2 => (cIfs (cB n (blkCs c scope)) ifs2).bind fun t2 =>
          (cE n (blkCs c scope) elt).map fun m => aLcN it (p.2 ++ (p1.2 ++ p2.2)) p.1 t (aNest it1 (p1.2 ++ p2.2) p1.1 t1 (aNest it2 p2.2 p2.1 t2 (aOne m))) else none else none
    | _ => none
end
end BK

/-! BkM: expressions: the functions are what the program does -/
namespace BK
open PySem PySem.Spec PyProof.Rows L2 RZ
section
variable {c : Cs} {g : Gx} {W : WX} {X : Cx}
def LenA (n : AM) (k : Nat) : Prop := ∀ ρ st xs st', n ρ st = .ok xs st' → xs.length = k
theorem lenA_few {n : AM} {k : Nat} (h : LenA n k) : Few n k := fun ρ st xs st' q => Nat.le_of_eq (h ρ st xs st' q)
theorem cAs_ok {rec : Expr → Option EM} (hr : ∀ e m, rec e = some m → PE X e (tE g W m)) : ∀ (es : List Expr) (n : AM), es.any isStar = false → cAs rec es = some n → PA X es (tA g W n) ∧ LenA n es.length
  | [], n, _, h => by
    simp only [cAs, Option.some.injEq] at h
    subst h
    exact ⟨sa_nil, fun ρ st xs st' h => by cases h; rfl⟩
  | e :: es, n, hs, h => by
    rw [List.any_cons, Bool.or_eq_false_iff] at hs
    simp only [cAs, Option.bind_eq_some_iff, Option.map_eq_some_iff] at h
    obtain ⟨m, hm, n', hn, rfl⟩ := h
    obtain ⟨p, l⟩ := cAs_ok hr es n' hs.2 hn
    refine ⟨sa_cons (hr e m hm) p (starEach_cons hs.1), fun ρ st xs st' h => ?_⟩
    obtain ⟨x, s1, h1, h2⟩ := Res.bind_ok h
    obtain ⟨ys, s2, h3, h4⟩ := Res.bind_ok h2
    cases h4
    simp only [List.length_cons, l _ _ _ _ h3]
theorem cBs_and {rec : Expr → Option BM} (hr : ∀ e m, rec e = some m → PT X e (tT g W m)) {pos : Pos} : ∀ (es : List Expr) (m : BM), cBs bAnd rec es = some m → PW X (.BoolOp .And es pos) (tT g W m)
  | [], m, h => by simp [cBs] at h
  | [e], m, h => sw_and1 (hr e m h)
  | e :: e2 :: es, m, h => by
    rw [cBs] at h
    simp only [Option.bind_eq_some_iff, Option.map_eq_some_iff] at h
    obtain ⟨a, ha, b, hb, rfl⟩ := h
    exact sw_and (hr e a ha) (cBs_and hr (e2 :: es) b hb)
theorem cBs_or {rec : Expr → Option BM} (hr : ∀ e m, rec e = some m → PT X e (tT g W m)) {pos : Pos} : ∀ (es : List Expr) (m : BM), cBs bOr rec es = some m → PW X (.BoolOp .Or es pos) (tT g W m)
  | [], m, h => by simp [cBs] at h
  | [e], m, h => sw_or1 (hr e m h)
  | e :: e2 :: es, m, h => by
    rw [cBs] at h
    simp only [Option.bind_eq_some_iff, Option.map_eq_some_iff] at h
    obtain ⟨a, ha, b, hb, rfl⟩ := h
    exact sw_or (hr e a ha) (cBs_or hr (e2 :: es) b hb)
theorem cVs_and {rec : Expr → Option EM} (hr : ∀ e m, rec e = some m → PE X e (tE g W m)) {pos : Pos} : ∀ (es : List Expr) (m : EM), cVs mAndV rec es = some m → PE X (.BoolOp .And es pos) (tE g W m)
  | [], m, h => by simp [cVs] at h
  | [e], m, h => se_one (hr e m h)
  | e :: e2 :: es, m, h => by
    rw [cVs] at h
    simp only [Option.bind_eq_some_iff, Option.map_eq_some_iff] at h
    obtain ⟨a, ha, b, hb, rfl⟩ := h
    exact se_and (hr e a ha) (cVs_and hr (e2 :: es) b hb)
theorem cVs_or {rec : Expr → Option EM} (hr : ∀ e m, rec e = some m → PE X e (tE g W m)) {pos : Pos} : ∀ (es : List Expr) (m : EM), cVs mOrV rec es = some m → PE X (.BoolOp .Or es pos) (tE g W m)
  | [], m, h => by simp [cVs] at h
  | [e], m, h => se_one (hr e m h)
  | e :: e2 :: es, m, h => by
    rw [cVs] at h
    simp only [Option.bind_eq_some_iff, Option.map_eq_some_iff] at h
    obtain ⟨a, ha, b, hb, rfl⟩ := h
    exact se_or (hr e a ha) (cVs_or hr (e2 :: es) b hb)
theorem cO_ok {rec : Expr → Option EM} (hr : ∀ e m, rec e = some m → PE X e (tE g W m)) {e : Option Expr} {m : OM} (h : cO rec e = some m) : PO X e (tOx g W m) := by
  cases e with
  | none =>
    simp only [cO, Option.some.injEq] at h
    subst h
    exact so_none
  | some e =>
    simp only [cO, Option.map_eq_some_iff] at h
    obtain ⟨m, hm, rfl⟩ := h
    exact so_some (hr e m hm)
theorem dfl_ok {k np : Nat} {dfl d : List PV} (h : dflFor k np dfl = some d) : ∃ j, j ≤ dfl.length ∧ d = dfl.drop j ∧ k + d.length = np := by
  unfold dflFor at h
  split at h
  · rename_i q
    cases h
    exact ⟨_, by omega, rfl, by rw [List.length_drop]; omega⟩
  · cases h
theorem cCall_ok (o : CxOk c g W X) {x : Str} {e : Expr} {es : List Expr} {na : Option AM} {m : EM} {p pos : Pos} (hs : (e :: es).any isStar = false) (ha : ∀ n, na = some n → PA X (e :: es) (tA g W n) ∧ LenA n (e :: es).length)
    (h : cCall c x (e :: es).length na = some m) : PE X (.Call (.Name x p) (e :: es) [] pos) (tE g W m) := by
  unfold cCall at h
  split at h
  · rename_i b hb
    split at h
    · rename_i q
      rw [Option.map_eq_some_iff] at h
      obtain ⟨n, hn, rfl⟩ := h
      exact bf_ok o hb q.1 (ha n hn).1 hs
    · cases h
  · split at h
    · rename_i f np dfl hf
      split at h
      · rename_i q
        simp only [Option.bind_eq_some_iff, Option.map_eq_some_iff] at h
        obtain ⟨d, hd, n, hn, rfl⟩ := h
        obtain ⟨j, hj, rfl, hl⟩ := dfl_ok hd
        obtain ⟨lv, fad, fd, ps, k1, k2, k3, k4, k5⟩ := o.glob.fn _ _ _ _ _ hf
        obtain ⟨dvs, ds, d1, d2, d3⟩ := k5 j hj
        obtain ⟨g1, g2⟩ := isG_some o q
        obtain ⟨pa, la⟩ := ha n hn
        exact se_call k4 k1 g1 k2 k3 d2 d1 o.tk pa g2 hs d3 fun ρ st xs st' e => by rw [la _ _ _ _ e]; exact hl
      · cases h
    · cases h
theorem cCallL_ok (o : CxOk c g W X) {x : Str} {e : Expr} {es : List Expr} {na : Option AM} {m : AM} {p pos : Pos} (hs : (e :: es).any isStar = false) (ha : ∀ n, na = some n → PA X (e :: es) (tA g W n) ∧ LenA n (e :: es).length)
    (h : cCallL c x (e :: es).length na = some m) : PE X (.Call (.Name x p) (e :: es) [] pos) (tL g W m) := by
  unfold cCallL at h
  split at h
  · rename_i f np dfl hf
    split at h
    · rename_i q
      simp only [Option.bind_eq_some_iff, Option.map_eq_some_iff] at h
      obtain ⟨d, hd, n, hn, rfl⟩ := h
      obtain ⟨j, hj, rfl, hl⟩ := dfl_ok hd
      obtain ⟨lv, fad, fd, ps, k1, k2, k3, k4, k5⟩ := o.glob.fn _ _ _ _ _ hf
      obtain ⟨dvs, ds, d1, d2, d3⟩ := k5 j hj
      obtain ⟨g1, g2⟩ := isG_some o q
      obtain ⟨pa, la⟩ := ha n hn
      exact sl_call k4 k1 g1 k2 k3 d2 d1 o.tk pa g2 hs d3 fun ρ st xs st' e => by rw [la _ _ _ _ e]; exact hl
    · cases h
  · cases h
  · split at h
    · rename_i q
      obtain ⟨q1, q2, q3⟩ := q
      rw [Option.map_eq_some_iff] at h
      obtain ⟨n, hn, rfl⟩ := h
      obtain ⟨pa, la⟩ := ha n hn
      cases es with
      | cons e2 es => simp at q3
      | nil =>
        subst q1
        obtain ⟨h1, h2, h3, h4⟩ := isB_some o q2
        exact sl_list o.K h1 h2 pa (by simpa using hs)
    · cases h
theorem noSlice_plain {b : Expr} (h : noSlice b = true) : PlainIx b := by
  intro o i
  cases b <;> first | rfl | (simp [noSlice] at h)
theorem plainT_true {e : Expr} (h : plainT e = true) {env : PySem.Env} : ∀ whole, isTrue e env whole = (do let v ← whole; standAt e.pos; holding [v] (truthy v)) := by
  intro w
  cases e <;> first | rfl | (simp [plainT] at h)
/-- a comprehension's block is a context like others -/
theorem blk_ok (o : CxOk c g W X) {scope : Scope} (hk : scope.kind = .function) (s : Shared) (H : Hp) (C : Addr) (cl : List (Str × Addr)) (fp : List Addr) : CxOk (blkCs c scope) g W0 (X.blk s H scope (compEnvC scope cl C X.env) fp) where
  K := o.K
  N := o.N
  nd := o.nd
  sc := by show relS scope X.env.scope = relS scope c.sc; rw [o.sc]
  kind := hk
  calm := o.calm
  units := o.units
  tk := takes0
  own := PassesOwn.never
  fnc := fun x => rfl
  glob := ⟨o.glob.const, o.glob.fn, o.glob.blt⟩
theorem cIt_ok (o : CxOk c g W X) {rec : Expr → Option EM} (hr : ∀ e m, rec e = some m → PE X e (tE g W m)) {tg e : Expr} {it : AM} (h : cIt c tg rec e = some it) : PI X tg e (tI g W it) := by
  have fin : ∀ {e : Expr} {it : AM}, (rec e).map aSeq = some it → PI X tg e (tI g W it) := fun {e it} h => by
    rw [Option.map_eq_some_iff] at h
    obtain ⟨m, hm, rfl⟩ := h
    exact si_seq o.K (hr e m hm)
  unfold cIt at h
  split at h
  · rename_i x p a q
    split at h
    · rename_i k
      obtain ⟨rfl, k2, k3⟩ := k
      rw [Option.map_eq_some_iff] at h
      obtain ⟨n, hn, rfl⟩ := h
      obtain ⟨h1, h2, h3, h4⟩ := isB_some o k2
      exact si_range1 h1 h2 (cAs_ok hr [a] n (by simp [k3]) hn).1 k3
    · exact fin h
  · rename_i x p a b q
    split at h
    · rename_i k
      obtain ⟨rfl, k2, k3, k4⟩ := k
      rw [Option.map_eq_some_iff] at h
      obtain ⟨n, hn, rfl⟩ := h
      obtain ⟨h1, h2, h3, h4⟩ := isB_some o k2
      exact si_range2 h1 h2 (cAs_ok hr [a, b] n (by simp [k3, k4]) hn).1 k3 k4
    · split at h
      · rename_i ts tk tp
        split at h
        · rename_i k
          obtain ⟨rfl, k2, k3, k4⟩ := k
          rw [Option.map_eq_some_iff] at h
          obtain ⟨n, hn, rfl⟩ := h
          obtain ⟨h1, h2, h3, h4⟩ := isB_some o k2
          exact si_zip o.K h1 h2 (cAs_ok hr [a, b] n (by simp [k3, k4]) hn).1 k3 k4
        · exact fin h
      · exact fin h
  · exact fin h
theorem cIfs_ok {rec : Expr → Option BM} (hr : ∀ e m, rec e = some m → PT X e (tT g W0 m)) {ifs : List Expr} {t : BM} (h : cIfs rec ifs = some t) : PTs X ifs (tT g W0 t) := by
  unfold cIfs at h
  split at h
  · cases h; exact sts_nil
  · exact pts_one (hr _ _ h)
  · cases h
theorem own_map (c : Cs) (vs : List Nat) : (ownFor c vs).map (·.2) = vs := by
  unfold ownFor
  rw [List.map_map]
  exact List.map_id' vs
end
theorem expr_ok : ∀ n : Nat, (∀ (c : Cs) (g : Gx) (W : WX) (X : Cx) (e : Expr) (m : EM), CxOk c g W X → cE n c e = some m → PE X e (tE g W m)) ∧
    (∀ (c : Cs) (g : Gx) (W : WX) (X : Cx) (e : Expr) (m : BM), CxOk c g W X → cB n c e = some m → PT X e (tT g W m)) ∧
    (∀ (c : Cs) (g : Gx) (W : WX) (X : Cx) (e : Expr) (m : AM), CxOk c g W X → cL n c e = some m → PE X e (tL g W m))
  | 0 => ⟨fun _ _ _ _ _ _ _ h => by simp [cE] at h, fun _ _ _ _ _ _ _ h => by simp [cB] at h, fun _ _ _ _ _ _ _ h => by simp [cL] at h⟩
  | n + 1 => by
    obtain ⟨ihE, ihB, ihL⟩ := expr_ok n
    refine ⟨fun c g W X e m o h => ?_, fun c g W X e m o h => ?_, fun c g W X e m o h => ?_⟩
    · have rE := fun e m h => ihE c g W X e m o h
      have rB := fun e m h => ihB c g W X e m o h
      have rL := fun e m h => ihL c g W X e m o h
      unfold cE at h
      split at h
      · exact cName_ok o h
      · exact cConst_ok h
      · split at h
        · rename_i q
          rw [Option.map_eq_some_iff] at h
          obtain ⟨na, hn, rfl⟩ := h
          obtain ⟨pa, la⟩ := cAs_ok rE _ na q.2 hn
          exact se_tup pa (lenA_few la) (by rw [sizeLine_eq]; omega)
        · cases h
      · simp only [Option.bind_eq_some_iff] at h
        obtain ⟨ma, ha, mb, hb, h⟩ := h
        exact cBin_ok o (rE _ _ ha) (rE _ _ hb) h
      · rw [Option.map_eq_some_iff] at h
        obtain ⟨ma, ha, rfl⟩ := h
        exact se_neg (rE _ _ ha)
      · rw [Option.map_eq_some_iff] at h
        obtain ⟨ma, ha, rfl⟩ := h
        exact se_not (rE _ _ ha)
      · split at h
        · rename_i q
          simp only [Option.bind_eq_some_iff, Option.map_eq_some_iff] at h
          obtain ⟨ma, ha, mb, hb, rfl⟩ := h
          rename_i a op b p
          obtain ⟨r, f, h1, h2, h3⟩ := cmp_any o op
          rw [h3]
          exact se_cmp h1 h2 (rE _ _ ha) (rE _ _ hb) (noSet_marks q)
        · cases h
      · exact cVs_and rE _ _ h
      · exact cVs_or rE _ _ h
      · simp only [Option.bind_eq_some_iff, Option.map_eq_some_iff] at h
        obtain ⟨bt, hbt, ma, ha, mb, hb, rfl⟩ := h
        exact se_if (rB _ _ hbt) (rE _ _ ha) (rE _ _ hb)
      · simp only [Option.bind_eq_some_iff, Option.map_eq_some_iff] at h
        obtain ⟨ma, ha, l, hl, u, hu, rfl⟩ := h
        exact se_sl (rE _ _ ha) (cO_ok rE hl) (cO_ok rE hu) o.K
      · split at h
        · rename_i q
          simp only [Option.bind_eq_some_iff, Option.map_eq_some_iff] at h
          obtain ⟨ma, ha, mb, hb, rfl⟩ := h
          exact se_ixS (rE _ _ ha) (rE _ _ hb) o.K (noSlice_plain q)
        · cases h
      · split at h
        · rename_i q
          split at h
          · rename_i m' hm
            cases h
            exact cCall_ok o q (fun n hn => cAs_ok rE _ n q hn) hm
          · rw [Option.map_eq_some_iff] at h
            obtain ⟨na, hn, rfl⟩ := h
            exact se_fz (rL _ _ hn)
        · cases h
      · rw [Option.map_eq_some_iff] at h
        obtain ⟨na, hn, rfl⟩ := h
        exact se_fz (rL _ _ hn)
      · rw [Option.map_eq_some_iff] at h
        obtain ⟨na, hn, rfl⟩ := h
        exact se_fz (rL _ _ hn)
      · cases h
    · have rE := fun e m h => ihE c g W X e m o h
      have rB := fun e m h => ihB c g W X e m o h
      unfold cB at h
      split at h
      · split at h
        · rename_i q
          simp only [Option.bind_eq_some_iff, Option.map_eq_some_iff] at h
          obtain ⟨ma, ha, mb, hb, rfl⟩ := h
          rename_i a op b p
          obtain ⟨r, f, h1, h2, h3⟩ := cmp_any o op
          rw [h3]
          exact st_cmp h1 h2 (rE _ _ ha) (rE _ _ hb) (noSet_marks q)
        · cases h
      · rw [Option.map_eq_some_iff] at h
        obtain ⟨ma, ha, rfl⟩ := h
        exact st_not (rB _ _ ha)
      · exact (cBs_and rB _ _ h).pt
      · exact (cBs_or rB _ _ h).pt
      · split at h
        · rename_i q
          rw [Option.map_eq_some_iff] at h
          obtain ⟨ma, ha, rfl⟩ := h
          exact st_val (rE _ _ ha) (plainT_true q)
        · cases h
    · have rE := fun e m h => ihE c g W X e m o h
      unfold cL at h
      split at h
      · split at h
        · rename_i q
          obtain ⟨pa, la⟩ := cAs_ok rE _ m q.2 h
          exact sl_lst pa (lenA_few la) (by rw [sizeLine_eq]; omega)
        · cases h
      · split at h
        · rename_i q
          exact cCallL_ok o q (fun n hn => cAs_ok rE _ n q hn) h
        · cases h
      · rename_i elt tg iter ifs scope p
        split at h
        · rename_i qs
          rw [Option.bind_eq_some_iff] at h
          obtain ⟨⟨t, vs⟩, ht, h⟩ := h
          split at h
          · rename_i q
            simp only [Option.bind_eq_some_iff, Option.map_eq_some_iff] at h
            obtain ⟨it, hit, tt, htt, m', hm, rfl⟩ := h
            have hb := blkOk_by q.1
            have ho := own_map c vs
            have := sl_lc (W := W) (g := g) (elt := elt) (ifs := ifs) (pos := p) (it := it) (t := t) (c := tt) (m := m') (own := ownFor c vs) (X := X) (tg := tg) (iter := iter) (scope := scope) o.calm o.nd (cIt_ok o rE hit) (by rw [o.N, o.sc]; exact hb)
              (fun s H C cl fp => by rw [ho]; exact (cG_ok (blk_ok o q.2 s H C cl fp) n tg t vs ht).1)
              (fun s H C cl fp => cIfs_ok (fun e m h => ihB _ g W0 _ e m (blk_ok o q.2 s H C cl fp) h) htt)
              (fun s H C cl fp => ihE _ g W0 _ elt m' (blk_ok o q.2 s H C cl fp) hm) (fun x => noSet_folded qs)
            rw [ho] at this
            exact this
          · cases h
        · cases h
      · rename_i elt tg iter ifs tg1 iter1 ifs1 scope p
        split at h
        · rename_i qs
          simp only [Option.bind_eq_some_iff] at h
          obtain ⟨⟨t, vs⟩, ht, ⟨t1, vs1⟩, ht1, h⟩ := h
          split at h
          · rename_i q
            simp only [Option.bind_eq_some_iff, Option.map_eq_some_iff] at h
            obtain ⟨it, hit, tt, htt, it1, hit1, tt1, htt1, m', hm, rfl⟩ := h
            have hb := blkOk_by q.1
            have ho := own_map c (vs ++ vs1)
            have bk := fun s H C cl fp => blk_ok o q.2 s H C cl fp
            have := sl_lc2 (W := W) (g := g) (elt := elt) (ifs := ifs) (pos := p) (it := it) (t := t) (c := tt) (m := m') (own := ownFor c (vs ++ vs1)) (X := X) (tg := tg) (iter := iter) (scope := scope) (v0 := vs) (v1 := vs1) (tg1 := tg1) (iter1 := iter1) (ifs1 := ifs1) (it1 := it1) (t1 := t1) (c1 := tt1)
              o.calm o.nd (cIt_ok o rE hit) (by rw [o.N, o.sc]; exact hb) (by rw [ho]; simp +contextual) (by rw [ho]; simp +contextual)
              (fun s H C cl fp => ⟨(cG_ok (bk s H C cl fp) n tg t vs ht).1, cIfs_ok (fun e m h => ihB _ g W0 _ e m (bk s H C cl fp) h) htt, cIt_ok (bk s H C cl fp) (fun e m h => ihE _ g W0 _ e m (bk s H C cl fp) h) hit1,
                (cG_ok (bk s H C cl fp) n tg1 t1 vs1 ht1).1, cIfs_ok (fun e m h => ihB _ g W0 _ e m (bk s H C cl fp) h) htt1, ihE _ g W0 _ elt m' (bk s H C cl fp) hm⟩) (fun x => noSet_folded qs.1) (fun env x => noSet_folded qs.2)
            rw [ho] at this
            exact this
          · cases h
        · cases h
      · rename_i elt tg iter ifs tg1 iter1 ifs1 tg2 iter2 ifs2 scope p
        split at h
        · rename_i qs
          simp only [Option.bind_eq_some_iff] at h
          obtain ⟨⟨t, vs⟩, ht, ⟨t1, vs1⟩, ht1, ⟨t2, vs2⟩, ht2, h⟩ := h
          split at h
          · rename_i q
            simp only [Option.bind_eq_some_iff, Option.map_eq_some_iff] at h
            obtain ⟨it, hit, tt, htt, it1, hit1, tt1, htt1, it2, hit2, tt2, htt2, m', hm, rfl⟩ := h
            have hb := blkOk_by q.1
            have ho := own_map c (vs ++ (vs1 ++ vs2))
            have bk := fun s H C cl fp => blk_ok o q.2 s H C cl fp
            have := sl_lc3 (W := W) (g := g) (elt := elt) (ifs := ifs) (pos := p) (it := it) (t := t) (c := tt) (m := m') (own := ownFor c (vs ++ (vs1 ++ vs2))) (X := X) (tg := tg) (iter := iter) (scope := scope) (v0 := vs) (v1 := vs1 ++ vs2) (w1 := vs1) (v2 := vs2) (tg1 := tg1) (iter1 := iter1) (ifs1 := ifs1) (it1 := it1) (t1 := t1) (c1 := tt1) (tg2 := tg2) (iter2 := iter2) (ifs2 := ifs2) (it2 := it2) (t2 := t2) (c2 := tt2)
              o.calm o.nd (cIt_ok o rE hit) (by rw [o.N, o.sc]; exact hb) (by rw [ho]; simp +contextual) (by rw [ho]; simp +contextual) (by simp +contextual) (by simp +contextual)
              (fun s H C cl fp => ⟨(cG_ok (bk s H C cl fp) n tg t vs ht).1, cIfs_ok (fun e m h => ihB _ g W0 _ e m (bk s H C cl fp) h) htt, cIt_ok (bk s H C cl fp) (fun e m h => ihE _ g W0 _ e m (bk s H C cl fp) h) hit1,
                (cG_ok (bk s H C cl fp) n tg1 t1 vs1 ht1).1, cIfs_ok (fun e m h => ihB _ g W0 _ e m (bk s H C cl fp) h) htt1, cIt_ok (bk s H C cl fp) (fun e m h => ihE _ g W0 _ e m (bk s H C cl fp) h) hit2,
                (cG_ok (bk s H C cl fp) n tg2 t2 vs2 ht2).1, cIfs_ok (fun e m h => ihB _ g W0 _ e m (bk s H C cl fp) h) htt2, ihE _ g W0 _ elt m' (bk s H C cl fp) hm⟩) (fun x => noSet_folded qs.1) (fun env x => noSet_folded qs.2.1) (fun env x => noSet_folded qs.2.2)
            rw [ho] at this
            exact this
          · cases h
        · cases h
      · cases h
end BK

/-! BkN: statements and defs from the row's syntax -/
namespace BK
open PySem PySem.Spec PyProof.Rows L2 RZ

def noComp : Expr → Bool
  | .ListComp _ _ _ _ => false
  | .SetComp _ _ _ _ => false
  | .DictComp _ _ _ _ _ => false
  | _ => true
def noTup : Expr → Bool
  | .Tuple _ _ _ => false
  | _ => true
theorem noComp_swaps {e : Expr} (h : noComp e = true) {t : Option Expr} {l : Nat} {env : PySem.Env} : swapsWith e t l env = pure false := by
  cases e <;> first | rfl | (simp [noComp] at h)
theorem noTup_stores {e : Expr} (h : noTup e = true) {ts : List Expr} {env : PySem.Env} : swappedStores ts e env = pure none := by
  cases e <;> first | (simp [noTup] at h; done) | (cases ts with
    | nil => rfl
    | cons t r => cases r <;> cases t <;> rfl)
theorem one_store {tg : Expr} (h : isStar tg = false) {env : PySem.Env} : (assignEach [tg] env).map (·.2) = [assign tg env] := by
  cases tg <;> first | rfl | (simp [isStar] at h)
/-! ### a, b = x, y -/
/-- whether the stores are swapped: the names -/
def swN (sc : Scope) (ts vs : List Expr) : Option (Option (List Str)) :=
  if !(ts.length == 2 || ts.length == 3) || vs.length != ts.length then some none
  else if (vs.any fun | .Starred .. => true | _ => false) = true then some none
  else
    let line := (ts.head?.map (·.pos.line)).getD 0
    let names := ts.filterMap fun
      | .Name id pos => if sc.names.lookup id == some .local && pos.line == line then some id else none
      | _ => none
    if (names.length != ts.length || names.eraseDups.length != names.length) = true then some none
    else if vs.all (foldedForSure 8) = true then some none
    else if vs.all (constantsAlone 8) = true then none
    else some (some names)
theorem swN_ok {sc : Scope} {ts vs : List Expr} {r : Option (List Str)} (h : swN sc ts vs = some r) {env : PySem.Env} (hs : env.scope = sc) (hk : sc.kind = .function) {k k2 : Nat} {p p2 : Pos} : swappedStores [.Tuple ts k p] (.Tuple vs k2 p2) env = pure r := by
  have hb : env.blockKind = .function := by
    unfold PySem.Env.blockKind
    rw [hs, hk]
    rfl
  subst hs
  unfold swN at h
  unfold swappedStores
  show (if (!(ts.length == 2 || ts.length == 3) || vs.length != ts.length || env.blockKind != .function) = true then (pure none : Sem (Option (List Str))) else _) = _
  rw [hb]
  have e0 : ((ScopeKind.function != ScopeKind.function) : Bool) = false := by decide
  rw [e0, Bool.or_false]
  split at h
  · rename_i q
    cases h
    exact if_pos q
  · rename_i q
    rw [if_neg q]
    split at h
    · rename_i q2
      cases h
      exact if_pos q2
    · rename_i q2
      refine (if_neg q2).trans ?_
      dsimp only at h
      split at h
      · rename_i q3
        cases h
        exact if_pos q3
      · rename_i q3
        refine (if_neg q3).trans ?_
        split at h
        · rename_i q4
          cases h
          exact if_pos q4
        · rename_i q4
          refine (if_neg q4).trans ?_
          split at h
          · cases h
          · rename_i q5
            cases h
            exact if_neg q5
end BK

/-! BkO: statements from the row's syntax -/
namespace BK
open PySem PySem.Spec PyProof.Rows L2 RZ

section
variable {c : Cs} {g : Gx} {W : WX} {X : Cx} {fr : Bool}
/-! ### stores of two and three names at once -/
theorem tPar_of {n : AM} {i j : Nat} {D : Ends} {σ : L2.St} {H : Hp} (h : tS g W fr (sAsg (gTp (gsCons (gNm i) (gsCons (gNm j) gsNil))) (mTup n)) D σ H) : tPar i j (tA g W n) D σ H := by
  obtain ⟨F0, μ0, H0, B, F, μ, ρ, st, o, h⟩ := h
  refine ⟨F, μ, st, viewH ρ, o.w, o.en.viewH, ?_⟩
  unfold sAsg mTup at h
  cases q : n (viewH ρ) st with
  | bad => rw [q] at h; exact h.elim
  | exn cn fs s1 => rw [q] at h; exact fun F' μ' H' cls d e w x => h cls d σ F' μ' H' w (o.e.trans e) x
  | ok xs st1 =>
    rw [q] at h
    intro F1 μ1 H1 e1 w1 vs rvs
    have o1 := o.ext e1 w1
    match xs, rvs with
    | [], _ => exact h.elim
    | [_], _ => exact h.elim
    | _ :: _ :: _ :: _, _ => exact h.elim
    | [x, y], .cons rx (.cons ry .nil) => exact ⟨_, _, rfl, h _ F1 μ1 H1 ((o1.set rx).set ry)⟩
theorem tPar3_of {n : AM} {i j l : Nat} {D : Ends} {σ : L2.St} {H : Hp} (h : tS g W fr (sAsg (gTp (gsCons (gNm i) (gsCons (gNm j) (gsCons (gNm l) gsNil)))) (mTup n)) D σ H) : tPar3 i j l (tA g W n) D σ H := by
  obtain ⟨F0, μ0, H0, B, F, μ, ρ, st, o, h⟩ := h
  refine ⟨F, μ, st, viewH ρ, o.w, o.en.viewH, ?_⟩
  unfold sAsg mTup at h
  cases q : n (viewH ρ) st with
  | bad => rw [q] at h; exact h.elim
  | exn cn fs s1 => rw [q] at h; exact fun F' μ' H' cls d e w x => h cls d σ F' μ' H' w (o.e.trans e) x
  | ok xs st1 =>
    rw [q] at h
    intro F1 μ1 H1 e1 w1 vs rvs
    have o1 := o.ext e1 w1
    match xs, rvs with
    | [], _ => exact h.elim
    | [_], _ => exact h.elim
    | [_, _], _ => exact h.elim
    | _ :: _ :: _ :: _ :: _, _ => exact h.elim
    | [x, y, z], .cons rx (.cons ry (.cons rz .nil)) => exact ⟨_, _, _, rfl, h _ F1 μ1 H1 (((o1.set rx).set ry).set rz)⟩
theorem sw_names {X : Cx} {sc : Scope} {ts vs : List Expr} {ns : List Str} (h : swN sc ts vs = some (some ns)) : (∀ x ∈ ns, sc.names.lookup x = some .local) ∧ (ts.filterMap fun
      | .Name id pos => if sc.names.lookup id == some .local && pos.line == (ts.head?.map (·.pos.line)).getD 0 then some id else none
      | _ => none) = ns ∧ ns.length = ts.length ∧ ns.eraseDups.length = ns.length ∧ vs.length = ts.length ∧ vs.any isStar = false := by
  unfold swN at h
  split at h
  · cases h
  rename_i q1
  split at h
  · cases h
  rename_i q2
  dsimp only at h
  split at h
  · cases h
  rename_i q3
  split at h
  · cases h
  split at h
  · cases h
  simp only [Option.some.injEq] at h
  rw [h] at q3
  simp only [Bool.or_eq_true, bne_iff_ne, ne_eq, not_or, Decidable.not_not] at q3
  refine ⟨fun x hx => ?_, h, q3.1, q3.2, ?_, ?_⟩
  · rw [← h, List.mem_filterMap] at hx
    obtain ⟨e, _, he⟩ := hx
    cases e <;> simp only at he <;> try (cases he; done)
    split at he
    · rename_i k
      cases he
      simp only [Bool.and_eq_true, beq_iff_eq] at k
      exact k.1
    · cases he
  · simp only [Bool.or_eq_true, bne_iff_ne, ne_eq, not_or, Decidable.not_not] at q1
    exact q1.2
  · rw [List.any_eq_false]
    intro e he
    have q2' := (List.any_eq_false.mp (Bool.eq_false_iff.mpr q2)) e he
    cases e <;> first | exact q2' | (intro hh; exact absurd hh (by decide)) | (intro hh; cases hh)
/-! ### a comprehension's parts -/
theorem lc_parts (o : CxOk c g W X) {n : Nat} {elt tg iter : Expr} {ifs : List Expr} {scope : Scope} {p : Pos} {m : AM} (h : cL (n + 1) c (.ListComp elt [⟨tg, iter, ifs, 0⟩] scope p) = some m) :
    ∃ it vs t tt m', m = aLc it vs t tt m' ∧ PI X tg iter (tI g W it) ∧ BlkOk X.N X.env.scope scope (ownFor c vs) ∧
      (∀ (s : Shared) (H : Hp) (C : Addr) (cl : List (Str × Addr)) (fp : List Addr), PG (X.blk s H scope (compEnvC scope cl C X.env) fp) tg (tG g vs t)) ∧
      (∀ (s : Shared) (H : Hp) (C : Addr) (cl : List (Str × Addr)) (fp : List Addr), PTs (X.blk s H scope (compEnvC scope cl C X.env) fp) ifs (tT g W0 tt)) ∧
      (∀ (s : Shared) (H : Hp) (C : Addr) (cl : List (Str × Addr)) (fp : List Addr), PE (X.blk s H scope (compEnvC scope cl C X.env) fp) elt (tE g W0 m')) ∧ ∀ x, foldedSetIterable iter X.env x = pure x := by
  obtain ⟨ihE, ihB, ihL⟩ := expr_ok n
  have rE := fun e m h => ihE c g W X e m o h
  unfold cL at h
  simp only at h
  split at h
  · rename_i qs
    rw [Option.bind_eq_some_iff] at h
    obtain ⟨⟨t, vs⟩, ht, h⟩ := h
    split at h
    · rename_i q
      simp only [Option.bind_eq_some_iff, Option.map_eq_some_iff] at h
      obtain ⟨it, hit, tt, htt, m', hm, rfl⟩ := h
      have hb := blkOk_by q.1
      exact ⟨it, vs, t, tt, m', rfl, cIt_ok o rE hit, by rw [o.N, o.sc]; exact hb, fun s H C cl fp => (cG_ok (blk_ok o q.2 s H C cl fp) n tg t vs ht).1,
        fun s H C cl fp => cIfs_ok (fun e m h => ihB _ g W0 _ e m (blk_ok o q.2 s H C cl fp) h) htt, fun s H C cl fp => ihE _ g W0 _ elt m' (blk_ok o q.2 s H C cl fp) hm, fun x => noSet_folded qs⟩
    · cases h
  · cases h
theorem tFz_of {n : AM} {σ : L2.St} {H : Hp} {Q : VK} (h : tE g W (mFz n) σ H Q) : tL g W n σ H Q := by
  obtain ⟨F, μ, st, ρ, w, en, h⟩ := h
  unfold mFz at h
  refine ⟨F, μ, st, ρ, w, en, ?_⟩
  cases q : n ρ st with
  | bad => rw [q] at h; exact h.elim
  | exn c fs s1 => rw [q] at h; exact h
  | ok xs st1 =>
    rw [q] at h
    intro F1 μ1 H1 e1 w1 a vs h0 hF hm hH hl r
    obtain ⟨e2, w2, q2, s2⟩ := Wok.freeze e1 w1 h0 hF hm hH
    exact h _ _ _ e2 w2 _ (.lst q2 hl (Reps.mono s2 ⟨[], by simp⟩ _ _ r))
/-- name = [..] on one line, the name a local one -/
theorem lc_set (o : CxOk c g W X) {n i : Nat} {y : Str} {py spos : Pos} {elt tg iter : Expr} {ifs : List Expr} {scope : Scope} {p : Pos} {m : AM} (h : cL (n + 1) c (.ListComp elt [⟨tg, iter, ifs, 0⟩] scope p) = some m) (hy : X.N[i]? = some y) (hyl : X.env.scope.names.lookup y = some .local)
    (hsw : swapsWith (.ListComp elt [⟨tg, iter, ifs, 0⟩] scope p) (some (.Name y py)) spos.line X.env = pure true) :
    PS X (.Assign [.Name y py] (.ListComp elt [⟨tg, iter, ifs, 0⟩] scope p) spos) (tAsg (tL g W m) (gName i)) := by
  obtain ⟨it, vs, t, tt, m', rfl, h1, h2, h3, h4, h5, h6⟩ := lc_parts o h
  have hv := own_map c vs
  refine PS.mono (ps_setLc (i := i) (g := tG g vs t) (tt := tT g W0 tt) (te := tE g W0 m') (own := ownFor c vs) o.calm o.nd hy hyl hsw h1 h2 h3 h4 h5 h6) fun D σ H h => ?_
  rw [hv]
  exact tLc_of (fun _ _ _ h => h) (fun _ _ _ h => h) (fun _ _ _ h => h) h
end
/-- name = a comprehension: none (not served), or whether the store is a part of it -/
def swC (c : Cs) (x : Str) (px : Pos) : Expr → Option Bool
  | .ListComp _ [_] scope pos => if c.sc.names.lookup x = some .local ∧ (px.line == pos.line) = true ∧ (scope.names.any fun (n, k) => n == x && (k == .local || k == .cell)) = false then some true
    else if (c.sc.names.lookup x == some .local && px.line == pos.line && !(scope.names.any fun (n, k) => n == x && (k == .local || k == .cell))) = false then some false else none
  | e => if noComp e = true then some false else none
def cAsgN (n : Nat) (c : Cs) (x : Str) (px : Pos) (e : Expr) : Option SM := (tgtOf c x).bind fun i => (swC c x px e).bind fun _ =>
  if c.sto.contains i = true then (if noComp e = true then (cL n c e).map (sNew i) else none)
  else if c.mts.contains i = true then match cL n c e with
    | some m => some (sOwn i m)
    | none => if noComp e = true then (cE n c e).map (sSet i) else none
  else if noComp e = true then (cE n c e).map (sSet i) else (cL n c e).map fun m => sSet i (mFz m)
def frzOf (c : Cs) : Stmt → List Nat
  | .Assign [.Name _ _] (.Name y _) _ => ((slotOf c y).filter c.mts.contains).toList
  | .For _ (.Name y _) _ _ _ => ((slotOf c y).filter c.mts.contains).toList
  | _ => []
section
variable {c : Cs} {g : Gx} {W : WX} {X : Cx} {fr : Bool}
theorem swC_ok (o : CxOk c g W X) {x : Str} {px : Pos} {e : Expr} {b : Bool} (h : swC c x px e = some b) {l : Nat} : swapsWith e (some (.Name x px)) l X.env = pure b ∧ (b = true → X.env.scope.names.lookup x = some .local ∧ ∃ elt tg iter ifs z scope p, e = .ListComp elt [⟨tg, iter, ifs, z⟩] scope p) := by
  unfold swC at h
  split at h
  · rename_i elt gn scope pos
    split at h
    · rename_i q
      cases h
      have hl : X.env.scope.names.lookup x = some .local := by rw [o.sc]; exact q.1
      refine ⟨sw_true (by rw [o.sc]; exact o.kind) hl q.2.1 q.2.2, fun _ => ⟨hl, ?_⟩⟩
      obtain ⟨tg, iter, ifs, z⟩ := gn
      exact ⟨_, _, _, _, _, _, _, rfl⟩
    · split at h
      · rename_i q
        cases h
        refine ⟨?_, fun z => by cases z⟩
        have e1 : swapsWith (.ListComp elt [gn] scope pos) (some (.Name x px)) l X.env = pure (X.env.blockKind == .function && X.env.kindOf x == some .local && px.line == pos.line && !(scope.names.any fun (n, k) => n == x && (k == .local || k == .cell))) := by rfl
        rw [e1]
        have hb : X.env.blockKind = .function := by
          unfold PySem.Env.blockKind
          rw [o.sc, o.kind]
          rfl
        have hk : X.env.kindOf x = c.sc.names.lookup x := by
          show X.env.scope.names.lookup x = _
          rw [o.sc]
        rw [hb, hk]
        have e2 : ((ScopeKind.function == ScopeKind.function) : Bool) = true := by decide
        rw [e2, Bool.true_and, q]
      · cases h
  · split at h
    · rename_i q
      cases h
      exact ⟨noComp_swaps q, fun z => by cases z⟩
    · cases h
theorem cAsgN_ok (o : CxOk c g W X) {n : Nat} {x : Str} {px pos : Pos} {e : Expr} {m : SM} (h : cAsgN n c x px e = some m) : PS X (.Assign [.Name x px] e pos) (tS g W fr m) := by
  obtain ⟨ihE, ihB, ihL⟩ := expr_ok n
  unfold cAsgN at h
  simp only [Option.bind_eq_some_iff] at h
  obtain ⟨i, hi, b, hb, h⟩ := h
  obtain ⟨h1, h2, h3⟩ := tgtOf_some o hi
  obtain ⟨s1, s2⟩ := swC_ok o hb (l := pos.line)
  have viaL : ∀ {f : AM → SM}, (∀ m D σ H, tS g W fr (f m) D σ H → tAsg (tL g W m) (gName i) D σ H) → ∀ m, cL n c e = some m → PS X (.Assign [.Name x px] e pos) (tS g W fr (f m)) := by
    intro f hf m hm
    cases b with
    | false => exact PS.mono (ps_set o.nd h1 h2 (ihL c g W X e m o hm) s1 h3) fun _ _ _ h => hf m _ _ _ h
    | true =>
      obtain ⟨hl, elt, tg, iter, ifs, z, scope, p, rfl⟩ := s2 rfl
      cases n with
      | zero => simp [cL] at hm
      | succ n =>
        by_cases hz : z = 0
        · subst hz
          exact PS.mono (lc_set o hm h1 hl s1) fun _ _ _ h => hf m _ _ _ h
        · exfalso
          unfold cL at hm
          split at hm
          · rename_i q
            cases q
          · rename_i q
            cases q
          · rename_i q
            cases q
            exact hz rfl
          · rename_i q
            cases q
          · rename_i q
            cases q
          · cases hm
  have plain : ∀ {m}, noComp e = true → (cE n c e).map (sSet i) = some m → PS X (.Assign [.Name x px] e pos) (tS g W fr m) := by
    intro m hc hm
    rw [Option.map_eq_some_iff] at hm
    obtain ⟨m', hm, rfl⟩ := hm
    exact s_set o.nd h1 h2 (ihE c g W X e m' o hm) (noComp_swaps hc) h3
  split at h
  · split at h
    · rw [Option.map_eq_some_iff] at h
      obtain ⟨m', hm, rfl⟩ := h
      exact viaL (f := sNew i) (fun _ _ _ _ h => tNew_of h) m' hm
    · cases h
  · split at h
    · split at h
      · rename_i m' hm
        cases h
        exact viaL (f := sOwn i) (fun _ _ _ _ h => tOwn_of h) m' hm
      · split at h
        · rename_i q
          exact plain q h
        · cases h
    · split at h
      · rename_i q
        exact plain q h
      · rw [Option.map_eq_some_iff] at h
        obtain ⟨m', hm, rfl⟩ := h
        exact viaL (f := fun m => sSet i (mFz m)) (fun m D σ H h => tFz_of (tSet_of h)) m' hm
end
end BK

/-! BkP: suites from the row's syntax -/
namespace BK
open PySem PySem.Spec PyProof.Rows L2 RZ

section
variable {X : Cx} {g : Gx} {W : WX} {fr : Bool} {a : SM} {m : BM} {pos : Pos}
theorem s_while {t : Expr} {body : List Stmt} (hp : PassesOwn (model X.prog X.w) X.A X.env X.xe) (hc : PT X t (tT g W m)) (hb : PSs X body (tS g W fr a)) : PS X (.While t body [] pos) (tS g W fr (sWhile m a)) := by
  refine PS.mono (ps_while hp hc hb) fun D σ H h => ?_
  obtain ⟨F0, μ0, H0, B, F, μ, ρ, st, o, h⟩ := h
  refine ⟨fun k σ2 H2 => ∃ F2 μ2 ρ2 st2, SOk g F0 μ0 H0 B F2 μ2 H2 σ2 ρ2 st2 ∧ SPost g W fr F0 μ0 H0 B (whileGo m a k ρ2 st2) D, ⟨wfuel, F, μ, ρ, st, o, h⟩, ?_⟩
  rintro k σ2 H2 ⟨F2, μ2, ρ2, st2, o2, h2⟩
  cases k with
  | zero => exact h2.elim
  | succ k =>
    refine ⟨F2, μ2, st2, viewH ρ2, o2.w, o2.en.viewH, (SPost.of o2 h2).imp fun d st3 F3 μ3 H3 e3 w3 ⟨o3, h3⟩ => ?_⟩
    cases d with
    | false =>
      rw [if_neg Bool.false_ne_true] at h3 ⊢
      exact h3 _ _ _ _ o3
    | true =>
      rw [if_pos rfl] at h3 ⊢
      refine ⟨fun σ' H' => ∃ F2 μ2 ρ2 st2, SOk g F0 μ0 H0 B F2 μ2 H' σ' ρ2 st2 ∧ SPost g W fr F0 μ0 H0 B (whileGo m a k ρ2 st2) D, fun σ' H' h' => ⟨k, Nat.lt_succ_self k, h'⟩, F0, μ0, H0, B, F3, μ3, ρ2, st3, o3, ?_⟩
      cases q : a ρ2 st3 with
      | nx ρ1 st4 =>
        rw [q] at h3
        exact fun σ' F' μ' H' oo => ⟨F', μ', ρ1, st4, oo, h3⟩
      | ct ρ1 st4 =>
        rw [q] at h3
        exact fun σ' F' μ' H' oo => ⟨F', μ', ρ1, st4, oo, h3⟩
      | brk ρ1 st4 => rw [q] at h3; exact h3
      | ret x st4 => rw [q] at h3; exact h3
      | exn cn fs st4 => rw [q] at h3; exact h3
      | bad => rw [q] at h3; exact h3
end
/-! ### statements -/
def augOf : Operator → Option (PV → PV → Option PV)
  | .Add => some augAdd
  | .Sub => some augSub
  | _ => none
def frzs : List Nat → SM → SM
  | [], m => m
  | i :: r, m => sSeq (sFrz i) (frzs r m)
def cSsW (rec : Stmt → Option SM) (c : Cs) : List Stmt → Option SM
  | [] => some sNil
  | s :: r => (rec s).bind fun a => (cSsW rec c r).map fun b => frzs (frzOf c s) (sSeq a b)
/-- a, b = x, y -/
def cTup (n : Nat) (c : Cs) (ts vs : List Expr) (k : Nat) (p : Pos) (k2 : Nat) (p2 : Pos) : Option SM := match swN c.sc ts vs with
  | none => none
  | some none => (cG n c (.Tuple ts k p)).bind fun t => (cE n c (.Tuple vs k2 p2)).map fun m => sAsg t.1 m
  | some (some _) => match ts, vs with
    | [.Name x _, .Name y _], [a, b] => (tgtOf c x).bind fun i => (tgtOf c y).bind fun j => if i ≠ j ∧ [a, b].any isStar = false then (cAs (cE n c) [a, b]).map fun m => sAsg (gTp (gsCons (gNm i) (gsCons (gNm j) gsNil))) (mTup m) else none
    | [.Name x _, .Name y _, .Name z _], [a, b, d] => (tgtOf c x).bind fun i => (tgtOf c y).bind fun j => (tgtOf c z).bind fun l => if i ≠ j ∧ i ≠ l ∧ j ≠ l ∧ [a, b, d].any isStar = false then
      (cAs (cE n c) [a, b, d]).map fun m => sAsg (gTp (gsCons (gNm i) (gsCons (gNm j) (gsCons (gNm l) gsNil)))) (mTup m) else none
    | _, _ => none
def isTup : Expr → Bool
  | .Tuple _ _ _ => true
  | _ => false
/-- a store: name, tuple, part of a store object, pop -/
def cAsg (n : Nat) (c : Cs) (tg e : Expr) (pos : Pos) : Option SM := match e with
  | .Call (.Attribute (.Name x _) y apos) [] [] cpos => if y = ("pop" : Str) ∧ (apos.endLine == cpos.line) = true ∧ isStar tg = false then (slotOf c x).bind fun i => (cG n c tg).map fun t => sPop i t.1 else none
  | e => match tg with
    | .Name x px => cAsgN n c x px e
    | .Tuple ts k p => match e with
      | .Tuple vs k2 p2 => cTup n c ts vs k p k2 p2
      | e => if noComp e = true ∧ noTup e = true then (cG n c (.Tuple ts k p)).bind fun t => (cE n c e).map fun m => sAsg t.1 m else none
    | .Subscript o i _ => if noComp e = true ∧ noTup e = true ∧ noSlice i = true then (cE n c e).bind fun mv => (cE n c o).bind fun mo => (cE n c i).map fun mi => sPut mo mi mv else none
    | _ => none
def cS : Nat → Cs → Stmt → Option SM
  | 0, _, _ => none
  | n + 1, c, s => match s with
    | .Pass _ => some sNil
    | .Break _ => some sBrk
    | .Continue _ => some sCt
    | .Expr e _ => match e with
      | .Constant (.str _) _ _ => some sNil
      | .Call (.Attribute (.Name x _) y apos) [e] [] cpos => if (apos.endLine == cpos.line) = true ∧ isStar e = false then (slotOf c x).bind fun i =>
          if y = ("append" : Str) then (cE n c e).map (sApp i) else if y = ("extend" : Str) then (cE n c e).map (sExt i) else none else none
      | e => if noComp e = true then (cE n c e).map sDrop else none
    | .Return none _ => if c.fr = false then some sRetN else none
    | .Return (some e) _ => if c.fr = true then (match e with
        | .Name x _ => (slotOf c x).map sRetOwn
        | e => (cL n c e).map sRetL) else (cE n c e).map sRet
    | .If t a b _ => (cB n c t).bind fun mt => (cSsW (cS n c) c a).bind fun ma => (cSsW (cS n c) c b).map fun mb => sIf mt ma mb
    | .Assign [tg] e pos => cAsg n c tg e pos
    | .AugAssign (.Name x _) op e _ => (tgtOf c x).bind fun i => (augOf op).bind fun f => (cE n c e).map fun m => sAug i f m
    | .For tg iter body [] _ => if noSet iter = true then (cG n c tg).bind fun t => (cIt c tg (cE n c) iter).bind fun it => (cSsW (cS n c) c body).map fun a => sFor t.1 it a else none
    | .While t body [] _ => (cB n c t).bind fun m => (cSsW (cS n c) c body).map fun a => sWhile m a
    | _ => none
def cSs (n : Nat) (c : Cs) (ss : List Stmt) : Option SM := cSsW (cS n c) c ss
section
variable {c : Cs} {g : Gx} {W : WX} {X : Cx} {fr : Bool}
theorem frzs_ok : ∀ (l : List Nat) {ss : List Stmt} {m : SM}, PSs X ss (tS g W fr m) → PSs X ss (tS g W fr (frzs l m))
  | [], _, _, h => h
  | i :: r, _, _, h => ss_frz i (frzs_ok r h)
theorem cSsW_ok {rec : Stmt → Option SM} (hr : ∀ s m, rec s = some m → PS X s (tS g W fr m)) : ∀ (ss : List Stmt) (m : SM), cSsW rec c ss = some m → PSs X ss (tS g W fr m)
  | [], m, h => by
    simp only [cSsW, Option.some.injEq] at h
    rw [← h]
    exact ss_nil
  | s :: r, m, h => by
    simp only [cSsW, Option.bind_eq_some_iff, Option.map_eq_some_iff] at h
    obtain ⟨a, ha, b, hb, rfl⟩ := h
    exact frzs_ok _ (ss_cons (hr s a ha) (cSsW_ok hr r b hb))
theorem cTup_ok (o : CxOk c g W X) {n : Nat} {ts vs : List Expr} {k k2 : Nat} {p p2 pos : Pos} {m : SM} (h : cTup n c ts vs k p k2 p2 = some m) : PS X (.Assign [.Tuple ts k p] (.Tuple vs k2 p2) pos) (tS g W fr m) := by
  obtain ⟨ihE, ihB, ihL⟩ := expr_ok n
  unfold cTup at h
  split at h
  · cases h
  · rename_i q
    simp only [Option.bind_eq_some_iff, Option.map_eq_some_iff] at h
    obtain ⟨⟨t, ws⟩, ht, m', hm, rfl⟩ := h
    obtain ⟨g1, g2⟩ := cG_ok o n _ t ws ht
    exact s_asg g2 (ihE c g W X _ m' o hm) g1 rfl (swN_ok q o.sc o.kind) rfl
  · rename_i ns q
    have hw : swappedStores [.Tuple ts k p] (.Tuple vs k2 p2) X.env = pure (some ns) := swN_ok q o.sc o.kind
    obtain ⟨n1, n2, n3, n4, n5, n6⟩ := sw_names (X := X) q
    split at h
    · rename_i x px y py a b
      simp only [Option.bind_eq_some_iff] at h
      obtain ⟨i, hi, j, hj, h⟩ := h
      split at h
      · rename_i hij
        rw [Option.map_eq_some_iff] at h
        obtain ⟨m', hm, rfl⟩ := h
        obtain ⟨i1, _, _⟩ := tgtOf_some o hi
        obtain ⟨j1, _, _⟩ := tgtOf_some o hj
        have hns : ns = [x, y] := by
          have hle := List.length_filterMap_le (fun (e : Expr) => match e with
            | .Name id pos => if c.sc.names.lookup id == some .local && pos.line == (([Expr.Name x px, Expr.Name y py] : List Expr).head?.map (·.pos.line)).getD 0 then some id else none
            | _ => none) [Expr.Name x px, Expr.Name y py]
          rw [← n2]
          rw [← n2] at n3
          simp only [List.filterMap_cons, List.filterMap_nil] at n3 ⊢
          split at n3 <;> split at n3 <;> simp_all
        subst hns
        exact PS.mono (ps_par o.calm o.nd i1 j1 hij.1 (by rw [o.sc]; exact n1 x (by simp)) (by rw [o.sc]; exact n1 y (by simp)) (cAs_ok (fun e m h => ihE c g W X e m o h) [a, b] m' hij.2 hm).1 hw) fun D σ H h => tPar_of h
      · cases h
    · rename_i x px y py z pz a b d
      simp only [Option.bind_eq_some_iff] at h
      obtain ⟨i, hi, j, hj, l, hl, h⟩ := h
      split at h
      · rename_i hij
        rw [Option.map_eq_some_iff] at h
        obtain ⟨m', hm, rfl⟩ := h
        obtain ⟨i1, _, _⟩ := tgtOf_some o hi
        obtain ⟨j1, _, _⟩ := tgtOf_some o hj
        obtain ⟨l1, _, _⟩ := tgtOf_some o hl
        have hns : ns = [x, y, z] := by
          rw [← n2]
          rw [← n2] at n3
          simp only [List.filterMap_cons, List.filterMap_nil] at n3 ⊢
          split at n3 <;> split at n3 <;> split at n3 <;> simp_all
        subst hns
        exact PS.mono (ps_par3 o.calm o.nd i1 j1 l1 hij.1 hij.2.1 hij.2.2.1 (by rw [o.sc]; exact n1 x (by simp)) (by rw [o.sc]; exact n1 y (by simp)) (by rw [o.sc]; exact n1 z (by simp)) (cAs_ok (fun e m h => ihE c g W X e m o h) [a, b, d] m' hij.2.2.2 hm).1 hw) fun D σ H h => tPar3_of h
      · cases h
    · cases h
theorem cAsg_ok (o : CxOk c g W X) {n : Nat} {tg e : Expr} {pos : Pos} {m : SM} (h : cAsg n c tg e pos = some m) : PS X (.Assign [tg] e pos) (tS g W fr m) := by
  obtain ⟨ihE, ihB, ihL⟩ := expr_ok n
  unfold cAsg at h
  split at h
  · rename_i x xp y apos cpos
    split at h
    · rename_i q
      obtain ⟨rfl, q2, q3⟩ := q
      simp only [Option.bind_eq_some_iff, Option.map_eq_some_iff] at h
      obtain ⟨i, hi, ⟨t, ws⟩, ht, rfl⟩ := h
      obtain ⟨h1, h2, h3, h4⟩ := slotOf_some o hi
      obtain ⟨g1, g2⟩ := cG_ok o n _ t ws ht
      exact s_pop g2 h1 h2 h3 h4 g1 q2 (one_store q3) rfl (noTup_stores rfl)
    · cases h
  · split at h
    · exact cAsgN_ok o h
    · split at h
      · exact cTup_ok o h
      · split at h
        · rename_i q
          simp only [Option.bind_eq_some_iff, Option.map_eq_some_iff] at h
          obtain ⟨⟨t, ws⟩, ht, m', hm, rfl⟩ := h
          obtain ⟨g1, g2⟩ := cG_ok o n _ t ws ht
          exact s_asg g2 (ihE c g W X _ m' o hm) g1 (by unfold swapsWithSole; exact noComp_swaps q.1) (noTup_stores q.2) rfl
        · cases h
    · rename_i oo ii tpos
      split at h
      · rename_i q
        simp only [Option.bind_eq_some_iff, Option.map_eq_some_iff] at h
        obtain ⟨mv, h1, mo, h2, mi, h3, rfl⟩ := h
        refine s_put (ihE c g W X _ mo o h2) (ihE c g W X _ mi o h3) (ihE c g W X _ mv o h1) ?_ (by unfold swapsWithSole; exact noComp_swaps q.1) (noTup_stores q.2.1)
        intro v
        have q3 := q.2.2
        cases ii <;> first | rfl | (simp [noSlice] at q3)
      · cases h
    · cases h
theorem aug_ok {op : Operator} {f : PV → PV → Option PV} (h : augOf op = some f) : ∃ k : Int → Int → Int, PIp X op (ipI k) ∧ ∀ a b z, f a b = some z → ∃ i j, a = .int i ∧ b = .int j ∧ z = .int (k i j) := by
  cases op <;> simp only [augOf, Option.some.injEq] at h <;> try (cases h; done)
  · subst h
    refine ⟨_, ip_add, fun a b z hz => ?_⟩
    unfold augAdd at hz
    split at hz
    · cases hz; exact ⟨_, _, rfl, rfl, rfl⟩
    · cases hz
  · subst h
    refine ⟨_, ip_sub, fun a b z hz => ?_⟩
    unfold augSub at hz
    split at hz
    · cases hz; exact ⟨_, _, rfl, rfl, rfl⟩
    · cases hz
theorem cS_ok (o : CxOk c g W X) : ∀ (n : Nat) (s : Stmt) (m : SM), cS n c s = some m → PS X s (tS g W c.fr m)
  | 0, _, _, h => by simp [cS] at h
  | n + 1, s, m, h => by
    obtain ⟨ihE, ihB, ihL⟩ := expr_ok n
    have rE := fun e m h => ihE c g W X e m o h
    have ihS := cSsW_ok (c := c) (cS_ok o n)
    unfold cS at h
    split at h
    · cases h; exact s_pass
    · cases h; exact s_break
    · cases h; exact s_cont
    · split at h
      · cases h; exact s_doc
      · split at h
        · rename_i q
          rw [Option.bind_eq_some_iff] at h
          obtain ⟨i, hi, h⟩ := h
          obtain ⟨h1, h2, h3, h4⟩ := slotOf_some o hi
          split at h
          · rename_i hy
            subst hy
            rw [Option.map_eq_some_iff] at h
            obtain ⟨m', hm, rfl⟩ := h
            exact s_app h1 h2 h3 h4 (rE _ m' hm) q.2 q.1
          · split at h
            · rename_i hy
              subst hy
              rw [Option.map_eq_some_iff] at h
              obtain ⟨m', hm, rfl⟩ := h
              exact s_ext h1 h2 h3 h4 (rE _ m' hm) q.2 q.1
            · cases h
        · cases h
      · split at h
        · rename_i q
          rw [Option.map_eq_some_iff] at h
          obtain ⟨m', hm, rfl⟩ := h
          exact s_drop (rE _ m' hm) (noComp_swaps q)
        · cases h
    · split at h
      · rename_i q
        cases h
        rw [q]
        exact s_retN
      · cases h
    · split at h
      · rename_i q
        rw [q]
        split at h
        · rw [Option.map_eq_some_iff] at h
          obtain ⟨i, hi, rfl⟩ := h
          obtain ⟨h1, h2, h3, h4⟩ := slotOf_some o hi
          exact s_retOwn h1 h2 h3 h4
        · rw [Option.map_eq_some_iff] at h
          obtain ⟨m', hm, rfl⟩ := h
          exact s_retL (ihL c g W X _ m' o hm)
      · rename_i q
        rw [Bool.not_eq_true] at q
        rw [q]
        rw [Option.map_eq_some_iff] at h
        obtain ⟨m', hm, rfl⟩ := h
        exact s_ret (rE _ m' hm)
    · simp only [Option.bind_eq_some_iff, Option.map_eq_some_iff] at h
      obtain ⟨mt, h1, ma, h2, mb, h3, rfl⟩ := h
      exact s_if (ihB c g W X _ mt o h1) (ihS _ ma h2) (ihS _ mb h3)
    · exact cAsg_ok o h
    · simp only [Option.bind_eq_some_iff, Option.map_eq_some_iff] at h
      obtain ⟨i, hi, f, hf, m', hm, rfl⟩ := h
      obtain ⟨h1, h2, h3⟩ := tgtOf_some o hi
      obtain ⟨k, k1, k2⟩ := aug_ok (X := X) hf
      exact s_aug o.nd h1 h2 (rE _ m' hm) k1 h3 k2
    · split at h
      · rename_i q
        simp only [Option.bind_eq_some_iff, Option.map_eq_some_iff] at h
        obtain ⟨⟨t, ws⟩, ht, it, hit, a, ha, rfl⟩ := h
        obtain ⟨g1, g2⟩ := cG_ok o n _ t ws ht
        exact s_for g2 o.own o.calm (cIt_ok o rE hit) g1 (ihS _ a ha) fun x => noSet_folded q
      · cases h
    · simp only [Option.bind_eq_some_iff, Option.map_eq_some_iff] at h
      obtain ⟨mt, h1, ma, h2, rfl⟩ := h
      exact s_while o.own (ihB c g W X _ mt o h1) (ihS _ ma h2)
    · cases h
theorem cSs_ok (o : CxOk c g W X) {n : Nat} {ss : List Stmt} {m : SM} (h : cSs n c ss = some m) : PSs X ss (tS g W c.fr m) := cSsW_ok (cS_ok o n) ss m h
end
end BK

/-! BkT: the table of defs -/
namespace BK
open PySem PySem.Spec PyProof.Rows L2 RZ

/-- a def: its name, its text, the names of its slots, how many are parameters, whether it hands back a new list, its defaults, the slots of own lists, those of store objects -/
structure FD where
  nm : Str
  st : Stmt
  N : List Str
  np : Nat
  fr : Bool
  dfl : List PV
  mts : List Nat
  sto : List Nat
def FD.ps (d : FD) : List Str := d.N.take d.np
def gtab (k : Nat) : List FD → List (Str × GI)
  | [] => []
  | d :: r => (d.nm, .fn k d.np d.fr d.dfl) :: gtab (k + 1) r
structure Tab where
  fds : List FD
  cs : List (Str × PV)
  bl : List Str
def Tab.glob (T : Tab) : List (Str × GI) := gtab 0 T.fds ++ T.cs.map fun p => (p.1, .const p.2)
def Tab.cs1 (T : Tab) (call : Nat → List PV → Sto → Res PV) (d : FD) : Cs := ⟨d.N, defScope d.st, fun _ => true, T.glob, T.bl, call, d.mts, d.sto, d.fr⟩
def cfuel : Nat := 60
def Tab.code (T : Tab) (call : Nat → List PV → Sto → Res PV) (d : FD) : Option SM := cSs cfuel (T.cs1 call d) (defBody d.st)
def slots (N : List Str) (xs : List PV) : SEnv := xs.map Slot.val ++ List.replicate (N.length - xs.length) Slot.no
def endOf (fr : Bool) : SR → Res PV
  | .ret x st => .ok x st
  | .nx _ st => if fr = true then .bad else .ok .non st
  | .exn c fs st => .exn c fs st
  | _ => .bad
/-- one def's body -/
def Tab.run (T : Tab) (call : Nat → List PV → Sto → Res PV) (d : FD) (xs : List PV) (st : Sto) : Res PV := match T.code call d with
  | some m => if xs.length = d.np then endOf d.fr (m (slots d.N xs) st) else .bad
  | none => .bad
/-- the call of the k-th def, n calls deep at most -/
def Tab.call (T : Tab) : Nat → Nat → List PV → Sto → Res PV
  | 0, _, _, _ => .bad
  | n + 1, k, xs, st => match T.fds[k]? with
    | some d => T.run (T.call n) d xs st
    | none => .bad
/-- what the top's heap holds of a def -/
structure FnAt (g : Gx) (mg : Str → Option Value) (d : FD) (f : Addr) (fd : FuncData) : Prop where
  ex : ∃ dvs kws, FunD g.K d.nm d.nm (defArgs d.st) (defBody d.st) (defScope d.st) dvs kws f fd
  sc : FnScope d.N d.ps (defScope d.st)
  np : d.np ≤ d.N.length
  mg : mg d.nm = some (.ref f)
  kp : PySem.W.keepIn g.K (.ref f) = true
  bi : ∀ j, j ≤ d.dfl.length → ∃ dvs ds, Vals dvs ds ∧ Binds g.K fd d.ps ds ∧ ∀ F μ, Reps g.K g.fa F μ dvs (d.dfl.drop j)
structure TabAt (g : Gx) (mg : Str → Option Value) (T : Tab) (fn : Nat → Addr) (fd : Nat → FuncData) : Prop where
  fds : ∀ k d, T.fds[k]? = some d → FnAt g mg d (fn k) (fd k)
  cs : ∀ p ∈ T.cs, ∃ u w, mg p.1 = some u ∧ RelV w u ∧ ∀ F μ, Rep g.K g.fa F μ w p.2
  bl : ∀ x ∈ T.bl, mg x = none
theorem gtab_look : ∀ (l : List FD) (k : Nat) (x : Str) (i : GI), (gtab k l).lookup x = some i → ∃ j d, l[j]? = some d ∧ d.nm = x ∧ i = .fn (k + j) d.np d.fr d.dfl
  | [], _, _, _, h => by simp [gtab] at h
  | d :: r, k, x, i, h => by
    unfold gtab at h
    rw [List.lookup_cons] at h
    cases q : x == d.nm with
    | true =>
      rw [q] at h
      simp only [Option.some.injEq] at h
      exact ⟨0, d, rfl, (by simpa using q : x = d.nm).symm, h.symm⟩
    | false =>
      rw [q] at h
      obtain ⟨j, d', h1, h2, h3⟩ := gtab_look r (k + 1) x i h
      exact ⟨j + 1, d', by simpa using h1, h2, by rw [h3]; congr 1; omega⟩
theorem lookup_app {α : Type} : ∀ {l r : List (Str × α)} {x : Str} {v : α}, (l ++ r).lookup x = some v → l.lookup x = some v ∨ r.lookup x = some v
  | [], _, _, _, h => .inr h
  | (k, w) :: l, r, x, v, h => by
    rw [List.cons_append, List.lookup_cons] at h
    rw [List.lookup_cons]
    cases q : x == k with
    | true => rw [q] at h; exact .inl h
    | false => rw [q] at h; exact lookup_app h
theorem const_look : ∀ {l : List (Str × PV)} {x : Str} {i : GI}, (l.map fun p => (p.1, GI.const p.2)).lookup x = some i → ∃ v, (x, v) ∈ l ∧ i = .const v
  | [], _, _, h => by simp at h
  | (k, w) :: l, x, i, h => by
    rw [List.map_cons, List.lookup_cons] at h
    cases q : x == k with
    | true =>
      rw [q] at h
      simp only [Option.some.injEq] at h
      have e : x = k := by simpa using q
      exact ⟨w, by rw [e]; exact List.mem_cons_self, h.symm⟩
    | false =>
      rw [q] at h
      obtain ⟨v, h1, h2⟩ := const_look h
      exact ⟨v, List.mem_cons_of_mem _ h1, h2⟩
section
variable {g : Gx} {mg : Str → Option Value} {T : Tab} {fn : Nat → Addr} {fd : Nat → FuncData} {P : Program} {w : World} {base : Heap}
theorem slots_start {K : PySem.W.Frag} {N : List Str} {F : Hp} {μ : List Addr} {vs : List V} {xs : List PV} {H0 : Hp} {H : Hp} (r : Reps g.K g.fa F μ vs xs) : SEnvOk g H0 F μ H (L2.start N vs) (slots N xs) := by
  have hl := r.length
  have hi : ∀ {i : Nat} {s : Slot}, (slots N xs)[i]? = some s → (∃ x, xs[i]? = some x ∧ s = .val x ∧ i < xs.length) ∨ s = .no := fun {i s} h => by
    unfold slots at h
    by_cases hx : i < xs.length
    · rw [List.getElem?_append_left (by simpa using hx), List.getElem?_map, Option.map_eq_some_iff] at h
      obtain ⟨x, h1, h2⟩ := h
      exact .inl ⟨x, h1, h2.symm, hx⟩
    · rw [List.getElem?_append_right (by simpa using hx), List.getElem?_replicate] at h
      split at h
      · cases h; exact .inr rfl
      · cases h
  refine ⟨by unfold L2.start slots; simp [hl], fun i x h => ?_, fun i ys h => ?_, fun i j a ys zs h => ?_⟩
  · rcases hi h with ⟨y, h1, h2, h3⟩ | h2
    · cases h2
      obtain ⟨v, h4, h5⟩ := r.get h1
      refine ⟨v, ?_, h5⟩
      unfold L2.start
      rw [List.getElem?_append_left (by simp; omega), List.getElem?_map, h4]
      rfl
    · cases h2
  · rcases hi h with ⟨y, h1, h2, h3⟩ | h2 <;> cases h2
  · rcases hi h with ⟨y, h1, h2, h3⟩ | h2 <;> cases h2
theorem tab_ok (A : TabAt g mg T fn fd) : ∀ (n k : Nat) (d : FD), T.fds[k]? = some d → FnOk P w g.K mg base (L2.CX P w) n (fn k) (fd k) d.ps (spM g (T.call n k) d.fr d.np)
  | 0, k, d, hk => by
    have no : ∀ vs H Q E, ¬ spM g (T.call 0 k) d.fr d.np vs H Q E := fun vs H Q E h => by
      obtain ⟨_, F, μ, st, xs, w, r, h⟩ := h
      exact h
    exact ⟨fun vs H Q E h => absurd h (no vs H Q E), fun A outer s H args us vs Q E _ _ _ _ h => absurd h (no vs H Q E)⟩
  | n + 1, k, d, hk => by
    have B := A.fds k d hk
    obtain ⟨dvs, kws, FD⟩ := B.ex
    have hps : d.ps.length = d.np := by
      unfold BK.FD.ps
      rw [List.length_take]
      exact Nat.min_eq_left B.np
    refine FD.ok B.sc (fun vs H Q E h => by rw [hps]; exact h.1) fun cdv Ar outer s H vs Q E hr h => ?_
    obtain ⟨hv, F, μ, st, xs, wk, r, h⟩ := h
    unfold Tab.call at h
    rw [hk] at h
    simp only at h
    unfold Tab.run at h
    cases q : T.code (T.call n) d with
    | none => rw [q] at h; exact h.elim
    | some m =>
    rw [q] at h
    simp only at h
    by_cases hx : xs.length = d.np
    case neg => rw [if_neg hx] at h; exact h.elim
    rw [if_pos hx] at h
    have o : CxOk (T.cs1 (T.call n) d) g (fun c e _ H' => E c e H') (cxOf (L2.CX P w) P w g.K mg base d.N d.nm (defScope d.st) (fn k) cdv Ar outer s H E) := by
      refine ⟨rfl, rfl, B.sc.nd, rfl, B.sc.kind, rfl, hr.units, takes_of rfl rfl rfl rfl, passes_of rfl, fun _ => rfl, ⟨fun x v hl => ?_, fun x j np fr dfl hl => ?_, fun x hx => A.bl x hx⟩⟩
      · rcases lookup_app hl with hl | hl
        · obtain ⟨j, d', _, _, e⟩ := gtab_look _ _ _ _ hl
          cases e
        · obtain ⟨v', hm, e⟩ := const_look hl
          cases e
          exact A.cs _ hm
      · rcases lookup_app hl with hl | hl
        · obtain ⟨j', d', h1, h2, e⟩ := gtab_look _ _ _ _ hl
          cases e
          rw [Nat.zero_add]
          have C := A.fds j' d' h1
          exact ⟨n, fn j', fd j', d'.ps, hr, by rw [← h2]; exact C.mg, C.kp, tab_ok A n j' d' h1, C.bi⟩
        · obtain ⟨v', hm, e⟩ := const_look hl
          cases e
    refine ⟨_, cSs_ok o q, F, μ, H, (F, μ), F, μ, slots d.N xs, st, ⟨wk, Ext.refl .., ⟨Same.refl _, [], by simp⟩, slots_start (K := g.K) r⟩, ?_⟩
    show SPost g _ d.fr F μ H (F, μ) (m (slots d.N xs) st) _
    cases hm : m (slots d.N xs) st with
    | nx ρ1 st1 =>
      rw [hm] at h
      unfold endOf at h
      simp only at h
      split at h
      · exact h.elim
      · rename_i hf
        exact fun σ' F' μ' H' oo => h F' μ' H' oo.e oo.w .non (by unfold RepR; rw [if_neg hf]; exact .non)
    | ret x st1 =>
      rw [hm] at h
      exact fun v F' μ' H' wo eo ro => h F' μ' H' eo wo v ro
    | exn c fs st1 =>
      rw [hm] at h
      exact fun cls e σ' F' μ' H' wo eo xo => h F' μ' H' cls e eo wo xo
    | brk ρ1 st1 => rw [hm] at h; exact h.elim
    | ct ρ1 st1 => rw [hm] at h; exact h.elim
    | bad => rw [hm] at h; exact h.elim
/-- what law(script) promises, once the table's own answer is True -/
def spOf (K : PySem.W.Frag) : Sp := fun vs H Q _ => ∃ (a : Addr) (ns : List Int), vs = [.ref a] ∧ SqL K H a (ns.map V.int) ∧ ns.length ≤ 63 ∧ ∀ H', Q (.bl true) H'
theorem reps_ints {K : PySem.W.Frag} {fa : Nat → Option Addr} {F : Hp} {μ : List Addr} : ∀ ns : List Int, Reps K fa F μ (ns.map V.int) (ns.map PV.int)
  | [] => .nil
  | n :: ns => .cons (.int n) (reps_ints ns)
theorem law_ok (A : TabAt g mg T fn fd) {n k : Nat} {d : FD} (hk : T.fds[k]? = some d) (hf : d.fr = false) (hp : d.ps = [("script" : Str)]) (hnp : d.np = 1)
    (h : ∀ ns : List Int, ns.length ≤ 63 → ∃ st, T.call n k [.scr (ns.map PV.int)] [] = .ok (.bl true) st) : FnOk P w g.K mg base (L2.CX P w) n (fn k) (fd k) ["script"] (spOf g.K) := by
  have F := tab_ok (P := P) (w := w) (base := base) A n k d hk
  rw [hp, hf, hnp] at F
  refine F.imp fun vs H Q E hs => ?_
  obtain ⟨a, ns, rfl, hS, hl, q⟩ := hs
  refine ⟨rfl, H, [], [], [.scr (ns.map PV.int)], ⟨fun b u z => z, rfl, List.nodup_nil, fun a z => (by cases z), fun m b z => (by simp at z)⟩, .cons (.scr hS (by rw [List.length_map]; exact Nat.le_trans hl (by decide)) (reps_ints ns)) .nil, ?_⟩
  obtain ⟨st, e⟩ := h ns hl
  rw [e]
  intro F' μ' H' _ _ v rv
  unfold RepR at rv
  rw [if_neg Bool.false_ne_true] at rv
  cases rv
  exact q H'
end
end BK

/-! BkU: a law's end -/
namespace BK
open PySem PySem.Spec PyProof.Rows L2 RZ

section
variable {g : Gx} {mg : Str → Option Value} {d : FD} {f : Addr} {oc kV doc pm cdv ct : Value} {od an : Option Addr} {osl : Array (Option Value)}
abbrev fdOf (d : FD) (dV kV doc pm : Value) (an : Option Addr) (cdv ct : Value) : FuncData := PySem.W.fnOf d.nm d.nm (defArgs d.st) (defBody d.st) (defScope d.st) dV kV doc pm an cdv ct
/-- how its parameters are bound -/
def Bnd0 (d : FD) : Prop := ∀ (kV doc pm : Value) (an : Option Addr) (cdv ct : Value) (us : List Value), us.length = d.ps.length → bindArgs (fdOf d .none kV doc pm an cdv ct) ⟨us, []⟩ = pure (d.ps.zip us)
theorem fnAt_mk (a : mg d.nm = some (.ref f)) (l : g.K.lookup f = some ⟨oc, od, .func (fdOf d .none kV doc pm an cdv ct), osl⟩) (c : PySem.W.codeIn g.K cdv d.nm = true) (k : PySem.W.keepIn g.K (.ref f) = true)
    (S : FnScope d.N d.ps (defScope d.st)) (hn : d.np ≤ d.N.length) (hd : d.dfl = []) (b : Bnd0 d) : FnAt g mg d f (fdOf d .none kV doc pm an cdv ct) := by
  have F : FunD g.K d.nm d.nm (defArgs d.st) (defBody d.st) (defScope d.st) [] [] f (fdOf d .none kV doc pm an cdv ct) := ⟨⟨oc, od, .none, kV, doc, pm, an, cdv, ct, osl, rfl, l, c, .inl ⟨rfl, rfl⟩, .inl rfl⟩, k⟩
  refine ⟨⟨[], [], F⟩, S, hn, a, k, fun j hj => ⟨[], [], .nil, F.bindsN b, fun F μ => ?_⟩⟩
  rw [hd, List.drop_nil]
  exact .nil
/-- .. with defaults -/
def BndD (d : FD) : Prop := ∀ (T : Addr) (kV doc pm : Value) (an : Option Addr) (cdv ct : Value) (n j : Nat) (us its : List Value), n + (d.dfl.length - j) = d.ps.length → us.length = n → its.length = d.dfl.length →
      ∃ k, bindArgs (fdOf d (.ref T) kV doc pm an cdv ct) ⟨us, []⟩ = seqItems? (.ref T) >>= k ∧ k (some its.toArray) = pure (d.ps.zip (us ++ its.drop j))
theorem reps_drop {K : PySem.W.Frag} {fa : Nat → Option Addr} {F : Hp} {μ : List Addr} : ∀ {vs : List V} {xs : List PV} (j : Nat), Reps K fa F μ vs xs → Reps K fa F μ (vs.drop j) (xs.drop j)
  | _, _, 0, h => h
  | _, _, _ + 1, .nil => .nil
  | _, _, j + 1, .cons _ t => reps_drop j t
end
theorem walkT {l : PySem.W.OpenLaw} {level : Nat} {q : Program} {loose : List Str} {XP : (Str → Option Value) → Heap → Prop} {YP : World → Heap → Prop} {d : DefRec} {K : Params → PySem.W.Frag} (hn : l.most = some 63) (hdf : d.params.defaults = []) (hr : Room level callerA)
    (hY : ∀ (w : World) (h : Heap), YP w h → (K w.params).In h)
    (F : ∀ (w : World) (mg : Str → Option Value) (fa : Addr) (h : Heap), (K w.params).In h → h.Ns mainGlobals mg → mg d.name = some (.ref fa) →
      ∃ fd : FuncData, (∀ (s : Shared) (u : Value), BindsTo s fd ⟨[u], []⟩ [("script", u)]) ∧ ∀ base : Heap, (K w.params).In base → base.Ns mainGlobals mg → FnOk l.prog w (K w.params) mg base (L2.CX l.prog w) level fa fd ["script"] (spOf (K w.params))) :
    PySem.W.WalkO q loose XP YP l.row.toRowW d [] (fun f vs => PySem.call f vs) :=
  L2.walk_of (n := 63) (k := level) (x := "script") (CX := fun w => L2.CX l.prog w) (sp := fun w => spOf (K w.params)) hn (by decide) hdf hr hY F (fun _ _ a ns hl _ hS => ⟨a, ns, rfl, hS, hl, fun _ => rfl⟩)
    fun w H s e s' z => by
      obtain ⟨_, _, _, _, _, _, _, _, _, _, _, _, z⟩ := z
      exact z
/-- the law's own def -/
theorem law_end {g : Gx} {mg : Str → Option Value} {T : Tab} {fn : Nat → Addr} {fd : Nat → FuncData} {P : Program} {w : World} {d : FD} {fa : Addr} {n k : Nat} (hfa : mg "law" = some (.ref fa)) (A : TabAt g mg T fn fd) (hk : T.fds[k]? = some d) (hnm : d.nm = ("law" : Str)) (hf : d.fr = false) (hp : d.ps = [("script" : Str)]) (hnp : d.np = 1) (hd : d.dfl = [])
    (hb : ∀ (s : Shared) (u : Value), BindsTo s (fd k) ⟨[u], []⟩ [("script", u)])
    (h : ∀ ns : List Int, ns.length ≤ 63 → ∃ st, T.call n k [.scr (ns.map PV.int)] [] = .ok (.bl true) st) :
    ∃ fd : FuncData, (∀ (s : Shared) (u : Value), BindsTo s fd ⟨[u], []⟩ [("script", u)]) ∧ ∀ base : Heap, g.K.In base → base.Ns mainGlobals mg → FnOk P w g.K mg base (L2.CX P w) n fa fd ["script"] (spOf g.K) := by
  have B := A.fds k d hk
  have q := B.mg
  rw [hnm] at q
  have e := Option.some.inj (hfa.symm.trans q)
  cases e
  exact ⟨fd k, hb, fun base _ _ => law_ok A hk hf hp hnp h⟩
end BK

/-! BkV: running the terms by simp -/
namespace BK
open PySem PySem.Spec PyProof.Rows L2 RZ

/-! ### results (what follows stands where simp does not look) -/
class KW (α β : Type) where
  k : α → Sto → Res β
class KS (α : Type) where
  k : α → Sto → SR
class KN where
  k : SM
def Res.bnd {α β : Type} (r : Res α) [w : KW α β] : Res β := r.bind w.k
def SR.ofK {α : Type} (r : Res α) [w : KS α] : SR := SR.of r w.k
def nextS (r : SR) [w : KN] : SR := match r with
  | .nx ρ1 st1 => w.k ρ1 st1
  | r => r
@[simp] theorem Res.bnd_k {α β : Type} (a : α) (st : Sto) (w : KW α β) : @Res.bnd α β (.ok a st) w = w.k a st := (rfl)
@[simp] theorem Res.bnd_x {α β : Type} (c : Nat) (fs : List PV) (st : Sto) (w : KW α β) : @Res.bnd α β (.exn c fs st) w = .exn c fs st := (rfl)
@[simp] theorem Res.opt_s {α : Type} (a : α) (st : Sto) : Res.opt (some a) st = .ok a st := (rfl)
@[simp] theorem SR.ofK_k {α : Type} (a : α) (st : Sto) (w : KS α) : @SR.ofK α (.ok a st) w = w.k a st := (rfl)
@[simp] theorem nextS_nx (ρ : SEnv) (st : Sto) (w : KN) : @nextS (.nx ρ st) w = w.k ρ st := (rfl)
@[simp] theorem nextS_ret (x : PV) (st : Sto) (w : KN) : @nextS (.ret x st) w = .ret x st := (rfl)
@[simp] theorem nextS_brk (ρ : SEnv) (st : Sto) (w : KN) : @nextS (.brk ρ st) w = .brk ρ st := (rfl)
@[simp] theorem nextS_ct (ρ : SEnv) (st : Sto) (w : KN) : @nextS (.ct ρ st) w = .ct ρ st := (rfl)
@[simp] theorem endOf_ret (f : Bool) (x : PV) (st : Sto) : endOf f (.ret x st) = .ok x st := (rfl)
/-! ### environments -/
@[simp] theorem viewH_nil : viewH [] = [] := (rfl)
@[simp] theorem viewH_val (x : PV) (ρ : SEnv) : viewH (.val x :: ρ) = some x :: viewH ρ := (rfl)
@[simp] theorem viewH_no (ρ : SEnv) : viewH (.no :: ρ) = none :: viewH ρ := (rfl)
@[simp] theorem viewH_own (xs : List PV) (ρ : SEnv) : viewH (.own xs :: ρ) = none :: viewH ρ := (rfl)
@[simp] theorem viewR_nil : viewR [] = [] := (rfl)
@[simp] theorem viewR_val (x : PV) (ρ : SEnv) : viewR (.val x :: ρ) = some x :: viewR ρ := (rfl)
@[simp] theorem viewR_no (ρ : SEnv) : viewR (.no :: ρ) = none :: viewR ρ := (rfl)
@[simp] theorem viewR_own (xs : List PV) (ρ : SEnv) : viewR (.own xs :: ρ) = some (.lst xs) :: viewR ρ := (rfl)
section
variable {ρ : SEnv} {σ : PEnv} {st : Sto} {i j : Nat} {m ma mb mc : EM} {n : AM} {a b c : BM} {s t : SM} {g : GM} {x y : PV} {f : PV → PV → Option PV} {call : List PV → Sto → Res PV} {dfl : List PV}
/-! ### statements -/
@[simp] theorem x_nil : sNil ρ st = .nx ρ st := (rfl)
@[simp] theorem x_brk : sBrk ρ st = .brk ρ st := (rfl)
@[simp] theorem x_ct : sCt ρ st = .ct ρ st := (rfl)
@[simp ↓] theorem x_seq : sSeq s t ρ st = @nextS (s ρ st) ⟨t⟩ := (rfl)
@[simp ↓] theorem x_if : sIf c s t ρ st = @SR.ofK _ (c (viewH ρ) st) ⟨fun d st1 => if d = true then s ρ st1 else t ρ st1⟩ := (rfl)
@[simp ↓] theorem x_set : sSet i m ρ st = @SR.ofK _ (m (viewH ρ) st) ⟨fun x st1 => .nx (ρ.set i (.val x)) st1⟩ := (rfl)
@[simp ↓] theorem x_own : sOwn i n ρ st = @SR.ofK _ (n (viewH ρ) st) ⟨fun xs st1 => .nx (ρ.set i (.own xs)) st1⟩ := (rfl)
@[simp ↓] theorem x_asg : sAsg g m ρ st = @SR.ofK _ (m (viewH ρ) st) ⟨fun x st1 => match g x with
  | some as => .nx (setS ρ as) st1
  | none => .bad⟩ := (rfl)
@[simp ↓] theorem x_drop : sDrop m ρ st = @SR.ofK _ (m (viewH ρ) st) ⟨fun _ st1 => .nx ρ st1⟩ := (rfl)
@[simp ↓] theorem x_ret : sRet m ρ st = @SR.ofK _ (m (viewR ρ) st) ⟨fun x st1 => .ret x st1⟩ := (rfl)
@[simp] theorem x_retN : sRetN ρ st = .ret .non st := (rfl)
@[simp ↓] theorem x_retL : sRetL n ρ st = @SR.ofK _ (n (viewR ρ) st) ⟨fun xs st1 => .ret (.lst xs) st1⟩ := (rfl)
@[simp ↓] theorem x_new : sNew i n ρ st = @SR.ofK _ (n (viewH ρ) st) ⟨fun xs st1 => if PV.noRs xs = true then .nx (ρ.set i (.val (.ref st1.length))) (st1 ++ [SO.lst xs]) else .bad⟩ := (rfl)
@[simp ↓] theorem x_for {it : AM} : sFor g it s ρ st = @SR.ofK _ (it (viewH ρ) st) ⟨fun xs st1 => forGo g s xs ρ st1⟩ := (rfl)
@[simp] theorem x_forNil : forGo g s [] ρ st = .nx ρ st := (rfl)
theorem x_frzOwn {xs : List PV} (h : ρ[i]? = some (.own xs)) : sFrz i ρ st = .nx (ρ.set i (.val (.lst xs))) st := by unfold sFrz; rw [h]
theorem x_extOwn {xs : List PV} (h : ρ[i]? = some (.own xs)) : sExt i m ρ st = @SR.ofK _ (m (viewH ρ) st) ⟨fun x st1 => match x with
    | .lst ys => if xs.length + ys.length ≤ sizeLine then .nx (ρ.set i (.own (xs ++ ys))) st1 else .bad
    | _ => .bad⟩ := by unfold sExt; rw [h]; rfl
theorem x_appOwn {xs : List PV} (h : ρ[i]? = some (.own xs)) : sApp i m ρ st = @SR.ofK _ (m (viewH ρ) st) ⟨fun x st1 => if xs.length < sizeLine then .nx (ρ.set i (.own (xs ++ [x]))) st1 else .bad⟩ := by unfold sApp; rw [h]; rfl
/-! ### expressions -/
@[simp] theorem x_var : mVar i σ st = match σ[i]? with
  | some (some x) => .ok x st
  | _ => .bad := (rfl)
@[simp] theorem x_c : mC x σ st = .ok x st := (rfl)
@[simp ↓] theorem x_bin : mBin f ma mb σ st = @Res.bnd _ _ (ma σ st) ⟨fun x st1 => @Res.bnd _ _ (mb σ st1) ⟨fun y st2 => Res.opt (f x y) st2⟩⟩ := (rfl)
@[simp ↓] theorem x_binS {f : Sto → PV → PV → Option PV} : mBinS f ma mb σ st = @Res.bnd _ _ (ma σ st) ⟨fun x st1 => @Res.bnd _ _ (mb σ st1) ⟨fun y st2 => Res.opt (f st2 x y) st2⟩⟩ := (rfl)
@[simp ↓] theorem x_tup : mTup n σ st = @Res.bnd _ _ (n σ st) ⟨fun xs st1 => .ok (.tup xs) st1⟩ := (rfl)
@[simp ↓] theorem x_fz : mFz n σ st = @Res.bnd _ _ (n σ st) ⟨fun xs st1 => .ok (.lst xs) st1⟩ := (rfl)
@[simp] theorem x_aNil : aNil σ st = .ok [] st := (rfl)
@[simp ↓] theorem x_aCons : aCons m n σ st = @Res.bnd _ _ (m σ st) ⟨fun x st1 => @Res.bnd _ _ (n σ st1) ⟨fun xs st2 => .ok (x :: xs) st2⟩⟩ := (rfl)
@[simp ↓] theorem x_call : mCall call n dfl σ st = @Res.bnd _ _ (n σ st) ⟨fun xs st1 => call (xs ++ dfl) st1⟩ := (rfl)
@[simp ↓] theorem x_aCall : aCall call n dfl σ st = @Res.bnd _ _ (n σ st) ⟨fun xs st1 => @Res.bnd _ _ (call (xs ++ dfl) st1) ⟨fun x st2 => match x with
  | .lst ys => .ok ys st2
  | _ => .bad⟩⟩ := (rfl)
@[simp ↓] theorem x_bi {f : Sto → List PV → Option PV} : mBi f n σ st = @Res.bnd _ _ (n σ st) ⟨fun xs st1 => Res.opt (f st1 xs) st1⟩ := (rfl)
@[simp ↓] theorem x_un {f : PV → Option PV} : mUn f m σ st = @Res.bnd _ _ (m σ st) ⟨fun x st1 => Res.opt (f x) st1⟩ := (rfl)
@[simp] theorem x_oNo : oNo σ st = .ok none st := (rfl)
@[simp ↓] theorem x_oInt : oInt m σ st = @Res.bnd _ _ (m σ st) ⟨fun x st1 => match x with
  | .int i => .ok (some i) st1
  | _ => .bad⟩ := (rfl)
@[simp ↓] theorem x_sl {l u : OM} : mSl m l u σ st = @Res.bnd _ _ (m σ st) ⟨fun x st1 => @Res.bnd _ _ (l σ st1) ⟨fun lo st2 => @Res.bnd _ _ (u σ st2) ⟨fun hi st3 => Res.opt (opSl x lo hi) st3⟩⟩⟩ := (rfl)
@[simp ↓] theorem x_bVal : bVal m σ st = @Res.bnd _ _ (m σ st) ⟨fun x st1 => match x with
  | .bl b => .ok b st1
  | _ => .bad⟩ := (rfl)
@[simp ↓] theorem x_bAnd : bAnd a b σ st = @Res.bnd _ _ (a σ st) ⟨fun c st1 => if c = true then b σ st1 else .ok false st1⟩ := (rfl)
@[simp ↓] theorem x_bOr : bOr a b σ st = @Res.bnd _ _ (a σ st) ⟨fun c st1 => if c = true then .ok true st1 else b σ st1⟩ := (rfl)
@[simp ↓] theorem x_bNot : bNot a σ st = @Res.bnd _ _ (a σ st) ⟨fun c st1 => .ok (!c) st1⟩ := (rfl)
@[simp ↓] theorem x_andV : mAndV ma mb σ st = @Res.bnd _ _ (ma σ st) ⟨fun x st1 => match x with
  | .bl c => if c = true then mb σ st1 else .ok (.bl false) st1
  | _ => .bad⟩ := (rfl)
@[simp ↓] theorem x_orV : mOrV ma mb σ st = @Res.bnd _ _ (ma σ st) ⟨fun x st1 => match x with
  | .bl c => if c = true then .ok (.bl true) st1 else mb σ st1
  | _ => .bad⟩ := (rfl)
@[simp ↓] theorem x_notV : mNotV m σ st = @Res.bnd _ _ (m σ st) ⟨fun x st1 => match x with
  | .bl c => .ok (.bl (!c)) st1
  | _ => .bad⟩ := (rfl)
@[simp ↓] theorem x_mIf : mIf c ma mb σ st = @Res.bnd _ _ (c σ st) ⟨fun d st1 => if d = true then ma σ st1 else mb σ st1⟩ := (rfl)
@[simp] theorem x_bYes : bYes σ st = .ok true st := (rfl)
@[simp ↓] theorem x_aSeq : aSeq m σ st = @Res.bnd _ _ (m σ st) ⟨fun x st1 => Res.opt (itemsOf x) st1⟩ := (rfl)
@[simp ↓] theorem x_aList : aList n σ st = @Res.bnd _ _ (n σ st) ⟨fun xs st1 => match xs with
  | [x] => Res.opt (itemsOf x) st1
  | _ => .bad⟩ := (rfl)
@[simp ↓] theorem x_aZip : aZip n σ st = @Res.bnd _ _ (n σ st) ⟨fun xs st1 => match xs with
  | [.tup a, .tup b] => .ok (pairs a b) st1
  | [.lst a, .lst b] => .ok (pairs a b) st1
  | _ => .bad⟩ := (rfl)
@[simp ↓] theorem x_aRange1 : aRange1 n σ st = @Res.bnd _ _ (n σ st) ⟨fun xs st1 => match xs with
  | [.int j] => if rOk j = true ∧ j.toNat ≤ sizeLine then .ok (rangeL 0 j.toNat) st1 else .bad
  | _ => .bad⟩ := (rfl)
@[simp ↓] theorem x_aRange2 : aRange2 n σ st = @Res.bnd _ _ (n σ st) ⟨fun xs st1 => match xs with
  | [.int i, .int j] => if rOk i = true ∧ rOk j = true ∧ (j - i).toNat ≤ sizeLine then .ok (rangeL i (j - i).toNat) st1 else .bad
  | _ => .bad⟩ := (rfl)
@[simp ↓] theorem x_aLc {it : AM} {vs : List Nat} : aLc it vs g c m σ st = @Res.bnd _ _ (it σ st) ⟨fun xs st1 => noX (compGo g c m (wipeP σ vs) xs st1)⟩ := (rfl)
@[simp ↓] theorem x_aLcN {it : AM} {vs : List Nat} : aLcN it vs g c n σ st = @Res.bnd _ _ (it σ st) ⟨fun xs st1 => fits (nGo g c n (wipeP σ vs) xs st1)⟩ := (rfl)
@[simp ↓] theorem x_aNest {it : AM} {vs : List Nat} : aNest it vs g c n σ st = @Res.bnd _ _ (it σ st) ⟨fun xs st1 => nGo g c n (wipeP σ vs) xs st1⟩ := (rfl)
@[simp ↓] theorem x_aOne : aOne m σ st = @Res.bnd _ _ (m σ st) ⟨fun y st1 => .ok [y] st1⟩ := (rfl)
@[simp] theorem noX_k {α : Type} (a : α) (st : Sto) : noX (Res.ok a st) = .ok a st := (rfl)
@[simp] theorem x_goNil : compGo g c m σ [] st = .ok [] st := (rfl)
@[simp ↓] theorem x_goCons {xs : List PV} : compGo g c m σ (x :: xs) st = match (g x).map (setP σ) with
    | none => .bad
    | some ρ1 => @Res.bnd _ _ (c ρ1 st) ⟨fun b st1 => if b = true then @Res.bnd _ _ (m ρ1 st1) ⟨fun y st2 => @Res.bnd _ _ (compGo g c m σ xs st2) ⟨fun ys st3 => .ok (y :: ys) st3⟩⟩ else compGo g c m σ xs st1⟩ := (rfl)
@[simp] theorem x_nNil : nGo g c n σ [] st = .ok [] st := (rfl)
@[simp] theorem w_nil : wipeP σ [] = σ := (rfl)
@[simp] theorem w_cons {v : Nat} {vs : List Nat} : wipeP σ (v :: vs) = (wipeP σ vs).set v none := (rfl)
@[simp] theorem p_nil : setP σ [] = σ := (rfl)
@[simp] theorem p_cons {i : Nat} {r : List (Nat × PV)} : setP σ ((i, x) :: r) = setP (σ.set i (some x)) r := (rfl)
@[simp] theorem s_nil : setS ρ [] = ρ := (rfl)
@[simp] theorem s_cons {i : Nat} {r : List (Nat × PV)} : setS ρ ((i, x) :: r) = setS (ρ.set i (.val x)) r := (rfl)
@[simp] theorem g_nm : gNm i x = some [(i, x)] := (rfl)
@[simp] theorem g_tp {t : GsM} {xs : List PV} : gTp t (.tup xs) = t xs := (rfl)
@[simp] theorem g_nil : gsNil [] = some [] := (rfl)
end
@[simp] theorem g_cons {t : GM} {ts : GsM} {x : PV} {xs : List PV} : gsCons t ts (x :: xs) = (t x).bind fun a => (ts xs).map fun b => a ++ b := by
  simp [gsCons]
/-! ### operators -/
section
variable {i j : Int} {xs ys : List PV} {x y : PV} {st : Sto}
@[simp] theorem o_add : opAdd (.int i) (.int j) = some (.int (i + j)) := (rfl)
@[simp] theorem o_sub : opSub (.int i) (.int j) = some (.int (i - j)) := (rfl)
@[simp] theorem o_lt : opLt (.int i) (.int j) = some (.bl (decide (i < j))) := (rfl)
@[simp] theorem o_le : opLe (.int i) (.int j) = some (.bl (decide (i ≤ j))) := (rfl)
@[simp] theorem o_gt : opGt (.int i) (.int j) = some (.bl (decide (j < i))) := (rfl)
@[simp] theorem o_ge : opGe (.int i) (.int j) = some (.bl (decide (j ≤ i))) := (rfl)
@[simp] theorem o_eqI : opEq (.int i) (.int j) = some (.bl (i == j)) := by simp [opEq, eqOk, PV.plain, PV.depth, PV.eqv]
@[simp] theorem o_neI : opNe (.int i) (.int j) = some (.bl (!(i == j))) := by simp [opNe, eqOk, PV.plain, PV.depth, PV.eqv]
@[simp] theorem o_eqB {a b : Bool} : opEq (.bl a) (.bl b) = some (.bl (a == b)) := by simp [opEq, eqOk, PV.plain, PV.depth, PV.eqv]
@[simp] theorem o_neB {a b : Bool} : opNe (.bl a) (.bl b) = some (.bl (!(a == b))) := by simp [opNe, eqOk, PV.plain, PV.depth, PV.eqv]
@[simp] theorem o_eqS {a b : Str} : opEq (.str a) (.str b) = some (.bl (a == b)) := by simp [opEq, eqOk, PV.plain, PV.depth, PV.eqv]
@[simp] theorem o_neS {a b : Str} : opNe (.str a) (.str b) = some (.bl (!(a == b))) := by simp [opNe, eqOk, PV.plain, PV.depth, PV.eqv]
@[simp] theorem o_isN : opIs x .non = some (.bl (isN x)) := by cases x <;> rfl
@[simp] theorem o_isNotN : opIsNot x .non = some (.bl (!isN x)) := by cases x <;> rfl
@[simp] theorem o_isB {a b : Bool} : opIs (.bl a) (.bl b) = some (.bl (decide (a = b))) := (rfl)
@[simp] theorem o_isNotB {a b : Bool} : opIsNot (.bl a) (.bl b) = some (.bl (!decide (a = b))) := (rfl)
theorem atI_nat {α : Type} (xs : List α) (k : Nat) : atI xs (k : Int) = xs[k]? := by
  unfold L2.atI ixN
  rw [if_pos (by omega)]
  by_cases h : (k : Int) < (xs.length : Int)
  · rw [if_pos h]; rfl
  · rw [if_neg h, List.getElem?_eq_none (by omega)]; rfl
@[simp] theorem ix0 : opIx st (.tup (x :: xs)) (.int 0) = some x := by show atI _ ((0 : Nat) : Int) = _; rw [atI_nat]; rfl
@[simp] theorem ix1 : opIx st (.tup (x :: y :: xs)) (.int 1) = some y := by show atI _ ((1 : Nat) : Int) = _; rw [atI_nat]; rfl
@[simp] theorem ix2 {z : PV} : opIx st (.tup (x :: y :: z :: xs)) (.int 2) = some z := by show atI _ ((2 : Nat) : Int) = _; rw [atI_nat]; rfl
@[simp] theorem ix3 {z u : PV} : opIx st (.tup (x :: y :: z :: u :: xs)) (.int 3) = some u := by show atI _ ((3 : Nat) : Int) = _; rw [atI_nat]; rfl
@[simp] theorem il0 : opIx st (.lst (x :: xs)) (.int 0) = some x := by show atI _ ((0 : Nat) : Int) = _; rw [atI_nat]; rfl
@[simp] theorem il1 : opIx st (.lst (x :: y :: xs)) (.int 1) = some y := by show atI _ ((1 : Nat) : Int) = _; rw [atI_nat]; rfl
theorem ixT (k : Nat) : opIx st (.tup xs) (.int k) = xs[k]? := atI_nat xs k
theorem ixL (k : Nat) : opIx st (.lst xs) (.int k) = xs[k]? := atI_nat xs k
theorem cut1 {α : Type} (x : α) (xs : List α) : cut (x :: xs) (some 1) none = xs := by
  unfold cut
  have e : HT.sIx (x :: xs).length 0 (some 1) = 1 := by
    have := HT.sIx_nat (x :: xs).length 0 1
    rw [show ((1 : Nat) : Int) = 1 from rfl] at this
    rw [this]
    simp
  rw [e, HT.sIx_none]
  simp
@[simp] theorem sl1 : opSl (.tup (x :: xs)) (some 1) none = some (.tup xs) := by show some (PV.tup (cut _ _ _)) = _; rw [cut1]
@[simp] theorem sl1L : opSl (.lst (x :: xs)) (some 1) none = some (.lst xs) := by show some (PV.lst (cut _ _ _)) = _; rw [cut1]
theorem o_addT (h : xs.length + ys.length ≤ sizeLine) : opAdd (.tup xs) (.tup ys) = some (.tup (xs ++ ys)) := if_pos h
@[simp] theorem f_len : Bf.f .len st [.tup xs] = some (.int xs.length) := (rfl)
@[simp] theorem f_lenL : Bf.f .len st [.lst xs] = some (.int xs.length) := (rfl)
@[simp] theorem f_tup : Bf.f .tup st [.lst xs] = some (.tup xs) := (rfl)
@[simp] theorem f_tupT : Bf.f .tup st [.tup xs] = some (.tup xs) := (rfl)
@[simp] theorem f_int : Bf.f .int st [.int i] = some (.int i) := (rfl)
@[simp] theorem f_all : Bf.f .all st [.lst xs] = (boolsOf xs).map fun bs => .bl (bs.all id) := (rfl)
@[simp] theorem f_any : Bf.f .any st [.lst xs] = (boolsOf xs).map fun bs => .bl (bs.any id) := (rfl)
@[simp] theorem bo_nil : boolsOf [] = some [] := (rfl)
@[simp] theorem bo_cons {b : Bool} : boolsOf (.bl b :: xs) = (boolsOf xs).map (b :: ·) := (rfl)
@[simp] theorem it_t : itemsOf (.tup xs) = some xs := (rfl)
@[simp] theorem it_l : itemsOf (.lst xs) = some xs := (rfl)
@[simp] theorem it_s : itemsOf (.scr xs) = some xs := (rfl)
@[simp] theorem pr_cons : pairs (x :: xs) (y :: ys) = .tup [x, y] :: pairs xs ys := (rfl)
@[simp] theorem pr_nil : pairs [] ys = [] := by cases ys <;> rfl
@[simp] theorem pr_nil2 : pairs (x :: xs) [] = [] := (rfl)
end
end BK
namespace BK
open PySem PySem.Spec PyProof.Rows L2 RZ
theorem plain_depth1 {b : Str} : PV.depth (.tup [.str b]) = 1 := (rfl)
theorem eq_hd {a b : Str} {xs : List PV} : opEq (.tup (.str a :: xs)) (.tup [.str b]) = if PV.plains xs = true then some (.bl (a == b && xs.isEmpty)) else none := by
  have e : eqOk (.tup (.str a :: xs)) (.tup [.str b]) = PV.plains xs := by
    unfold eqOk
    rw [plain_depth1]
    simp only [PV.plain, PV.plains, Bool.true_and, Bool.and_true, Bool.and_eq_left_iff_imp, decide_eq_true_eq]
    omega
  unfold opEq
  rw [e]
  cases xs <;> simp [PV.eqv, PV.eqvs]
theorem in_hd {a b c : Str} {xs ys : List PV} : opIn (.tup [.str c]) (.lst [.tup (.str a :: xs), .tup (.str b :: ys)]) = if PV.plains xs = true ∧ PV.plains ys = true then some (.bl ((a == c && xs.isEmpty) || (b == c && ys.isEmpty))) else none := by
  have e : inOk (.tup [.str c]) [.tup (.str a :: xs), .tup (.str b :: ys)] = (PV.plains xs && PV.plains ys) := by
    unfold inOk
    rw [plain_depth1]
    simp only [PV.plain, PV.plains, Bool.true_and, Bool.and_true, Bool.and_eq_left_iff_imp, decide_eq_true_eq]
    omega
  unfold opIn
  simp only
  rw [e]
  simp only [Bool.and_eq_true]
  cases xs <;> cases ys <;> simp [PV.eqv, PV.eqvs]
theorem sz_any {α : Type} {n : Nat} {x y : α} (h : n ≤ 1000) : (if n ≤ sizeLine then x else y) = x := if_pos (Nat.le_trans h (by decide))
@[simp] theorem add10 {a : PV} : opAdd (.tup [a]) (.tup []) = some (.tup [a]) := o_addT (by show 1 ≤ sizeLine; decide)
@[simp] theorem add11 {a b : PV} : opAdd (.tup [a]) (.tup [b]) = some (.tup [a, b]) := o_addT (by show 2 ≤ sizeLine; decide)
@[simp] theorem add12 {a b c : PV} : opAdd (.tup [a]) (.tup [b, c]) = some (.tup [a, b, c]) := o_addT (by show 3 ≤ sizeLine; decide)
@[simp] theorem add13 {a b c d : PV} : opAdd (.tup [a]) (.tup [b, c, d]) = some (.tup [a, b, c, d]) := o_addT (by show 4 ≤ sizeLine; decide)
theorem eqv_non {y : PV} (h : y.plain = true) : y.eqv .non = isN y := by cases y <;> first | rfl | (simp [PV.eqv, isN]; done) | (simp [PV.plain] at h)
theorem in_non {xs : List PV} : opIn .non (.lst xs) = if PV.plains xs = true then some (.bl (xs.any isN)) else none := by
  have e : inOk .non xs = PV.plains xs := by
    unfold inOk
    simp only [PV.plain, PV.depth, Bool.true_and, Nat.min_zero, Nat.zero_le, decide_true, Bool.and_true]
  unfold opIn
  simp only
  rw [e]
  by_cases h : PV.plains xs = true
  · rw [if_pos h, if_pos h]
    congr 2
    have : ∀ xs : List PV, PV.plains xs = true → (xs.any fun y => y.eqv .non) = xs.any isN := fun xs => by
      induction xs with
      | nil => intro _; rfl
      | cons x xs ih =>
        intro h
        simp only [PV.plains, Bool.and_eq_true] at h
        rw [List.any_cons, List.any_cons, eqv_non h.1, ih h.2]
    exact this xs h
  · rw [if_neg h, if_neg h]
/-! range(..) of small bounds -/
theorem rng1_if {α : Type} {j : Int} {x y : α} (hj : 0 ≤ j) (hj2 : j ≤ 1000) : (if rOk j = true ∧ j.toNat ≤ sizeLine then x else y) = x := by
  refine if_pos ⟨?_, ?_⟩
  · unfold rOk; simp; omega
  · have : 1000000 ≤ sizeLine := by decide
    omega
theorem rng2_if {α : Type} {i j : Int} {x y : α} (hi : 0 ≤ i) (hi2 : i ≤ 1000) (hj : 0 ≤ j) (hj2 : j ≤ 1000) : (if rOk i = true ∧ rOk j = true ∧ (j - i).toNat ≤ sizeLine then x else y) = x := by
  refine if_pos ⟨?_, ?_, ?_⟩
  · unfold rOk; simp; omega
  · unfold rOk; simp; omega
  · have : 1000000 ≤ sizeLine := by decide
    omega
@[simp] theorem rk0 : rOk 0 = true := by decide
@[simp] theorem rk1 : rOk 1 = true := by decide
@[simp] theorem sz1 : (1 ≤ sizeLine) = True := by simp only [eq_iff_iff, iff_true]; decide
@[simp] theorem rk2 : rOk 2 = true := by decide
@[simp] theorem sz2 : (2 ≤ sizeLine) = True := by simp only [eq_iff_iff, iff_true]; decide
@[simp] theorem rk3 : rOk 3 = true := by decide
@[simp] theorem sz3 : (3 ≤ sizeLine) = True := by simp only [eq_iff_iff, iff_true]; decide
@[simp] theorem rk4 : rOk 4 = true := by decide
@[simp] theorem sz4 : (4 ≤ sizeLine) = True := by simp only [eq_iff_iff, iff_true]; decide
@[simp] theorem rk5 : rOk 5 = true := by decide
@[simp] theorem sz5 : (5 ≤ sizeLine) = True := by simp only [eq_iff_iff, iff_true]; decide
@[simp] theorem rk6 : rOk 6 = true := by decide
@[simp] theorem sz6 : (6 ≤ sizeLine) = True := by simp only [eq_iff_iff, iff_true]; decide
@[simp] theorem rk7 : rOk 7 = true := by decide
@[simp] theorem sz7 : (7 ≤ sizeLine) = True := by simp only [eq_iff_iff, iff_true]; decide
@[simp] theorem rk8 : rOk 8 = true := by decide
@[simp] theorem sz8 : (8 ≤ sizeLine) = True := by simp only [eq_iff_iff, iff_true]; decide
@[simp] theorem rk9 : rOk 9 = true := by decide
@[simp] theorem sz9 : (9 ≤ sizeLine) = True := by simp only [eq_iff_iff, iff_true]; decide
@[simp] theorem rk10 : rOk 10 = true := by decide
@[simp] theorem sz10 : (10 ≤ sizeLine) = True := by simp only [eq_iff_iff, iff_true]; decide
@[simp] theorem rk11 : rOk 11 = true := by decide
@[simp] theorem sz11 : (11 ≤ sizeLine) = True := by simp only [eq_iff_iff, iff_true]; decide
@[simp] theorem rk12 : rOk 12 = true := by decide
@[simp] theorem sz12 : (12 ≤ sizeLine) = True := by simp only [eq_iff_iff, iff_true]; decide
@[simp] theorem rk13 : rOk 13 = true := by decide
@[simp] theorem sz13 : (13 ≤ sizeLine) = True := by simp only [eq_iff_iff, iff_true]; decide
@[simp] theorem rk14 : rOk 14 = true := by decide
@[simp] theorem sz14 : (14 ≤ sizeLine) = True := by simp only [eq_iff_iff, iff_true]; decide
@[simp] theorem rk15 : rOk 15 = true := by decide
@[simp] theorem sz15 : (15 ≤ sizeLine) = True := by simp only [eq_iff_iff, iff_true]; decide
@[simp] theorem rk16 : rOk 16 = true := by decide
@[simp] theorem sz16 : (16 ≤ sizeLine) = True := by simp only [eq_iff_iff, iff_true]; decide
@[simp] theorem rk17 : rOk 17 = true := by decide
@[simp] theorem sz17 : (17 ≤ sizeLine) = True := by simp only [eq_iff_iff, iff_true]; decide
@[simp] theorem rk18 : rOk 18 = true := by decide
@[simp] theorem sz18 : (18 ≤ sizeLine) = True := by simp only [eq_iff_iff, iff_true]; decide
@[simp] theorem rk19 : rOk 19 = true := by decide
@[simp] theorem sz19 : (19 ≤ sizeLine) = True := by simp only [eq_iff_iff, iff_true]; decide
@[simp] theorem rk20 : rOk 20 = true := by decide
@[simp] theorem sz20 : (20 ≤ sizeLine) = True := by simp only [eq_iff_iff, iff_true]; decide
@[simp] theorem rk21 : rOk 21 = true := by decide
@[simp] theorem sz21 : (21 ≤ sizeLine) = True := by simp only [eq_iff_iff, iff_true]; decide
@[simp] theorem rk22 : rOk 22 = true := by decide
@[simp] theorem sz22 : (22 ≤ sizeLine) = True := by simp only [eq_iff_iff, iff_true]; decide
@[simp] theorem rk23 : rOk 23 = true := by decide
@[simp] theorem sz23 : (23 ≤ sizeLine) = True := by simp only [eq_iff_iff, iff_true]; decide
@[simp] theorem rk24 : rOk 24 = true := by decide
@[simp] theorem sz24 : (24 ≤ sizeLine) = True := by simp only [eq_iff_iff, iff_true]; decide
@[simp] theorem rk25 : rOk 25 = true := by decide
@[simp] theorem sz25 : (25 ≤ sizeLine) = True := by simp only [eq_iff_iff, iff_true]; decide
@[simp] theorem rk26 : rOk 26 = true := by decide
@[simp] theorem sz26 : (26 ≤ sizeLine) = True := by simp only [eq_iff_iff, iff_true]; decide
@[simp] theorem rk27 : rOk 27 = true := by decide
@[simp] theorem sz27 : (27 ≤ sizeLine) = True := by simp only [eq_iff_iff, iff_true]; decide
@[simp] theorem rk28 : rOk 28 = true := by decide
@[simp] theorem sz28 : (28 ≤ sizeLine) = True := by simp only [eq_iff_iff, iff_true]; decide
@[simp] theorem rk29 : rOk 29 = true := by decide
@[simp] theorem sz29 : (29 ≤ sizeLine) = True := by simp only [eq_iff_iff, iff_true]; decide
@[simp] theorem rk30 : rOk 30 = true := by decide
@[simp] theorem sz30 : (30 ≤ sizeLine) = True := by simp only [eq_iff_iff, iff_true]; decide
@[simp] theorem rk31 : rOk 31 = true := by decide
@[simp] theorem sz31 : (31 ≤ sizeLine) = True := by simp only [eq_iff_iff, iff_true]; decide
@[simp] theorem rk32 : rOk 32 = true := by decide
@[simp] theorem sz32 : (32 ≤ sizeLine) = True := by simp only [eq_iff_iff, iff_true]; decide
@[simp] theorem rk33 : rOk 33 = true := by decide
@[simp] theorem sz33 : (33 ≤ sizeLine) = True := by simp only [eq_iff_iff, iff_true]; decide
@[simp] theorem rk34 : rOk 34 = true := by decide
@[simp] theorem sz34 : (34 ≤ sizeLine) = True := by simp only [eq_iff_iff, iff_true]; decide
@[simp] theorem rk35 : rOk 35 = true := by decide
@[simp] theorem sz35 : (35 ≤ sizeLine) = True := by simp only [eq_iff_iff, iff_true]; decide
@[simp] theorem rk36 : rOk 36 = true := by decide
@[simp] theorem sz36 : (36 ≤ sizeLine) = True := by simp only [eq_iff_iff, iff_true]; decide
@[simp] theorem rk37 : rOk 37 = true := by decide
@[simp] theorem sz37 : (37 ≤ sizeLine) = True := by simp only [eq_iff_iff, iff_true]; decide
@[simp] theorem rk38 : rOk 38 = true := by decide
@[simp] theorem sz38 : (38 ≤ sizeLine) = True := by simp only [eq_iff_iff, iff_true]; decide
@[simp] theorem rk39 : rOk 39 = true := by decide
@[simp] theorem sz39 : (39 ≤ sizeLine) = True := by simp only [eq_iff_iff, iff_true]; decide
@[simp] theorem rk40 : rOk 40 = true := by decide
@[simp] theorem sz40 : (40 ≤ sizeLine) = True := by simp only [eq_iff_iff, iff_true]; decide
@[simp] theorem isN_non : isN .non = true := (rfl)
@[simp] theorem isN_tup {xs : List PV} : isN (.tup xs) = false := (rfl)
end BK

/-! BkW: what all laws share: draws, sameness -/
namespace BK
open PySem PySem.Spec PyProof.Rows L2 RZ

@[simp ↓] theorem x_put {o i v : EM} {ρ : SEnv} {st : Sto} : sPut o i v ρ st = @SR.ofK _ (v (viewH ρ) st) ⟨fun x st1 => @SR.ofK _ (o (viewH ρ) st1) ⟨fun a st2 => @SR.ofK _ (i (viewH ρ) st2) ⟨fun k st3 => match a, k with
  | .ref n, .int j => match st3[n]? with
    | some (.lst xs) => match ixN xs.length j with
      | some m => if x.noR = true then .nx ρ (st3.set n (.lst (xs.set m x))) else .bad
      | none => .bad
    | none => .bad
  | _, _ => .bad⟩⟩⟩ := (rfl)
@[simp] theorem ix_ref {st : Sto} {n : Nat} {i : Int} : opIx st (.ref n) (.int i) = match st[n]? with
    | some (.lst xs) => atI xs i
    | none => none := (rfl)
@[simp] theorem ix_lst {st : Sto} {xs : List PV} {i : Int} : opIx st (.lst xs) (.int i) = atI xs i := (rfl)
@[simp] theorem at40 {α : Type} {a b c d : α} : atI [a, b, c, d] 0 = some a := (rfl)
@[simp] theorem at41 {α : Type} {a b c d : α} : atI [a, b, c, d] 1 = some b := (rfl)
@[simp] theorem at42 {α : Type} {a b c d : α} : atI [a, b, c, d] 2 = some c := (rfl)
@[simp] theorem at43 {α : Type} {a b c d : α} : atI [a, b, c, d] 3 = some d := (rfl)
@[simp] theorem n40 : ixN 4 0 = some 0 := (rfl)
@[simp] theorem n41 : ixN 4 1 = some 1 := (rfl)
@[simp] theorem n42 : ixN 4 2 = some 2 := (rfl)
@[simp] theorem n43 : ixN 4 3 = some 3 := (rfl)
theorem o_mod {i j : Int} : opMod (.int i) (.int j) = if 0 < j then some (.int (i % j)) else none := (rfl)
theorem o_div {i j : Int} : opDiv (.int i) (.int j) = if 0 < j ∧ j < 1073741824 then some (.int (i / j)) else none := (rfl)
theorem o_mulR {i j : Int} (h : -(2 ^ 64) < j ∧ j < 2 ^ 64) : opMul (.int i) (.int j) = some (.int (i * j)) := by
  show (if mulOk i j = true then _ else none) = _
  rw [if_pos]
  unfold mulOk
  rw [decide_eq_true h, Bool.or_true]
@[simp] theorem o_mul1 {i : Int} : opMul (.int i) (.int 48271) = some (.int (i * 48271)) := o_mulR (by decide)
@[simp] theorem o_mul2 {i : Int} : opMul (.int i) (.int 69621) = some (.int (i * 69621)) := o_mulR (by decide)
@[simp] theorem o_pow18 : opPow (.int 10) (.int 18) = some (.int 1000000000000000000) := by
  have e : ((10 : Int) ^ (18 : Int).toNat) = 1000000000000000000 := by decide +kernel
  simp only [opPow]
  rw [e]
  exact if_pos (by decide)
/-- the draws at the n-th store object -/
def Dr (st : Sto) (n : Nat) : Prop := ∃ (cs : List Int) (i j k : Int), st[n]? = some (SO.lst [.lst (cs.map PV.int), .int i, .int j, .int k]) ∧ 0 ≤ i ∧ 0 ≤ j
def mDraw : SM := (sSeq (sIf (bAnd (bVal (mBin opEq (mBinS opIx (mVar 0) (mC (.int 2))) (mC (.int 0)))) (bVal (mBin opLt (mBinS opIx (mVar 0) (mC (.int 1))) (mBi (Bf.f .len) (aCons (mBinS opIx (mVar 0) (mC (.int 0))) aNil))))) (sSeq (sSet 2 (mBinS opIx (mBinS opIx (mVar 0) (mC (.int 0))) (mBinS opIx (mVar 0) (mC (.int 1))))) (sSeq (sPut (mVar 0) (mC (.int 1)) (mBin opAdd (mBinS opIx (mVar 0) (mC (.int 1))) (mC (.int 1)))) (sSeq (sIf (bVal (mBin opGe (mVar 2) (mBin opPow (mC (.int 10)) (mC (.int 18))))) (sSeq (sPut (mVar 0) (mC (.int 2)) (mVar 2)) sNil) sNil) (sSeq (sPut (mVar 0) (mC (.int 3)) (mBin opMod (mBi (Bf.f .int) (aCons (mBin opAdd (mBin opAdd (mBin opMul (mBinS opIx (mVar 0) (mC (.int 3))) (mC (.int 48271))) (mVar 2)) (mC (.int 13))) aNil)) (mC (.int 2147483647)))) sNil)))) sNil) (sSeq (sIf (bVal (mBin opGt (mBinS opIx (mVar 0) (mC (.int 2))) (mC (.int 0)))) (sSeq (sSet 3 (mBin opMod (mBi (Bf.f .int) (aCons (mBinS opIx (mVar 0) (mC (.int 2))) aNil)) (mVar 1))) (sSeq (sPut (mVar 0) (mC (.int 2)) (mBin opDiv (mBinS opIx (mVar 0) (mC (.int 2))) (mVar 1))) (sSeq (sRet (mVar 3)) sNil))) sNil) (sSeq (sPut (mVar 0) (mC (.int 3)) (mBin opMod (mBi (Bf.f .int) (aCons (mBin opAdd (mBin opMul (mBinS opIx (mVar 0) (mC (.int 3))) (mC (.int 69621))) (mC (.int 7))) aNil)) (mC (.int 2147483629)))) (sSeq (sRet (mBin opMod (mBi (Bf.f .int) (aCons (mBin opDiv (mBinS opIx (mVar 0) (mC (.int 3))) (mC (.int 11))) aNil)) (mVar 1))) sNil))))
/-- its second half -/
def drTail : SM := (sSeq (sIf (bVal (mBin opGt (mBinS opIx (mVar 0) (mC (.int 2))) (mC (.int 0)))) (sSeq (sSet 3 (mBin opMod (mBi (Bf.f .int) (aCons (mBinS opIx (mVar 0) (mC (.int 2))) aNil)) (mVar 1))) (sSeq (sPut (mVar 0) (mC (.int 2)) (mBin opDiv (mBinS opIx (mVar 0) (mC (.int 2))) (mVar 1))) (sSeq (sRet (mVar 3)) sNil))) sNil) (sSeq (sPut (mVar 0) (mC (.int 3)) (mBin opMod (mBi (Bf.f .int) (aCons (mBin opAdd (mBin opMul (mBinS opIx (mVar 0) (mC (.int 3))) (mC (.int 69621))) (mC (.int 7))) aNil)) (mC (.int 2147483629)))) (sSeq (sRet (mBin opMod (mBi (Bf.f .int) (aCons (mBin opDiv (mBinS opIx (mVar 0) (mC (.int 3))) (mC (.int 11))) aNil)) (mVar 1))) sNil)))
def Off1 (n : Nat) (st st' : Sto) : Prop := st'.length = st.length ∧ ∀ k, k ≠ n → st'[k]? = st[k]?
theorem Off1.refl (n : Nat) (st : Sto) : Off1 n st st := ⟨rfl, fun _ _ => rfl⟩
theorem Off1.trans {n : Nat} {a b c : Sto} (h : Off1 n a b) (k : Off1 n b c) : Off1 n a c := ⟨k.1.trans h.1, fun j z => (k.2 j z).trans (h.2 j z)⟩
theorem Off1.set {n : Nat} {st : Sto} {o : SO} : Off1 n st (st.set n o) := ⟨by simp, fun k h => by rw [List.getElem?_set_ne (Ne.symm h)]⟩
theorem lt_of_get {α : Type} {l : List α} {n : Nat} {x : α} (h : l[n]? = some x) : n < l.length := (List.getElem?_eq_some_iff.mp h).1
theorem tail_ok {st : Sto} {n : Nat} {lim : Int} {x : Slot} {cs : List PV} {i j k : Int} (h : st[n]? = some (SO.lst [.lst cs, .int i, .int j, .int k])) (hl : 0 < lim) (hl2 : lim < 1073741824) (hj : 0 ≤ j) :
    ∃ v j' k', 0 ≤ v ∧ v < lim ∧ 0 ≤ j' ∧ endOf false (drTail [.val (.ref n), .val (.int lim), x, .no] st) = .ok (.int v) (st.set n (SO.lst [.lst cs, .int i, .int j', .int k'])) := by
  have hs : ∀ o : SO, (st.set n o)[n]? = some o := fun o => List.getElem?_set_self (lt_of_get h)
  unfold drTail
  by_cases hp : 0 < j
  · refine ⟨j % lim, j / lim, k, Int.emod_nonneg _ (by omega), Int.emod_lt_of_pos _ hl, Int.ediv_nonneg hj (by omega), ?_⟩
    cases x <;> simp [h, hp, o_mod, o_div, hl, hl2, hs, PV.noR]
  · refine ⟨(k * 69621 + 7) % 2147483629 / 11 % lim, j, (k * 69621 + 7) % 2147483629, Int.emod_nonneg _ (by omega), Int.emod_lt_of_pos _ hl, hj, ?_⟩
    cases x <;> simp [h, hp, o_mod, o_div, hl, hl2, hs, PV.noR]
def drHead : SM := (sIf (bAnd (bVal (mBin opEq (mBinS opIx (mVar 0) (mC (.int 2))) (mC (.int 0)))) (bVal (mBin opLt (mBinS opIx (mVar 0) (mC (.int 1))) (mBi (Bf.f .len) (aCons (mBinS opIx (mVar 0) (mC (.int 0))) aNil))))) (sSeq (sSet 2 (mBinS opIx (mBinS opIx (mVar 0) (mC (.int 0))) (mBinS opIx (mVar 0) (mC (.int 1))))) (sSeq (sPut (mVar 0) (mC (.int 1)) (mBin opAdd (mBinS opIx (mVar 0) (mC (.int 1))) (mC (.int 1)))) (sSeq (sIf (bVal (mBin opGe (mVar 2) (mBin opPow (mC (.int 10)) (mC (.int 18))))) (sSeq (sPut (mVar 0) (mC (.int 2)) (mVar 2)) sNil) sNil) (sSeq (sPut (mVar 0) (mC (.int 3)) (mBin opMod (mBi (Bf.f .int) (aCons (mBin opAdd (mBin opAdd (mBin opMul (mBinS opIx (mVar 0) (mC (.int 3))) (mC (.int 48271))) (mVar 2)) (mC (.int 13))) aNil)) (mC (.int 2147483647)))) sNil)))) sNil)
theorem mDraw_eq : mDraw = sSeq drHead drTail := (rfl)
theorem cell_at {cs : List Int} {i : Int} (h0 : 0 ≤ i) (h : i < (cs.length : Int)) : ∃ c, atI (cs.map PV.int) i = some (.int c) := by
  obtain ⟨k, rfl⟩ : ∃ k : Nat, i = (k : Int) := ⟨i.toNat, by omega⟩
  have hk : k < cs.length := by omega
  exact ⟨cs[k], by rw [atI_nat, List.getElem?_map, List.getElem?_eq_getElem hk]; rfl⟩
theorem head_ok {st : Sto} {n : Nat} {lim : Int} {cs : List Int} {i j k : Int} (h : st[n]? = some (SO.lst [.lst (cs.map PV.int), .int i, .int j, .int k])) (hi : 0 ≤ i) (hj : 0 ≤ j) :
    ∃ x i' j' k', 0 ≤ i' ∧ 0 ≤ j' ∧ drHead [.val (.ref n), .val (.int lim), .no, .no] st = .nx [.val (.ref n), .val (.int lim), x, .no] (st.set n (SO.lst [.lst (cs.map PV.int), .int i', .int j', .int k'])) := by
  have hs : ∀ o : SO, (st.set n o)[n]? = some o := fun o => List.getElem?_set_self (lt_of_get h)
  have hsame : st.set n (SO.lst [.lst (cs.map PV.int), .int i, .int j, .int k]) = st := by
    obtain ⟨h1, h2⟩ := List.getElem?_eq_some_iff.mp h
    rw [← h2]
    exact List.set_getElem_self h1
  unfold drHead
  by_cases hz : j = 0
  · by_cases hc : i < (cs.length : Int)
    · obtain ⟨c, hcell⟩ := cell_at hi hc
      subst hz
      by_cases hb : 1000000000000000000 ≤ c
      · exact ⟨.val (.int c), i + 1, c, (k * 48271 + c + 13) % 2147483647, by omega, by omega, by simp [h, hc, hcell, hb, o_mod, hs, PV.noR]⟩
      · exact ⟨.val (.int c), i + 1, 0, (k * 48271 + c + 13) % 2147483647, by omega, by omega, by simp [h, hc, hcell, hb, o_mod, hs, PV.noR]⟩
    · subst hz
      refine ⟨.no, i, 0, k, hi, by omega, ?_⟩
      rw [hsame]
      simp [h, hc]
  · refine ⟨.no, i, j, k, hi, hj, ?_⟩
    rw [hsame]
    simp [h, hz]
theorem draw_ok {st : Sto} {n : Nat} {lim : Int} (h : Dr st n) (hl : 0 < lim) (hl2 : lim < 1073741824) :
    ∃ v st', 0 ≤ v ∧ v < lim ∧ Dr st' n ∧ Off1 n st st' ∧ endOf false (mDraw [.val (.ref n), .val (.int lim), .no, .no] st) = .ok (.int v) st' := by
  obtain ⟨cs, i, j, k, h1, h2, h3⟩ := h
  obtain ⟨x, i', j', k', g1, g2, g3⟩ := head_ok (lim := lim) h1 h2 h3
  have hs : ∀ o : SO, (st.set n o)[n]? = some o := fun o => List.getElem?_set_self (lt_of_get h1)
  obtain ⟨v, j2, k2, t1, t2, t3, t4⟩ := tail_ok (x := x) (lim := lim) (hs (SO.lst [.lst (cs.map PV.int), .int i', .int j', .int k'])) hl hl2 g2
  rw [List.set_set] at t4
  refine ⟨v, _, t1, t2, ⟨cs, i', j2, k2, hs _, g1, t3⟩, Off1.set, ?_⟩
  rw [mDraw_eq, x_seq, g3]
  exact t4
def mDraws : SM := (sSeq (sRetL (aCons (mFz (aList (aCons (mVar 0) aNil))) (aCons (mC (.int 0)) (aCons (mC (.int 0)) (aCons (mC (.int 1)) aNil))))) sNil)
theorem draws_ok (ns : List Int) (st : Sto) : endOf true (mDraws [.val (.scr (ns.map PV.int))] st) = .ok (.lst [.lst (ns.map PV.int), .int 0, .int 0, .int 1]) st := by
  unfold mDraws
  simp
theorem noRs_ints : ∀ ns : List Int, PV.noRs (ns.map PV.int) = true
  | [] => rfl
  | n :: ns => by simp [PV.noRs, PV.noR, noRs_ints ns]
@[simp] theorem isi_non_tuple {st : Sto} : Bf.f .isi st [.non, .ty "tuple"] = some (.bl false) := by kernel_rfl
@[simp] theorem isi_non_list {st : Sto} : Bf.f .isi st [.non, .ty "list"] = some (.bl false) := by kernel_rfl
@[simp] theorem isi_non_str {st : Sto} : Bf.f .isi st [.non, .ty "str"] = some (.bl false) := by kernel_rfl
@[simp] theorem isi_non_int {st : Sto} : Bf.f .isi st [.non, .ty "int"] = some (.bl false) := by kernel_rfl
@[simp] theorem isi_non_bool {st : Sto} : Bf.f .isi st [.non, .ty "bool"] = some (.bl false) := by kernel_rfl
@[simp] theorem isi_bl_tuple {b : Bool} {st : Sto} : Bf.f .isi st [(.bl b), .ty "tuple"] = some (.bl false) := by kernel_rfl
@[simp] theorem isi_bl_list {b : Bool} {st : Sto} : Bf.f .isi st [(.bl b), .ty "list"] = some (.bl false) := by kernel_rfl
@[simp] theorem isi_bl_str {b : Bool} {st : Sto} : Bf.f .isi st [(.bl b), .ty "str"] = some (.bl false) := by kernel_rfl
@[simp] theorem isi_bl_int {b : Bool} {st : Sto} : Bf.f .isi st [(.bl b), .ty "int"] = some (.bl true) := by kernel_rfl
@[simp] theorem isi_bl_bool {b : Bool} {st : Sto} : Bf.f .isi st [(.bl b), .ty "bool"] = some (.bl true) := by kernel_rfl
@[simp] theorem isi_int_tuple {i : Int} {st : Sto} : Bf.f .isi st [(.int i), .ty "tuple"] = some (.bl false) := by kernel_rfl
@[simp] theorem isi_int_list {i : Int} {st : Sto} : Bf.f .isi st [(.int i), .ty "list"] = some (.bl false) := by kernel_rfl
@[simp] theorem isi_int_str {i : Int} {st : Sto} : Bf.f .isi st [(.int i), .ty "str"] = some (.bl false) := by kernel_rfl
@[simp] theorem isi_int_int {i : Int} {st : Sto} : Bf.f .isi st [(.int i), .ty "int"] = some (.bl true) := by kernel_rfl
@[simp] theorem isi_int_bool {i : Int} {st : Sto} : Bf.f .isi st [(.int i), .ty "bool"] = some (.bl false) := by kernel_rfl
@[simp] theorem isi_str_tuple {x : Str} {st : Sto} : Bf.f .isi st [(.str x), .ty "tuple"] = some (.bl false) := by kernel_rfl
@[simp] theorem isi_str_list {x : Str} {st : Sto} : Bf.f .isi st [(.str x), .ty "list"] = some (.bl false) := by kernel_rfl
@[simp] theorem isi_str_str {x : Str} {st : Sto} : Bf.f .isi st [(.str x), .ty "str"] = some (.bl true) := by kernel_rfl
@[simp] theorem isi_str_int {x : Str} {st : Sto} : Bf.f .isi st [(.str x), .ty "int"] = some (.bl false) := by kernel_rfl
@[simp] theorem isi_str_bool {x : Str} {st : Sto} : Bf.f .isi st [(.str x), .ty "bool"] = some (.bl false) := by kernel_rfl
@[simp] theorem isi_tup_tuple {xs : List PV} {st : Sto} : Bf.f .isi st [(.tup xs), .ty "tuple"] = some (.bl true) := by kernel_rfl
@[simp] theorem isi_tup_list {xs : List PV} {st : Sto} : Bf.f .isi st [(.tup xs), .ty "list"] = some (.bl false) := by kernel_rfl
@[simp] theorem isi_tup_str {xs : List PV} {st : Sto} : Bf.f .isi st [(.tup xs), .ty "str"] = some (.bl false) := by kernel_rfl
@[simp] theorem isi_tup_int {xs : List PV} {st : Sto} : Bf.f .isi st [(.tup xs), .ty "int"] = some (.bl false) := by kernel_rfl
@[simp] theorem isi_tup_bool {xs : List PV} {st : Sto} : Bf.f .isi st [(.tup xs), .ty "bool"] = some (.bl false) := by kernel_rfl
@[simp] theorem isi_lst_tuple {xs : List PV} {st : Sto} : Bf.f .isi st [(.lst xs), .ty "tuple"] = some (.bl false) := by kernel_rfl
@[simp] theorem isi_lst_list {xs : List PV} {st : Sto} : Bf.f .isi st [(.lst xs), .ty "list"] = some (.bl true) := by kernel_rfl
@[simp] theorem isi_lst_str {xs : List PV} {st : Sto} : Bf.f .isi st [(.lst xs), .ty "str"] = some (.bl false) := by kernel_rfl
@[simp] theorem isi_lst_int {xs : List PV} {st : Sto} : Bf.f .isi st [(.lst xs), .ty "int"] = some (.bl false) := by kernel_rfl
@[simp] theorem isi_lst_bool {xs : List PV} {st : Sto} : Bf.f .isi st [(.lst xs), .ty "bool"] = some (.bl false) := by kernel_rfl
@[simp] theorem isi_scr_tuple {xs : List PV} {st : Sto} : Bf.f .isi st [(.scr xs), .ty "tuple"] = some (.bl false) := by kernel_rfl
@[simp] theorem isi_scr_list {xs : List PV} {st : Sto} : Bf.f .isi st [(.scr xs), .ty "list"] = some (.bl true) := by kernel_rfl
@[simp] theorem isi_scr_str {xs : List PV} {st : Sto} : Bf.f .isi st [(.scr xs), .ty "str"] = some (.bl false) := by kernel_rfl
@[simp] theorem isi_scr_int {xs : List PV} {st : Sto} : Bf.f .isi st [(.scr xs), .ty "int"] = some (.bl false) := by kernel_rfl
@[simp] theorem isi_scr_bool {xs : List PV} {st : Sto} : Bf.f .isi st [(.scr xs), .ty "bool"] = some (.bl false) := by kernel_rfl

/-! ### _law_same -/
def mSame (f : List PV → Sto → Res PV) : SM := (sSeq (sIf (bOr (bVal (mBi (Bf.f .isi) (aCons (mVar 1) (aCons (mC (.ty "tuple")) aNil)))) (bVal (mBi (Bf.f .isi) (aCons (mVar 1) (aCons (mC (.ty "list")) aNil))))) (sSeq (sIf (bOr (bVal (mBin opNe (mBi (Bf.f .isi) (aCons (mVar 1) (aCons (mC (.ty "tuple")) aNil))) (mBi (Bf.f .isi) (aCons (mVar 0) (aCons (mC (.ty "tuple")) aNil))))) (bVal (mBin opNe (mBi (Bf.f .isi) (aCons (mVar 1) (aCons (mC (.ty "list")) aNil))) (mBi (Bf.f .isi) (aCons (mVar 0) (aCons (mC (.ty "list")) aNil)))))) (sSeq (sRet (mC (.bl false))) sNil) sNil) (sSeq (sIf (bVal (mBin opNe (mBi (Bf.f .len) (aCons (mVar 0) aNil)) (mBi (Bf.f .len) (aCons (mVar 1) aNil)))) (sSeq (sRet (mC (.bl false))) sNil) sNil) (sSeq (sRet (mBin opEq (mBi (Bf.f .len) (aCons (mFz (aLc (aRange1 (aCons (mBi (Bf.f .len) (aCons (mVar 1) aNil)) aNil)) [2] (gNm 2) (bNot (bVal (mCall f (aCons (mBinS opIx (mVar 0) (mVar 2)) (aCons (mBinS opIx (mVar 1) (mVar 2)) aNil)) []))) (mVar 2))) aNil)) (mC (.int 0)))) sNil))) sNil) (sSeq (sIf (bVal (mBi (Bf.f .isi) (aCons (mVar 1) (aCons (mC (.ty "str")) aNil)))) (sSeq (sRet (mAndV (mBi (Bf.f .isi) (aCons (mVar 0) (aCons (mC (.ty "str")) aNil))) (mBin opEq (mVar 0) (mVar 1)))) sNil) sNil) (sSeq (sIf (bVal (mBin opIs (mVar 1) (mC .non))) (sSeq (sRet (mBin opIs (mVar 0) (mC .non))) sNil) sNil) (sSeq (sIf (bOr (bVal (mBi (Bf.f .isi) (aCons (mVar 1) (aCons (mC (.ty "bool")) aNil)))) (bVal (mBi (Bf.f .isi) (aCons (mVar 0) (aCons (mC (.ty "bool")) aNil))))) (sSeq (sRet (mAndV (mBi (Bf.f .isi) (aCons (mVar 1) (aCons (mC (.ty "bool")) aNil))) (mAndV (mBi (Bf.f .isi) (aCons (mVar 0) (aCons (mC (.ty "bool")) aNil))) (mBin opEq (mVar 0) (mVar 1))))) sNil) sNil) (sSeq (sRet (mAndV (mBi (Bf.f .isi) (aCons (mVar 0) (aCons (mC (.ty "int")) aNil))) (mAndV (mBi (Bf.f .isi) (aCons (mVar 1) (aCons (mC (.ty "int")) aNil))) (mBin opEq (mVar 0) (mVar 1))))) sNil)))))
mutual
/-- plain, and no line of it longer than 1000 -/
def PV.fair : PV → Bool
  | .non => true
  | .bl _ => true
  | .int _ => true
  | .str _ => true
  | .tup xs => decide (xs.length ≤ 1000) && PV.fairs xs
  | .lst xs => decide (xs.length ≤ 1000) && PV.fairs xs
  | _ => false
def PV.fairs : List PV → Bool
  | [] => true
  | x :: xs => PV.fair x && PV.fairs xs
end
theorem fairs_get : ∀ {xs : List PV} {k : Nat} {x : PV}, PV.fairs xs = true → xs[k]? = some x → PV.fair x = true
  | [], _, _, _, h => by simp at h
  | y :: ys, 0, x, h, e => by
    simp only [PV.fairs, Bool.and_eq_true] at h
    simp at e
    rw [← e]; exact h.1
  | y :: ys, k + 1, x, h, e => by
    simp only [PV.fairs, Bool.and_eq_true] at h
    exact fairs_get h.2 (by simpa using e)
theorem depths_get : ∀ {xs : List PV} {k : Nat} {x : PV}, xs[k]? = some x → PV.depth x ≤ PV.depths xs
  | [], _, _, h => by simp at h
  | y :: ys, 0, x, e => by
    simp at e
    rw [← e]; simp only [PV.depths]; omega
  | y :: ys, k + 1, x, e => by
    have := depths_get (xs := ys) (k := k) (x := x) (by simpa using e)
    simp only [PV.depths]; omega
/-- a comprehension none of whose tests holds -/
theorem go_none {t : GM} {c : BM} {m : EM} {ρ : PEnv} {st : Sto} : ∀ {xs : List PV}, (∀ x ∈ xs, ∃ ρ1, (t x).map (setP ρ) = some ρ1 ∧ c ρ1 st = .ok false st) → compGo t c m ρ xs st = .ok [] st
  | [], _ => rfl
  | x :: xs, h => by
    obtain ⟨ρ1, h1, h2⟩ := h x List.mem_cons_self
    have ih := go_none (t := t) (c := c) (m := m) (ρ := ρ) (st := st) (xs := xs) fun y hy => h y (List.mem_cons_of_mem _ hy)
    unfold compGo
    rw [h1]
    simp only
    rw [h2]
    exact ih
theorem rangeL_mem : ∀ {n : Nat} {lo : Int} {x : PV}, x ∈ rangeL lo n → ∃ k : Nat, k < n ∧ x = .int (lo + k)
  | 0, _, _, h => by simp [rangeL] at h
  | n + 1, lo, x, h => by
    simp only [rangeL, List.mem_cons] at h
    rcases h with rfl | h
    · exact ⟨0, by omega, by simp⟩
    · obtain ⟨k, h1, rfl⟩ := rangeL_mem h
      exact ⟨k + 1, by omega, by congr 1; omega⟩
theorem rOk_len {n : Nat} (h : n ≤ 1000) : rOk (n : Int) = true := by
  unfold rOk
  rw [decide_eq_true_eq]
  omega
theorem small_le {n : Nat} (h : n ≤ 1000) : n ≤ sizeLine := Nat.le_trans h (by decide)
theorem same_go {f : List PV → Sto → Res PV} {st : Sto} (y : PV) (xs : List PV) (hk : ∀ k : Nat, opIx st y (.int k) = xs[k]?) (ih : ∀ x ∈ xs, f [x, x] st = .ok (.bl true) st) :
    compGo (gNm 2) (bNot (bVal (mCall f (aCons (mBinS opIx (mVar 0) (mVar 2)) (aCons (mBinS opIx (mVar 1) (mVar 2)) aNil)) []))) (mVar 2) [some y, some y, none] (rangeL 0 xs.length) st = .ok [] st := by
  refine go_none fun z hz => ?_
  obtain ⟨k, hk1, rfl⟩ := rangeL_mem hz
  refine ⟨_, rfl, ?_⟩
  have h0 := hk k
  rw [List.getElem?_eq_getElem hk1] at h0
  have hi := ih xs[k] (List.getElem_mem hk1)
  simp [h0, hi]
theorem same_tup {f : List PV → Sto → Res PV} {st : Sto} (xs : List PV) (hl : xs.length ≤ 1000) (ih : ∀ x ∈ xs, f [x, x] st = .ok (.bl true) st) : endOf false (mSame f [.val (.tup xs), .val (.tup xs), .no] st) = .ok (.bl true) st := by
  have hg := same_go (st := st) (.tup xs) xs (fun k => ixT k) ih
  have hr1 := rOk_len hl
  have hr2 := small_le hl
  unfold mSame
  simp [hr1, hr2, hg]
theorem same_lst {f : List PV → Sto → Res PV} {st : Sto} (xs : List PV) (hl : xs.length ≤ 1000) (ih : ∀ x ∈ xs, f [x, x] st = .ok (.bl true) st) : endOf false (mSame f [.val (.lst xs), .val (.lst xs), .no] st) = .ok (.bl true) st := by
  have hg := same_go (st := st) (.lst xs) xs (fun k => atI_nat xs k) ih
  have hr1 := rOk_len hl
  have hr2 := small_le hl
  unfold mSame
  simp [hr1, hr2, hg]
theorem same_non {f : List PV → Sto → Res PV} {st : Sto} : endOf false (mSame f [.val .non, .val .non, .no] st) = .ok (.bl true) st := by
  unfold mSame
  simp
theorem same_bl {f : List PV → Sto → Res PV} {st : Sto} (a b : Bool) : endOf false (mSame f [.val (.bl a), .val (.bl b), .no] st) = .ok (.bl (a == b)) st := by
  unfold mSame
  simp [isN]
theorem same_int {f : List PV → Sto → Res PV} {st : Sto} (a b : Int) : endOf false (mSame f [.val (.int a), .val (.int b), .no] st) = .ok (.bl (a == b)) st := by
  unfold mSame
  simp [isN]
theorem same_str {f : List PV → Sto → Res PV} {st : Sto} (a b : Str) : endOf false (mSame f [.val (.str a), .val (.str b), .no] st) = .ok (.bl (a == b)) st := by
  unfold mSame
  simp
theorem same_refl {C : Nat → List PV → Sto → Res PV} (hC : ∀ n x y st, C (n + 1) [x, y] st = endOf false (mSame (C n) [.val x, .val y, .no] st)) (n : Nat) : ∀ (x : PV) (st : Sto), x.fair = true → x.depth < n → C n [x, x] st = .ok (.bl true) st := by
  induction n with
  | zero => intro x st _ h; omega
  | succ n ih =>
    intro x st hf h
    rw [hC]
    cases x with
    | tup xs =>
      simp only [PV.fair, Bool.and_eq_true, decide_eq_true_eq] at hf
      refine same_tup xs hf.1 fun y hy => ?_
      obtain ⟨k, hk⟩ := List.mem_iff_getElem?.mp hy
      have := depths_get hk
      exact ih y st (fairs_get hf.2 hk) (by simp only [PV.depth] at h; omega)
    | lst xs =>
      simp only [PV.fair, Bool.and_eq_true, decide_eq_true_eq] at hf
      refine same_lst xs hf.1 fun y hy => ?_
      obtain ⟨k, hk⟩ := List.mem_iff_getElem?.mp hy
      have := depths_get hk
      exact ih y st (fairs_get hf.2 hk) (by simp only [PV.depth] at h; omega)
    | non => exact same_non
    | bl b => rw [same_bl]; simp
    | int i => rw [same_int]; simp
    | str x => rw [same_str]; simp
    | _ => simp [PV.fair] at hf
end BK

/-! BkY: types as data -/
namespace BK
open PySem PySem.Spec PyProof.Rows L2 RZ

inductive Ty where
  | any | int | bool
  | fn (a b : Ty) | pair (a b : Ty) | list (a : Ty)
deriving DecidableEq
def enc : Ty → PV
  | .any => .tup [.str "any"]
  | .int => .tup [.str "int"]
  | .bool => .tup [.str "bool"]
  | .fn a b => .tup [.str "fn", enc a, enc b]
  | .pair a b => .tup [.str "pair", enc a, enc b]
  | .list a => .tup [.str "list", enc a]
def Ty.dep : Ty → Nat
  | .any | .int | .bool => 1
  | .fn a b => max a.dep b.dep + 1
  | .pair a b => max a.dep b.dep + 1
  | .list a => a.dep + 1
@[simp] theorem fold_any : PV.tup [.str "any"] = enc .any := (rfl)
@[simp] theorem fold_int : PV.tup [.str "int"] = enc .int := (rfl)
@[simp] theorem fold_bool : PV.tup [.str "bool"] = enc .bool := (rfl)
@[simp] theorem fold_fn {a b : Ty} : PV.tup [.str "fn", enc a, enc b] = enc (.fn a b) := (rfl)
@[simp] theorem fold_pair {a b : Ty} : PV.tup [.str "pair", enc a, enc b] = enc (.pair a b) := (rfl)
@[simp] theorem fold_list {a : Ty} : PV.tup [.str "list", enc a] = enc (.list a) := (rfl)
@[simp] theorem w_any_any : (("any" : Str) == ("any" : Str)) = true := by decide +kernel
@[simp] theorem w_any_int : (("any" : Str) == ("int" : Str)) = false := by decide +kernel
@[simp] theorem w_any_bool : (("any" : Str) == ("bool" : Str)) = false := by decide +kernel
@[simp] theorem w_any_fn : (("any" : Str) == ("fn" : Str)) = false := by decide +kernel
@[simp] theorem w_any_pair : (("any" : Str) == ("pair" : Str)) = false := by decide +kernel
@[simp] theorem w_any_list : (("any" : Str) == ("list" : Str)) = false := by decide +kernel
@[simp] theorem w_int_any : (("int" : Str) == ("any" : Str)) = false := by decide +kernel
@[simp] theorem w_int_int : (("int" : Str) == ("int" : Str)) = true := by decide +kernel
@[simp] theorem w_int_bool : (("int" : Str) == ("bool" : Str)) = false := by decide +kernel
@[simp] theorem w_int_fn : (("int" : Str) == ("fn" : Str)) = false := by decide +kernel
@[simp] theorem w_int_pair : (("int" : Str) == ("pair" : Str)) = false := by decide +kernel
@[simp] theorem w_int_list : (("int" : Str) == ("list" : Str)) = false := by decide +kernel
@[simp] theorem w_bool_any : (("bool" : Str) == ("any" : Str)) = false := by decide +kernel
@[simp] theorem w_bool_int : (("bool" : Str) == ("int" : Str)) = false := by decide +kernel
@[simp] theorem w_bool_bool : (("bool" : Str) == ("bool" : Str)) = true := by decide +kernel
@[simp] theorem w_bool_fn : (("bool" : Str) == ("fn" : Str)) = false := by decide +kernel
@[simp] theorem w_bool_pair : (("bool" : Str) == ("pair" : Str)) = false := by decide +kernel
@[simp] theorem w_bool_list : (("bool" : Str) == ("list" : Str)) = false := by decide +kernel
@[simp] theorem w_fn_any : (("fn" : Str) == ("any" : Str)) = false := by decide +kernel
@[simp] theorem w_fn_int : (("fn" : Str) == ("int" : Str)) = false := by decide +kernel
@[simp] theorem w_fn_bool : (("fn" : Str) == ("bool" : Str)) = false := by decide +kernel
@[simp] theorem w_fn_fn : (("fn" : Str) == ("fn" : Str)) = true := by decide +kernel
@[simp] theorem w_fn_pair : (("fn" : Str) == ("pair" : Str)) = false := by decide +kernel
@[simp] theorem w_fn_list : (("fn" : Str) == ("list" : Str)) = false := by decide +kernel
@[simp] theorem w_pair_any : (("pair" : Str) == ("any" : Str)) = false := by decide +kernel
@[simp] theorem w_pair_int : (("pair" : Str) == ("int" : Str)) = false := by decide +kernel
@[simp] theorem w_pair_bool : (("pair" : Str) == ("bool" : Str)) = false := by decide +kernel
@[simp] theorem w_pair_fn : (("pair" : Str) == ("fn" : Str)) = false := by decide +kernel
@[simp] theorem w_pair_pair : (("pair" : Str) == ("pair" : Str)) = true := by decide +kernel
@[simp] theorem w_pair_list : (("pair" : Str) == ("list" : Str)) = false := by decide +kernel
@[simp] theorem w_list_any : (("list" : Str) == ("any" : Str)) = false := by decide +kernel
@[simp] theorem w_list_int : (("list" : Str) == ("int" : Str)) = false := by decide +kernel
@[simp] theorem w_list_bool : (("list" : Str) == ("bool" : Str)) = false := by decide +kernel
@[simp] theorem w_list_fn : (("list" : Str) == ("fn" : Str)) = false := by decide +kernel
@[simp] theorem w_list_pair : (("list" : Str) == ("pair" : Str)) = false := by decide +kernel
@[simp] theorem w_list_list : (("list" : Str) == ("list" : Str)) = true := by decide +kernel
@[simp] theorem ix0_any {st : Sto} : opIx st (enc .any) (.int 0) = some (.str "any") := (rfl)
@[simp] theorem slT_any : opSl (enc .any) (some 1) none = some (.tup []) := sl1
@[simp] theorem len_any {st : Sto} : Bf.f .len st [enc .any] = some (.int 1) := (rfl)
@[simp] theorem mk_any : opAdd (.tup [.str "any"]) (.tup []) = some (enc .any) := add10
@[simp] theorem ix0_int {st : Sto} : opIx st (enc .int) (.int 0) = some (.str "int") := (rfl)
@[simp] theorem slT_int : opSl (enc .int) (some 1) none = some (.tup []) := sl1
@[simp] theorem len_int {st : Sto} : Bf.f .len st [enc .int] = some (.int 1) := (rfl)
@[simp] theorem mk_int : opAdd (.tup [.str "int"]) (.tup []) = some (enc .int) := add10
@[simp] theorem ix0_bool {st : Sto} : opIx st (enc .bool) (.int 0) = some (.str "bool") := (rfl)
@[simp] theorem slT_bool : opSl (enc .bool) (some 1) none = some (.tup []) := sl1
@[simp] theorem len_bool {st : Sto} : Bf.f .len st [enc .bool] = some (.int 1) := (rfl)
@[simp] theorem mk_bool : opAdd (.tup [.str "bool"]) (.tup []) = some (enc .bool) := add10
@[simp] theorem ix0_fn {a b : Ty} {st : Sto} : opIx st (enc (.fn a b)) (.int 0) = some (.str "fn") := (rfl)
@[simp] theorem ix1_fn {a b : Ty} {st : Sto} : opIx st (enc (.fn a b)) (.int 1) = some (enc a) := (rfl)
@[simp] theorem ix2_fn {a b : Ty} {st : Sto} : opIx st (enc (.fn a b)) (.int 2) = some (enc b) := (rfl)
@[simp] theorem slT_fn {a b : Ty} : opSl (enc (.fn a b)) (some 1) none = some (.tup [enc a, enc b]) := sl1
@[simp] theorem len_fn {a b : Ty} {st : Sto} : Bf.f .len st [enc (.fn a b)] = some (.int 3) := (rfl)
@[simp] theorem mk_fn {a b : Ty} : opAdd (.tup [.str "fn"]) (.tup [enc a, enc b]) = some (enc (.fn a b)) := add12
@[simp] theorem ix0_pair {a b : Ty} {st : Sto} : opIx st (enc (.pair a b)) (.int 0) = some (.str "pair") := (rfl)
@[simp] theorem ix1_pair {a b : Ty} {st : Sto} : opIx st (enc (.pair a b)) (.int 1) = some (enc a) := (rfl)
@[simp] theorem ix2_pair {a b : Ty} {st : Sto} : opIx st (enc (.pair a b)) (.int 2) = some (enc b) := (rfl)
@[simp] theorem slT_pair {a b : Ty} : opSl (enc (.pair a b)) (some 1) none = some (.tup [enc a, enc b]) := sl1
@[simp] theorem len_pair {a b : Ty} {st : Sto} : Bf.f .len st [enc (.pair a b)] = some (.int 3) := (rfl)
@[simp] theorem mk_pair {a b : Ty} : opAdd (.tup [.str "pair"]) (.tup [enc a, enc b]) = some (enc (.pair a b)) := add12
@[simp] theorem ix0_list {a : Ty} {st : Sto} : opIx st (enc (.list a)) (.int 0) = some (.str "list") := (rfl)
@[simp] theorem ix1_list {a : Ty} {st : Sto} : opIx st (enc (.list a)) (.int 1) = some (enc a) := (rfl)
@[simp] theorem slT_list {a : Ty} : opSl (enc (.list a)) (some 1) none = some (.tup [enc a]) := sl1
@[simp] theorem len_list {a : Ty} {st : Sto} : Bf.f .len st [enc (.list a)] = some (.int 2) := (rfl)
@[simp] theorem mk_list {a : Ty} : opAdd (.tup [.str "list"]) (.tup [enc a]) = some (enc (.list a)) := add11
@[simp] theorem mke_any : opAdd (enc .any) (.tup []) = some (enc .any) := add10
@[simp] theorem mke_int : opAdd (enc .int) (.tup []) = some (enc .int) := add10
@[simp] theorem mke_bool : opAdd (enc .bool) (.tup []) = some (enc .bool) := add10
theorem mul0 {x : PV} : opMul (.tup [x]) (.int 0) = some (.tup []) := by simp [opMul]
theorem mul1 {x : PV} : opMul (.tup [x]) (.int 1) = some (.tup [x]) := by simp [opMul]
theorem mul2 {x : PV} : opMul (.tup [x]) (.int 2) = some (.tup [x, x]) := by simp [opMul, List.replicate]
theorem enc_plain : ∀ a : Ty, (enc a).plain = true
  | .any | .int | .bool => rfl
  | .fn a b => by show PV.plain (.tup [.str "fn", enc a, enc b]) = true; simp only [PV.plain, PV.plains, enc_plain a, enc_plain b, Bool.and_self]
  | .pair a b => by show PV.plain (.tup [.str "pair", enc a, enc b]) = true; simp only [PV.plain, PV.plains, enc_plain a, enc_plain b, Bool.and_self]
  | .list a => by show PV.plain (.tup [.str "list", enc a]) = true; simp only [PV.plain, PV.plains, enc_plain a, Bool.and_self]
theorem enc_depth : ∀ a : Ty, (enc a).depth = a.dep
  | .any | .int | .bool => rfl
  | .fn a b => by show PV.depth (.tup [.str "fn", enc a, enc b]) = _; simp [PV.depth, PV.depths, Ty.dep, enc_depth a, enc_depth b]
  | .pair a b => by show PV.depth (.tup [.str "pair", enc a, enc b]) = _; simp [PV.depth, PV.depths, Ty.dep, enc_depth a, enc_depth b]
  | .list a => by show PV.depth (.tup [.str "list", enc a]) = _; simp [PV.depth, PV.depths, Ty.dep, enc_depth a]
theorem enc_fair : ∀ a : Ty, (enc a).fair = true
  | .any | .int | .bool => rfl
  | .fn a b => by show PV.fair (.tup [.str "fn", enc a, enc b]) = true; simp [PV.fair, PV.fairs, enc_fair a, enc_fair b]
  | .pair a b => by show PV.fair (.tup [.str "pair", enc a, enc b]) = true; simp [PV.fair, PV.fairs, enc_fair a, enc_fair b]
  | .list a => by show PV.fair (.tup [.str "list", enc a]) = true; simp [PV.fair, PV.fairs, enc_fair a]
theorem enc_eqv : ∀ a b : Ty, (enc a).eqv (enc b) = decide (a = b)
  | .any, b => by cases b <;> simp [enc, PV.eqv, PV.eqvs, -fold_any, -fold_int, -fold_bool, -fold_fn, -fold_pair, -fold_list]
  | .int, b => by cases b <;> simp [enc, PV.eqv, PV.eqvs, -fold_any, -fold_int, -fold_bool, -fold_fn, -fold_pair, -fold_list]
  | .bool, b => by cases b <;> simp [enc, PV.eqv, PV.eqvs, -fold_any, -fold_int, -fold_bool, -fold_fn, -fold_pair, -fold_list]
  | .fn a d, b => by cases b <;> simp [enc, PV.eqv, PV.eqvs, enc_eqv a, enc_eqv d, -fold_any, -fold_int, -fold_bool, -fold_fn, -fold_pair, -fold_list]
  | .pair a d, b => by cases b <;> simp [enc, PV.eqv, PV.eqvs, enc_eqv a, enc_eqv d, -fold_any, -fold_int, -fold_bool, -fold_fn, -fold_pair, -fold_list]
  | .list a, b => by cases b <;> simp [enc, PV.eqv, PV.eqvs, enc_eqv a, -fold_any, -fold_int, -fold_bool, -fold_fn, -fold_pair, -fold_list]
theorem eq_enc (a b : Ty) (h : a.dep ≤ 50) : opEq (enc a) (enc b) = some (.bl (decide (a = b))) := by
  unfold opEq
  rw [if_pos (by unfold eqOk; rw [enc_plain, enc_plain, enc_depth, enc_depth]; simp; omega), enc_eqv]
theorem ne_enc (a b : Ty) (h : a.dep ≤ 50) : opNe (enc a) (enc b) = some (.bl (!decide (a = b))) := by
  unfold opNe
  rw [if_pos (by unfold eqOk; rw [enc_plain, enc_plain, enc_depth, enc_depth]; simp; omega), enc_eqv]
/-- against any: whatever the depth -/
@[simp] theorem eq_any (a : Ty) : opEq (enc a) (enc .any) = some (.bl (decide (a = .any))) := by
  unfold opEq
  rw [if_pos (by unfold eqOk; rw [enc_plain, enc_plain, enc_depth, enc_depth]; rw [Bool.and_self, Bool.true_and, decide_eq_true_eq]; exact Nat.le_trans (Nat.min_le_right _ _) (by show 1 ≤ 60; omega)), enc_eqv]
theorem in_any (a b : Ty) : opIn (enc .any) (.lst [enc a, enc b]) = some (.bl (decide (a = .any) || decide (b = .any))) := by
  unfold opIn
  simp only
  rw [if_pos (by unfold inOk; simp only [PV.plains, enc_plain, enc_depth, Ty.dep, Bool.and_self, Bool.true_and, decide_eq_true_eq]; omega)]
  simp [enc_eqv]
def alike : Ty → Ty → Bool
  | .any, _ => true
  | _, .any => true
  | .int, .int => true
  | .bool, .bool => true
  | .fn a b, .fn c d => alike a c && alike b d
  | .pair a b, .pair c d => alike a c && alike b d
  | .list a, .list c => alike a c
  | _, _ => false
def finer : Ty → Ty → Bool
  | _, .any => true
  | .int, .int => true
  | .bool, .bool => true
  | .fn a b, .fn c d => finer a c && finer b d
  | .pair a b, .pair c d => finer a c && finer b d
  | .list a, .list c => finer a c
  | _, _ => false
theorem alike_any (a : Ty) : alike a .any = true := by cases a <;> rfl
theorem finer_any (a : Ty) : finer a .any = true := by cases a <;> rfl
theorem alike_symm : ∀ a b : Ty, alike a b = alike b a
  | .any, b => by cases b <;> rfl
  | .int, b => by cases b <;> rfl
  | .bool, b => by cases b <;> rfl
  | .fn a c, b => by cases b <;> simp [alike, alike_symm a, alike_symm c]
  | .pair a c, b => by cases b <;> simp [alike, alike_symm a, alike_symm c]
  | .list a, b => by cases b <;> simp [alike, alike_symm a]
theorem alike_refl : ∀ a : Ty, alike a a = true
  | .any | .int | .bool => rfl
  | .fn a c => by simp [alike, alike_refl a, alike_refl c]
  | .pair a c => by simp [alike, alike_refl a, alike_refl c]
  | .list a => by simp [alike, alike_refl a]
theorem finer_refl : ∀ a : Ty, finer a a = true
  | .any | .int | .bool => rfl
  | .fn a c => by simp [finer, finer_refl a, finer_refl c]
  | .pair a c => by simp [finer, finer_refl a, finer_refl c]
  | .list a => by simp [finer, finer_refl a]
theorem alike_of : ∀ t u v : Ty, finer t u = true → finer t v = true → alike u v = true
  | .any, u, v => by cases u <;> cases v <;> simp [finer, alike]
  | .int, u, v => by cases u <;> cases v <;> simp [finer, alike]
  | .bool, u, v => by cases u <;> cases v <;> simp [finer, alike]
  | .fn a c, u, v => by
    cases u <;> cases v <;> simp [finer, alike]
    exact fun h1 h2 h3 h4 => ⟨alike_of _ _ _ h1 h3, alike_of _ _ _ h2 h4⟩
  | .pair a c, u, v => by
    cases u <;> cases v <;> simp [finer, alike]
    exact fun h1 h2 h3 h4 => ⟨alike_of _ _ _ h1 h3, alike_of _ _ _ h2 h4⟩
  | .list a, u, v => by
    cases u <;> cases v <;> simp [finer, alike]
    exact fun h1 h2 => alike_of _ _ _ h1 h2
end BK

/-! BkZ: values that are cast -/
namespace BK
open PySem PySem.Spec PyProof.Rows L2 RZ

mutual
inductive Va where
  | int (i : Int) | bool (b : Bool)
  | pair (a b : Va) | items (l : Vs) | tag (g : Ty) (v : Va)
inductive Vs where
  | nil
  | cons (v : Va) (l : Vs)
end
mutual
def encV : Va → PV
  | .int i => .tup [.str "int", .int i]
  | .bool b => .tup [.str "bool", .bl b]
  | .pair a b => .tup [.str "pair", encV a, encV b]
  | .items l => .tup [.str "items", .tup (encVs l)]
  | .tag g v => .tup [.str "tag", enc g, encV v]
def encVs : Vs → List PV
  | .nil => []
  | .cons v l => encV v :: encVs l
end
mutual
def Va.dep : Va → Nat
  | .int _ | .bool _ => 1
  | .pair a b => max a.dep b.dep + 1
  | .items l => l.dep + 1
  | .tag _ v => v.dep + 1
def Vs.dep : Vs → Nat
  | .nil => 0
  | .cons v l => max v.dep l.dep
end
/-- a ground -/
def isGr : Ty → Bool
  | .int | .bool => true
  | .pair .any .any => true
  | .list .any => true
  | _ => false
mutual
def has : Ty → Va → Bool
  | .any, .tag g v => isGr g && has g v
  | .int, .int _ => true
  | .bool, .bool _ => true
  | .pair a b, .pair x y => has a x && has b y
  | .list a, .items l => hasL a l
  | _, _ => false
def hasL : Ty → Vs → Bool
  | _, .nil => true
  | a, .cons v l => has a v && hasL a l
end
def grd : Ty → Ty
  | .fn _ _ => .fn .any .any
  | .pair _ _ => .pair .any .any
  | .list _ => .list .any
  | a => a
mutual
def up : Ty → Va → Va
  | .any, v => v
  | .pair a b, .pair x y => .tag (.pair .any .any) (.pair (up a x) (up b y))
  | .list a, .items l => .tag (.list .any) (.items (upL a l))
  | k, v => .tag k v
def upL : Ty → Vs → Vs
  | _, .nil => .nil
  | a, .cons v l => .cons (up a v) (upL a l)
end
mutual
def vcast : Ty → Ty → Va → Option Va
  | k, .any, v => some (up k v)
  | .any, d, .tag g v => if g = grd d then vcast g d v else none
  | .pair a b, .pair c d, .pair x y => (vcast a c x).bind fun x' => (vcast b d y).map fun y' => .pair x' y'
  | .list a, .list c, .items l => (vcastL a c l).map .items
  | .int, .int, v => some v
  | .bool, .bool, v => some v
  | _, _, _ => none
def vcastL : Ty → Ty → Vs → Option Vs
  | _, _, .nil => some .nil
  | a, c, .cons v l => (vcast a c v).bind fun v' => (vcastL a c l).map fun l' => .cons v' l'
end
mutual
theorem cast_self : ∀ (k : Ty) (v : Va), has k v = true → vcast k k v = some v
  | .any, v, _ => by simp [vcast, up]
  | .int, .int _, _ => rfl
  | .bool, .bool _, _ => rfl
  | .pair a b, .pair x y, h => by
    simp only [has, Bool.and_eq_true] at h
    simp [vcast, cast_self a x h.1, cast_self b y h.2]
  | .list a, .items l, h => by
    simp only [has] at h
    simp [vcast, castL_self a l h]
  | .int, .bool _, h | .int, .pair _ _, h | .int, .items _, h | .int, .tag _ _, h => by simp [has] at h
  | .bool, .int _, h | .bool, .pair _ _, h | .bool, .items _, h | .bool, .tag _ _, h => by simp [has] at h
  | .pair _ _, .int _, h | .pair _ _, .bool _, h | .pair _ _, .items _, h | .pair _ _, .tag _ _, h => by simp [has] at h
  | .list _, .int _, h | .list _, .bool _, h | .list _, .pair _ _, h | .list _, .tag _ _, h => by simp [has] at h
  | .fn _ _, v, h => by cases v <;> simp [has] at h
theorem castL_self : ∀ (k : Ty) (l : Vs), hasL k l = true → vcastL k k l = some l
  | _, .nil, _ => rfl
  | k, .cons v l, h => by
    simp only [hasL, Bool.and_eq_true] at h
    simp [vcastL, cast_self k v h.1, castL_self k l h.2]
end
/-! what is cast up is of any -/
mutual
theorem has_up : ∀ (k : Ty) (v : Va), has k v = true → has .any (up k v) = true
  | .any, v, h => by simpa [up] using h
  | .int, .int _, _ => rfl
  | .bool, .bool _, _ => rfl
  | .pair a b, .pair x y, h => by
    simp only [has, Bool.and_eq_true] at h
    simp [up, has, isGr, has_up a x h.1, has_up b y h.2]
  | .list a, .items l, h => by
    simp only [has] at h
    simp [up, has, isGr, hasL_up a l h]
  | .int, .bool _, h | .int, .pair _ _, h | .int, .items _, h | .int, .tag _ _, h => by simp [has] at h
  | .bool, .int _, h | .bool, .pair _ _, h | .bool, .items _, h | .bool, .tag _ _, h => by simp [has] at h
  | .pair _ _, .int _, h | .pair _ _, .bool _, h | .pair _ _, .items _, h | .pair _ _, .tag _ _, h => by simp [has] at h
  | .list _, .int _, h | .list _, .bool _, h | .list _, .pair _ _, h | .list _, .tag _ _, h => by simp [has] at h
  | .fn _ _, v, h => by cases v <;> simp [has] at h
theorem hasL_up : ∀ (k : Ty) (l : Vs), hasL k l = true → hasL .any (upL k l) = true
  | _, .nil, _ => rfl
  | k, .cons v l, h => by
    simp only [hasL, Bool.and_eq_true] at h
    simp [upL, hasL, has_up k v h.1, hasL_up k l h.2]
end
theorem grd_isGr {g : Ty} (h : isGr g = true) : grd g = g := by
  cases g <;> simp [isGr] at h <;> simp [grd]
  · rename_i a b
    cases a <;> cases b <;> simp [isGr] at h ⊢
  · rename_i a
    cases a <;> simp [isGr] at h ⊢
/-! through the ground: the same -/
mutual
theorem cast_up : ∀ (k d : Ty) (v : Va), has k v = true → alike k d = true → vcast .any d (up k v) = vcast k d v
  | .any, d, v, _, _ => by simp [up]
  | .int, d, .int i, _, ha => by cases d <;> simp [alike] at ha <;> simp [up, vcast, grd]
  | .bool, d, .bool i, _, ha => by cases d <;> simp [alike] at ha <;> simp [up, vcast, grd]
  | .pair a b, d, .pair x y, h, ha => by
    simp only [has, Bool.and_eq_true] at h
    cases d <;> simp [alike] at ha
    · simp [up, vcast]
    · rename_i c e
      simp [up, vcast, grd, cast_up a c x h.1 ha.1, cast_up b e y h.2 ha.2]
  | .list a, d, .items l, h, ha => by
    simp only [has] at h
    cases d <;> simp [alike] at ha
    · simp [up, vcast]
    · rename_i c
      simp [up, vcast, grd, castL_up a c l h ha]
  | .int, _, .bool _, h, _ | .int, _, .pair _ _, h, _ | .int, _, .items _, h, _ | .int, _, .tag _ _, h, _ => by simp [has] at h
  | .bool, _, .int _, h, _ | .bool, _, .pair _ _, h, _ | .bool, _, .items _, h, _ | .bool, _, .tag _ _, h, _ => by simp [has] at h
  | .pair _ _, _, .int _, h, _ | .pair _ _, _, .bool _, h, _ | .pair _ _, _, .items _, h, _ | .pair _ _, _, .tag _ _, h, _ => by simp [has] at h
  | .list _, _, .int _, h, _ | .list _, _, .bool _, h, _ | .list _, _, .pair _ _, h, _ | .list _, _, .tag _ _, h, _ => by simp [has] at h
  | .fn _ _, _, v, h, _ => by cases v <;> simp [has] at h
theorem castL_up : ∀ (k d : Ty) (l : Vs), hasL k l = true → alike k d = true → vcastL .any d (upL k l) = vcastL k d l
  | _, _, .nil, _, _ => rfl
  | k, d, .cons v l, h, ha => by
    simp only [hasL, Bool.and_eq_true] at h
    simp [upL, vcastL, cast_up k d v h.1 ha, castL_up k d l h.2 ha]
end
/-! what is shown; which types fit -/
mutual
def sh : Va → Va
  | .tag _ v => sh v
  | .pair a b => .pair (sh a) (sh b)
  | .items l => .items (shL l)
  | v => v
def shL : Vs → Vs
  | .nil => .nil
  | .cons v l => .cons (sh v) (shL l)
end
mutual
def fit : Ty → Va → Bool
  | d, .tag _ v => fit d v
  | .any, _ => true
  | .int, .int _ => true
  | .bool, .bool _ => true
  | .pair a b, .pair x y => fit a x && fit b y
  | .list a, .items l => fitL a l
  | _, _ => false
def fitL : Ty → Vs → Bool
  | _, .nil => true
  | a, .cons v l => fit a v && fitL a l
end
def nofn : Ty → Bool
  | .fn _ _ => false
  | .pair a b => nofn a && nofn b
  | .list a => nofn a
  | _ => true
mutual
theorem fits_any : ∀ v : Va, fit .any v = true
  | .tag _ v => by simp only [fit]; exact fits_any v
  | .int _ | .bool _ | .pair _ _ | .items _ => by simp [fit]
end
theorem fits_not {g d : Ty} {w : Va} (hg : isGr g = true) (hw : has g w = true) (hd : d ≠ .any) (hn : nofn d = true) (h : g ≠ grd d) : fit d w = false := by
  cases g <;> simp [isGr] at hg
  · cases w <;> simp [has] at hw
    cases d <;> simp [grd, nofn] at h hd hn <;> simp [fit]
  · cases w <;> simp [has] at hw
    cases d <;> simp [grd, nofn] at h hd hn <;> simp [fit]
  · rename_i a b
    cases a <;> cases b <;> simp [isGr] at hg
    cases w <;> simp [has] at hw
    cases d <;> simp [grd, nofn] at h hd hn <;> simp [fit]
  · rename_i a
    cases a <;> simp [isGr] at hg
    cases w <;> simp [has] at hw
    cases d <;> simp [grd, nofn] at h hd hn <;> simp [fit]
theorem alike_grd (d : Ty) : alike (grd d) d = true := by cases d <;> rfl
mutual
theorem cast_fits : ∀ (k d : Ty) (v : Va), has k v = true → alike k d = true → nofn d = true → (vcast k d v).isSome = fit d v
  | .any, d, .tag g w, h, ha, hn => by
    simp only [has, Bool.and_eq_true] at h
    by_cases hd : d = .any
    · subst hd; simp [vcast, fits_any]
    · have e : vcast .any d (.tag g w) = if g = grd d then vcast g d w else none := by cases d <;> first | rfl | exact absurd rfl hd
      rw [e]
      simp only [fit]
      by_cases q : g = grd d
      · rw [if_pos q]
        exact cast_fits g d w h.2 (by rw [q]; exact alike_grd d) hn
      · rw [if_neg q, fits_not h.1 h.2 hd hn q]; rfl
  | .int, d, .int i, _, ha, _ => by cases d <;> simp [alike] at ha <;> simp [vcast, fit]
  | .bool, d, .bool i, _, ha, _ => by cases d <;> simp [alike] at ha <;> simp [vcast, fit]
  | .pair a b, d, .pair x y, h, ha, hn => by
    simp only [has, Bool.and_eq_true] at h
    cases d <;> simp [alike] at ha
    · simp [vcast, fit]
    · rename_i c e
      simp only [nofn, Bool.and_eq_true] at hn
      simp only [fit]
      rw [← cast_fits a c x h.1 ha.1 hn.1, ← cast_fits b e y h.2 ha.2 hn.2]
      simp only [vcast]
      cases vcast a c x <;> cases vcast b e y <;> rfl
  | .list a, d, .items l, h, ha, hn => by
    simp only [has] at h
    cases d <;> simp [alike] at ha
    · simp [vcast, fit]
    · rename_i c
      simp only [nofn] at hn
      simp only [fit]
      rw [← castL_fits a c l h ha hn]
      simp only [vcast]
      cases vcastL a c l <;> rfl
  | .any, _, .int _, h, _, _ | .any, _, .bool _, h, _, _ | .any, _, .pair _ _, h, _, _ | .any, _, .items _, h, _, _ => by simp [has] at h
  | .int, _, .bool _, h, _, _ | .int, _, .pair _ _, h, _, _ | .int, _, .items _, h, _, _ | .int, _, .tag _ _, h, _, _ => by simp [has] at h
  | .bool, _, .int _, h, _, _ | .bool, _, .pair _ _, h, _, _ | .bool, _, .items _, h, _, _ | .bool, _, .tag _ _, h, _, _ => by simp [has] at h
  | .pair _ _, _, .int _, h, _, _ | .pair _ _, _, .bool _, h, _, _ | .pair _ _, _, .items _, h, _, _ | .pair _ _, _, .tag _ _, h, _, _ => by simp [has] at h
  | .list _, _, .int _, h, _, _ | .list _, _, .bool _, h, _, _ | .list _, _, .pair _ _, h, _, _ | .list _, _, .tag _ _, h, _, _ => by simp [has] at h
  | .fn _ _, _, v, h, _, _ => by cases v <;> simp [has] at h
theorem castL_fits : ∀ (k d : Ty) (l : Vs), hasL k l = true → alike k d = true → nofn d = true → (vcastL k d l).isSome = fitL d l
  | _, _, .nil, _, _, _ => rfl
  | k, d, .cons v l, h, ha, hn => by
    simp only [hasL, Bool.and_eq_true] at h
    simp only [fitL]
    rw [← cast_fits k d v h.1 ha hn, ← castL_fits k d l h.2 ha hn]
    simp only [vcastL]
    cases vcast k d v <;> cases vcastL k d l <;> rfl
end
mutual
theorem sh_up : ∀ (k : Ty) (v : Va), sh (up k v) = sh v
  | .any, v => by simp [up]
  | .pair a b, .pair x y => by simp [up, sh, sh_up a x, sh_up b y]
  | .list a, .items l => by simp [up, sh, shL_up a l]
  | .int, v => by cases v <;> simp [up, sh]
  | .bool, v => by cases v <;> simp [up, sh]
  | .fn _ _, v => by cases v <;> simp [up, sh]
  | .pair _ _, .int _ | .pair _ _, .bool _ | .pair _ _, .items _ | .pair _ _, .tag _ _ => by simp [up, sh]
  | .list _, .int _ | .list _, .bool _ | .list _, .pair _ _ | .list _, .tag _ _ => by simp [up, sh]
theorem shL_up : ∀ (k : Ty) (l : Vs), shL (upL k l) = shL l
  | _, .nil => rfl
  | k, .cons v l => by simp [upL, shL, sh_up k v, shL_up k l]
end
mutual
theorem cast_keeps : ∀ (k d : Ty) (v v' : Va), has k v = true → alike k d = true → vcast k d v = some v' → sh v' = sh v ∧ has d v' = true
  | .any, d, .tag g w, v', h, ha, e => by
    by_cases hd : d = .any
    · subst hd
      simp only [vcast, up, Option.some.injEq] at e
      subst e
      exact ⟨rfl, h⟩
    · simp only [has, Bool.and_eq_true] at h
      have e2 : vcast .any d (.tag g w) = if g = grd d then vcast g d w else none := by cases d <;> first | rfl | exact absurd rfl hd
      rw [e2] at e
      by_cases q : g = grd d
      · rw [if_pos q] at e
        exact cast_keeps g d w v' h.2 (by rw [q]; exact alike_grd d) e
      · rw [if_neg q] at e; cases e
  | .int, d, .int i, v', h, ha, e => by
    cases d <;> simp [alike] at ha <;> simp [vcast, up] at e <;> subst e <;> simp [sh, has, isGr]
  | .bool, d, .bool i, v', h, ha, e => by
    cases d <;> simp [alike] at ha <;> simp [vcast, up] at e <;> subst e <;> simp [sh, has, isGr]
  | .pair a b, d, .pair x y, v', h, ha, e => by
    cases d <;> simp [alike] at ha
    · simp only [vcast, Option.some.injEq] at e
      subst e
      exact ⟨sh_up _ _, has_up _ _ h⟩
    · rename_i c f
      simp only [has, Bool.and_eq_true] at h
      simp only [vcast, Option.bind_eq_some_iff, Option.map_eq_some_iff] at e
      obtain ⟨x', e1, y', e2, rfl⟩ := e
      obtain ⟨s1, t1⟩ := cast_keeps a c x x' h.1 ha.1 e1
      obtain ⟨s2, t2⟩ := cast_keeps b f y y' h.2 ha.2 e2
      simp [sh, has, s1, s2, t1, t2]
  | .list a, d, .items l, v', h, ha, e => by
    cases d <;> simp [alike] at ha
    · simp only [vcast, Option.some.injEq] at e
      subst e
      exact ⟨sh_up _ _, has_up _ _ h⟩
    · rename_i c
      simp only [has] at h
      simp only [vcast, Option.map_eq_some_iff] at e
      obtain ⟨l', e1, rfl⟩ := e
      obtain ⟨s1, t1⟩ := castL_keeps a c l l' h ha e1
      simp [sh, has, s1, t1]
  | .any, _, .int _, _, h, _, _ | .any, _, .bool _, _, h, _, _ | .any, _, .pair _ _, _, h, _, _ | .any, _, .items _, _, h, _, _ => by simp [has] at h
  | .int, _, .bool _, _, h, _, _ | .int, _, .pair _ _, _, h, _, _ | .int, _, .items _, _, h, _, _ | .int, _, .tag _ _, _, h, _, _ => by simp [has] at h
  | .bool, _, .int _, _, h, _, _ | .bool, _, .pair _ _, _, h, _, _ | .bool, _, .items _, _, h, _, _ | .bool, _, .tag _ _, _, h, _, _ => by simp [has] at h
  | .pair _ _, _, .int _, _, h, _, _ | .pair _ _, _, .bool _, _, h, _, _ | .pair _ _, _, .items _, _, h, _, _ | .pair _ _, _, .tag _ _, _, h, _, _ => by simp [has] at h
  | .list _, _, .int _, _, h, _, _ | .list _, _, .bool _, _, h, _, _ | .list _, _, .pair _ _, _, h, _, _ | .list _, _, .tag _ _, _, h, _, _ => by simp [has] at h
  | .fn _ _, _, v, _, h, _, _ => by cases v <;> simp [has] at h
theorem castL_keeps : ∀ (k d : Ty) (l l' : Vs), hasL k l = true → alike k d = true → vcastL k d l = some l' → shL l' = shL l ∧ hasL d l' = true
  | _, _, .nil, l', _, _, e => by simp only [vcastL, Option.some.injEq] at e; subst e; simp [shL, hasL]
  | k, d, .cons v l, l', h, ha, e => by
    simp only [hasL, Bool.and_eq_true] at h
    simp only [vcastL, Option.bind_eq_some_iff, Option.map_eq_some_iff] at e
    obtain ⟨v', e1, l2, e2, rfl⟩ := e
    obtain ⟨s1, t1⟩ := cast_keeps k d v v' h.1 ha e1
    obtain ⟨s2, t2⟩ := castL_keeps k d l l2 h.2 ha e2
    simp [shL, hasL, s1, s2, t1, t2]
end
mutual
theorem cast_back : ∀ (k d : Ty) (v : Va), has k v = true → finer k d = true → ∃ v', vcast k d v = some v' ∧ vcast d k v' = some v
  | .any, d, v, h, hf => by
    cases d <;> simp [finer] at hf
    exact ⟨v, by simp [vcast, up], by simp [vcast, up]⟩
  | .int, d, .int i, h, hf => by
    cases d <;> simp [finer] at hf
    · exact ⟨_, rfl, by simp [up, vcast, grd]⟩
    · exact ⟨_, rfl, rfl⟩
  | .bool, d, .bool i, h, hf => by
    cases d <;> simp [finer] at hf
    · exact ⟨_, rfl, by simp [up, vcast, grd]⟩
    · exact ⟨_, rfl, rfl⟩
  | .pair a b, d, .pair x y, h, hf => by
    cases d <;> simp [finer] at hf
    · refine ⟨up (.pair a b) (.pair x y), by simp [vcast], ?_⟩
      rw [cast_up _ _ _ h (alike_refl _), cast_self _ _ h]
    · rename_i c e
      simp only [has, Bool.and_eq_true] at h
      obtain ⟨x', e1, e2⟩ := cast_back a c x h.1 hf.1
      obtain ⟨y', e3, e4⟩ := cast_back b e y h.2 hf.2
      exact ⟨.pair x' y', by simp [vcast, e1, e3], by simp [vcast, e2, e4]⟩
  | .list a, d, .items l, h, hf => by
    cases d <;> simp [finer] at hf
    · refine ⟨up (.list a) (.items l), by simp [vcast], ?_⟩
      rw [cast_up _ _ _ h (alike_refl _), cast_self _ _ h]
    · rename_i c
      simp only [has] at h
      obtain ⟨l', e1, e2⟩ := castL_back a c l h hf
      exact ⟨.items l', by simp [vcast, e1], by simp [vcast, e2]⟩
  | .int, _, .bool _, h, _ | .int, _, .pair _ _, h, _ | .int, _, .items _, h, _ | .int, _, .tag _ _, h, _ => by simp [has] at h
  | .bool, _, .int _, h, _ | .bool, _, .pair _ _, h, _ | .bool, _, .items _, h, _ | .bool, _, .tag _ _, h, _ => by simp [has] at h
  | .pair _ _, _, .int _, h, _ | .pair _ _, _, .bool _, h, _ | .pair _ _, _, .items _, h, _ | .pair _ _, _, .tag _ _, h, _ => by simp [has] at h
  | .list _, _, .int _, h, _ | .list _, _, .bool _, h, _ | .list _, _, .pair _ _, h, _ | .list _, _, .tag _ _, h, _ => by simp [has] at h
  | .fn _ _, _, v, h, _ => by cases v <;> simp [has] at h
theorem castL_back : ∀ (k d : Ty) (l : Vs), hasL k l = true → finer k d = true → ∃ l', vcastL k d l = some l' ∧ vcastL d k l' = some l
  | _, _, .nil, _, _ => ⟨.nil, rfl, rfl⟩
  | k, d, .cons v l, h, hf => by
    simp only [hasL, Bool.and_eq_true] at h
    obtain ⟨v', e1, e2⟩ := cast_back k d v h.1 hf
    obtain ⟨l', e3, e4⟩ := castL_back k d l h.2 hf
    exact ⟨.cons v' l', by simp [vcastL, e1, e3], by simp [vcastL, e2, e4]⟩
end
end BK

/-! BkZ2: such values as data -/
namespace BK
open PySem PySem.Spec PyProof.Rows L2 RZ
@[simp] theorem w_any_tag : (("any" : Str) == ("tag" : Str)) = false := by decide +kernel
@[simp] theorem w_any_items : (("any" : Str) == ("items" : Str)) = false := by decide +kernel
@[simp] theorem w_any_closure : (("any" : Str) == ("closure" : Str)) = false := by decide +kernel
@[simp] theorem w_any_wrap : (("any" : Str) == ("wrap" : Str)) = false := by decide +kernel
@[simp] theorem w_any_ok : (("any" : Str) == ("ok" : Str)) = false := by decide +kernel
@[simp] theorem w_any_blame : (("any" : Str) == ("blame" : Str)) = false := by decide +kernel
@[simp] theorem w_int_tag : (("int" : Str) == ("tag" : Str)) = false := by decide +kernel
@[simp] theorem w_int_items : (("int" : Str) == ("items" : Str)) = false := by decide +kernel
@[simp] theorem w_int_closure : (("int" : Str) == ("closure" : Str)) = false := by decide +kernel
@[simp] theorem w_int_wrap : (("int" : Str) == ("wrap" : Str)) = false := by decide +kernel
@[simp] theorem w_int_ok : (("int" : Str) == ("ok" : Str)) = false := by decide +kernel
@[simp] theorem w_int_blame : (("int" : Str) == ("blame" : Str)) = false := by decide +kernel
@[simp] theorem w_bool_tag : (("bool" : Str) == ("tag" : Str)) = false := by decide +kernel
@[simp] theorem w_bool_items : (("bool" : Str) == ("items" : Str)) = false := by decide +kernel
@[simp] theorem w_bool_closure : (("bool" : Str) == ("closure" : Str)) = false := by decide +kernel
@[simp] theorem w_bool_wrap : (("bool" : Str) == ("wrap" : Str)) = false := by decide +kernel
@[simp] theorem w_bool_ok : (("bool" : Str) == ("ok" : Str)) = false := by decide +kernel
@[simp] theorem w_bool_blame : (("bool" : Str) == ("blame" : Str)) = false := by decide +kernel
@[simp] theorem w_fn_tag : (("fn" : Str) == ("tag" : Str)) = false := by decide +kernel
@[simp] theorem w_fn_items : (("fn" : Str) == ("items" : Str)) = false := by decide +kernel
@[simp] theorem w_fn_closure : (("fn" : Str) == ("closure" : Str)) = false := by decide +kernel
@[simp] theorem w_fn_wrap : (("fn" : Str) == ("wrap" : Str)) = false := by decide +kernel
@[simp] theorem w_fn_ok : (("fn" : Str) == ("ok" : Str)) = false := by decide +kernel
@[simp] theorem w_fn_blame : (("fn" : Str) == ("blame" : Str)) = false := by decide +kernel
@[simp] theorem w_pair_tag : (("pair" : Str) == ("tag" : Str)) = false := by decide +kernel
@[simp] theorem w_pair_items : (("pair" : Str) == ("items" : Str)) = false := by decide +kernel
@[simp] theorem w_pair_closure : (("pair" : Str) == ("closure" : Str)) = false := by decide +kernel
@[simp] theorem w_pair_wrap : (("pair" : Str) == ("wrap" : Str)) = false := by decide +kernel
@[simp] theorem w_pair_ok : (("pair" : Str) == ("ok" : Str)) = false := by decide +kernel
@[simp] theorem w_pair_blame : (("pair" : Str) == ("blame" : Str)) = false := by decide +kernel
@[simp] theorem w_list_tag : (("list" : Str) == ("tag" : Str)) = false := by decide +kernel
@[simp] theorem w_list_items : (("list" : Str) == ("items" : Str)) = false := by decide +kernel
@[simp] theorem w_list_closure : (("list" : Str) == ("closure" : Str)) = false := by decide +kernel
@[simp] theorem w_list_wrap : (("list" : Str) == ("wrap" : Str)) = false := by decide +kernel
@[simp] theorem w_list_ok : (("list" : Str) == ("ok" : Str)) = false := by decide +kernel
@[simp] theorem w_list_blame : (("list" : Str) == ("blame" : Str)) = false := by decide +kernel
@[simp] theorem w_tag_any : (("tag" : Str) == ("any" : Str)) = false := by decide +kernel
@[simp] theorem w_tag_int : (("tag" : Str) == ("int" : Str)) = false := by decide +kernel
@[simp] theorem w_tag_bool : (("tag" : Str) == ("bool" : Str)) = false := by decide +kernel
@[simp] theorem w_tag_fn : (("tag" : Str) == ("fn" : Str)) = false := by decide +kernel
@[simp] theorem w_tag_pair : (("tag" : Str) == ("pair" : Str)) = false := by decide +kernel
@[simp] theorem w_tag_list : (("tag" : Str) == ("list" : Str)) = false := by decide +kernel
@[simp] theorem w_tag_tag : (("tag" : Str) == ("tag" : Str)) = true := by decide +kernel
@[simp] theorem w_tag_items : (("tag" : Str) == ("items" : Str)) = false := by decide +kernel
@[simp] theorem w_tag_closure : (("tag" : Str) == ("closure" : Str)) = false := by decide +kernel
@[simp] theorem w_tag_wrap : (("tag" : Str) == ("wrap" : Str)) = false := by decide +kernel
@[simp] theorem w_tag_ok : (("tag" : Str) == ("ok" : Str)) = false := by decide +kernel
@[simp] theorem w_tag_blame : (("tag" : Str) == ("blame" : Str)) = false := by decide +kernel
@[simp] theorem w_items_any : (("items" : Str) == ("any" : Str)) = false := by decide +kernel
@[simp] theorem w_items_int : (("items" : Str) == ("int" : Str)) = false := by decide +kernel
@[simp] theorem w_items_bool : (("items" : Str) == ("bool" : Str)) = false := by decide +kernel
@[simp] theorem w_items_fn : (("items" : Str) == ("fn" : Str)) = false := by decide +kernel
@[simp] theorem w_items_pair : (("items" : Str) == ("pair" : Str)) = false := by decide +kernel
@[simp] theorem w_items_list : (("items" : Str) == ("list" : Str)) = false := by decide +kernel
@[simp] theorem w_items_tag : (("items" : Str) == ("tag" : Str)) = false := by decide +kernel
@[simp] theorem w_items_items : (("items" : Str) == ("items" : Str)) = true := by decide +kernel
@[simp] theorem w_items_closure : (("items" : Str) == ("closure" : Str)) = false := by decide +kernel
@[simp] theorem w_items_wrap : (("items" : Str) == ("wrap" : Str)) = false := by decide +kernel
@[simp] theorem w_items_ok : (("items" : Str) == ("ok" : Str)) = false := by decide +kernel
@[simp] theorem w_items_blame : (("items" : Str) == ("blame" : Str)) = false := by decide +kernel
@[simp] theorem w_closure_any : (("closure" : Str) == ("any" : Str)) = false := by decide +kernel
@[simp] theorem w_closure_int : (("closure" : Str) == ("int" : Str)) = false := by decide +kernel
@[simp] theorem w_closure_bool : (("closure" : Str) == ("bool" : Str)) = false := by decide +kernel
@[simp] theorem w_closure_fn : (("closure" : Str) == ("fn" : Str)) = false := by decide +kernel
@[simp] theorem w_closure_pair : (("closure" : Str) == ("pair" : Str)) = false := by decide +kernel
@[simp] theorem w_closure_list : (("closure" : Str) == ("list" : Str)) = false := by decide +kernel
@[simp] theorem w_closure_tag : (("closure" : Str) == ("tag" : Str)) = false := by decide +kernel
@[simp] theorem w_closure_items : (("closure" : Str) == ("items" : Str)) = false := by decide +kernel
@[simp] theorem w_closure_closure : (("closure" : Str) == ("closure" : Str)) = true := by decide +kernel
@[simp] theorem w_closure_wrap : (("closure" : Str) == ("wrap" : Str)) = false := by decide +kernel
@[simp] theorem w_closure_ok : (("closure" : Str) == ("ok" : Str)) = false := by decide +kernel
@[simp] theorem w_closure_blame : (("closure" : Str) == ("blame" : Str)) = false := by decide +kernel
@[simp] theorem w_wrap_any : (("wrap" : Str) == ("any" : Str)) = false := by decide +kernel
@[simp] theorem w_wrap_int : (("wrap" : Str) == ("int" : Str)) = false := by decide +kernel
@[simp] theorem w_wrap_bool : (("wrap" : Str) == ("bool" : Str)) = false := by decide +kernel
@[simp] theorem w_wrap_fn : (("wrap" : Str) == ("fn" : Str)) = false := by decide +kernel
@[simp] theorem w_wrap_pair : (("wrap" : Str) == ("pair" : Str)) = false := by decide +kernel
@[simp] theorem w_wrap_list : (("wrap" : Str) == ("list" : Str)) = false := by decide +kernel
@[simp] theorem w_wrap_tag : (("wrap" : Str) == ("tag" : Str)) = false := by decide +kernel
@[simp] theorem w_wrap_items : (("wrap" : Str) == ("items" : Str)) = false := by decide +kernel
@[simp] theorem w_wrap_closure : (("wrap" : Str) == ("closure" : Str)) = false := by decide +kernel
@[simp] theorem w_wrap_wrap : (("wrap" : Str) == ("wrap" : Str)) = true := by decide +kernel
@[simp] theorem w_wrap_ok : (("wrap" : Str) == ("ok" : Str)) = false := by decide +kernel
@[simp] theorem w_wrap_blame : (("wrap" : Str) == ("blame" : Str)) = false := by decide +kernel
@[simp] theorem w_ok_any : (("ok" : Str) == ("any" : Str)) = false := by decide +kernel
@[simp] theorem w_ok_int : (("ok" : Str) == ("int" : Str)) = false := by decide +kernel
@[simp] theorem w_ok_bool : (("ok" : Str) == ("bool" : Str)) = false := by decide +kernel
@[simp] theorem w_ok_fn : (("ok" : Str) == ("fn" : Str)) = false := by decide +kernel
@[simp] theorem w_ok_pair : (("ok" : Str) == ("pair" : Str)) = false := by decide +kernel
@[simp] theorem w_ok_list : (("ok" : Str) == ("list" : Str)) = false := by decide +kernel
@[simp] theorem w_ok_tag : (("ok" : Str) == ("tag" : Str)) = false := by decide +kernel
@[simp] theorem w_ok_items : (("ok" : Str) == ("items" : Str)) = false := by decide +kernel
@[simp] theorem w_ok_closure : (("ok" : Str) == ("closure" : Str)) = false := by decide +kernel
@[simp] theorem w_ok_wrap : (("ok" : Str) == ("wrap" : Str)) = false := by decide +kernel
@[simp] theorem w_ok_ok : (("ok" : Str) == ("ok" : Str)) = true := by decide +kernel
@[simp] theorem w_ok_blame : (("ok" : Str) == ("blame" : Str)) = false := by decide +kernel
@[simp] theorem w_blame_any : (("blame" : Str) == ("any" : Str)) = false := by decide +kernel
@[simp] theorem w_blame_int : (("blame" : Str) == ("int" : Str)) = false := by decide +kernel
@[simp] theorem w_blame_bool : (("blame" : Str) == ("bool" : Str)) = false := by decide +kernel
@[simp] theorem w_blame_fn : (("blame" : Str) == ("fn" : Str)) = false := by decide +kernel
@[simp] theorem w_blame_pair : (("blame" : Str) == ("pair" : Str)) = false := by decide +kernel
@[simp] theorem w_blame_list : (("blame" : Str) == ("list" : Str)) = false := by decide +kernel
@[simp] theorem w_blame_tag : (("blame" : Str) == ("tag" : Str)) = false := by decide +kernel
@[simp] theorem w_blame_items : (("blame" : Str) == ("items" : Str)) = false := by decide +kernel
@[simp] theorem w_blame_closure : (("blame" : Str) == ("closure" : Str)) = false := by decide +kernel
@[simp] theorem w_blame_wrap : (("blame" : Str) == ("wrap" : Str)) = false := by decide +kernel
@[simp] theorem w_blame_ok : (("blame" : Str) == ("ok" : Str)) = false := by decide +kernel
@[simp] theorem w_blame_blame : (("blame" : Str) == ("blame" : Str)) = true := by decide +kernel
@[simp] theorem foldV_int {i : Int} : PV.tup [.str "int", .int i] = encV (.int i) := (rfl)
@[simp] theorem foldV_bool {b : Bool} : PV.tup [.str "bool", .bl b] = encV (.bool b) := (rfl)
@[simp] theorem foldV_pair {a b : Va} : PV.tup [.str "pair", encV a, encV b] = encV (.pair a b) := (rfl)
@[simp] theorem foldV_items {l : Vs} : PV.tup [.str "items", .tup (encVs l)] = encV (.items l) := (rfl)
@[simp] theorem foldV_tag {g : Ty} {v : Va} : PV.tup [.str "tag", enc g, encV v] = encV (.tag g v) := (rfl)
@[simp] theorem vx_int0 {i : Int} {st : Sto} : opIx st (encV (.int i)) (.int 0) = some (.str "int") := (rfl)
@[simp] theorem vx_bool0 {b : Bool} {st : Sto} : opIx st (encV (.bool b)) (.int 0) = some (.str "bool") := (rfl)
@[simp] theorem vx_pair0 {a b : Va} {st : Sto} : opIx st (encV (.pair a b)) (.int 0) = some (.str "pair") := (rfl)
@[simp] theorem vx_pair1 {a b : Va} {st : Sto} : opIx st (encV (.pair a b)) (.int 1) = some (encV a) := (rfl)
@[simp] theorem vx_pair2 {a b : Va} {st : Sto} : opIx st (encV (.pair a b)) (.int 2) = some (encV b) := (rfl)
@[simp] theorem vx_items0 {l : Vs} {st : Sto} : opIx st (encV (.items l)) (.int 0) = some (.str "items") := (rfl)
@[simp] theorem vx_items1 {l : Vs} {st : Sto} : opIx st (encV (.items l)) (.int 1) = some (.tup (encVs l)) := (rfl)
@[simp] theorem vx_tag0 {g : Ty} {v : Va} {st : Sto} : opIx st (encV (.tag g v)) (.int 0) = some (.str "tag") := (rfl)
@[simp] theorem vx_tag1 {g : Ty} {v : Va} {st : Sto} : opIx st (encV (.tag g v)) (.int 1) = some (enc g) := (rfl)
@[simp] theorem vx_tag2 {g : Ty} {v : Va} {st : Sto} : opIx st (encV (.tag g v)) (.int 2) = some (encV v) := (rfl)
def okP (v : Va) : PV := .tup [.str "ok", encV v]
def blP (nm : PV) : PV := .tup [.str "blame", nm]
def res (nm : PV) : Option Va → PV
  | some v => okP v
  | none => blP nm
@[simp] theorem foldV_ok {v : Va} : PV.tup [.str "ok", encV v] = okP v := (rfl)
@[simp] theorem foldV_bl {nm : PV} : PV.tup [.str "blame", nm] = blP nm := (rfl)
@[simp] theorem vx_ok0 {v : Va} {st : Sto} : opIx st (okP v) (.int 0) = some (.str "ok") := (rfl)
@[simp] theorem vx_ok1 {v : Va} {st : Sto} : opIx st (okP v) (.int 1) = some (encV v) := (rfl)
@[simp] theorem vx_bl0 {nm : PV} {st : Sto} : opIx st (blP nm) (.int 0) = some (.str "blame") := (rfl)
@[simp] theorem vx_bl1 {nm : PV} {st : Sto} : opIx st (blP nm) (.int 1) = some nm := (rfl)
@[simp] theorem in_words {x : Str} : opIn (.str x) (.tup [.str "closure", .str "wrap"]) = some (.bl (("closure" : Str) == x || ("wrap" : Str) == x)) := by
  unfold opIn
  simp only
  rw [if_pos (by unfold inOk; simp [PV.plain, PV.plains, PV.depth, PV.depths])]
  simp [PV.eqv]
def Vs.len : Vs → Nat
  | .nil => 0
  | .cons _ l => l.len + 1
theorem encVs_len : ∀ l : Vs, (encVs l).length = l.len
  | .nil => rfl
  | .cons v l => by simp [encVs, Vs.len, encVs_len l]
mutual
/-- no long lines -/
def slim : Va → Bool
  | .pair a b => slim a && slim b
  | .items l => decide (l.len ≤ 1000) && slimL l
  | .tag _ v => slim v
  | _ => true
def slimL : Vs → Bool
  | .nil => true
  | .cons v l => slim v && slimL l
end
theorem va_pos (v : Va) : 1 ≤ v.dep := by cases v <;> simp [Va.dep]
@[simp] theorem viewH_any (s : Slot) (ρ : SEnv) : viewH (s :: ρ) = s.h :: viewH ρ := (rfl)
@[simp] theorem viewR_any (s : Slot) (ρ : SEnv) : viewR (s :: ρ) = s.r :: viewR ρ := (rfl)
@[simp] theorem h_val (x : PV) : (Slot.val x).h = some x := (rfl)
@[simp] theorem r_val (x : PV) : (Slot.val x).r = some x := (rfl)
@[simp] theorem h_own (x : List PV) : (Slot.own x).h = none := (rfl)
@[simp] theorem r_own (x : List PV) : (Slot.own x).r = some (.lst x) := (rfl)
/-- every item -/
def AllV (p : Va → Prop) : Vs → Prop
  | .nil => True
  | .cons v l => p v ∧ AllV p l
theorem AllV_dep {p : Va → Prop} {D : Nat} (h : ∀ v : Va, v.dep ≤ D → p v) : ∀ l : Vs, l.dep ≤ D → AllV p l
  | .nil, _ => trivial
  | .cons v l, hd => by
    simp only [Vs.dep] at hd
    exact ⟨h v (by omega), AllV_dep h l (by omega)⟩
mutual
theorem eqv_refl : ∀ x : PV, x.plain = true → x.eqv x = true
  | .non, _ => rfl
  | .bl b, _ => by simp [PV.eqv]
  | .int i, _ => by simp [PV.eqv]
  | .str s, _ => by simp [PV.eqv]
  | .tup xs, h => by simp only [PV.plain] at h; simp only [PV.eqv]; exact eqvs_refl xs h
  | .lst xs, h => by simp only [PV.plain] at h; simp only [PV.eqv]; exact eqvs_refl xs h
  | .dct _ _, h | .fn _, h | .ref _, h | .scr _, h | .ty _, h | .cls _, h => by simp [PV.plain] at h
theorem eqvs_refl : ∀ xs : List PV, PV.plains xs = true → PV.eqvs xs xs = true
  | [], _ => rfl
  | x :: xs, h => by
    simp only [PV.plains, Bool.and_eq_true] at h
    simp only [PV.eqvs, eqv_refl x h.1, eqvs_refl xs h.2, Bool.and_self]
end
theorem ne_self (x : PV) (h : x.plain = true) (hd : x.depth ≤ 60) : opNe x x = some (.bl false) := by
  unfold opNe
  rw [if_pos (by unfold eqOk; rw [h]; simp; exact hd), eqv_refl x h]
  rfl
mutual
theorem encV_fair : ∀ v : Va, slim v = true → (encV v).fair = true
  | .int _, _ => rfl
  | .bool _, _ => rfl
  | .pair a b, h => by
    simp only [slim, Bool.and_eq_true] at h
    show PV.fair (.tup [.str "pair", encV a, encV b]) = true
    simp [PV.fair, PV.fairs, encV_fair a h.1, encV_fair b h.2]
  | .items l, h => by
    simp only [slim, Bool.and_eq_true, decide_eq_true_eq] at h
    show PV.fair (.tup [.str "items", .tup (encVs l)]) = true
    simp [PV.fair, PV.fairs, encVs_fair l h.2, encVs_len, h.1]
  | .tag g v, h => by
    simp only [slim] at h
    show PV.fair (.tup [.str "tag", enc g, encV v]) = true
    simp [PV.fair, PV.fairs, encV_fair v h, enc_fair]
theorem encVs_fair : ∀ l : Vs, slimL l = true → PV.fairs (encVs l) = true
  | .nil, _ => rfl
  | .cons v l, h => by
    simp only [slimL, Bool.and_eq_true] at h
    simp [encVs, PV.fairs, encV_fair v h.1, encVs_fair l h.2]
end
mutual
theorem encV_plain : ∀ v : Va, (encV v).plain = true
  | .int _ => rfl
  | .bool _ => rfl
  | .pair a b => by
    show PV.plain (.tup [.str "pair", encV a, encV b]) = true
    simp only [PV.plain, PV.plains, encV_plain a, encV_plain b, Bool.and_self]
  | .items l => by
    show PV.plain (.tup [.str "items", .tup (encVs l)]) = true
    simp only [PV.plain, PV.plains, encVs_plain l, Bool.and_self]
  | .tag g v => by
    show PV.plain (.tup [.str "tag", enc g, encV v]) = true
    simp only [PV.plain, PV.plains, encV_plain v, enc_plain, Bool.and_self]
theorem encVs_plain : ∀ l : Vs, PV.plains (encVs l) = true
  | .nil => rfl
  | .cons v l => by simp only [encVs, PV.plains, encV_plain v, encVs_plain l, Bool.and_self]
end
mutual
theorem sh_depth : ∀ v : Va, (encV (sh v)).depth ≤ 2 * v.dep
  | .int _ => by simp only [sh, Va.dep]; show 1 ≤ 2; omega
  | .bool _ => by simp only [sh, Va.dep]; show 1 ≤ 2; omega
  | .pair a b => by
    have h1 := sh_depth a
    have h2 := sh_depth b
    simp only [sh]
    show PV.depth (.tup [.str "pair", encV (sh a), encV (sh b)]) ≤ _
    simp only [PV.depth, PV.depths, Va.dep]
    omega
  | .items l => by
    have h1 := shL_depth l
    simp only [sh]
    show PV.depth (.tup [.str "items", .tup (encVs (shL l))]) ≤ _
    simp only [PV.depth, PV.depths, Va.dep]
    omega
  | .tag g v => by
    have h1 := sh_depth v
    simp only [sh, Va.dep]
    omega
theorem shL_depth : ∀ l : Vs, PV.depths (encVs (shL l)) ≤ 2 * l.dep
  | .nil => by simp [shL, encVs, PV.depths]
  | .cons v l => by
    have h1 := sh_depth v
    have h2 := shL_depth l
    simp only [shL, encVs, PV.depths, Vs.dep]
    omega
end
theorem gr_dep {g : Ty} (h : isGr g = true) : g.dep ≤ 2 := by
  cases g <;> simp [isGr] at h <;> simp [Ty.dep]
  · rename_i a b
    cases a <;> cases b <;> simp [isGr] at h <;> simp [Ty.dep]
  · rename_i a
    cases a <;> simp [isGr] at h <;> simp [Ty.dep]
mutual
theorem encV_depth : ∀ (k : Ty) (v : Va), has k v = true → (encV v).depth ≤ 2 * v.dep + 1
  | _, .int _, _ => by simp only [Va.dep]; show 1 ≤ 3; omega
  | _, .bool _, _ => by simp only [Va.dep]; show 1 ≤ 3; omega
  | .pair c d, .pair a b, h => by
    simp only [has, Bool.and_eq_true] at h
    have h1 := encV_depth c a h.1
    have h2 := encV_depth d b h.2
    show PV.depth (.tup [.str "pair", encV a, encV b]) ≤ _
    simp only [PV.depth, PV.depths, Va.dep]
    omega
  | .list c, .items l, h => by
    simp only [has] at h
    have h1 := encVs_depth c l h
    show PV.depth (.tup [.str "items", .tup (encVs l)]) ≤ _
    simp only [PV.depth, PV.depths, Va.dep]
    omega
  | .any, .tag g v, h => by
    simp only [has, Bool.and_eq_true] at h
    have h1 := encV_depth g v h.2
    have h2 := gr_dep h.1
    have h3 := va_pos v
    show PV.depth (.tup [.str "tag", enc g, encV v]) ≤ _
    simp only [PV.depth, PV.depths, Va.dep, enc_depth]
    omega
  | .any, .pair _ _, h | .any, .items _, h | .int, .pair _ _, h | .int, .items _, h | .int, .tag _ _, h | .bool, .pair _ _, h | .bool, .items _, h | .bool, .tag _ _, h => by simp [has] at h
  | .pair _ _, .items _, h | .pair _ _, .tag _ _, h | .list _, .pair _ _, h | .list _, .tag _ _, h => by simp [has] at h
  | .fn _ _, .pair _ _, h | .fn _ _, .items _, h | .fn _ _, .tag _ _, h => by simp [has] at h
theorem encVs_depth : ∀ (k : Ty) (l : Vs), hasL k l = true → PV.depths (encVs l) ≤ 2 * l.dep + 1
  | _, .nil, _ => by simp [encVs, PV.depths]
  | k, .cons v l, h => by
    simp only [hasL, Bool.and_eq_true] at h
    have h1 := encV_depth k v h.1
    have h2 := encVs_depth k l h.2
    simp only [encVs, PV.depths, Vs.dep]
    omega
end
mutual
theorem up_dep : ∀ (k : Ty) (v : Va), (up k v).dep ≤ 2 * v.dep ∧ (slim v = true → slim (up k v) = true)
  | .any, v => by simp only [up]; exact ⟨by omega, fun h => h⟩
  | .pair a b, .pair x y => by
    have h1 := up_dep a x
    have h2 := up_dep b y
    simp only [up, Va.dep, slim, Bool.and_eq_true]
    exact ⟨by omega, fun h => ⟨h1.2 h.1, h2.2 h.2⟩⟩
  | .list a, .items l => by
    have h1 := upL_dep a l
    simp only [up, Va.dep, slim, Bool.and_eq_true, decide_eq_true_eq]
    exact ⟨by omega, fun h => ⟨by rw [h1.2.2]; exact h.1, h1.2.1 h.2⟩⟩
  | .int, v => by have := va_pos v; cases v <;> simp only [up, Va.dep, slim] at * <;> exact ⟨by omega, fun h => h⟩
  | .bool, v => by have := va_pos v; cases v <;> simp only [up, Va.dep, slim] at * <;> exact ⟨by omega, fun h => h⟩
  | .fn _ _, v => by have := va_pos v; cases v <;> simp only [up, Va.dep, slim] at * <;> exact ⟨by omega, fun h => h⟩
  | .pair _ _, .int _ | .pair _ _, .bool _ | .pair _ _, .items _ | .pair _ _, .tag _ _ => by simp only [up, Va.dep, slim]; exact ⟨by omega, fun h => h⟩
  | .list _, .int _ | .list _, .bool _ | .list _, .pair _ _ | .list _, .tag _ _ => by simp only [up, Va.dep, slim]; exact ⟨by omega, fun h => h⟩
theorem upL_dep : ∀ (k : Ty) (l : Vs), (upL k l).dep ≤ 2 * l.dep ∧ (slimL l = true → slimL (upL k l) = true) ∧ (upL k l).len = l.len
  | _, .nil => ⟨Nat.le_refl _, fun h => h, rfl⟩
  | k, .cons v l => by
    have h1 := up_dep k v
    have h2 := upL_dep k l
    simp only [upL, Vs.dep, slimL, Vs.len, Bool.and_eq_true]
    exact ⟨by omega, fun h => ⟨h1.2 h.1, h2.2.1 h.2⟩, by rw [h2.2.2]⟩
end
mutual
theorem cast_dep : ∀ (k d : Ty) (v v' : Va), vcast k d v = some v' → v'.dep ≤ 2 * v.dep ∧ (slim v = true → slim v' = true)
  | k, .any, v, v', e => by
    simp only [vcast, Option.some.injEq] at e
    subst e
    exact up_dep k v
  | .any, d, .tag g v, v', e => by
    by_cases hd : d = .any
    · subst hd
      simp only [vcast, Option.some.injEq] at e
      subst e
      exact up_dep .any _
    · have e2 : vcast .any d (.tag g v) = if g = grd d then vcast g d v else none := by cases d <;> first | rfl | exact absurd rfl hd
      rw [e2] at e
      split at e
      · have := cast_dep g d v v' e
        simp only [Va.dep, slim]
        exact ⟨by omega, this.2⟩
      · cases e
  | .pair a b, .pair c d, .pair x y, v', e => by
    simp only [vcast, Option.bind_eq_some_iff, Option.map_eq_some_iff] at e
    obtain ⟨x', e1, y', e2, rfl⟩ := e
    have h1 := cast_dep a c x x' e1
    have h2 := cast_dep b d y y' e2
    simp only [Va.dep, slim, Bool.and_eq_true]
    exact ⟨by omega, fun h => ⟨h1.2 h.1, h2.2 h.2⟩⟩
  | .list a, .list c, .items l, v', e => by
    simp only [vcast, Option.map_eq_some_iff] at e
    obtain ⟨l', e1, rfl⟩ := e
    have h1 := castL_dep a c l l' e1
    simp only [Va.dep, slim, Bool.and_eq_true, decide_eq_true_eq]
    exact ⟨by omega, fun h => ⟨by rw [h1.2.2]; exact h.1, h1.2.1 h.2⟩⟩
  | .int, d, v, v', e => by
    cases d with
    | any =>
      simp only [vcast, Option.some.injEq] at e
      subst e
      exact up_dep .int v
    | int =>
      have e2 : vcast .int .int v = some v := by cases v <;> rfl
      rw [e2] at e
      cases e
      exact ⟨by omega, fun h => h⟩
    | _ => cases v <;> simp [vcast] at e
  | .bool, d, v, v', e => by
    cases d with
    | any =>
      simp only [vcast, Option.some.injEq] at e
      subst e
      exact up_dep .bool v
    | bool =>
      have e2 : vcast .bool .bool v = some v := by cases v <;> rfl
      rw [e2] at e
      cases e
      exact ⟨by omega, fun h => h⟩
    | _ => cases v <;> simp [vcast] at e
  | .any, d, .int _, v', e | .any, d, .bool _, v', e | .any, d, .pair _ _, v', e | .any, d, .items _, v', e => by
    cases d <;> simp [vcast, up] at e <;> subst e <;> exact ⟨by omega, fun h => h⟩
  | .fn a b, d, v, v', e => by
    cases d with
    | any =>
      simp only [vcast, Option.some.injEq] at e
      subst e
      exact up_dep _ v
    | _ => cases v <;> simp [vcast] at e
  | .pair a b, .int, v, v', e | .pair a b, .bool, v, v', e | .pair a b, .fn _ _, v, v', e | .pair a b, .list _, v, v', e => by cases v <;> simp [vcast] at e
  | .list a, .int, v, v', e | .list a, .bool, v, v', e | .list a, .fn _ _, v, v', e | .list a, .pair _ _, v, v', e => by cases v <;> simp [vcast] at e
  | .pair a b, .pair _ _, .int _, v', e | .pair a b, .pair _ _, .bool _, v', e | .pair a b, .pair _ _, .items _, v', e | .pair a b, .pair _ _, .tag _ _, v', e => by simp [vcast] at e
  | .list a, .list _, .int _, v', e | .list a, .list _, .bool _, v', e | .list a, .list _, .pair _ _, v', e | .list a, .list _, .tag _ _, v', e => by simp [vcast] at e
theorem castL_dep : ∀ (k d : Ty) (l l' : Vs), vcastL k d l = some l' → l'.dep ≤ 2 * l.dep ∧ (slimL l = true → slimL l' = true) ∧ l'.len = l.len
  | _, _, .nil, l', e => by
    simp only [vcastL, Option.some.injEq] at e
    subst e
    exact ⟨Nat.le_refl _, fun h => h, rfl⟩
  | k, d, .cons v l, l', e => by
    simp only [vcastL, Option.bind_eq_some_iff, Option.map_eq_some_iff] at e
    obtain ⟨v', e1, l2, e2, rfl⟩ := e
    have h1 := cast_dep k d v v' e1
    have h2 := castL_dep k d l l2 e2
    simp only [Vs.dep, slimL, Vs.len, Bool.and_eq_true]
    exact ⟨by omega, fun h => ⟨h1.2 h.1, h2.2.1 h.2⟩, by rw [h2.2.2]⟩
end
end BK

/-! BkZ3: casts without grounds inside -/
namespace BK
open PySem PySem.Spec PyProof.Rows L2 RZ

mutual
def dcast : Ty → Ty → Va → Option Va
  | k, .any, v => some (if k = .any then v else .tag k v)
  | .any, d, .tag g v => if alike g d = true then dcast g d v else none
  | .pair a b, .pair c d, .pair x y => (dcast a c x).bind fun x' => (dcast b d y).map fun y' => .pair x' y'
  | .list a, .list c, .items l => (dcastL a c l).map .items
  | .int, .int, v => some v
  | .bool, .bool, v => some v
  | _, _, _ => none
def dcastL : Ty → Ty → Vs → Option Vs
  | _, _, .nil => some .nil
  | a, c, .cons v l => (dcast a c v).bind fun v' => (dcastL a c l).map fun l' => .cons v' l'
end
mutual
theorem dcast_self : ∀ (k : Ty) (v : Va), has k v = true → dcast k k v = some v
  | .any, v, _ => by simp [dcast]
  | .int, .int _, _ => rfl
  | .bool, .bool _, _ => rfl
  | .pair a b, .pair x y, h => by
    simp only [has, Bool.and_eq_true] at h
    simp [dcast, dcast_self a x h.1, dcast_self b y h.2]
  | .list a, .items l, h => by
    simp only [has] at h
    simp [dcast, dcastL_self a l h]
  | .int, .bool _, h | .int, .pair _ _, h | .int, .items _, h | .int, .tag _ _, h => by simp [has] at h
  | .bool, .int _, h | .bool, .pair _ _, h | .bool, .items _, h | .bool, .tag _ _, h => by simp [has] at h
  | .pair _ _, .int _, h | .pair _ _, .bool _, h | .pair _ _, .items _, h | .pair _ _, .tag _ _, h => by simp [has] at h
  | .list _, .int _, h | .list _, .bool _, h | .list _, .pair _ _, h | .list _, .tag _ _, h => by simp [has] at h
  | .fn _ _, v, h => by cases v <;> simp [has] at h
theorem dcastL_self : ∀ (k : Ty) (l : Vs), hasL k l = true → dcastL k k l = some l
  | _, .nil, _ => rfl
  | k, .cons v l, h => by
    simp only [hasL, Bool.and_eq_true] at h
    simp [dcastL, dcast_self k v h.1, dcastL_self k l h.2]
end
theorem gr_alike {g d : Ty} (hg : isGr g = true) (hd : d ≠ .any) (hn : nofn d = true) : alike g d = decide (g = grd d) := by
  cases g <;> simp [isGr] at hg
  · cases d <;> simp [alike, grd, nofn] at hd hn ⊢
  · cases d <;> simp [alike, grd, nofn] at hd hn ⊢
  · rename_i a b
    cases a <;> cases b <;> simp [isGr] at hg
    cases d <;> simp [alike, grd, nofn] at hd hn ⊢
  · rename_i a
    cases a <;> simp [isGr] at hg
    cases d <;> simp [alike, grd, nofn] at hd hn ⊢
/-! the same success as the other cast, the same shown -/
mutual
theorem dcast_like : ∀ (k d : Ty) (v : Va), has k v = true → alike k d = true → nofn d = true → (dcast k d v).isSome = (vcast k d v).isSome ∧ ∀ v', dcast k d v = some v' → sh v' = sh v ∧ v'.dep ≤ 2 * v.dep ∧ (slim v = true → slim v' = true)
  | .any, d, .tag g w, h, ha, hn => by
    by_cases hd : d = .any
    · subst hd
      exact ⟨by simp [dcast, vcast], fun v' e => by simp only [dcast, if_pos, Option.some.injEq] at e; subst e; exact ⟨rfl, by omega, fun h => h⟩⟩
    · simp only [has, Bool.and_eq_true] at h
      have e1 : dcast .any d (.tag g w) = if alike g d = true then dcast g d w else none := by cases d <;> first | rfl | exact absurd rfl hd
      have e2 : vcast .any d (.tag g w) = if g = grd d then vcast g d w else none := by cases d <;> first | rfl | exact absurd rfl hd
      have ga := gr_alike h.1 hd hn
      rw [e1, e2]
      by_cases q : g = grd d
      · rw [decide_eq_true q] at ga
        rw [if_pos ga, if_pos q]
        obtain ⟨i1, i2⟩ := dcast_like g d w h.2 ga hn
        refine ⟨i1, fun v' e => ?_⟩
        obtain ⟨j1, j2, j3⟩ := i2 v' e
        exact ⟨j1, by simp only [Va.dep]; omega, by simp only [slim]; exact j3⟩
      · rw [decide_eq_false q] at ga
        rw [if_neg (by rw [ga]; exact Bool.false_ne_true), if_neg q]
        exact ⟨rfl, fun v' e => by cases e⟩
  | .int, d, .int i, _, ha, _ => by
    cases d <;> simp [alike] at ha
    · exact ⟨by simp [dcast, vcast], fun v' e => by simp [dcast] at e; subst e; simp [sh, Va.dep, slim]⟩
    · exact ⟨by simp [dcast, vcast], fun v' e => by simp [dcast] at e; subst e; simp [sh, Va.dep, slim]⟩
  | .bool, d, .bool i, _, ha, _ => by
    cases d <;> simp [alike] at ha
    · exact ⟨by simp [dcast, vcast], fun v' e => by simp [dcast] at e; subst e; simp [sh, Va.dep, slim]⟩
    · exact ⟨by simp [dcast, vcast], fun v' e => by simp [dcast] at e; subst e; simp [sh, Va.dep, slim]⟩
  | .pair a b, d, .pair x y, h, ha, hn => by
    simp only [has, Bool.and_eq_true] at h
    cases d <;> simp [alike] at ha
    · exact ⟨by simp [dcast, vcast], fun v' e => by simp [dcast] at e; subst e; simp only [sh, Va.dep, slim]; exact ⟨trivial, by omega, fun h => h⟩⟩
    · rename_i c e
      simp only [nofn, Bool.and_eq_true] at hn
      obtain ⟨i1, i2⟩ := dcast_like a c x h.1 ha.1 hn.1
      obtain ⟨j1, j2⟩ := dcast_like b e y h.2 ha.2 hn.2
      refine ⟨?_, fun v' q => ?_⟩
      · simp only [dcast, vcast]
        cases q1 : dcast a c x <;> cases q2 : vcast a c x <;> cases q3 : dcast b e y <;> cases q4 : vcast b e y <;> simp [q1, q2, q3, q4] at i1 j1 ⊢
      · simp only [dcast, Option.bind_eq_some_iff, Option.map_eq_some_iff] at q
        obtain ⟨x', q1, y', q2, rfl⟩ := q
        obtain ⟨a1, a2, a3⟩ := i2 x' q1
        obtain ⟨b1, b2, b3⟩ := j2 y' q2
        simp only [sh, Va.dep, slim, a1, b1, Bool.and_eq_true]
        exact ⟨trivial, by omega, fun h => ⟨a3 h.1, b3 h.2⟩⟩
  | .list a, d, .items l, h, ha, hn => by
    simp only [has] at h
    cases d <;> simp [alike] at ha
    · exact ⟨by simp [dcast, vcast], fun v' e => by simp [dcast] at e; subst e; simp only [sh, Va.dep, slim]; exact ⟨trivial, by omega, fun h => h⟩⟩
    · rename_i c
      simp only [nofn] at hn
      obtain ⟨i1, i2⟩ := dcastL_like a c l h ha hn
      refine ⟨?_, fun v' q => ?_⟩
      · simp only [dcast, vcast]
        cases q1 : dcastL a c l <;> cases q2 : vcastL a c l <;> simp [q1, q2] at i1 ⊢
      · simp only [dcast, Option.map_eq_some_iff] at q
        obtain ⟨l', q1, rfl⟩ := q
        obtain ⟨a1, a2, a3, a4⟩ := i2 l' q1
        simp only [sh, Va.dep, slim, a1, Bool.and_eq_true, decide_eq_true_eq]
        exact ⟨trivial, by omega, fun h => ⟨by rw [a4]; exact h.1, a3 h.2⟩⟩
  | .any, _, .int _, h, _, _ | .any, _, .bool _, h, _, _ | .any, _, .pair _ _, h, _, _ | .any, _, .items _, h, _, _ => by simp [has] at h
  | .int, _, .bool _, h, _, _ | .int, _, .pair _ _, h, _, _ | .int, _, .items _, h, _, _ | .int, _, .tag _ _, h, _, _ => by simp [has] at h
  | .bool, _, .int _, h, _, _ | .bool, _, .pair _ _, h, _, _ | .bool, _, .items _, h, _, _ | .bool, _, .tag _ _, h, _, _ => by simp [has] at h
  | .pair _ _, _, .int _, h, _, _ | .pair _ _, _, .bool _, h, _, _ | .pair _ _, _, .items _, h, _, _ | .pair _ _, _, .tag _ _, h, _, _ => by simp [has] at h
  | .list _, _, .int _, h, _, _ | .list _, _, .bool _, h, _, _ | .list _, _, .pair _ _, h, _, _ | .list _, _, .tag _ _, h, _, _ => by simp [has] at h
  | .fn _ _, _, v, h, _, _ => by cases v <;> simp [has] at h
theorem dcastL_like : ∀ (k d : Ty) (l : Vs), hasL k l = true → alike k d = true → nofn d = true → (dcastL k d l).isSome = (vcastL k d l).isSome ∧ ∀ l', dcastL k d l = some l' → shL l' = shL l ∧ l'.dep ≤ 2 * l.dep ∧ (slimL l = true → slimL l' = true) ∧ l'.len = l.len
  | _, _, .nil, _, _, _ => ⟨rfl, fun l' e => by simp only [dcastL, Option.some.injEq] at e; subst e; exact ⟨rfl, Nat.le_refl _, fun h => h, rfl⟩⟩
  | k, d, .cons v l, h, ha, hn => by
    simp only [hasL, Bool.and_eq_true] at h
    obtain ⟨i1, i2⟩ := dcast_like k d v h.1 ha hn
    obtain ⟨j1, j2⟩ := dcastL_like k d l h.2 ha hn
    refine ⟨?_, fun l' q => ?_⟩
    · simp only [dcastL, vcastL]
      cases q1 : dcast k d v <;> cases q2 : vcast k d v <;> cases q3 : dcastL k d l <;> cases q4 : vcastL k d l <;> simp [q1, q2, q3, q4] at i1 j1 ⊢
    · simp only [dcastL, Option.bind_eq_some_iff, Option.map_eq_some_iff] at q
      obtain ⟨v', q1, l2, q2, rfl⟩ := q
      obtain ⟨a1, a2, a3⟩ := i2 v' q1
      obtain ⟨b1, b2, b3, b4⟩ := j2 l2 q2
      simp only [shL, Vs.dep, slimL, Vs.len, a1, b1, Bool.and_eq_true]
      exact ⟨trivial, by omega, fun h => ⟨a3 h.1, b3 h.2⟩, by rw [b4]⟩
end
end BK

namespace Law
open PySem PySem.Spec PyProof.Rows L2 RZ BK
/-! ### the table of defs (printed by gen.py) -/
abbrev topS (i : Nat) : Stmt := PySem.Challenge.pw_blamekeep_k46_whole_direct_casts.main.body.getD i (.Pass ⟨0, 0, 0, 0⟩)
def d0 : BK.FD := ⟨"ground_of", topS 2, ["kind"], 1, false, [], [], []⟩
def d1 : BK.FD := ⟨"alike", topS 4, ["one", "two", "first", "other"], 2, false, [], [], []⟩
def d2 : BK.FD := ⟨"cast_value", topS 6, ["value", "kind", "due", "name"], 4, false, [], [], []⟩
def d3 : BK.FD := ⟨"tagged", topS 7, ["value", "kind", "name", "ground", "told"], 3, false, [], [], []⟩
def d4 : BK.FD := ⟨"cast_pair", topS 8, ["value", "kind", "due", "name", "first", "other"], 4, false, [], [], []⟩
def d5 : BK.FD := ⟨"cast_items", topS 9, ["value", "kind", "due", "name", "found", "item", "told"], 4, false, [], [4], []⟩
def d6 : BK.FD := ⟨"shown", topS 10, ["value", "item"], 1, false, [], [], []⟩
def d7 : BK.FD := ⟨"cast_direct", topS 12, ["value", "kind", "due", "name", "found", "item", "first", "other", "told"], 4, false, [], [4], []⟩
def d8 : BK.FD := ⟨"_law_draws", topS 14, ["script"], 1, true, [], [], []⟩
def d9 : BK.FD := ⟨"_law_draw", topS 15, ["draws", "limit", "cell", "value"], 2, false, [], [], []⟩
def d10 : BK.FD := ⟨"_law_same", topS 16, ["actual", "expected", "k"], 2, false, [], [], []⟩
def d11 : BK.FD := ⟨"_law_type", topS 17, ["draws", "deep", "kind"], 2, false, [], [], []⟩
def d12 : BK.FD := ⟨"_law_vaguer", topS 18, ["draws", "kind", "part"], 2, false, [], [], []⟩
def d13 : BK.FD := ⟨"_law_alike", topS 19, ["one", "two", "k"], 2, false, [], [], []⟩
def d14 : BK.FD := ⟨"_law_finer", topS 20, ["one", "two", "k"], 2, false, [], [], []⟩
def d15 : BK.FD := ⟨"_law_value", topS 21, ["draws", "kind", "deep", "ground", "k"], 3, false, [], [], []⟩
def d16 : BK.FD := ⟨"_law_plain", topS 22, ["draws", "deep", "form"], 2, false, [], [], []⟩
def d17 : BK.FD := ⟨"_law_plain_chain", topS 23, ["draws", "many", "base", "kinds", "k"], 2, false, [], [3], []⟩
def d18 : BK.FD := ⟨"_law_direct", topS 24, ["value", "kind", "due", "name", "parts", "found", "k", "told"], 4, false, [], [5], []⟩
def d19 : BK.FD := ⟨"law", topS 25, ["script", "draws", "name", "turn", "base", "value", "told", "plain", "kind", "due", "up", "wrong"], 1, false, [], [], [1]⟩
def tab : BK.Tab := ⟨[d0, d1, d2, d3, d4, d5, d6, d7, d8, d9, d10, d19, d12, d13, d19, d15, d16, d19, d18, d19], [("ANY", (.tup [(.str "any")]))], ["len", "range", "list", "tuple", "int", "zip", "all", "isinstance", "str", "bool"]⟩
/-- ground_of -/
def m0 (call : Nat → List PV → Sto → Res PV) : SM := (sSeq (sRet (mBin opAdd (mTup (aCons (mBinS opIx (mVar 0) (mC (.int 0))) aNil)) (mBin opMul (mTup (aCons (mC (.tup [(.str "any")])) aNil)) (mBin opSub (mBi (Bf.f .len) (aCons (mVar 0) aNil)) (mC (.int 1)))))) sNil)
theorem q0 (call) : tab.code call d0 = some (m0 call) := by kernel_rfl
theorem e0 (n : Nat) (xs : List PV) (st : Sto) (h : xs.length = 1) : tab.call (n + 1) 0 xs st = endOf false (m0 (tab.call n) (slots d0.N xs) st) := by
  show tab.run (tab.call n) d0 xs st = _
  unfold Tab.run
  rw [q0]
  exact if_pos h
theorem r0 (n : Nat) (a0 : PV) (st : Sto) : tab.call (n + 1) 0 [a0] st = endOf false (m0 (tab.call n) [.val a0] st) := e0 n _ st rfl
/-- alike -/
def m1 (call : Nat → List PV → Sto → Res PV) : SM := (sSeq (sIf (bOr (bVal (mBin opEq (mVar 0) (mC (.tup [(.str "any")])))) (bVal (mBin opEq (mVar 1) (mC (.tup [(.str "any")]))))) (sSeq (sRet (mC (.bl true))) sNil) sNil) (sSeq (sIf (bVal (mBin opNe (mBinS opIx (mVar 0) (mC (.int 0))) (mBinS opIx (mVar 1) (mC (.int 0))))) (sSeq (sRet (mC (.bl false))) sNil) sNil) (sSeq (sRet (mBi (Bf.f .all) (aCons (mFz (aLc (aZip (aCons (mSl (mVar 0) (oInt (mC (.int 1))) oNo) (aCons (mSl (mVar 1) (oInt (mC (.int 1))) oNo) aNil))) [2, 3] (gTp (gsCons (gNm 2) (gsCons (gNm 3) gsNil))) bYes (mCall (call 1) (aCons (mVar 2) (aCons (mVar 3) aNil)) []))) aNil))) sNil)))
theorem q1 (call) : tab.code call d1 = some (m1 call) := by kernel_rfl
theorem e1 (n : Nat) (xs : List PV) (st : Sto) (h : xs.length = 2) : tab.call (n + 1) 1 xs st = endOf false (m1 (tab.call n) (slots d1.N xs) st) := by
  show tab.run (tab.call n) d1 xs st = _
  unfold Tab.run
  rw [q1]
  exact if_pos h
theorem r1 (n : Nat) (a0 a1 : PV) (st : Sto) : tab.call (n + 1) 1 [a0, a1] st = endOf false (m1 (tab.call n) [.val a0, .val a1, .no, .no] st) := e1 n _ st rfl
/-- cast_value -/
def m2 (call : Nat → List PV → Sto → Res PV) : SM := (sSeq (sIf (bVal (mBin opEq (mVar 1) (mVar 2))) (sSeq (sRet (mTup (aCons (mC (.str "ok")) (aCons (mVar 0) aNil)))) sNil) sNil) (sSeq (sIf (bVal (mBin opEq (mVar 2) (mC (.tup [(.str "any")])))) (sSeq (sRet (mCall (call 3) (aCons (mVar 0) (aCons (mVar 1) (aCons (mVar 3) aNil))) [])) sNil) sNil) (sSeq (sIf (bVal (mBin opEq (mVar 1) (mC (.tup [(.str "any")])))) (sSeq (sIf (bVal (mBin opNe (mBinS opIx (mVar 0) (mC (.int 1))) (mCall (call 0) (aCons (mVar 2) aNil) []))) (sSeq (sRet (mTup (aCons (mC (.str "blame")) (aCons (mVar 3) aNil)))) sNil) sNil) (sSeq (sRet (mCall (call 2) (aCons (mBinS opIx (mVar 0) (mC (.int 2))) (aCons (mBinS opIx (mVar 0) (mC (.int 1))) (aCons (mVar 2) (aCons (mVar 3) aNil)))) [])) sNil)) sNil) (sSeq (sIf (bVal (mBin opEq (mBinS opIx (mVar 1) (mC (.int 0))) (mC (.str "fn")))) (sSeq (sRet (mTup (aCons (mC (.str "ok")) (aCons (mTup (aCons (mC (.str "wrap")) (aCons (mVar 0) (aCons (mVar 1) (aCons (mVar 2) (aCons (mVar 3) aNil)))))) aNil)))) sNil) sNil) (sSeq (sIf (bVal (mBin opEq (mBinS opIx (mVar 1) (mC (.int 0))) (mC (.str "pair")))) (sSeq (sRet (mCall (call 4) (aCons (mVar 0) (aCons (mVar 1) (aCons (mVar 2) (aCons (mVar 3) aNil)))) [])) sNil) sNil) (sSeq (sRet (mCall (call 5) (aCons (mVar 0) (aCons (mVar 1) (aCons (mVar 2) (aCons (mVar 3) aNil)))) [])) sNil))))))
theorem q2 (call) : tab.code call d2 = some (m2 call) := by kernel_rfl
theorem e2 (n : Nat) (xs : List PV) (st : Sto) (h : xs.length = 4) : tab.call (n + 1) 2 xs st = endOf false (m2 (tab.call n) (slots d2.N xs) st) := by
  show tab.run (tab.call n) d2 xs st = _
  unfold Tab.run
  rw [q2]
  exact if_pos h
theorem r2 (n : Nat) (a0 a1 a2 a3 : PV) (st : Sto) : tab.call (n + 1) 2 [a0, a1, a2, a3] st = endOf false (m2 (tab.call n) [.val a0, .val a1, .val a2, .val a3] st) := e2 n _ st rfl
/-- tagged -/
def m3 (call : Nat → List PV → Sto → Res PV) : SM := (sSeq (sSet 3 (mCall (call 0) (aCons (mVar 1) aNil) [])) (sSeq (sSet 4 (mCall (call 2) (aCons (mVar 0) (aCons (mVar 1) (aCons (mVar 3) (aCons (mVar 2) aNil)))) [])) (sSeq (sRet (mIf (bVal (mBin opEq (mBinS opIx (mVar 4) (mC (.int 0))) (mC (.str "blame")))) (mVar 4) (mTup (aCons (mC (.str "ok")) (aCons (mTup (aCons (mC (.str "tag")) (aCons (mVar 3) (aCons (mBinS opIx (mVar 4) (mC (.int 1))) aNil)))) aNil))))) sNil)))
theorem q3 (call) : tab.code call d3 = some (m3 call) := by kernel_rfl
theorem e3 (n : Nat) (xs : List PV) (st : Sto) (h : xs.length = 3) : tab.call (n + 1) 3 xs st = endOf false (m3 (tab.call n) (slots d3.N xs) st) := by
  show tab.run (tab.call n) d3 xs st = _
  unfold Tab.run
  rw [q3]
  exact if_pos h
theorem r3 (n : Nat) (a0 a1 a2 : PV) (st : Sto) : tab.call (n + 1) 3 [a0, a1, a2] st = endOf false (m3 (tab.call n) [.val a0, .val a1, .val a2, .no, .no] st) := e3 n _ st rfl
/-- cast_pair -/
def m4 (call : Nat → List PV → Sto → Res PV) : SM := (sSeq (sSet 4 (mCall (call 2) (aCons (mBinS opIx (mVar 0) (mC (.int 1))) (aCons (mBinS opIx (mVar 1) (mC (.int 1))) (aCons (mBinS opIx (mVar 2) (mC (.int 1))) (aCons (mVar 3) aNil)))) [])) (sSeq (sIf (bVal (mBin opEq (mBinS opIx (mVar 4) (mC (.int 0))) (mC (.str "blame")))) (sSeq (sRet (mVar 4)) sNil) sNil) (sSeq (sSet 5 (mCall (call 2) (aCons (mBinS opIx (mVar 0) (mC (.int 2))) (aCons (mBinS opIx (mVar 1) (mC (.int 2))) (aCons (mBinS opIx (mVar 2) (mC (.int 2))) (aCons (mVar 3) aNil)))) [])) (sSeq (sRet (mIf (bVal (mBin opEq (mBinS opIx (mVar 5) (mC (.int 0))) (mC (.str "blame")))) (mVar 5) (mTup (aCons (mC (.str "ok")) (aCons (mTup (aCons (mC (.str "pair")) (aCons (mBinS opIx (mVar 4) (mC (.int 1))) (aCons (mBinS opIx (mVar 5) (mC (.int 1))) aNil)))) aNil))))) sNil))))
theorem q4 (call) : tab.code call d4 = some (m4 call) := by kernel_rfl
theorem e4 (n : Nat) (xs : List PV) (st : Sto) (h : xs.length = 4) : tab.call (n + 1) 4 xs st = endOf false (m4 (tab.call n) (slots d4.N xs) st) := by
  show tab.run (tab.call n) d4 xs st = _
  unfold Tab.run
  rw [q4]
  exact if_pos h
theorem r4 (n : Nat) (a0 a1 a2 a3 : PV) (st : Sto) : tab.call (n + 1) 4 [a0, a1, a2, a3] st = endOf false (m4 (tab.call n) [.val a0, .val a1, .val a2, .val a3, .no, .no] st) := e4 n _ st rfl
/-- cast_items -/
def p5_0 (call : Nat → List PV → Sto → Res PV) : SM := (sOwn 4 aNil)
def p5_1_0 (call : Nat → List PV → Sto → Res PV) : SM := (sSet 6 (mCall (call 2) (aCons (mVar 5) (aCons (mBinS opIx (mVar 1) (mC (.int 1))) (aCons (mBinS opIx (mVar 2) (mC (.int 1))) (aCons (mVar 3) aNil)))) []))
def p5_1_1 (call : Nat → List PV → Sto → Res PV) : SM := (sIf (bVal (mBin opEq (mBinS opIx (mVar 6) (mC (.int 0))) (mC (.str "blame")))) (sSeq (sRet (mVar 6)) sNil) sNil)
def p5_1_2 (call : Nat → List PV → Sto → Res PV) : SM := (sApp 4 (mBinS opIx (mVar 6) (mC (.int 1))))
def p5_1b (call : Nat → List PV → Sto → Res PV) : SM := (sSeq (p5_1_0 call) (sSeq (p5_1_1 call) (sSeq (p5_1_2 call) sNil)))
def p5_1 (call : Nat → List PV → Sto → Res PV) : SM := (sFor (gNm 5) (aSeq (mBinS opIx (mVar 0) (mC (.int 1)))) (p5_1b call))
def p5_2 (call : Nat → List PV → Sto → Res PV) : SM := (sRet (mTup (aCons (mC (.str "ok")) (aCons (mTup (aCons (mC (.str "items")) (aCons (mBi (Bf.f .tup) (aCons (mVar 4) aNil)) aNil))) aNil))))
def m5 (call : Nat → List PV → Sto → Res PV) : SM := (sSeq (p5_0 call) (sSeq (p5_1 call) (sSeq (p5_2 call) sNil)))
theorem q5 (call) : tab.code call d5 = some (m5 call) := by kernel_rfl
theorem e5 (n : Nat) (xs : List PV) (st : Sto) (h : xs.length = 4) : tab.call (n + 1) 5 xs st = endOf false (m5 (tab.call n) (slots d5.N xs) st) := by
  show tab.run (tab.call n) d5 xs st = _
  unfold Tab.run
  rw [q5]
  exact if_pos h
theorem r5 (n : Nat) (a0 a1 a2 a3 : PV) (st : Sto) : tab.call (n + 1) 5 [a0, a1, a2, a3] st = endOf false (m5 (tab.call n) [.val a0, .val a1, .val a2, .val a3, .no, .no, .no] st) := e5 n _ st rfl
/-- shown -/
def m6 (call : Nat → List PV → Sto → Res PV) : SM := (sSeq (sIf (bVal (mBin opEq (mBinS opIx (mVar 0) (mC (.int 0))) (mC (.str "tag")))) (sSeq (sRet (mCall (call 6) (aCons (mBinS opIx (mVar 0) (mC (.int 2))) aNil) [])) sNil) sNil) (sSeq (sIf (bVal (mBin opIn (mBinS opIx (mVar 0) (mC (.int 0))) (mTup (aCons (mC (.str "closure")) (aCons (mC (.str "wrap")) aNil))))) (sSeq (sRet (mTup (aCons (mC (.str "fn")) aNil))) sNil) sNil) (sSeq (sIf (bVal (mBin opEq (mBinS opIx (mVar 0) (mC (.int 0))) (mC (.str "pair")))) (sSeq (sRet (mTup (aCons (mC (.str "pair")) (aCons (mCall (call 6) (aCons (mBinS opIx (mVar 0) (mC (.int 1))) aNil) []) (aCons (mCall (call 6) (aCons (mBinS opIx (mVar 0) (mC (.int 2))) aNil) []) aNil))))) sNil) sNil) (sSeq (sIf (bVal (mBin opEq (mBinS opIx (mVar 0) (mC (.int 0))) (mC (.str "items")))) (sSeq (sRet (mTup (aCons (mC (.str "items")) (aCons (mBi (Bf.f .tup) (aCons (mFz (aLc (aSeq (mBinS opIx (mVar 0) (mC (.int 1)))) [1] (gNm 1) bYes (mCall (call 6) (aCons (mVar 1) aNil) []))) aNil)) aNil)))) sNil) sNil) (sSeq (sRet (mVar 0)) sNil)))))
theorem q6 (call) : tab.code call d6 = some (m6 call) := by kernel_rfl
theorem e6 (n : Nat) (xs : List PV) (st : Sto) (h : xs.length = 1) : tab.call (n + 1) 6 xs st = endOf false (m6 (tab.call n) (slots d6.N xs) st) := by
  show tab.run (tab.call n) d6 xs st = _
  unfold Tab.run
  rw [q6]
  exact if_pos h
theorem r6 (n : Nat) (a0 : PV) (st : Sto) : tab.call (n + 1) 6 [a0] st = endOf false (m6 (tab.call n) [.val a0, .no] st) := e6 n _ st rfl
/-- cast_direct -/
def p7_0 (call : Nat → List PV → Sto → Res PV) : SM := (sIf (bVal (mBin opEq (mVar 1) (mVar 2))) (sSeq (sRet (mTup (aCons (mC (.str "ok")) (aCons (mVar 0) aNil)))) sNil) sNil)
def p7_1 (call : Nat → List PV → Sto → Res PV) : SM := (sIf (bVal (mBin opEq (mVar 2) (mC (.tup [(.str "any")])))) (sSeq (sRet (mTup (aCons (mC (.str "ok")) (aCons (mTup (aCons (mC (.str "tag")) (aCons (mVar 1) (aCons (mVar 0) aNil)))) aNil)))) sNil) sNil)
def p7_2 (call : Nat → List PV → Sto → Res PV) : SM := (sIf (bVal (mBin opEq (mVar 1) (mC (.tup [(.str "any")])))) (sSeq (sIf (bNot (bVal (mCall (call 1) (aCons (mBinS opIx (mVar 0) (mC (.int 1))) (aCons (mVar 2) aNil)) []))) (sSeq (sRet (mTup (aCons (mC (.str "blame")) (aCons (mVar 3) aNil)))) sNil) sNil) (sSeq (sRet (mCall (call 7) (aCons (mBinS opIx (mVar 0) (mC (.int 2))) (aCons (mBinS opIx (mVar 0) (mC (.int 1))) (aCons (mVar 2) (aCons (mVar 3) aNil)))) [])) sNil)) sNil)
def p7_3 (call : Nat → List PV → Sto → Res PV) : SM := (sIf (bVal (mBin opEq (mBinS opIx (mVar 1) (mC (.int 0))) (mC (.str "fn")))) (sSeq (sRet (mTup (aCons (mC (.str "ok")) (aCons (mTup (aCons (mC (.str "wrap")) (aCons (mVar 0) (aCons (mVar 1) (aCons (mVar 2) (aCons (mVar 3) aNil)))))) aNil)))) sNil) sNil)
def p7_4 (call : Nat → List PV → Sto → Res PV) : SM := (sIf (bVal (mBin opEq (mBinS opIx (mVar 1) (mC (.int 0))) (mC (.str "pair")))) (sSeq (sSet 6 (mCall (call 7) (aCons (mBinS opIx (mVar 0) (mC (.int 1))) (aCons (mBinS opIx (mVar 1) (mC (.int 1))) (aCons (mBinS opIx (mVar 2) (mC (.int 1))) (aCons (mVar 3) aNil)))) [])) (sSeq (sIf (bVal (mBin opEq (mBinS opIx (mVar 6) (mC (.int 0))) (mC (.str "blame")))) (sSeq (sRet (mVar 6)) sNil) sNil) (sSeq (sSet 7 (mCall (call 7) (aCons (mBinS opIx (mVar 0) (mC (.int 2))) (aCons (mBinS opIx (mVar 1) (mC (.int 2))) (aCons (mBinS opIx (mVar 2) (mC (.int 2))) (aCons (mVar 3) aNil)))) [])) (sSeq (sRet (mIf (bVal (mBin opEq (mBinS opIx (mVar 7) (mC (.int 0))) (mC (.str "blame")))) (mVar 7) (mTup (aCons (mC (.str "ok")) (aCons (mTup (aCons (mC (.str "pair")) (aCons (mBinS opIx (mVar 6) (mC (.int 1))) (aCons (mBinS opIx (mVar 7) (mC (.int 1))) aNil)))) aNil))))) sNil)))) sNil)
def p7_5 (call : Nat → List PV → Sto → Res PV) : SM := (sOwn 4 aNil)
def p7_6_0 (call : Nat → List PV → Sto → Res PV) : SM := (sSet 8 (mCall (call 7) (aCons (mVar 5) (aCons (mBinS opIx (mVar 1) (mC (.int 1))) (aCons (mBinS opIx (mVar 2) (mC (.int 1))) (aCons (mVar 3) aNil)))) []))
def p7_6_1 (call : Nat → List PV → Sto → Res PV) : SM := (sIf (bVal (mBin opEq (mBinS opIx (mVar 8) (mC (.int 0))) (mC (.str "blame")))) (sSeq (sRet (mVar 8)) sNil) sNil)
def p7_6_2 (call : Nat → List PV → Sto → Res PV) : SM := (sApp 4 (mBinS opIx (mVar 8) (mC (.int 1))))
def p7_6b (call : Nat → List PV → Sto → Res PV) : SM := (sSeq (p7_6_0 call) (sSeq (p7_6_1 call) (sSeq (p7_6_2 call) sNil)))
def p7_6 (call : Nat → List PV → Sto → Res PV) : SM := (sFor (gNm 5) (aSeq (mBinS opIx (mVar 0) (mC (.int 1)))) (p7_6b call))
def p7_7 (call : Nat → List PV → Sto → Res PV) : SM := (sRet (mTup (aCons (mC (.str "ok")) (aCons (mTup (aCons (mC (.str "items")) (aCons (mBi (Bf.f .tup) (aCons (mVar 4) aNil)) aNil))) aNil))))
def m7 (call : Nat → List PV → Sto → Res PV) : SM := (sSeq (p7_0 call) (sSeq (p7_1 call) (sSeq (p7_2 call) (sSeq (p7_3 call) (sSeq (p7_4 call) (sSeq (p7_5 call) (sSeq (p7_6 call) (sSeq (p7_7 call) sNil))))))))
theorem q7 (call) : tab.code call d7 = some (m7 call) := by kernel_rfl
theorem e7 (n : Nat) (xs : List PV) (st : Sto) (h : xs.length = 4) : tab.call (n + 1) 7 xs st = endOf false (m7 (tab.call n) (slots d7.N xs) st) := by
  show tab.run (tab.call n) d7 xs st = _
  unfold Tab.run
  rw [q7]
  exact if_pos h
theorem r7 (n : Nat) (a0 a1 a2 a3 : PV) (st : Sto) : tab.call (n + 1) 7 [a0, a1, a2, a3] st = endOf false (m7 (tab.call n) [.val a0, .val a1, .val a2, .val a3, .no, .no, .no, .no, .no] st) := e7 n _ st rfl
/-- _law_draws -/
def m8 (call : Nat → List PV → Sto → Res PV) : SM := (sSeq (sRetL (aCons (mFz (aList (aCons (mVar 0) aNil))) (aCons (mC (.int 0)) (aCons (mC (.int 0)) (aCons (mC (.int 1)) aNil))))) sNil)
theorem q8 (call) : tab.code call d8 = some (m8 call) := by kernel_rfl
theorem e8 (n : Nat) (xs : List PV) (st : Sto) (h : xs.length = 1) : tab.call (n + 1) 8 xs st = endOf true (m8 (tab.call n) (slots d8.N xs) st) := by
  show tab.run (tab.call n) d8 xs st = _
  unfold Tab.run
  rw [q8]
  exact if_pos h
theorem r8 (n : Nat) (a0 : PV) (st : Sto) : tab.call (n + 1) 8 [a0] st = endOf true (m8 (tab.call n) [.val a0] st) := e8 n _ st rfl
/-- _law_draw -/
def m9 (call : Nat → List PV → Sto → Res PV) : SM := (sSeq (sIf (bAnd (bVal (mBin opEq (mBinS opIx (mVar 0) (mC (.int 2))) (mC (.int 0)))) (bVal (mBin opLt (mBinS opIx (mVar 0) (mC (.int 1))) (mBi (Bf.f .len) (aCons (mBinS opIx (mVar 0) (mC (.int 0))) aNil))))) (sSeq (sSet 2 (mBinS opIx (mBinS opIx (mVar 0) (mC (.int 0))) (mBinS opIx (mVar 0) (mC (.int 1))))) (sSeq (sPut (mVar 0) (mC (.int 1)) (mBin opAdd (mBinS opIx (mVar 0) (mC (.int 1))) (mC (.int 1)))) (sSeq (sIf (bVal (mBin opGe (mVar 2) (mBin opPow (mC (.int 10)) (mC (.int 18))))) (sSeq (sPut (mVar 0) (mC (.int 2)) (mVar 2)) sNil) sNil) (sSeq (sPut (mVar 0) (mC (.int 3)) (mBin opMod (mBi (Bf.f .int) (aCons (mBin opAdd (mBin opAdd (mBin opMul (mBinS opIx (mVar 0) (mC (.int 3))) (mC (.int 48271))) (mVar 2)) (mC (.int 13))) aNil)) (mC (.int 2147483647)))) sNil)))) sNil) (sSeq (sIf (bVal (mBin opGt (mBinS opIx (mVar 0) (mC (.int 2))) (mC (.int 0)))) (sSeq (sSet 3 (mBin opMod (mBi (Bf.f .int) (aCons (mBinS opIx (mVar 0) (mC (.int 2))) aNil)) (mVar 1))) (sSeq (sPut (mVar 0) (mC (.int 2)) (mBin opDiv (mBinS opIx (mVar 0) (mC (.int 2))) (mVar 1))) (sSeq (sRet (mVar 3)) sNil))) sNil) (sSeq (sPut (mVar 0) (mC (.int 3)) (mBin opMod (mBi (Bf.f .int) (aCons (mBin opAdd (mBin opMul (mBinS opIx (mVar 0) (mC (.int 3))) (mC (.int 69621))) (mC (.int 7))) aNil)) (mC (.int 2147483629)))) (sSeq (sRet (mBin opMod (mBi (Bf.f .int) (aCons (mBin opDiv (mBinS opIx (mVar 0) (mC (.int 3))) (mC (.int 11))) aNil)) (mVar 1))) sNil))))
theorem q9 (call) : tab.code call d9 = some (m9 call) := by kernel_rfl
theorem e9 (n : Nat) (xs : List PV) (st : Sto) (h : xs.length = 2) : tab.call (n + 1) 9 xs st = endOf false (m9 (tab.call n) (slots d9.N xs) st) := by
  show tab.run (tab.call n) d9 xs st = _
  unfold Tab.run
  rw [q9]
  exact if_pos h
theorem r9 (n : Nat) (a0 a1 : PV) (st : Sto) : tab.call (n + 1) 9 [a0, a1] st = endOf false (m9 (tab.call n) [.val a0, .val a1, .no, .no] st) := e9 n _ st rfl
/-- _law_same -/
def m10 (call : Nat → List PV → Sto → Res PV) : SM := (sSeq (sIf (bOr (bVal (mBi (Bf.f .isi) (aCons (mVar 1) (aCons (mC (.ty "tuple")) aNil)))) (bVal (mBi (Bf.f .isi) (aCons (mVar 1) (aCons (mC (.ty "list")) aNil))))) (sSeq (sIf (bOr (bVal (mBin opNe (mBi (Bf.f .isi) (aCons (mVar 1) (aCons (mC (.ty "tuple")) aNil))) (mBi (Bf.f .isi) (aCons (mVar 0) (aCons (mC (.ty "tuple")) aNil))))) (bVal (mBin opNe (mBi (Bf.f .isi) (aCons (mVar 1) (aCons (mC (.ty "list")) aNil))) (mBi (Bf.f .isi) (aCons (mVar 0) (aCons (mC (.ty "list")) aNil)))))) (sSeq (sRet (mC (.bl false))) sNil) sNil) (sSeq (sIf (bVal (mBin opNe (mBi (Bf.f .len) (aCons (mVar 0) aNil)) (mBi (Bf.f .len) (aCons (mVar 1) aNil)))) (sSeq (sRet (mC (.bl false))) sNil) sNil) (sSeq (sRet (mBin opEq (mBi (Bf.f .len) (aCons (mFz (aLc (aRange1 (aCons (mBi (Bf.f .len) (aCons (mVar 1) aNil)) aNil)) [2] (gNm 2) (bNot (bVal (mCall (call 10) (aCons (mBinS opIx (mVar 0) (mVar 2)) (aCons (mBinS opIx (mVar 1) (mVar 2)) aNil)) []))) (mVar 2))) aNil)) (mC (.int 0)))) sNil))) sNil) (sSeq (sIf (bVal (mBi (Bf.f .isi) (aCons (mVar 1) (aCons (mC (.ty "str")) aNil)))) (sSeq (sRet (mAndV (mBi (Bf.f .isi) (aCons (mVar 0) (aCons (mC (.ty "str")) aNil))) (mBin opEq (mVar 0) (mVar 1)))) sNil) sNil) (sSeq (sIf (bVal (mBin opIs (mVar 1) (mC .non))) (sSeq (sRet (mBin opIs (mVar 0) (mC .non))) sNil) sNil) (sSeq (sIf (bOr (bVal (mBi (Bf.f .isi) (aCons (mVar 1) (aCons (mC (.ty "bool")) aNil)))) (bVal (mBi (Bf.f .isi) (aCons (mVar 0) (aCons (mC (.ty "bool")) aNil))))) (sSeq (sRet (mAndV (mBi (Bf.f .isi) (aCons (mVar 1) (aCons (mC (.ty "bool")) aNil))) (mAndV (mBi (Bf.f .isi) (aCons (mVar 0) (aCons (mC (.ty "bool")) aNil))) (mBin opEq (mVar 0) (mVar 1))))) sNil) sNil) (sSeq (sRet (mAndV (mBi (Bf.f .isi) (aCons (mVar 0) (aCons (mC (.ty "int")) aNil))) (mAndV (mBi (Bf.f .isi) (aCons (mVar 1) (aCons (mC (.ty "int")) aNil))) (mBin opEq (mVar 0) (mVar 1))))) sNil)))))
theorem q10 (call) : tab.code call d10 = some (m10 call) := by kernel_rfl
theorem e10 (n : Nat) (xs : List PV) (st : Sto) (h : xs.length = 2) : tab.call (n + 1) 10 xs st = endOf false (m10 (tab.call n) (slots d10.N xs) st) := by
  show tab.run (tab.call n) d10 xs st = _
  unfold Tab.run
  rw [q10]
  exact if_pos h
theorem r10 (n : Nat) (a0 a1 : PV) (st : Sto) : tab.call (n + 1) 10 [a0, a1] st = endOf false (m10 (tab.call n) [.val a0, .val a1, .no] st) := e10 n _ st rfl
/-- _law_vaguer -/
def m12 (call : Nat → List PV → Sto → Res PV) : SM := (sSeq (sIf (bVal (mBin opEq (mCall (call 9) (aCons (mVar 0) (aCons (mC (.int 4)) aNil)) []) (mC (.int 0)))) (sSeq (sRet (mTup (aCons (mC (.str "any")) aNil))) sNil) sNil) (sSeq (sRet (mBin opAdd (mTup (aCons (mBinS opIx (mVar 1) (mC (.int 0))) aNil)) (mBi (Bf.f .tup) (aCons (mFz (aLc (aSeq (mSl (mVar 1) (oInt (mC (.int 1))) oNo)) [2] (gNm 2) bYes (mCall (call 12) (aCons (mVar 0) (aCons (mVar 2) aNil)) []))) aNil)))) sNil))
theorem q12 (call) : tab.code call d12 = some (m12 call) := by kernel_rfl
theorem e12 (n : Nat) (xs : List PV) (st : Sto) (h : xs.length = 2) : tab.call (n + 1) 12 xs st = endOf false (m12 (tab.call n) (slots d12.N xs) st) := by
  show tab.run (tab.call n) d12 xs st = _
  unfold Tab.run
  rw [q12]
  exact if_pos h
theorem r12 (n : Nat) (a0 a1 : PV) (st : Sto) : tab.call (n + 1) 12 [a0, a1] st = endOf false (m12 (tab.call n) [.val a0, .val a1, .no] st) := e12 n _ st rfl
/-- _law_alike -/
def m13 (call : Nat → List PV → Sto → Res PV) : SM := (sSeq (sIf (bVal (mBin opIn (mTup (aCons (mC (.str "any")) aNil)) (mFz (aCons (mVar 0) (aCons (mVar 1) aNil))))) (sSeq (sRet (mC (.bl true))) sNil) sNil) (sSeq (sRet (mAndV (mBin opEq (mBinS opIx (mVar 0) (mC (.int 0))) (mBinS opIx (mVar 1) (mC (.int 0)))) (mBin opEq (mBi (Bf.f .len) (aCons (mFz (aLc (aRange2 (aCons (mC (.int 1)) (aCons (mBi (Bf.f .len) (aCons (mVar 0) aNil)) aNil))) [2] (gNm 2) (bNot (bVal (mCall (call 13) (aCons (mBinS opIx (mVar 0) (mVar 2)) (aCons (mBinS opIx (mVar 1) (mVar 2)) aNil)) []))) (mVar 2))) aNil)) (mC (.int 0))))) sNil))
theorem q13 (call) : tab.code call d13 = some (m13 call) := by kernel_rfl
theorem e13 (n : Nat) (xs : List PV) (st : Sto) (h : xs.length = 2) : tab.call (n + 1) 13 xs st = endOf false (m13 (tab.call n) (slots d13.N xs) st) := by
  show tab.run (tab.call n) d13 xs st = _
  unfold Tab.run
  rw [q13]
  exact if_pos h
theorem r13 (n : Nat) (a0 a1 : PV) (st : Sto) : tab.call (n + 1) 13 [a0, a1] st = endOf false (m13 (tab.call n) [.val a0, .val a1, .no] st) := e13 n _ st rfl
/-- _law_value -/
def m15 (call : Nat → List PV → Sto → Res PV) : SM := (sSeq (sIf (bVal (mBin opEq (mVar 1) (mTup (aCons (mC (.str "any")) aNil)))) (sSeq (sSet 3 (mBinS opIx (mFz (aCons (mTup (aCons (mC (.str "int")) aNil)) (aCons (mTup (aCons (mC (.str "bool")) aNil)) (aCons (mTup (aCons (mC (.str "pair")) (aCons (mTup (aCons (mC (.str "any")) aNil)) (aCons (mTup (aCons (mC (.str "any")) aNil)) aNil)))) (aCons (mTup (aCons (mC (.str "list")) (aCons (mTup (aCons (mC (.str "any")) aNil)) aNil))) aNil))))) (mCall (call 9) (aCons (mVar 0) (aCons (mIf (bVal (mBin opGt (mVar 2) (mC (.int 0)))) (mC (.int 4)) (mC (.int 2))) aNil)) []))) (sSeq (sRet (mTup (aCons (mC (.str "tag")) (aCons (mVar 3) (aCons (mCall (call 15) (aCons (mVar 0) (aCons (mVar 3) (aCons (mBin opSub (mVar 2) (mC (.int 1))) aNil))) []) aNil))))) sNil)) sNil) (sSeq (sIf (bVal (mBin opEq (mVar 1) (mTup (aCons (mC (.str "int")) aNil)))) (sSeq (sRet (mTup (aCons (mC (.str "int")) (aCons (mBin opSub (mCall (call 9) (aCons (mVar 0) (aCons (mC (.int 9)) aNil)) []) (mC (.int 4))) aNil)))) sNil) sNil) (sSeq (sIf (bVal (mBin opEq (mVar 1) (mTup (aCons (mC (.str "bool")) aNil)))) (sSeq (sRet (mTup (aCons (mC (.str "bool")) (aCons (mBin opEq (mCall (call 9) (aCons (mVar 0) (aCons (mC (.int 2)) aNil)) []) (mC (.int 0))) aNil)))) sNil) sNil) (sSeq (sIf (bVal (mBin opEq (mBinS opIx (mVar 1) (mC (.int 0))) (mC (.str "pair")))) (sSeq (sRet (mTup (aCons (mC (.str "pair")) (aCons (mCall (call 15) (aCons (mVar 0) (aCons (mBinS opIx (mVar 1) (mC (.int 1))) (aCons (mBin opSub (mVar 2) (mC (.int 1))) aNil))) []) (aCons (mCall (call 15) (aCons (mVar 0) (aCons (mBinS opIx (mVar 1) (mC (.int 2))) (aCons (mBin opSub (mVar 2) (mC (.int 1))) aNil))) []) aNil))))) sNil) sNil) (sSeq (sRet (mTup (aCons (mC (.str "items")) (aCons (mBi (Bf.f .tup) (aCons (mFz (aLc (aRange1 (aCons (mCall (call 9) (aCons (mVar 0) (aCons (mC (.int 3)) aNil)) []) aNil)) [4] (gNm 4) bYes (mCall (call 15) (aCons (mVar 0) (aCons (mBinS opIx (mVar 1) (mC (.int 1))) (aCons (mBin opSub (mVar 2) (mC (.int 1))) aNil))) []))) aNil)) aNil)))) sNil)))))
theorem q15 (call) : tab.code call d15 = some (m15 call) := by kernel_rfl
theorem e15 (n : Nat) (xs : List PV) (st : Sto) (h : xs.length = 3) : tab.call (n + 1) 15 xs st = endOf false (m15 (tab.call n) (slots d15.N xs) st) := by
  show tab.run (tab.call n) d15 xs st = _
  unfold Tab.run
  rw [q15]
  exact if_pos h
theorem r15 (n : Nat) (a0 a1 a2 : PV) (st : Sto) : tab.call (n + 1) 15 [a0, a1, a2] st = endOf false (m15 (tab.call n) [.val a0, .val a1, .val a2, .no, .no] st) := e15 n _ st rfl
/-- _law_plain -/
def m16 (call : Nat → List PV → Sto → Res PV) : SM := (sSeq (sSet 2 (mIf (bVal (mBin opGt (mVar 1) (mC (.int 1)))) (mCall (call 9) (aCons (mVar 0) (aCons (mC (.int 6)) aNil)) []) (mCall (call 9) (aCons (mVar 0) (aCons (mC (.int 3)) aNil)) []))) (sSeq (sIf (bVal (mBin opLt (mVar 2) (mC (.int 3)))) (sSeq (sRet (mBinS opIx (mFz (aCons (mTup (aCons (mC (.str "int")) aNil)) (aCons (mTup (aCons (mC (.str "bool")) aNil)) (aCons (mTup (aCons (mC (.str "any")) aNil)) aNil)))) (mVar 2))) sNil) sNil) (sSeq (sRet (mIf (bVal (mBin opEq (mVar 2) (mC (.int 3)))) (mTup (aCons (mC (.str "list")) (aCons (mCall (call 16) (aCons (mVar 0) (aCons (mBin opSub (mVar 1) (mC (.int 1))) aNil)) []) aNil))) (mTup (aCons (mC (.str "pair")) (aCons (mCall (call 16) (aCons (mVar 0) (aCons (mBin opSub (mVar 1) (mC (.int 1))) aNil)) []) (aCons (mCall (call 16) (aCons (mVar 0) (aCons (mBin opSub (mVar 1) (mC (.int 1))) aNil)) []) aNil)))))) sNil)))
theorem q16 (call) : tab.code call d16 = some (m16 call) := by kernel_rfl
theorem e16 (n : Nat) (xs : List PV) (st : Sto) (h : xs.length = 2) : tab.call (n + 1) 16 xs st = endOf false (m16 (tab.call n) (slots d16.N xs) st) := by
  show tab.run (tab.call n) d16 xs st = _
  unfold Tab.run
  rw [q16]
  exact if_pos h
theorem r16 (n : Nat) (a0 a1 : PV) (st : Sto) : tab.call (n + 1) 16 [a0, a1] st = endOf false (m16 (tab.call n) [.val a0, .val a1, .no] st) := e16 n _ st rfl
/-- _law_direct -/
def p18_0 (call : Nat → List PV → Sto → Res PV) : SM := (sIf (bVal (mBin opEq (mVar 1) (mVar 2))) (sSeq (sRet (mTup (aCons (mC (.str "ok")) (aCons (mVar 0) aNil)))) sNil) sNil)
def p18_1 (call : Nat → List PV → Sto → Res PV) : SM := (sIf (bVal (mBin opEq (mVar 2) (mTup (aCons (mC (.str "any")) aNil)))) (sSeq (sRet (mTup (aCons (mC (.str "ok")) (aCons (mTup (aCons (mC (.str "tag")) (aCons (mVar 1) (aCons (mVar 0) aNil)))) aNil)))) sNil) sNil)
def p18_2 (call : Nat → List PV → Sto → Res PV) : SM := (sIf (bVal (mBin opEq (mVar 1) (mTup (aCons (mC (.str "any")) aNil)))) (sSeq (sRet (mIf (bVal (mCall (call 13) (aCons (mBinS opIx (mVar 0) (mC (.int 1))) (aCons (mVar 2) aNil)) [])) (mCall (call 18) (aCons (mBinS opIx (mVar 0) (mC (.int 2))) (aCons (mBinS opIx (mVar 0) (mC (.int 1))) (aCons (mVar 2) (aCons (mVar 3) aNil)))) []) (mTup (aCons (mC (.str "blame")) (aCons (mVar 3) aNil))))) sNil) sNil)
def p18_3 (call : Nat → List PV → Sto → Res PV) : SM := (sSet 4 (mIf (bVal (mBin opEq (mBinS opIx (mVar 1) (mC (.int 0))) (mC (.str "list")))) (mFz (aList (aCons (mBinS opIx (mVar 0) (mC (.int 1))) aNil))) (mFz (aCons (mBinS opIx (mVar 0) (mC (.int 1))) (aCons (mBinS opIx (mVar 0) (mC (.int 2))) aNil)))))
def p18_4 (call : Nat → List PV → Sto → Res PV) : SM := (sOwn 5 aNil)
def p18_5_0 (call : Nat → List PV → Sto → Res PV) : SM := (sSet 7 (mCall (call 18) (aCons (mBinS opIx (mVar 4) (mVar 6)) (aCons (mIf (bVal (mBin opEq (mBinS opIx (mVar 1) (mC (.int 0))) (mC (.str "list")))) (mBinS opIx (mVar 1) (mC (.int 1))) (mBinS opIx (mVar 1) (mBin opAdd (mC (.int 1)) (mVar 6)))) (aCons (mIf (bVal (mBin opEq (mBinS opIx (mVar 1) (mC (.int 0))) (mC (.str "list")))) (mBinS opIx (mVar 2) (mC (.int 1))) (mBinS opIx (mVar 2) (mBin opAdd (mC (.int 1)) (mVar 6)))) (aCons (mVar 3) aNil)))) []))
def p18_5_1 (call : Nat → List PV → Sto → Res PV) : SM := (sIf (bVal (mBin opEq (mBinS opIx (mVar 7) (mC (.int 0))) (mC (.str "blame")))) (sSeq (sRet (mVar 7)) sNil) sNil)
def p18_5_2 (call : Nat → List PV → Sto → Res PV) : SM := (sApp 5 (mBinS opIx (mVar 7) (mC (.int 1))))
def p18_5b (call : Nat → List PV → Sto → Res PV) : SM := (sSeq (p18_5_0 call) (sSeq (p18_5_1 call) (sSeq (p18_5_2 call) sNil)))
def p18_5 (call : Nat → List PV → Sto → Res PV) : SM := (sFor (gNm 6) (aRange1 (aCons (mBi (Bf.f .len) (aCons (mVar 4) aNil)) aNil)) (p18_5b call))
def p18_6 (call : Nat → List PV → Sto → Res PV) : SM := (sRet (mTup (aCons (mC (.str "ok")) (aCons (mIf (bVal (mBin opEq (mBinS opIx (mVar 1) (mC (.int 0))) (mC (.str "list")))) (mTup (aCons (mC (.str "items")) (aCons (mBi (Bf.f .tup) (aCons (mVar 5) aNil)) aNil))) (mTup (aCons (mC (.str "pair")) (aCons (mBinS opIx (mVar 5) (mC (.int 0))) (aCons (mBinS opIx (mVar 5) (mC (.int 1))) aNil))))) aNil))))
def m18 (call : Nat → List PV → Sto → Res PV) : SM := (sSeq (p18_0 call) (sSeq (p18_1 call) (sSeq (p18_2 call) (sSeq (p18_3 call) (sSeq (p18_4 call) (sSeq (p18_5 call) (sSeq (p18_6 call) sNil)))))))
theorem q18 (call) : tab.code call d18 = some (m18 call) := by kernel_rfl
theorem e18 (n : Nat) (xs : List PV) (st : Sto) (h : xs.length = 4) : tab.call (n + 1) 18 xs st = endOf false (m18 (tab.call n) (slots d18.N xs) st) := by
  show tab.run (tab.call n) d18 xs st = _
  unfold Tab.run
  rw [q18]
  exact if_pos h
theorem r18 (n : Nat) (a0 a1 a2 a3 : PV) (st : Sto) : tab.call (n + 1) 18 [a0, a1, a2, a3] st = endOf false (m18 (tab.call n) [.val a0, .val a1, .val a2, .val a3, .no, .no, .no, .no] st) := e18 n _ st rfl
/-- law -/
def p19_0 (call : Nat → List PV → Sto → Res PV) : SM := (sNew 1 (aCall (call 8) (aCons (mVar 0) aNil) []))
def p19_1 (call : Nat → List PV → Sto → Res PV) : SM := (sSet 2 (mTup (aCons (mTup (aCons (mC (.int 2)) (aCons (mC (.int 1)) aNil))) (aCons (mC (.bl true)) aNil))))
def p19_2_0 (call : Nat → List PV → Sto → Res PV) : SM := (sSet 4 (mCall (call 16) (aCons (mVar 1) (aCons (mC (.int 3)) aNil)) []))
def p19_2_1 (call : Nat → List PV → Sto → Res PV) : SM := (sAsg (gTp (gsCons (gNm 8) (gsCons (gNm 9) gsNil))) (mTup (aCons (mCall (call 12) (aCons (mVar 1) (aCons (mVar 4) aNil)) []) (aCons (mCall (call 12) (aCons (mVar 1) (aCons (mVar 4) aNil)) []) aNil))))
def p19_2_2 (call : Nat → List PV → Sto → Res PV) : SM := (sSet 5 (mCall (call 15) (aCons (mVar 1) (aCons (mVar 8) (aCons (mC (.int 3)) aNil))) []))
def p19_2_3 (call : Nat → List PV → Sto → Res PV) : SM := (sSet 6 (mCall (call 7) (aCons (mVar 5) (aCons (mVar 8) (aCons (mVar 9) (aCons (mVar 2) aNil)))) []))
def p19_2_4 (call : Nat → List PV → Sto → Res PV) : SM := (sIf (bNot (bVal (mCall (call 10) (aCons (mVar 6) (aCons (mCall (call 18) (aCons (mVar 5) (aCons (mVar 8) (aCons (mVar 9) (aCons (mVar 2) aNil)))) []) aNil)) []))) (sSeq (sRet (mC (.bl false))) sNil) sNil)
def p19_2_5 (call : Nat → List PV → Sto → Res PV) : SM := (sSet 7 (mCall (call 2) (aCons (mVar 5) (aCons (mVar 8) (aCons (mVar 9) (aCons (mVar 2) aNil)))) []))
def p19_2_6 (call : Nat → List PV → Sto → Res PV) : SM := (sIf (bOr (bVal (mBin opNe (mBinS opIx (mVar 6) (mC (.int 0))) (mBinS opIx (mVar 7) (mC (.int 0))))) (bOr (bAnd (bVal (mBin opEq (mBinS opIx (mVar 6) (mC (.int 0))) (mC (.str "blame")))) (bVal (mBin opNe (mVar 6) (mVar 7)))) (bAnd (bVal (mBin opEq (mBinS opIx (mVar 6) (mC (.int 0))) (mC (.str "ok")))) (bVal (mBin opNe (mCall (call 6) (aCons (mBinS opIx (mVar 6) (mC (.int 1))) aNil) []) (mCall (call 6) (aCons (mBinS opIx (mVar 7) (mC (.int 1))) aNil) [])))))) (sSeq (sRet (mC (.bl false))) sNil) sNil)
def p19_2_7 (call : Nat → List PV → Sto → Res PV) : SM := (sIf (bVal (mBin opNe (mVar 8) (mTup (aCons (mC (.str "any")) aNil)))) (sSeq (sSet 10 (mCall (call 7) (aCons (mVar 5) (aCons (mVar 8) (aCons (mTup (aCons (mC (.str "any")) aNil)) (aCons (mVar 2) aNil)))) [])) (sSeq (sIf (bOr (bVal (mBin opNe (mVar 10) (mTup (aCons (mC (.str "ok")) (aCons (mTup (aCons (mC (.str "tag")) (aCons (mVar 8) (aCons (mVar 5) aNil)))) aNil))))) (bNot (bVal (mCall (call 10) (aCons (mCall (call 7) (aCons (mBinS opIx (mVar 10) (mC (.int 1))) (aCons (mTup (aCons (mC (.str "any")) aNil)) (aCons (mVar 9) (aCons (mVar 2) aNil)))) []) (aCons (mVar 6) aNil)) [])))) (sSeq (sRet (mC (.bl false))) sNil) sNil) (sSeq (sSet 11 (mIf (bVal (mBin opNe (mBinS opIx (mVar 8) (mC (.int 0))) (mC (.str "bool")))) (mTup (aCons (mC (.str "bool")) aNil)) (mTup (aCons (mC (.str "int")) aNil)))) (sSeq (sIf (bVal (mBin opNe (mCall (call 7) (aCons (mBinS opIx (mVar 10) (mC (.int 1))) (aCons (mTup (aCons (mC (.str "any")) aNil)) (aCons (mVar 11) (aCons (mVar 2) aNil)))) []) (mTup (aCons (mC (.str "blame")) (aCons (mVar 2) aNil))))) (sSeq (sRet (mC (.bl false))) sNil) sNil) sNil)))) sNil)
def p19_2b (call : Nat → List PV → Sto → Res PV) : SM := (sSeq (p19_2_0 call) (sSeq (p19_2_1 call) (sSeq (p19_2_2 call) (sSeq (p19_2_3 call) (sSeq (p19_2_4 call) (sSeq (p19_2_5 call) (sSeq (p19_2_6 call) (sSeq (p19_2_7 call) sNil))))))))
def p19_2 (call : Nat → List PV → Sto → Res PV) : SM := (sFor (gNm 3) (aRange1 (aCons (mC (.int 8)) aNil)) (p19_2b call))
def p19_3 (call : Nat → List PV → Sto → Res PV) : SM := (sRet (mC (.bl true)))
def m19 (call : Nat → List PV → Sto → Res PV) : SM := (sSeq (p19_0 call) (sSeq (p19_1 call) (sSeq (p19_2 call) (sSeq (p19_3 call) sNil))))
theorem q19 (call) : tab.code call d19 = some (m19 call) := by kernel_rfl
theorem e19 (n : Nat) (xs : List PV) (st : Sto) (h : xs.length = 1) : tab.call (n + 1) 19 xs st = endOf false (m19 (tab.call n) (slots d19.N xs) st) := by
  show tab.run (tab.call n) d19 xs st = _
  unfold Tab.run
  rw [q19]
  exact if_pos h
theorem r19 (n : Nat) (a0 : PV) (st : Sto) : tab.call (n + 1) 19 [a0] st = endOf false (m19 (tab.call n) [.val a0, .no, .no, .no, .no, .no, .no, .no, .no, .no, .no, .no] st) := e19 n _ st rfl
end Law

namespace Law
open PySem PySem.Spec PyProof.Rows L2 RZ BK

theorem ground_ok (n : Nat) (k : Ty) (st : Sto) : tab.call (n + 1) 0 [enc k] st = .ok (enc (grd k)) st := by
  rw [r0]
  unfold m0
  cases k <;> simp [mul0, mul1, mul2, grd]
/-- cast_value answers at n calls -/
def P (n : Nat) (v : Va) (k d : Ty) : Prop := ∀ nm st, tab.call n 2 [encV v, enc k, enc d, nm] st = .ok (res nm (vcast k d v)) st
theorem P_same {m : Nat} {v : Va} {k : Ty} (hk : k.dep ≤ 50) (h : has k v = true) : P (m + 1) v k k := fun nm st => by
  rw [r2]
  unfold m2
  simp [eq_enc, hk, cast_self k v h, res]
theorem P_pair {m : Nat} {x y : Va} {a b c e : Ty} (hk : (Ty.pair a b).dep ≤ 50) (h : has (.pair a b) (.pair x y) = true) (h1 : P m x a c) (h2 : P m y b e) : P (m + 2) (.pair x y) (.pair a b) (.pair c e) := fun nm st => by
  by_cases q : Ty.pair a b = .pair c e
  · rw [← q]; exact P_same hk h nm st
  have g : tab.call (m + 1) 4 [encV (.pair x y), enc (.pair a b), enc (.pair c e), nm] st = .ok (res nm (vcast (.pair a b) (.pair c e) (.pair x y))) st := by
    rw [r4]
    unfold m4
    have h1 := h1 nm st
    have h2 := h2 nm st
    cases e1 : vcast a c x <;> simp [e1, res] at h1
    · simp [h1, vcast, e1, res]
    · cases e2 : vcast b e y <;> simp [e2, res] at h2
      · simp [h1, h2, vcast, e1, e2, res]
      · simp [h1, h2, vcast, e1, e2, res]
  rw [r2]
  unfold m2
  simp [eq_enc, hk, q, g]
theorem P_up {m : Nat} {v w : Va} {k : Ty} (hk : k.dep ≤ 50) (hn : k ≠ .any) (e : vcast k (grd k) v = some w) (h : P (m + 1) v k (grd k)) (hu : up k v = .tag (grd k) w) : P (m + 3) v k .any := fun nm st => by
  have g : tab.call (m + 2) 3 [encV v, enc k, nm] st = .ok (res nm (vcast k .any v)) st := by
    rw [r3]
    unfold m3
    have h := h nm st
    simp [e, res] at h
    have c0 : vcast k .any v = some (up k v) := by simp [vcast]
    simp [ground_ok, h, c0, hu, res]
  rw [r2]
  unfold m2
  simp [eq_enc, hk, hn, g]
theorem P_down {m : Nat} {w : Va} {g d : Ty} (hg : g.dep ≤ 50) (hd : d ≠ .any) (h : g = grd d → P (m + 1) w g d) : P (m + 2) (.tag g w) .any d := fun nm st => by
  have e : vcast .any d (.tag g w) = if g = grd d then vcast g d w else none := by cases d <;> first | rfl | exact absurd rfl hd
  have a50 : Ty.dep .any ≤ 50 := by decide
  rw [r2, e]
  unfold m2
  by_cases q : g = grd d
  · have h := h q nm st
    rw [if_pos q]
    simp [eq_enc, Ne.symm hd, hd, ground_ok, ne_enc, hg, a50, ← q, h]
  · rw [if_neg q]
    simp [eq_enc, Ne.symm hd, hd, ground_ok, ne_enc, hg, a50, q, res]
end Law

namespace Law
open PySem PySem.Spec PyProof.Rows L2 RZ BK

theorem app4 {m : EM} {a0 a1 a2 a3 s5 s6 : Slot} {acc : List PV} {st : Sto} : sApp 4 m [a0, a1, a2, a3, .own acc, s5, s6] st = @SR.ofK _ (m (viewH [a0, a1, a2, a3, .own acc, s5, s6]) st) ⟨fun x st1 => if acc.length < sizeLine then .nx [a0, a1, a2, a3, .own (acc ++ [x]), s5, s6] st1 else .bad⟩ := x_appOwn rfl
theorem items_go {m : Nat} {a c : Ty} {nm : PV} {st : Sto} {a0 : Slot} : ∀ (l : Vs) (acc : List PV) (s5 s6 : Slot), AllV (fun v => P m v a c) l → acc.length + l.len ≤ 2000 →
    (∀ l', vcastL a c l = some l' → ∃ s5' s6', forGo (gNm 5) (p5_1b (tab.call m)) (encVs l) [a0, .val (enc (.list a)), .val (enc (.list c)), .val nm, .own acc, s5, s6] st = .nx [a0, .val (enc (.list a)), .val (enc (.list c)), .val nm, .own (acc ++ encVs l'), s5', s6'] st) ∧
    (vcastL a c l = none → forGo (gNm 5) (p5_1b (tab.call m)) (encVs l) [a0, .val (enc (.list a)), .val (enc (.list c)), .val nm, .own acc, s5, s6] st = .ret (blP nm) st)
  | .nil, acc, s5, s6, _, _ => ⟨fun l' h => by
      simp only [vcastL, Option.some.injEq] at h
      subst h
      exact ⟨s5, s6, by simp [encVs]⟩, fun h => by simp [vcastL] at h⟩
  | .cons v l, acc, s5, s6, h, hl => by
    obtain ⟨h1, h2⟩ := h
    simp only [Vs.len] at hl
    have hs : acc.length < sizeLine := Nat.lt_of_lt_of_le (by omega : acc.length < 3000) (by decide)
    have hv := h1 nm st
    have step : ∀ ρ, forGo (gNm 5) (p5_1b (tab.call m)) (encVs (.cons v l)) ρ st = (match p5_1b (tab.call m) (ρ.set 5 (.val (encV v))) st with
      | .nx ρ1 st1 => forGo (gNm 5) (p5_1b (tab.call m)) (encVs l) ρ1 st1
      | .ct ρ1 st1 => forGo (gNm 5) (p5_1b (tab.call m)) (encVs l) ρ1 st1
      | .brk ρ1 st1 => .nx ρ1 st1
      | r => r) := fun ρ => rfl
    cases e : vcast a c v with
    | none =>
      rw [e] at hv
      simp only [res] at hv
      refine ⟨fun l' q => by simp [vcastL, e] at q, fun _ => ?_⟩
      rw [step]
      have b : p5_1b (tab.call m) ([a0, .val (enc (.list a)), .val (enc (.list c)), .val nm, .own acc, s5, s6].set 5 (.val (encV v))) st = .ret (blP nm) st := by
        simp [p5_1b, p5_1_0, p5_1_1, hv]
      rw [b]
    | some w =>
      rw [e] at hv
      simp only [res] at hv
      have b : p5_1b (tab.call m) ([a0, .val (enc (.list a)), .val (enc (.list c)), .val nm, .own acc, s5, s6].set 5 (.val (encV v))) st = .nx [a0, .val (enc (.list a)), .val (enc (.list c)), .val nm, .own (acc ++ [encV w]), .val (encV v), .val (okP w)] st := by
        simp [p5_1b, p5_1_0, p5_1_1, p5_1_2, hv, app4, hs]
      obtain ⟨i1, i2⟩ := items_go (nm := nm) (st := st) (a0 := a0) l (acc ++ [encV w]) (.val (encV v)) (.val (okP w)) h2 (by simp; omega)
      refine ⟨fun l' q => ?_, fun q => ?_⟩
      · simp only [vcastL, e, Option.bind_some, Option.map_eq_some_iff] at q
        obtain ⟨l2, q1, rfl⟩ := q
        obtain ⟨s5', s6', g⟩ := i1 l2 q1
        refine ⟨s5', s6', ?_⟩
        rw [step, b]
        simp only
        rw [g]
        simp [encVs]
      · rw [step, b]
        simp only
        refine i2 ?_
        cases q2 : vcastL a c l with
        | none => rfl
        | some l2 => simp [vcastL, e, q2] at q
theorem P_items {m : Nat} {l : Vs} {a c : Ty} (hk : (Ty.list a).dep ≤ 50) (h : has (.list a) (.items l) = true) (hl : l.len ≤ 1000) (h1 : AllV (fun v => P m v a c) l) : P (m + 2) (.items l) (.list a) (.list c) := fun nm st => by
  by_cases q : Ty.list a = .list c
  · rw [← q]; exact P_same hk h nm st
  have g : tab.call (m + 1) 5 [encV (.items l), enc (.list a), enc (.list c), nm] st = .ok (res nm (vcast (.list a) (.list c) (.items l))) st := by
    rw [r5]
    unfold m5
    obtain ⟨i1, i2⟩ := items_go (m := m) (nm := nm) (st := st) (a0 := .val (encV (.items l))) l [] .no .no h1 (by simp; omega)
    have e0 : p5_0 (tab.call m) [.val (encV (.items l)), .val (enc (.list a)), .val (enc (.list c)), .val nm, .no, .no, .no] st = .nx [.val (encV (.items l)), .val (enc (.list a)), .val (enc (.list c)), .val nm, .own [], .no, .no] st := by simp [p5_0]
    have e1 : p5_1 (tab.call m) [.val (encV (.items l)), .val (enc (.list a)), .val (enc (.list c)), .val nm, .own [], .no, .no] st = forGo (gNm 5) (p5_1b (tab.call m)) (encVs l) [.val (encV (.items l)), .val (enc (.list a)), .val (enc (.list c)), .val nm, .own [], .no, .no] st := by simp [p5_1]
    rw [x_seq, e0, nextS_nx]
    show endOf false (sSeq (p5_1 (tab.call m)) _ _ _) = _
    rw [x_seq, e1]
    cases e : vcastL a c l with
    | none => rw [i2 e]; simp [vcast, e, res]
    | some l' =>
      obtain ⟨s5', s6', g⟩ := i1 l' e
      rw [g]
      simp [p5_2, vcast, e, res]
  rw [r2]
  unfold m2
  simp [eq_enc, hk, q, g]
theorem isGr_dep {g : Ty} (h : isGr g = true) : g.dep ≤ 2 := by
  cases g <;> simp [isGr] at h <;> simp [Ty.dep]
  · rename_i a b
    cases a <;> cases b <;> simp [isGr] at h <;> simp [Ty.dep]
  · rename_i a
    cases a <;> simp [isGr] at h <;> simp [Ty.dep]
theorem vcastL_any (a : Ty) : ∀ l : Vs, vcastL a .any l = some (upL a l)
  | .nil => rfl
  | .cons v l => by simp [vcastL, vcast, upL, vcastL_any a l]
theorem cast_ok : ∀ (D : Nat) (v : Va) (k d : Ty) (n : Nat), v.dep ≤ D → 4 * D + 1 ≤ n → has k v = true → slim v = true → alike k d = true → k.dep ≤ 20 → d.dep ≤ 20 → P n v k d
  | 0, v, k, d, n, h, _, _, _, _, _, _ => by have := va_pos v; omega
  | D + 1, v, k, d, n, hv, hn, ht, hs, ha, hk, hd => by
    have ih := cast_ok D
    have k50 : k.dep ≤ 50 := by omega
    obtain ⟨m, rfl⟩ : ∃ m, n = m + 5 := ⟨n - 5, by omega⟩
    by_cases q : k = d
    · subst q; exact P_same k50 ht
    cases k with
    | any =>
      cases v <;> simp [has] at ht
      rename_i g w
      simp only [Va.dep] at hv
      simp only [slim] at hs
      have gd : g.dep ≤ 2 := isGr_dep ht.1
      exact P_down (m := m + 3) (by omega) (Ne.symm q) fun e => ih w g d _ (by omega) (by omega) ht.2 hs (by rw [e]; exact alike_grd d) (by omega) hd
    | int =>
      cases v <;> simp [has] at ht
      cases d <;> simp [alike] at ha q
      exact P_up (m := m + 2) k50 (by simp) (w := .int _) rfl (P_same (m := m + 2) k50 rfl) rfl
    | bool =>
      cases v <;> simp [has] at ht
      cases d <;> simp [alike] at ha q
      exact P_up (m := m + 2) k50 (by simp) (w := .bool _) rfl (P_same (m := m + 2) k50 rfl) rfl
    | fn a b => cases v <;> simp [has] at ht
    | pair a b =>
      cases v <;> simp [has] at ht
      rename_i x y
      simp only [Va.dep] at hv
      simp only [slim, Bool.and_eq_true] at hs
      simp only [Ty.dep] at hk
      have hh : has (.pair a b) (.pair x y) = true := by simp [has, ht]
      cases d <;> simp [alike] at ha
      · have p1 := ih x a .any (m + 1) (by omega) (by omega) ht.1 hs.1 (alike_any a) (by omega) (by simp [Ty.dep])
        have p2 := ih y b .any (m + 1) (by omega) (by omega) ht.2 hs.2 (alike_any b) (by omega) (by simp [Ty.dep])
        exact P_up (m := m + 2) k50 (by simp) (w := .pair (up a x) (up b y)) (by simp [grd, vcast]) (P_pair (m := m + 1) k50 hh p1 p2) (by simp [up, grd])
      · rename_i c e
        simp only [Ty.dep] at hd
        exact P_pair (m := m + 3) k50 hh (ih x a c _ (by omega) (by omega) ht.1 hs.1 ha.1 (by omega) (by omega)) (ih y b e _ (by omega) (by omega) ht.2 hs.2 ha.2 (by omega) (by omega))
    | list a =>
      cases v <;> simp [has] at ht
      rename_i l
      simp only [Va.dep] at hv
      simp only [slim, Bool.and_eq_true, decide_eq_true_eq] at hs
      simp only [Ty.dep] at hk
      have hh : has (.list a) (.items l) = true := by simp [has, ht]
      have all : ∀ (c : Ty) (n : Nat), 4 * D + 1 ≤ n → alike a c = true → c.dep ≤ 20 → ∀ l : Vs, l.dep ≤ D → hasL a l = true → slimL l = true → AllV (fun v => P n v a c) l := by
        intro c n hn ha hc l
        induction l using Vs.rec (motive_1 := fun _ => True) with
        | nil => intro _ _ _; trivial
        | cons v l _ ihl =>
          intro hd ht hs
          simp only [Vs.dep] at hd
          simp only [hasL, Bool.and_eq_true] at ht
          simp only [slimL, Bool.and_eq_true] at hs
          exact ⟨ih v a c n (by omega) hn ht.1 hs.1 ha (by omega) hc, ihl (by omega) ht.2 hs.2⟩
        | _ => trivial
      cases d <;> simp [alike] at ha
      · exact P_up (m := m + 2) k50 (by simp) (w := .items (upL a l)) (by simp [grd, vcast, vcastL_any]) (P_items (m := m + 1) k50 hh hs.1 (all .any (m + 1) (by omega) (alike_any a) (by simp [Ty.dep]) l (by omega) ht hs.2)) (by simp [up, grd])
      · rename_i c
        simp only [Ty.dep] at hd
        exact P_items (m := m + 3) k50 hh hs.1 (all c (m + 3) (by omega) ha (by omega) l (by omega) ht hs.2)
end Law

namespace Law
open PySem PySem.Spec PyProof.Rows L2 RZ BK

theorem shown_go {n : Nat} {x : PV} {st : Sto} : ∀ l : Vs, AllV (fun v => ∀ st, tab.call n 6 [encV v] st = .ok (encV (sh v)) st) l → compGo (gNm 1) bYes (mCall (tab.call n 6) (aCons (mVar 1) aNil) []) [some x, none] (encVs l) st = .ok (encVs (shL l)) st
  | .nil, _ => rfl
  | .cons v l, h => by
    have ih := shown_go (x := x) (st := st) l h.2
    simp [encVs, shL, h.1 st, ih]
theorem shown_ok : ∀ (D : Nat) (v : Va) (n : Nat), v.dep ≤ D → D ≤ n → ∀ st, tab.call n 6 [encV v] st = .ok (encV (sh v)) st
  | 0, v, n, h, _ => by have := va_pos v; omega
  | D + 1, v, n, hv, hn => fun st => by
    have ih := shown_ok D
    obtain ⟨m, rfl⟩ : ∃ m, n = m + 1 := ⟨n - 1, by omega⟩
    rw [r6]
    unfold m6
    cases v with
    | int i => simp [sh]
    | bool b => simp [sh]
    | tag g w =>
      simp only [Va.dep] at hv
      simp [sh, ih w m (by omega) (by omega) st]
    | pair a b =>
      simp only [Va.dep] at hv
      simp [sh, ih a m (by omega) (by omega) st, ih b m (by omega) (by omega) st]
    | items l =>
      simp only [Va.dep] at hv
      have g := shown_go (x := encV (.items l)) (st := st) l (AllV_dep (fun v hd => ih v m hd (by omega)) l (by omega))
      simp [sh, g]
theorem lalike_ok : ∀ (n : Nat) (a b : Ty) (st : Sto), a.dep ≤ n → tab.call n 13 [enc a, enc b] st = .ok (.bl (alike a b)) st
  | 0, a, b, st, h => by cases a <;> simp [Ty.dep] at h
  | n + 1, a, b, st, h => by
    have ih := lalike_ok n
    rw [r13]
    unfold m13
    cases a <;> cases b <;> simp [Ty.dep, Nat.max_le] at h <;> simp [alike, ih, h, in_any, rangeL]
    · rename_i a1 b1 a2 b2
      cases alike a1 a2 <;> cases alike b1 b2 <;> simp
    · rename_i a1 b1 a2 b2
      cases alike a1 a2 <;> cases alike b1 b2 <;> simp
    · rename_i a1 a2
      cases alike a1 a2 <;> simp
end Law

namespace Law
open PySem PySem.Spec PyProof.Rows L2 RZ BK

theorem dep_pos (a : Ty) : 1 ≤ a.dep := by cases a <;> simp [Ty.dep]
/-! ### draws of types -/
theorem drawV {st : Sto} {k : Nat} (h : Dr st k) (n : Nat) {lim : Int} (hl : 0 < lim) (hl2 : lim < 1073741824) :
    ∃ v st', 0 ≤ v ∧ v < lim ∧ Dr st' k ∧ Off1 k st st' ∧ tab.call (n + 1) 9 [.ref k, .int lim] st = .ok (.int v) st' := by
  obtain ⟨v, st', h1, h2, h3, h4, h5⟩ := draw_ok h hl hl2
  exact ⟨v, st', h1, h2, h3, h4, (r9 n _ _ st).trans h5⟩
theorem draws7 (n : Nat) (ns : List Int) (st : Sto) : tab.call (n + 1) 8 [.scr (ns.map PV.int)] st = .ok (.lst [.lst (ns.map PV.int), .int 0, .int 0, .int 1]) st := (r8 n _ st).trans (draws_ok ns st)
theorem same_bool {n : Nat} (h : 50 ≤ n) (a : Bool) (st : Sto) : tab.call n 10 [.bl a, .bl a] st = .ok (.bl true) st :=
  same_refl (C := fun n xs st => tab.call n 10 xs st) (fun n x y st => r10 n x y st) n (.bl a) st rfl (by simp [PV.depth]; omega)
theorem vague : ∀ (n : Nat) (t : Ty) (k : Nat) (st : Sto), Dr st k → t.dep ≤ n → ∃ u st', u.dep ≤ t.dep ∧ finer t u = true ∧ Dr st' k ∧ Off1 k st st' ∧ tab.call (n + 1) 12 [.ref k, enc t] st = .ok (enc u) st'
  | 0, t, k, st, _, h => by have := dep_pos t; omega
  | n + 1, t, k, st, h, hd => by
    have ih := vague n
    obtain ⟨v, st1, h1, h2, h3, h4, h5⟩ := drawV h n (lim := 4) (by decide) (by decide)
    by_cases hv : v = 0
    · subst hv
      exact ⟨.any, st1, dep_pos t, finer_any t, h3, h4, by rw [r12]; unfold m12; simp [h5]⟩
    · cases t with
      | any => exact ⟨.any, st1, Nat.le_refl _, rfl, h3, h4, by rw [r12]; unfold m12; simp [h5, hv]⟩
      | int => exact ⟨.int, st1, Nat.le_refl _, rfl, h3, h4, by rw [r12]; unfold m12; simp [h5, hv]⟩
      | bool => exact ⟨.bool, st1, Nat.le_refl _, rfl, h3, h4, by rw [r12]; unfold m12; simp [h5, hv]⟩
      | fn a b =>
        simp only [Ty.dep] at hd
        obtain ⟨t2, st2, a1, a5, a2, a3, a4⟩ := ih a k st1 h3 (by omega)
        obtain ⟨t3, st3, b1, b5, b2, b3, b4⟩ := ih b k st2 a2 (by omega)
        exact ⟨.fn t2 t3, st3, by simp only [Ty.dep]; omega, by simp [finer, a5, b5], b2, (h4.trans a3).trans b3, by rw [r12]; unfold m12; simp [h5, hv, a4, b4]⟩
      | pair a b =>
        simp only [Ty.dep] at hd
        obtain ⟨t2, st2, a1, a5, a2, a3, a4⟩ := ih a k st1 h3 (by omega)
        obtain ⟨t3, st3, b1, b5, b2, b3, b4⟩ := ih b k st2 a2 (by omega)
        exact ⟨.pair t2 t3, st3, by simp only [Ty.dep]; omega, by simp [finer, a5, b5], b2, (h4.trans a3).trans b3, by rw [r12]; unfold m12; simp [h5, hv, a4, b4]⟩
      | list a =>
        simp only [Ty.dep] at hd
        obtain ⟨t2, st2, a1, a5, a2, a3, a4⟩ := ih a k st1 h3 (by omega)
        exact ⟨.list t2, st2, by simp only [Ty.dep]; omega, by simp [finer, a5], a2, h4.trans a3, by rw [r12]; unfold m12; simp [h5, hv, a4]⟩

theorem nofn_finer : ∀ (t u : Ty), finer t u = true → nofn t = true → nofn u = true
  | .any, u => by cases u <;> simp [finer, nofn]
  | .int, u => by cases u <;> simp [finer, nofn]
  | .bool, u => by cases u <;> simp [finer, nofn]
  | .fn a b, u => by cases u <;> simp [finer, nofn]
  | .pair a b, u => by
    cases u <;> simp [finer, nofn]
    exact fun h1 h2 h3 h4 => ⟨nofn_finer _ _ h1 h3, nofn_finer _ _ h2 h4⟩
  | .list a, u => by
    cases u <;> simp [finer, nofn]
    exact fun h1 h3 => nofn_finer _ _ h1 h3
theorem lt3 {v : Int} (h : 0 ≤ v) (k : v < 3) : v = 0 ∨ v = 1 ∨ v = 2 := by omega
theorem lt4 {v : Int} (h : 0 ≤ v) (k : v < 4) : v = 0 ∨ v = 1 ∨ v = 2 ∨ v = 3 := by omega
theorem lt2 {v : Int} (h : 0 ≤ v) (k : v < 2) : v = 0 ∨ v = 1 := by omega
theorem lt6 {v : Int} (h : 0 ≤ v) (k : v < 6) : v = 0 ∨ v = 1 ∨ v = 2 ∨ v = 3 ∨ v = 4 ∨ v = 5 := by omega
theorem plain1 {st : Sto} {k : Nat} (h : Dr st k) (n : Nat) : ∃ t st', t.dep ≤ 1 ∧ nofn t = true ∧ Dr st' k ∧ Off1 k st st' ∧ tab.call (n + 2) 16 [.ref k, .int 1] st = .ok (enc t) st' := by
  obtain ⟨v, st1, h1, h2, h3, h4, h5⟩ := drawV h n (lim := 3) (by decide) (by decide)
  rcases lt3 h1 h2 with rfl | rfl | rfl
  · exact ⟨.int, st1, by simp [Ty.dep], rfl, h3, h4, by rw [r16]; unfold m16; simp [h5]; rfl⟩
  · exact ⟨.bool, st1, by simp [Ty.dep], rfl, h3, h4, by rw [r16]; unfold m16; simp [h5]; rfl⟩
  · exact ⟨.any, st1, by simp [Ty.dep], rfl, h3, h4, by rw [r16]; unfold m16; simp [h5]; rfl⟩
theorem plainS {k n : Nat} {d : Int} {D : Nat} (hd : 1 < d) (ih : ∀ st, Dr st k → ∃ t st', t.dep ≤ D ∧ nofn t = true ∧ Dr st' k ∧ Off1 k st st' ∧ tab.call (n + 1) 16 [.ref k, .int (d - 1)] st = .ok (enc t) st') {st : Sto} (h : Dr st k) :
    ∃ t st', t.dep ≤ D + 1 ∧ nofn t = true ∧ Dr st' k ∧ Off1 k st st' ∧ tab.call (n + 2) 16 [.ref k, .int d] st = .ok (enc t) st' := by
  obtain ⟨v, st1, h1, h2, h3, h4, h5⟩ := drawV h n (lim := 6) (by decide) (by decide)
  obtain ⟨t2, st2, a1, a5, a2, a3, a4⟩ := ih st1 h3
  obtain ⟨t3, st3, b1, b5, b2, b3, b4⟩ := ih st2 a2
  rcases lt6 h1 h2 with rfl | rfl | rfl | rfl | rfl | rfl
  · exact ⟨.int, st1, by simp [Ty.dep], rfl, h3, h4, by rw [r16]; unfold m16; simp [h5, hd]; rfl⟩
  · exact ⟨.bool, st1, by simp [Ty.dep], rfl, h3, h4, by rw [r16]; unfold m16; simp [h5, hd]; rfl⟩
  · exact ⟨.any, st1, by simp [Ty.dep], rfl, h3, h4, by rw [r16]; unfold m16; simp [h5, hd]; rfl⟩
  · exact ⟨.list t2, st2, by simp only [Ty.dep]; omega, a5, a2, h4.trans a3, by rw [r16]; unfold m16; simp [h5, hd, a4]⟩
  · exact ⟨.pair t2 t3, st3, by simp only [Ty.dep]; omega, by simp [nofn, a5, b5], b2, (h4.trans a3).trans b3, by rw [r16]; unfold m16; simp [h5, hd, a4, b4]⟩
  · exact ⟨.pair t2 t3, st3, by simp only [Ty.dep]; omega, by simp [nofn, a5, b5], b2, (h4.trans a3).trans b3, by rw [r16]; unfold m16; simp [h5, hd, a4, b4]⟩
theorem plain3 {st : Sto} {k : Nat} (h : Dr st k) (n : Nat) : ∃ t st', t.dep ≤ 3 ∧ nofn t = true ∧ Dr st' k ∧ Off1 k st st' ∧ tab.call (n + 4) 16 [.ref k, .int 3] st = .ok (enc t) st' :=
  plainS (d := 3) (D := 2) (n := n + 2) (by decide) (fun st h => plainS (d := 2) (D := 1) (n := n + 1) (by decide) (fun st h => plain1 h n) h) h
/-! ### values -/
theorem value_int {st : Sto} {k : Nat} (h : Dr st k) (n : Nat) (d : Int) : ∃ i st', Dr st' k ∧ Off1 k st st' ∧ tab.call (n + 2) 15 [.ref k, enc .int, .int d] st = .ok (encV (.int i)) st' := by
  obtain ⟨v, st1, h1, h2, h3, h4, h5⟩ := drawV h n (lim := 9) (by decide) (by decide)
  exact ⟨v - 4, st1, h3, h4, by rw [r15]; unfold m15; simp [h5, eq_enc, show Ty.dep .int ≤ 50 by decide]⟩
theorem value_bool {st : Sto} {k : Nat} (h : Dr st k) (n : Nat) (d : Int) : ∃ b st', Dr st' k ∧ Off1 k st st' ∧ tab.call (n + 2) 15 [.ref k, enc .bool, .int d] st = .ok (encV (.bool b)) st' := by
  obtain ⟨v, st1, h1, h2, h3, h4, h5⟩ := drawV h n (lim := 2) (by decide) (by decide)
  exact ⟨v == 0, st1, h3, h4, by rw [r15]; unfold m15; simp [h5, eq_enc, show Ty.dep .bool ≤ 50 by decide]⟩
theorem g4_0 {st : Sto} : opIx st (.lst [enc .int, enc .bool, enc (.pair .any .any), enc (.list .any)]) (.int 0) = some (enc .int) := rfl
theorem g4_1 {st : Sto} : opIx st (.lst [enc .int, enc .bool, enc (.pair .any .any), enc (.list .any)]) (.int 1) = some (enc .bool) := rfl
theorem g4_2 {st : Sto} : opIx st (.lst [enc .int, enc .bool, enc (.pair .any .any), enc (.list .any)]) (.int 2) = some (enc (.pair .any .any)) := rfl
theorem g4_3 {st : Sto} : opIx st (.lst [enc .int, enc .bool, enc (.pair .any .any), enc (.list .any)]) (.int 3) = some (enc (.list .any)) := rfl
/-- a tag over a value of its ground -/
theorem tag_ok {n j : Nat} {g : Ty} {d : Int} {st st1 st2 : Sto} {w : Va} {lim v : Int} (hlim : lim = if 0 < d then 4 else 2) (h5 : tab.call n 9 [.ref j, .int lim] st = .ok (.int v) st1)
    (hg : opIx st1 (.lst [enc .int, enc .bool, enc (.pair .any .any), enc (.list .any)]) (.int v) = some (enc g)) (hw : tab.call n 15 [.ref j, enc g, .int (d - 1)] st1 = .ok (encV w) st2) : tab.call (n + 1) 15 [.ref j, enc .any, .int d] st = .ok (encV (.tag g w)) st2 := by
  rw [r15]
  unfold m15
  simp only [ix_lst] at hg
  by_cases hd : 0 < d
  · rw [if_pos hd] at hlim
    subst hlim
    simp [hd, h5, hg, hw]
  · rw [if_neg hd] at hlim
    subst hlim
    simp [hd, h5, hg, hw]
theorem value_ok (e : Nat) : ∀ (N : Nat) (k : Ty) (d : Int) (j : Nat) (st : Sto), Dr st j → nofn k = true → k.dep ≤ 40 → 2 * d.toNat + k.dep ≤ N →
    ∃ v st', has k v = true ∧ slim v = true ∧ v.dep ≤ N + 3 ∧ Dr st' j ∧ Off1 j st st' ∧ tab.call (e + N + 3) 15 [.ref j, enc k, .int d] st = .ok (encV v) st'
  | 0, k, d, j, st, _, _, _, h => by have := dep_pos k; omega
  | N + 1, k, d, j, st, h, hn, hk, hN => by
    have ih := value_ok e N
    have k50 : k.dep ≤ 50 := by omega
    cases k with
    | fn a b => simp [nofn] at hn
    | int =>
      obtain ⟨i, st1, h1, h2, h3⟩ := value_int h (e + N + 2) d
      exact ⟨.int i, st1, rfl, rfl, by simp [Va.dep], h1, h2, h3⟩
    | bool =>
      obtain ⟨b, st1, h1, h2, h3⟩ := value_bool h (e + N + 2) d
      exact ⟨.bool b, st1, rfl, rfl, by simp [Va.dep], h1, h2, h3⟩
    | any =>
      simp only [Ty.dep] at hN
      by_cases hd : 0 < d
      · obtain ⟨v, st1, h1, h2, h3, h4, h5⟩ := drawV h (e + N + 2) (lim := 4) (by decide) (by decide)
        rcases lt4 h1 h2 with rfl | rfl | rfl | rfl
        · obtain ⟨i, st2, g1, g2, g3⟩ := value_int h3 (e + N + 1) (d - 1)
          exact ⟨.tag .int (.int i), st2, rfl, rfl, by simp [Va.dep], g1, h4.trans g2, tag_ok (by rw [if_pos hd]) h5 g4_0 g3⟩
        · obtain ⟨b, st2, g1, g2, g3⟩ := value_bool h3 (e + N + 1) (d - 1)
          exact ⟨.tag .bool (.bool b), st2, rfl, rfl, by simp [Va.dep], g1, h4.trans g2, tag_ok (by rw [if_pos hd]) h5 g4_1 g3⟩
        · obtain ⟨w, st2, a1, a2, a3, a4, a5, a6⟩ := ih (.pair .any .any) (d - 1) j st1 h3 rfl (by decide) (by simp only [Ty.dep]; omega)
          exact ⟨.tag (.pair .any .any) w, st2, by simp [has, isGr, a1], a2, by simp only [Va.dep]; omega, a4, h4.trans a5, tag_ok (by rw [if_pos hd]) h5 g4_2 a6⟩
        · obtain ⟨w, st2, a1, a2, a3, a4, a5, a6⟩ := ih (.list .any) (d - 1) j st1 h3 rfl (by decide) (by simp only [Ty.dep]; omega)
          exact ⟨.tag (.list .any) w, st2, by simp [has, isGr, a1], a2, by simp only [Va.dep]; omega, a4, h4.trans a5, tag_ok (by rw [if_pos hd]) h5 g4_3 a6⟩
      · obtain ⟨v, st1, h1, h2, h3, h4, h5⟩ := drawV h (e + N + 2) (lim := 2) (by decide) (by decide)
        rcases lt2 h1 h2 with rfl | rfl
        · obtain ⟨i, st2, g1, g2, g3⟩ := value_int h3 (e + N + 1) (d - 1)
          exact ⟨.tag .int (.int i), st2, rfl, rfl, by simp [Va.dep], g1, h4.trans g2, tag_ok (by rw [if_neg hd]) h5 g4_0 g3⟩
        · obtain ⟨b, st2, g1, g2, g3⟩ := value_bool h3 (e + N + 1) (d - 1)
          exact ⟨.tag .bool (.bool b), st2, rfl, rfl, by simp [Va.dep], g1, h4.trans g2, tag_ok (by rw [if_neg hd]) h5 g4_1 g3⟩
    | pair a b =>
      simp only [nofn, Bool.and_eq_true] at hn
      simp only [Ty.dep] at hN hk
      obtain ⟨x, st2, a1, a2, a3, a4, a5, a6⟩ := ih a (d - 1) j st h hn.1 (by omega) (by omega)
      obtain ⟨y, st3, b1, b2, b3, b4, b5, b6⟩ := ih b (d - 1) j st2 a4 hn.2 (by omega) (by omega)
      exact ⟨.pair x y, st3, by simp [has, a1, b1], by simp [slim, a2, b2], by simp only [Va.dep]; omega, b4, a5.trans b5, by rw [r15, show e + (N + 1) + 2 = e + N + 3 from rfl]; unfold m15; simp [eq_enc, k50, a6, b6]⟩
    | list a =>
      simp only [nofn] at hn
      simp only [Ty.dep] at hN hk
      obtain ⟨v, st1, h1, h2, h3, h4, h5⟩ := drawV h (e + N + 2) (lim := 3) (by decide) (by decide)
      obtain ⟨x, st2, a1, a2, a3, a4, a5, a6⟩ := ih a (d - 1) j st1 h3 hn (by omega) (by omega)
      obtain ⟨y, st3, b1, b2, b3, b4, b5, b6⟩ := ih a (d - 1) j st2 a4 hn (by omega) (by omega)
      rcases lt3 h1 h2 with rfl | rfl | rfl
      · exact ⟨.items .nil, st1, rfl, rfl, by simp [Va.dep, Vs.dep], h3, h4, by rw [r15, show e + (N + 1) + 2 = e + N + 3 from rfl]; unfold m15; simp [eq_enc, k50, h5, rangeL]; rfl⟩
      · exact ⟨.items (.cons x .nil), st2, by simp [has, hasL, a1], by simp [slim, slimL, Vs.len, a2], by simp only [Va.dep, Vs.dep]; omega, a4, h4.trans a5, by rw [r15, show e + (N + 1) + 2 = e + N + 3 from rfl]; unfold m15; simp [eq_enc, k50, h5, rangeL, a6]; rfl⟩
      · exact ⟨.items (.cons x (.cons y .nil)), st3, by simp [has, hasL, a1, b1], by simp [slim, slimL, Vs.len, a2, b2], by simp only [Va.dep, Vs.dep]; omega, b4, (h4.trans a5).trans b5, by rw [r15, show e + (N + 1) + 2 = e + N + 3 from rfl]; unfold m15; simp [eq_enc, k50, h5, rangeL, a6, b6]; rfl⟩
end Law

namespace Law
open PySem PySem.Spec PyProof.Rows L2 RZ BK

theorem alike1_ok : ∀ (n : Nat) (a b : Ty) (st : Sto), a.dep ≤ n → tab.call n 1 [enc a, enc b] st = .ok (.bl (alike a b)) st
  | 0, a, b, st, h => by cases a <;> simp [Ty.dep] at h
  | n + 1, a, b, st, h => by
    have ih := alike1_ok n
    rw [r1]
    unfold m1
    cases a <;> cases b <;> simp [Ty.dep, Nat.max_le] at h <;> simp [alike, ih, h]
/-- cast_direct answers at n calls -/
def Q (n : Nat) (v : Va) (k d : Ty) : Prop := ∀ nm st, tab.call n 7 [encV v, enc k, enc d, nm] st = .ok (res nm (dcast k d v)) st
theorem app4d {m : EM} {a0 a1 a2 a3 s5 s6 s7 s8 : Slot} {acc : List PV} {st : Sto} : sApp 4 m [a0, a1, a2, a3, .own acc, s5, s6, s7, s8] st = @SR.ofK _ (m (viewH [a0, a1, a2, a3, .own acc, s5, s6, s7, s8]) st) ⟨fun x st1 => if acc.length < sizeLine then .nx [a0, a1, a2, a3, .own (acc ++ [x]), s5, s6, s7, s8] st1 else .bad⟩ := x_appOwn rfl
theorem dir_go {m : Nat} {a c : Ty} {nm : PV} {st : Sto} {a0 s6 s7 : Slot} : ∀ (l : Vs) (acc : List PV) (s5 s8 : Slot), AllV (fun v => Q m v a c) l → acc.length + l.len ≤ 2000 →
    (∀ l', dcastL a c l = some l' → ∃ s5' s8', forGo (gNm 5) (p7_6b (tab.call m)) (encVs l) [a0, .val (enc (.list a)), .val (enc (.list c)), .val nm, .own acc, s5, s6, s7, s8] st = .nx [a0, .val (enc (.list a)), .val (enc (.list c)), .val nm, .own (acc ++ encVs l'), s5', s6, s7, s8'] st) ∧
    (dcastL a c l = none → forGo (gNm 5) (p7_6b (tab.call m)) (encVs l) [a0, .val (enc (.list a)), .val (enc (.list c)), .val nm, .own acc, s5, s6, s7, s8] st = .ret (blP nm) st)
  | .nil, acc, s5, s8, _, _ => ⟨fun l' h => by
      simp only [dcastL, Option.some.injEq] at h
      subst h
      exact ⟨s5, s8, by simp [encVs]⟩, fun h => by simp [dcastL] at h⟩
  | .cons v l, acc, s5, s8, h, hl => by
    obtain ⟨h1, h2⟩ := h
    simp only [Vs.len] at hl
    have hs : acc.length < sizeLine := Nat.lt_of_lt_of_le (by omega : acc.length < 3000) (by decide)
    have hv := h1 nm st
    have step : ∀ ρ, forGo (gNm 5) (p7_6b (tab.call m)) (encVs (.cons v l)) ρ st = (match p7_6b (tab.call m) (ρ.set 5 (.val (encV v))) st with
      | .nx ρ1 st1 => forGo (gNm 5) (p7_6b (tab.call m)) (encVs l) ρ1 st1
      | .ct ρ1 st1 => forGo (gNm 5) (p7_6b (tab.call m)) (encVs l) ρ1 st1
      | .brk ρ1 st1 => .nx ρ1 st1
      | r => r) := fun ρ => rfl
    cases e : dcast a c v with
    | none =>
      rw [e] at hv
      simp only [res] at hv
      refine ⟨fun l' q => by simp [dcastL, e] at q, fun _ => ?_⟩
      rw [step]
      have b : p7_6b (tab.call m) ([a0, .val (enc (.list a)), .val (enc (.list c)), .val nm, .own acc, s5, s6, s7, s8].set 5 (.val (encV v))) st = .ret (blP nm) st := by
        simp [p7_6b, p7_6_0, p7_6_1, hv]
      rw [b]
    | some w =>
      rw [e] at hv
      simp only [res] at hv
      have b : p7_6b (tab.call m) ([a0, .val (enc (.list a)), .val (enc (.list c)), .val nm, .own acc, s5, s6, s7, s8].set 5 (.val (encV v))) st = .nx [a0, .val (enc (.list a)), .val (enc (.list c)), .val nm, .own (acc ++ [encV w]), .val (encV v), s6, s7, .val (okP w)] st := by
        simp [p7_6b, p7_6_0, p7_6_1, p7_6_2, hv, app4d, hs]
      obtain ⟨i1, i2⟩ := dir_go (nm := nm) (st := st) (a0 := a0) (s6 := s6) (s7 := s7) l (acc ++ [encV w]) (.val (encV v)) (.val (okP w)) h2 (by simp; omega)
      refine ⟨fun l' q => ?_, fun q => ?_⟩
      · simp only [dcastL, e, Option.bind_some, Option.map_eq_some_iff] at q
        obtain ⟨l2, q1, rfl⟩ := q
        obtain ⟨s5', s8', g⟩ := i1 l2 q1
        refine ⟨s5', s8', ?_⟩
        rw [step, b]
        simp only
        rw [g]
        simp [encVs]
      · rw [step, b]
        simp only
        refine i2 ?_
        cases q2 : dcastL a c l with
        | none => rfl
        | some l2 => simp [dcastL, e, q2] at q
theorem dir_items {m : Nat} {a c : Ty} {l : Vs} (q : Ty.list a ≠ .list c) (hk : (Ty.list a).dep ≤ 50) (hl : l.len ≤ 1000) (h1 : AllV (fun v => Q m v a c) l) : Q (m + 1) (.items l) (.list a) (.list c) := fun nm st => by
  rw [r7]
  unfold m7
  obtain ⟨i1, i2⟩ := dir_go (m := m) (nm := nm) (st := st) (a0 := .val (encV (.items l))) (s6 := .no) (s7 := .no) l [] .no .no h1 (by simp; omega)
  have pre : ∀ t : SM, sSeq (p7_0 (tab.call m)) (sSeq (p7_1 (tab.call m)) (sSeq (p7_2 (tab.call m)) (sSeq (p7_3 (tab.call m)) (sSeq (p7_4 (tab.call m)) (sSeq (p7_5 (tab.call m)) t))))) [.val (encV (.items l)), .val (enc (.list a)), .val (enc (.list c)), .val nm, .no, .no, .no, .no, .no] st = t [.val (encV (.items l)), .val (enc (.list a)), .val (enc (.list c)), .val nm, .own [], .no, .no, .no, .no] st := fun t => by
    have q' : ¬ a = c := fun z => q (by rw [z])
    simp [p7_0, p7_1, p7_2, p7_3, p7_4, p7_5, eq_enc, hk, q']
  have e1 : p7_6 (tab.call m) [.val (encV (.items l)), .val (enc (.list a)), .val (enc (.list c)), .val nm, .own [], .no, .no, .no, .no] st = forGo (gNm 5) (p7_6b (tab.call m)) (encVs l) [.val (encV (.items l)), .val (enc (.list a)), .val (enc (.list c)), .val nm, .own [], .no, .no, .no, .no] st := by simp [p7_6]
  rw [pre, x_seq, e1]
  cases e : dcastL a c l with
  | none => rw [i2 e]; simp [dcast, e, res]
  | some l' =>
    obtain ⟨s5', s6', g⟩ := i1 l' e
    rw [g]
    simp [p7_7, dcast, e, res]
theorem direct_ok : ∀ (D : Nat) (v : Va) (k d : Ty) (n : Nat), v.dep ≤ D → D + 30 ≤ n → has k v = true → slim v = true → alike k d = true → k.dep ≤ 20 → d.dep ≤ 20 → Q n v k d
  | 0, v, k, d, n, h, _, _, _, _, _, _ => by have := va_pos v; omega
  | D + 1, v, k, d, n, hv, hn, ht, hs, ha, hk, hd => by
    have ih := direct_ok D
    have k50 : k.dep ≤ 50 := by omega
    have a50 : Ty.dep .any ≤ 50 := by decide
    obtain ⟨m, rfl⟩ : ∃ m, n = m + 1 := ⟨n - 1, by omega⟩
    by_cases q : k = d
    · subst q
      intro nm st
      rw [r7]
      unfold m7
      simp [p7_0, eq_enc, k50, dcast_self k v ht, res]
    by_cases qd : d = .any
    · subst qd
      intro nm st
      rw [r7]
      unfold m7
      have e : dcast k .any v = some (.tag k v) := by simp [dcast, q]
      rw [e]
      simp [p7_0, p7_1, eq_enc, k50, q, res]
    cases k with
    | any =>
      cases v <;> simp [has] at ht
      rename_i g w
      simp only [Va.dep] at hv
      simp only [slim] at hs
      have gd : g.dep ≤ 2 := isGr_dep ht.1
      have e1 : dcast .any d (.tag g w) = if alike g d = true then dcast g d w else none := by cases d <;> first | rfl | exact absurd rfl qd
      intro nm st
      rw [r7, e1]
      unfold m7
      have hal := alike1_ok m g d st (by omega)
      by_cases hg : alike g d = true
      · have hw := ih w g d m (by omega) (by omega) ht.2 hs hg (by omega) hd nm st
        rw [hg] at hal
        rw [if_pos hg]
        simp [p7_0, p7_1, p7_2, eq_enc, a50, q, qd, hal, hw]
      · rw [if_neg hg]
        simp only [Bool.not_eq_true] at hg
        rw [hg] at hal
        simp [p7_0, p7_1, p7_2, eq_enc, a50, q, qd, hal, res]
    | int =>
      cases d <;> simp [alike] at ha q qd
    | bool =>
      cases d <;> simp [alike] at ha q qd
    | fn a b => cases v <;> simp [has] at ht
    | pair a b =>
      cases v <;> simp [has] at ht
      rename_i x y
      simp only [Va.dep] at hv
      simp only [slim, Bool.and_eq_true] at hs
      simp only [Ty.dep] at hk
      cases d <;> simp [alike] at ha qd
      rename_i c e
      simp only [Ty.dep] at hd
      intro nm st
      have h1 := ih x a c m (by omega) (by omega) ht.1 hs.1 ha.1 (by omega) (by omega) nm st
      have h2 := ih y b e m (by omega) (by omega) ht.2 hs.2 ha.2 (by omega) (by omega) nm st
      rw [r7]
      unfold m7
      have q' : a = c → ¬ b = e := fun z1 z2 => q (by rw [z1, z2])
      cases e1 : dcast a c x <;> simp [e1, res] at h1
      · simp [p7_0, p7_1, p7_2, p7_3, p7_4, eq_enc, k50, q, h1, dcast, e1, res]
      · cases e2 : dcast b e y <;> simp [e2, res] at h2
        · simp [p7_0, p7_1, p7_2, p7_3, p7_4, eq_enc, k50, q, h1, h2, dcast, e1, e2, res]
        · simp [p7_0, p7_1, p7_2, p7_3, p7_4, eq_enc, k50, q, h1, h2, dcast, e1, e2, res]
    | list a =>
      cases v <;> simp [has] at ht
      rename_i l
      simp only [Va.dep] at hv
      simp only [slim, Bool.and_eq_true, decide_eq_true_eq] at hs
      simp only [Ty.dep] at hk
      cases d <;> simp [alike] at ha qd
      rename_i c
      simp only [Ty.dep] at hd
      have all : ∀ l : Vs, l.dep ≤ D → hasL a l = true → slimL l = true → AllV (fun v => Q m v a c) l := by
        intro l
        induction l using Vs.rec (motive_1 := fun _ => True) with
        | nil => intro _ _ _; trivial
        | cons v l _ ihl =>
          intro hd2 ht hs
          simp only [Vs.dep] at hd2
          simp only [hasL, Bool.and_eq_true] at ht
          simp only [slimL, Bool.and_eq_true] at hs
          exact ⟨ih v a c m (by omega) (by omega) ht.1 hs.1 ha (by omega) (by omega), ihl (by omega) ht.2 hs.2⟩
        | _ => trivial
      exact dir_items q k50 hs.1 (all l (by omega) ht hs.2)
end Law

namespace Law
open PySem PySem.Spec PyProof.Rows L2 RZ BK

/-- _law_direct answers at n calls -/
def R (n : Nat) (v : Va) (k d : Ty) : Prop := ∀ nm st, tab.call n 18 [encV v, enc k, enc d, nm] st = .ok (res nm (dcast k d v)) st
theorem app5 {m : EM} {a0 a1 a2 a3 a4 s6 s7 : Slot} {acc : List PV} {st : Sto} : sApp 5 m [a0, a1, a2, a3, a4, .own acc, s6, s7] st = @SR.ofK _ (m (viewH [a0, a1, a2, a3, a4, .own acc, s6, s7]) st) ⟨fun x st1 => if acc.length < sizeLine then .nx [a0, a1, a2, a3, a4, .own (acc ++ [x]), s6, s7] st1 else .bad⟩ := x_appOwn rfl
theorem ld_go {m : Nat} {a c : Ty} {nm : PV} {st : Sto} {a0 : Slot} : ∀ (l : Vs) (pre acc : List PV) (s6 s7 : Slot) (full : List PV), full = pre ++ encVs l → AllV (fun v => R m v a c) l → acc.length + l.len ≤ 2000 →
    (∀ l', dcastL a c l = some l' → ∃ s6' s7', forGo (gNm 6) (p18_5b (tab.call m)) (rangeL (pre.length : Int) l.len) [a0, .val (enc (.list a)), .val (enc (.list c)), .val nm, .val (.lst full), .own acc, s6, s7] st = .nx [a0, .val (enc (.list a)), .val (enc (.list c)), .val nm, .val (.lst full), .own (acc ++ encVs l'), s6', s7'] st) ∧
    (dcastL a c l = none → forGo (gNm 6) (p18_5b (tab.call m)) (rangeL (pre.length : Int) l.len) [a0, .val (enc (.list a)), .val (enc (.list c)), .val nm, .val (.lst full), .own acc, s6, s7] st = .ret (blP nm) st)
  | .nil, pre, acc, s6, s7, full, _, _, _ => ⟨fun l' h => by
      simp only [dcastL, Option.some.injEq] at h
      subst h
      exact ⟨s6, s7, by simp [encVs, Vs.len, rangeL]⟩, fun h => by simp [dcastL] at h⟩
  | .cons v l, pre, acc, s6, s7, full, hf, h, hl => by
    obtain ⟨h1, h2⟩ := h
    simp only [Vs.len] at hl
    have hs : acc.length < sizeLine := Nat.lt_of_lt_of_le (by omega : acc.length < 3000) (by decide)
    have hv := h1 nm st
    have hix : atI full (pre.length : Int) = some (encV v) := by
      rw [BK.atI_nat, hf, encVs, List.getElem?_append_right (Nat.le_refl _)]
      simp
    have step : ∀ ρ, forGo (gNm 6) (p18_5b (tab.call m)) (rangeL (pre.length : Int) (Vs.cons v l).len) ρ st = (match p18_5b (tab.call m) (ρ.set 6 (.val (.int (pre.length : Int)))) st with
      | .nx ρ1 st1 => forGo (gNm 6) (p18_5b (tab.call m)) (rangeL ((pre.length : Int) + 1) l.len) ρ1 st1
      | .ct ρ1 st1 => forGo (gNm 6) (p18_5b (tab.call m)) (rangeL ((pre.length : Int) + 1) l.len) ρ1 st1
      | .brk ρ1 st1 => .nx ρ1 st1
      | r => r) := fun ρ => rfl
    have hlen : ((pre.length : Int) + 1) = (((pre ++ [encV v]).length : Nat) : Int) := by simp
    have hf2 : full = (pre ++ [encV v]) ++ encVs l := by rw [hf, encVs]; simp
    cases e : dcast a c v with
    | none =>
      rw [e] at hv
      simp only [res] at hv
      refine ⟨fun l' q => by simp [dcastL, e] at q, fun _ => ?_⟩
      rw [step]
      have b : p18_5b (tab.call m) ([a0, .val (enc (.list a)), .val (enc (.list c)), .val nm, .val (.lst full), .own acc, s6, s7].set 6 (.val (.int (pre.length : Int)))) st = .ret (blP nm) st := by
        simp [p18_5b, p18_5_0, p18_5_1, hv, hix]
      rw [b]
    | some w =>
      rw [e] at hv
      simp only [res] at hv
      have b : p18_5b (tab.call m) ([a0, .val (enc (.list a)), .val (enc (.list c)), .val nm, .val (.lst full), .own acc, s6, s7].set 6 (.val (.int (pre.length : Int)))) st = .nx [a0, .val (enc (.list a)), .val (enc (.list c)), .val nm, .val (.lst full), .own (acc ++ [encV w]), .val (.int (pre.length : Int)), .val (okP w)] st := by
        simp [p18_5b, p18_5_0, p18_5_1, p18_5_2, hv, hix, app5, hs]
      obtain ⟨i1, i2⟩ := ld_go (nm := nm) (st := st) (a0 := a0) l (pre ++ [encV v]) (acc ++ [encV w]) (.val (.int (pre.length : Int))) (.val (okP w)) full hf2 h2 (by simp; omega)
      refine ⟨fun l' q => ?_, fun q => ?_⟩
      · simp only [dcastL, e, Option.bind_some, Option.map_eq_some_iff] at q
        obtain ⟨l2, q1, rfl⟩ := q
        obtain ⟨s6', s7', g⟩ := i1 l2 q1
        refine ⟨s6', s7', ?_⟩
        rw [step, b, hlen]
        simp only
        rw [g]
        simp [encVs]
      · rw [step, b, hlen]
        simp only
        refine i2 ?_
        cases q2 : dcastL a c l with
        | none => rfl
        | some l2 => simp [dcastL, e, q2] at q
theorem ld_items {m : Nat} {a c : Ty} {l : Vs} (q : Ty.list a ≠ .list c) (hk : (Ty.list a).dep ≤ 50) (hl : l.len ≤ 1000) (h1 : AllV (fun v => R m v a c) l) : R (m + 1) (.items l) (.list a) (.list c) := fun nm st => by
  rw [r18]
  unfold m18
  obtain ⟨i1, i2⟩ := ld_go (m := m) (nm := nm) (st := st) (a0 := .val (encV (.items l))) l [] [] .no .no (encVs l) rfl h1 (by simp; omega)
  have pre : ∀ t : SM, sSeq (p18_0 (tab.call m)) (sSeq (p18_1 (tab.call m)) (sSeq (p18_2 (tab.call m)) (sSeq (p18_3 (tab.call m)) (sSeq (p18_4 (tab.call m)) t)))) [.val (encV (.items l)), .val (enc (.list a)), .val (enc (.list c)), .val nm, .no, .no, .no, .no] st = t [.val (encV (.items l)), .val (enc (.list a)), .val (enc (.list c)), .val nm, .val (.lst (encVs l)), .own [], .no, .no] st := fun t => by
    have q' : ¬ a = c := fun z => q (by rw [z])
    simp [p18_0, p18_1, p18_2, p18_3, p18_4, eq_enc, hk, q']
  have hr1 := rOk_len hl
  have hr2 := small_le hl
  have e1 : p18_5 (tab.call m) [.val (encV (.items l)), .val (enc (.list a)), .val (enc (.list c)), .val nm, .val (.lst (encVs l)), .own [], .no, .no] st = forGo (gNm 6) (p18_5b (tab.call m)) (rangeL (([] : List PV).length : Int) l.len) [.val (encV (.items l)), .val (enc (.list a)), .val (enc (.list c)), .val nm, .val (.lst (encVs l)), .own [], .no, .no] st := by
    simp [p18_5, encVs_len, hr1, hr2]
  rw [pre, x_seq, e1]
  cases e : dcastL a c l with
  | none => rw [i2 e]; simp [dcast, e, res]
  | some l' =>
    obtain ⟨s5', s6', g⟩ := i1 l' e
    rw [g]
    simp [p18_6, dcast, e, res]
theorem at20 {α : Type} {a b : α} : atI [a, b] 0 = some a := rfl
theorem at21 {α : Type} {a b : α} : atI [a, b] 1 = some b := rfl
theorem ld_pair {m : Nat} {a b c e : Ty} {x y : Va} (q : Ty.pair a b ≠ .pair c e) (hk : (Ty.pair a b).dep ≤ 50) (h1 : R m x a c) (h2 : R m y b e) : R (m + 1) (.pair x y) (.pair a b) (.pair c e) := fun nm st => by
  rw [r18]
  unfold m18
  have h1 := h1 nm st
  have h2 := h2 nm st
  have pre : ∀ t : SM, sSeq (p18_0 (tab.call m)) (sSeq (p18_1 (tab.call m)) (sSeq (p18_2 (tab.call m)) (sSeq (p18_3 (tab.call m)) (sSeq (p18_4 (tab.call m)) t)))) [.val (encV (.pair x y)), .val (enc (.pair a b)), .val (enc (.pair c e)), .val nm, .no, .no, .no, .no] st = t [.val (encV (.pair x y)), .val (enc (.pair a b)), .val (enc (.pair c e)), .val nm, .val (.lst [encV x, encV y]), .own [], .no, .no] st := fun t => by
    have q' : a = c → ¬ b = e := fun z1 z2 => q (by rw [z1, z2])
    have hq : decide (Ty.pair a b = .pair c e) = false := decide_eq_false q
    simp [p18_0, p18_1, p18_2, p18_3, p18_4, eq_enc, hk, q]
  have e1 : p18_5 (tab.call m) [.val (encV (.pair x y)), .val (enc (.pair a b)), .val (enc (.pair c e)), .val nm, .val (.lst [encV x, encV y]), .own [], .no, .no] st = forGo (gNm 6) (p18_5b (tab.call m)) [.int 0, .int 1] [.val (encV (.pair x y)), .val (enc (.pair a b)), .val (enc (.pair c e)), .val nm, .val (.lst [encV x, encV y]), .own [], .no, .no] st := by
    simp [p18_5, rangeL]
  rw [pre, x_seq, e1]
  have step : ∀ (i : Int) (xs : List PV) ρ, forGo (gNm 6) (p18_5b (tab.call m)) (.int i :: xs) ρ st = (match p18_5b (tab.call m) (ρ.set 6 (.val (.int i))) st with
      | .nx ρ1 st1 => forGo (gNm 6) (p18_5b (tab.call m)) xs ρ1 st1
      | .ct ρ1 st1 => forGo (gNm 6) (p18_5b (tab.call m)) xs ρ1 st1
      | .brk ρ1 st1 => .nx ρ1 st1
      | r => r) := fun i xs ρ => rfl
  rw [step]
  cases e1 : dcast a c x with
  | none =>
    simp [e1, res] at h1
    have b0 : p18_5b (tab.call m) ([.val (encV (.pair x y)), .val (enc (.pair a b)), .val (enc (.pair c e)), .val nm, .val (.lst [encV x, encV y]), .own [], .no, .no].set 6 (.val (.int 0))) st = .ret (blP nm) st := by
      simp [p18_5b, p18_5_0, p18_5_1, h1, at20]
    rw [b0]
    simp [dcast, e1, res]
  | some x' =>
    simp [e1, res] at h1
    have b0 : p18_5b (tab.call m) ([.val (encV (.pair x y)), .val (enc (.pair a b)), .val (enc (.pair c e)), .val nm, .val (.lst [encV x, encV y]), .own [], .no, .no].set 6 (.val (.int 0))) st = .nx [.val (encV (.pair x y)), .val (enc (.pair a b)), .val (enc (.pair c e)), .val nm, .val (.lst [encV x, encV y]), .own [encV x'], .val (.int 0), .val (okP x')] st := by
      simp [p18_5b, p18_5_0, p18_5_1, p18_5_2, h1, at20, app5, show (0 < sizeLine) from by decide]
    rw [b0]
    simp only
    rw [step]
    cases e2 : dcast b e y with
    | none =>
      simp [e2, res] at h2
      have b1 : p18_5b (tab.call m) ([.val (encV (.pair x y)), .val (enc (.pair a b)), .val (enc (.pair c e)), .val nm, .val (.lst [encV x, encV y]), .own [encV x'], .val (.int 0), .val (okP x')].set 6 (.val (.int 1))) st = .ret (blP nm) st := by
        simp [p18_5b, p18_5_0, p18_5_1, h2, at21]
      rw [b1]
      simp [dcast, e1, e2, res]
    | some y' =>
      simp [e2, res] at h2
      have b1 : p18_5b (tab.call m) ([.val (encV (.pair x y)), .val (enc (.pair a b)), .val (enc (.pair c e)), .val nm, .val (.lst [encV x, encV y]), .own [encV x'], .val (.int 0), .val (okP x')].set 6 (.val (.int 1))) st = .nx [.val (encV (.pair x y)), .val (enc (.pair a b)), .val (enc (.pair c e)), .val nm, .val (.lst [encV x, encV y]), .own [encV x', encV y'], .val (.int 1), .val (okP y')] st := by
        simp [p18_5b, p18_5_0, p18_5_1, p18_5_2, h2, at21, app5, show (1 < sizeLine) from by decide]
      rw [b1]
      simp [p18_6, dcast, e1, e2, res, at20, at21]
theorem ldirect_ok : ∀ (D : Nat) (v : Va) (k d : Ty) (n : Nat), v.dep ≤ D → D + 30 ≤ n → has k v = true → slim v = true → alike k d = true → k.dep ≤ 20 → d.dep ≤ 20 → R n v k d
  | 0, v, k, d, n, h, _, _, _, _, _, _ => by have := va_pos v; omega
  | D + 1, v, k, d, n, hv, hn, ht, hs, ha, hk, hd => by
    have ih := ldirect_ok D
    have k50 : k.dep ≤ 50 := by omega
    have a50 : Ty.dep .any ≤ 50 := by decide
    obtain ⟨m, rfl⟩ : ∃ m, n = m + 1 := ⟨n - 1, by omega⟩
    by_cases q : k = d
    · subst q
      intro nm st
      rw [r18]
      unfold m18
      simp [p18_0, eq_enc, k50, dcast_self k v ht, res]
    by_cases qd : d = .any
    · subst qd
      intro nm st
      rw [r18]
      unfold m18
      have e : dcast k .any v = some (.tag k v) := by simp [dcast, q]
      rw [e]
      simp [p18_0, p18_1, eq_enc, k50, q, res]
    cases k with
    | any =>
      cases v <;> simp [has] at ht
      rename_i g w
      simp only [Va.dep] at hv
      simp only [slim] at hs
      have gd : g.dep ≤ 2 := isGr_dep ht.1
      have e1 : dcast .any d (.tag g w) = if alike g d = true then dcast g d w else none := by cases d <;> first | rfl | exact absurd rfl qd
      intro nm st
      rw [r18, e1]
      unfold m18
      have hal := lalike_ok m g d st (by omega)
      by_cases hg : alike g d = true
      · have hw := ih w g d m (by omega) (by omega) ht.2 hs hg (by omega) hd nm st
        rw [hg] at hal
        rw [if_pos hg]
        simp [p18_0, p18_1, p18_2, eq_enc, a50, q, qd, hal, hw]
      · rw [if_neg hg]
        simp only [Bool.not_eq_true] at hg
        rw [hg] at hal
        simp [p18_0, p18_1, p18_2, eq_enc, a50, q, qd, hal, res]
    | int =>
      cases d <;> simp [alike] at ha q qd
    | bool =>
      cases d <;> simp [alike] at ha q qd
    | fn a b => cases v <;> simp [has] at ht
    | pair a b =>
      cases v <;> simp [has] at ht
      rename_i x y
      simp only [Va.dep] at hv
      simp only [slim, Bool.and_eq_true] at hs
      simp only [Ty.dep] at hk
      cases d <;> simp [alike] at ha qd
      rename_i c e
      simp only [Ty.dep] at hd
      exact ld_pair q k50 (ih x a c m (by omega) (by omega) ht.1 hs.1 ha.1 (by omega) (by omega)) (ih y b e m (by omega) (by omega) ht.2 hs.2 ha.2 (by omega) (by omega))
    | list a =>
      cases v <;> simp [has] at ht
      rename_i l
      simp only [Va.dep] at hv
      simp only [slim, Bool.and_eq_true, decide_eq_true_eq] at hs
      simp only [Ty.dep] at hk
      cases d <;> simp [alike] at ha qd
      rename_i c
      simp only [Ty.dep] at hd
      have all : ∀ l : Vs, l.dep ≤ D → hasL a l = true → slimL l = true → AllV (fun v => R m v a c) l := by
        intro l
        induction l using Vs.rec (motive_1 := fun _ => True) with
        | nil => intro _ _ _; trivial
        | cons v l _ ihl =>
          intro hd2 ht hs
          simp only [Vs.dep] at hd2
          simp only [hasL, Bool.and_eq_true] at ht
          simp only [slimL, Bool.and_eq_true] at hs
          exact ⟨ih v a c m (by omega) (by omega) ht.1 hs.1 ha (by omega) (by omega), ihl (by omega) ht.2 hs.2⟩
        | _ => trivial
      exact ld_items q k50 hs.1 (all l (by omega) ht hs.2)
end Law

namespace Law
open PySem PySem.Spec PyProof.Rows L2 RZ BK

mutual
theorem dcast_depth : ∀ (k d : Ty) (v v' : Va), has k v = true → alike k d = true → dcast k d v = some v' → (encV v').depth ≤ 2 * v.dep + 2 + k.dep
  | k, .any, v, v', h, _, e => by
    have hd := encV_depth k v h
    simp only [dcast, Option.some.injEq] at e
    subst e
    split
    · omega
    · show PV.depth (.tup [.str "tag", enc k, encV v]) ≤ _
      simp only [PV.depth, PV.depths, enc_depth]
      omega
  | .any, d, .tag g w, v', h, ha, e => by
    simp only [has, Bool.and_eq_true] at h
    by_cases hd : d = .any
    · subst hd
      have h0 := encV_depth .any (.tag g w) (by simp [has, h])
      simp only [dcast, if_pos, Option.some.injEq] at e
      subst e
      omega
    · have e1 : dcast .any d (.tag g w) = if alike g d = true then dcast g d w else none := by cases d <;> first | rfl | exact absurd rfl hd
      rw [e1] at e
      split at e
      · rename_i ga
        have := dcast_depth g d w v' h.2 ga e
        have := gr_dep h.1
        simp only [Va.dep, Ty.dep]
        omega
      · cases e
  | .int, .int, .int i, v', _, _, e => by
    simp only [dcast, Option.some.injEq] at e
    subst e
    show 1 ≤ _
    omega
  | .bool, .bool, .bool i, v', _, _, e => by
    simp only [dcast, Option.some.injEq] at e
    subst e
    show 1 ≤ _
    omega
  | .pair a b, .pair c f, .pair x y, v', h, ha, e => by
    simp only [has, Bool.and_eq_true] at h
    simp only [alike, Bool.and_eq_true] at ha
    simp only [dcast, Option.bind_eq_some_iff, Option.map_eq_some_iff] at e
    obtain ⟨x', e1, y', e2, rfl⟩ := e
    have h1 := dcast_depth a c x x' h.1 ha.1 e1
    have h2 := dcast_depth b f y y' h.2 ha.2 e2
    show PV.depth (.tup [.str "pair", encV x', encV y']) ≤ _
    simp only [PV.depth, PV.depths, Va.dep, Ty.dep]
    omega
  | .list a, .list c, .items l, v', h, ha, e => by
    simp only [has] at h
    simp only [alike] at ha
    simp only [dcast, Option.map_eq_some_iff] at e
    obtain ⟨l', e1, rfl⟩ := e
    have h1 := dcastL_depth a c l l' h ha e1
    show PV.depth (.tup [.str "items", .tup (encVs l')]) ≤ _
    simp only [PV.depth, PV.depths, Va.dep, Ty.dep]
    omega
  | .any, _, .int _, _, h, _, _ | .any, _, .bool _, _, h, _, _ | .any, _, .pair _ _, _, h, _, _ | .any, _, .items _, _, h, _, _ => by simp [has] at h
  | .int, _, .bool _, _, h, _, _ | .int, _, .pair _ _, _, h, _, _ | .int, _, .items _, _, h, _, _ | .int, _, .tag _ _, _, h, _, _ => by simp [has] at h
  | .bool, _, .int _, _, h, _, _ | .bool, _, .pair _ _, _, h, _, _ | .bool, _, .items _, _, h, _, _ | .bool, _, .tag _ _, _, h, _, _ => by simp [has] at h
  | .pair _ _, _, .int _, _, h, _, _ | .pair _ _, _, .bool _, _, h, _, _ | .pair _ _, _, .items _, _, h, _, _ | .pair _ _, _, .tag _ _, _, h, _, _ => by simp [has] at h
  | .list _, _, .int _, _, h, _, _ | .list _, _, .bool _, _, h, _, _ | .list _, _, .pair _ _, _, h, _, _ | .list _, _, .tag _ _, _, h, _, _ => by simp [has] at h
  | .fn _ _, _, v, _, h, _, _ => by cases v <;> simp [has] at h
  | .int, .bool, _, _, _, ha, _ | .int, .fn _ _, _, _, _, ha, _ | .int, .pair _ _, _, _, _, ha, _ | .int, .list _, _, _, _, ha, _ => by simp [alike] at ha
  | .bool, .int, _, _, _, ha, _ | .bool, .fn _ _, _, _, _, ha, _ | .bool, .pair _ _, _, _, _, ha, _ | .bool, .list _, _, _, _, ha, _ => by simp [alike] at ha
  | .pair _ _, .int, _, _, _, ha, _ | .pair _ _, .bool, _, _, _, ha, _ | .pair _ _, .fn _ _, _, _, _, ha, _ | .pair _ _, .list _, _, _, _, ha, _ => by simp [alike] at ha
  | .list _, .int, _, _, _, ha, _ | .list _, .bool, _, _, _, ha, _ | .list _, .fn _ _, _, _, _, ha, _ | .list _, .pair _ _, _, _, _, ha, _ => by simp [alike] at ha
theorem dcastL_depth : ∀ (k d : Ty) (l l' : Vs), hasL k l = true → alike k d = true → dcastL k d l = some l' → PV.depths (encVs l') ≤ 2 * l.dep + 2 + k.dep
  | _, _, .nil, l', _, _, e => by
    simp only [dcastL, Option.some.injEq] at e
    subst e
    simp [encVs, PV.depths]
  | k, d, .cons v l, l', h, ha, e => by
    simp only [hasL, Bool.and_eq_true] at h
    simp only [dcastL, Option.bind_eq_some_iff, Option.map_eq_some_iff] at e
    obtain ⟨v', e1, l2, e2, rfl⟩ := e
    have h1 := dcast_depth k d v v' h.1 ha e1
    have h2 := dcastL_depth k d l l2 h.2 ha e2
    simp only [encVs, PV.depths, Vs.dep]
    omega
end
abbrev C := tab.call 99
def NM : PV := .tup [.tup [.int 2, .int 1], .bl true]
def Ev (s0 t ba va to pl ki du upp wr : Slot) : SEnv := [s0, .val (.ref 0), .val NM, t, ba, va, to, pl, ki, du, upp, wr]
theorem ne_any (a : Ty) : opNe (enc a) (enc .any) = some (.bl (!decide (a = .any))) := by
  unfold opNe
  rw [if_pos (by unfold eqOk; rw [enc_plain, enc_plain, enc_depth, enc_depth, Bool.and_self, Bool.true_and, decide_eq_true_eq]; exact Nat.le_trans (Nat.min_le_right _ _) (by show 1 ≤ 60; omega)), enc_eqv]
theorem CA (v : Va) (k d : Ty) (nm : PV) (st : Sto) (hv : v.dep ≤ 24) (ht : has k v = true) (hs : slim v = true) (ha : alike k d = true) (hk : k.dep ≤ 20) (hd : d.dep ≤ 20) : C 2 [encV v, enc k, enc d, nm] st = .ok (res nm (vcast k d v)) st :=
  cast_ok 24 v k d 99 hv (by omega) ht hs ha hk hd nm st
theorem CD (v : Va) (k d : Ty) (nm : PV) (st : Sto) (hv : v.dep ≤ 24) (ht : has k v = true) (hs : slim v = true) (ha : alike k d = true) (hk : k.dep ≤ 20) (hd : d.dep ≤ 20) : C 7 [encV v, enc k, enc d, nm] st = .ok (res nm (dcast k d v)) st :=
  direct_ok 24 v k d 99 hv (by omega) ht hs ha hk hd nm st
theorem CL (v : Va) (k d : Ty) (nm : PV) (st : Sto) (hv : v.dep ≤ 24) (ht : has k v = true) (hs : slim v = true) (ha : alike k d = true) (hk : k.dep ≤ 20) (hd : d.dep ≤ 20) : C 18 [encV v, enc k, enc d, nm] st = .ok (res nm (dcast k d v)) st :=
  ldirect_ok 24 v k d 99 hv (by omega) ht hs ha hk hd nm st
theorem tag_down (v : Va) (k d : Ty) (st : Sto) (hv : v.dep ≤ 24) (ht : has k v = true) (hs : slim v = true) (hk : k.dep ≤ 20) (hd : d.dep ≤ 20) (hka : k ≠ .any) : C 7 [encV (.tag k v), enc .any, enc d, NM] st = .ok (if alike k d = true then res NM (dcast k d v) else blP NM) st := by
  have a50 : Ty.dep .any ≤ 50 := by decide
  show tab.call (98 + 1) 7 [encV (.tag k v), enc .any, enc d, NM] st = _
  rw [r7]
  unfold m7
  by_cases qd : d = .any
  · subst qd
    have e : dcast k .any v = some (.tag k v) := by simp [dcast, hka]
    simp [p7_0, eq_enc, a50, alike_any, e, res]
  · have hal := alike1_ok 98 k d st (by omega)
    by_cases hg : alike k d = true
    · have hw := direct_ok 24 v k d 98 hv (by omega) ht hs hg hk hd NM st
      rw [hg] at hal
      rw [if_pos hg]
      simp [p7_0, p7_1, p7_2, eq_enc, a50, qd, Ne.symm qd, hal, hw]
    · rw [if_neg hg]
      simp only [Bool.not_eq_true] at hg
      rw [hg] at hal
      simp [p7_0, p7_1, p7_2, eq_enc, a50, qd, Ne.symm qd, hal]
theorem same_any (x : PV) (st : Sto) (hf : x.fair = true) (hd : x.depth ≤ 60) : C 10 [x, x] st = .ok (.bl true) st :=
  same_refl (C := fun n xs st => tab.call n 10 xs st) (fun n x y st => r10 n x y st) 99 x st hf (by omega)
theorem same_res {k d : Ty} {v : Va} (st : Sto) (ht : has k v = true) (hs : slim v = true) (hv : v.dep ≤ 12) (ha : alike k d = true) (hn : nofn d = true) (hk : k.dep ≤ 3) : C 10 [res NM (dcast k d v), res NM (dcast k d v)] st = .ok (.bl true) st := by
  cases e : dcast k d v with
  | none => exact same_any _ st (by decide +kernel) (by decide +kernel)
  | some v' =>
    obtain ⟨_, h2, h3⟩ := (dcast_like k d v ht ha hn).2 v' e
    have hd := dcast_depth k d v v' ht ha e
    refine same_any _ st ?_ ?_
    · show PV.fair (.tup [.str "ok", encV v']) = true
      simp [PV.fair, PV.fairs, encV_fair v' (h3 hs)]
    · show PV.depth (.tup [.str "ok", encV v']) ≤ 60
      simp only [PV.depth, PV.depths]
      omega
section
variable {s0 t ba va to pl ki du upp wr : Slot} {st : Sto}
theorem y_0 (h : Dr st 0) : ∃ x st', x.dep ≤ 3 ∧ nofn x = true ∧ Dr st' 0 ∧ p19_2_0 C (Ev s0 t ba va to pl ki du upp wr) st = .nx (Ev s0 t (.val (enc x)) va to pl ki du upp wr) st' := by
  obtain ⟨x, st', h1, h5, h2, h3, h4⟩ := plain3 h 95
  exact ⟨x, st', h1, h5, h2, by simp [p19_2_0, Ev, h4]⟩
theorem y_1 {x : Ty} (hx : x.dep ≤ 3) (h : Dr st 0) : ∃ y z st', y.dep ≤ 3 ∧ z.dep ≤ 3 ∧ finer x y = true ∧ finer x z = true ∧ Dr st' 0 ∧ p19_2_1 C (Ev s0 t (.val (enc x)) va to pl ki du upp wr) st = .nx (Ev s0 t (.val (enc x)) va to pl (.val (enc y)) (.val (enc z)) upp wr) st' := by
  obtain ⟨y, st1, h1, h5, h2, h3, h4⟩ := vague 98 x 0 st h (by omega)
  obtain ⟨z, st2, k1, k5, k2, k3, k4⟩ := vague 98 x 0 st1 h2 (by omega)
  exact ⟨y, z, st2, by omega, by omega, h5, k5, k2, by simp [p19_2_1, Ev, h4, k4]⟩
theorem y_2 {k : Ty} (hk : k.dep ≤ 3) (hn : nofn k = true) (h : Dr st 0) : ∃ v st', has k v = true ∧ slim v = true ∧ v.dep ≤ 12 ∧ Dr st' 0 ∧ p19_2_2 C (Ev s0 t ba va to pl (.val (enc k)) du upp wr) st = .nx (Ev s0 t ba (.val (encV v)) to pl (.val (enc k)) du upp wr) st' := by
  obtain ⟨v, st', h1, h2, h3, h4, h5, h6⟩ := value_ok 87 9 k 3 0 st h hn (by omega) (by show 2 * 3 + k.dep ≤ 9; omega)
  have h7 : C 15 [.ref 0, enc k, .int 3] st = .ok (encV v) st' := h6
  exact ⟨v, st', h1, h2, h3, h4, by simp [p19_2_2, Ev, h7]⟩
variable {k d : Ty} {v : Va}
theorem y_3 (ht : has k v = true) (hs : slim v = true) (hv : v.dep ≤ 12) (ha : alike k d = true) (hk : k.dep ≤ 3) (hd : d.dep ≤ 3) : p19_2_3 C (Ev s0 t ba (.val (encV v)) to pl (.val (enc k)) (.val (enc d)) upp wr) st =
    .nx (Ev s0 t ba (.val (encV v)) (.val (res NM (dcast k d v))) pl (.val (enc k)) (.val (enc d)) upp wr) st := by
  have h := fun st => CD v k d NM st (by omega) ht hs ha (by omega) (by omega)
  simp [p19_2_3, Ev, h]
theorem y_4 (ht : has k v = true) (hs : slim v = true) (hv : v.dep ≤ 12) (ha : alike k d = true) (hn : nofn d = true) (hk : k.dep ≤ 3) (hd : d.dep ≤ 3) : p19_2_4 C (Ev s0 t ba (.val (encV v)) (.val (res NM (dcast k d v))) pl (.val (enc k)) (.val (enc d)) upp wr) st =
    .nx (Ev s0 t ba (.val (encV v)) (.val (res NM (dcast k d v))) pl (.val (enc k)) (.val (enc d)) upp wr) st := by
  have h := fun st => CL v k d NM st (by omega) ht hs ha (by omega) (by omega)
  have h9 := fun st => same_res (d := d) st ht hs hv ha hn hk
  simp [p19_2_4, Ev, h, h9]
theorem y_5 (ht : has k v = true) (hs : slim v = true) (hv : v.dep ≤ 12) (ha : alike k d = true) (hk : k.dep ≤ 3) (hd : d.dep ≤ 3) : p19_2_5 C (Ev s0 t ba (.val (encV v)) to pl (.val (enc k)) (.val (enc d)) upp wr) st =
    .nx (Ev s0 t ba (.val (encV v)) to (.val (res NM (vcast k d v))) (.val (enc k)) (.val (enc d)) upp wr) st := by
  have h := fun st => CA v k d NM st (by omega) ht hs ha (by omega) (by omega)
  simp [p19_2_5, Ev, h]
theorem y_6 (ht : has k v = true) (hv : v.dep ≤ 12) (ha : alike k d = true) (hn : nofn d = true) : p19_2_6 C (Ev s0 t ba va (.val (res NM (dcast k d v))) (.val (res NM (vcast k d v))) ki du upp wr) st =
    .nx (Ev s0 t ba va (.val (res NM (dcast k d v))) (.val (res NM (vcast k d v))) ki du upp wr) st := by
  obtain ⟨i1, i2⟩ := dcast_like k d v ht ha hn
  have hb : opNe (blP NM) (blP NM) = some (.bl false) := ne_self _ (by decide +kernel) (by decide +kernel)
  cases e1 : dcast k d v with
  | none =>
    cases e2 : vcast k d v with
    | none => simp [p19_2_6, Ev, res, hb]
    | some w => rw [e1, e2] at i1; cases i1
  | some v1 =>
    cases e2 : vcast k d v with
    | none => rw [e1, e2] at i1; cases i1
    | some v2 =>
      obtain ⟨a1, a2, _⟩ := i2 v1 e1
      obtain ⟨b1, _⟩ := cast_keeps k d v v2 ht ha e2
      obtain ⟨b2, _⟩ := cast_dep k d v v2 e2
      have s1 := shown_ok 24 v1 99 (by omega) (by omega)
      have s2 := shown_ok 24 v2 99 (by omega) (by omega)
      have hc : opNe (encV (sh v)) (encV (sh v)) = some (.bl false) := ne_self _ (encV_plain _) (by have := sh_depth v; omega)
      simp [p19_2_6, Ev, res, s1, s2, a1, b1, hc]
theorem y_7 (ht : has k v = true) (hs : slim v = true) (hv : v.dep ≤ 12) (ha : alike k d = true) (hn : nofn d = true) (hk : k.dep ≤ 3) (hd : d.dep ≤ 3) : ∃ upp' wr', p19_2_7 C (Ev s0 t ba (.val (encV v)) (.val (res NM (dcast k d v))) pl (.val (enc k)) (.val (enc d)) upp wr) st =
    .nx (Ev s0 t ba (.val (encV v)) (.val (res NM (dcast k d v))) pl (.val (enc k)) (.val (enc d)) upp' wr') st := by
  by_cases q : k = .any
  · exact ⟨upp, wr, by simp [p19_2_7, Ev, ne_any, q]⟩
  · have hu := fun st => CD v k .any NM st (by omega) ht hs (alike_any k) (by omega) (by decide)
    have e : dcast k .any v = some (.tag k v) := by simp [dcast, q]
    rw [e] at hu
    simp only [res] at hu
    have hd1 := fun st => tag_down v k d st (by omega) ht hs (by omega) (by omega) q
    simp only [ha, if_true] at hd1
    have hb : opNe (blP NM) (blP NM) = some (.bl false) := ne_self _ (by decide +kernel) (by decide +kernel)
    have hq : opNe (okP (.tag k v)) (okP (.tag k v)) = some (.bl false) := by
      refine ne_self _ ?_ ?_
      · show PV.plain (.tup [.str "ok", encV (.tag k v)]) = true
        simp only [PV.plain, PV.plains, encV_plain, Bool.and_self]
      · have := encV_depth k v ht
        show PV.depth (.tup [.str "ok", .tup [.str "tag", enc k, encV v]]) ≤ 60
        simp only [PV.depth, PV.depths, enc_depth]
        omega
    have h9 := fun st => same_res (d := d) st ht hs hv ha hn hk
    cases k with
    | any => exact absurd rfl q
    | bool =>
      have hw := fun st => tag_down v .bool .int st (by omega) ht hs (by decide) (by decide) q
      simp only [alike, Bool.false_eq_true, if_false] at hw
      exact ⟨.val (okP (.tag .bool v)), .val (enc .int), by simp [p19_2_7, Ev, ne_any, q, hu, hq, hd1, h9, hw, hb]⟩
    | int =>
      have hw := fun st => tag_down v .int .bool st (by omega) ht hs (by decide) (by decide) q
      simp only [alike, Bool.false_eq_true, if_false] at hw
      exact ⟨.val (okP (.tag .int v)), .val (enc .bool), by simp [p19_2_7, Ev, ne_any, q, hu, hq, hd1, h9, hw, hb]⟩
    | fn a b => cases v <;> simp [has] at ht
    | pair a b =>
      have hw := fun st => tag_down v (.pair a b) .bool st (by omega) ht hs (by omega) (by decide) q
      simp only [alike, Bool.false_eq_true, if_false] at hw
      exact ⟨.val (okP (.tag (.pair a b) v)), .val (enc .bool), by simp [p19_2_7, Ev, ne_any, q, hu, hq, hd1, h9, hw, hb]⟩
    | list a =>
      have hw := fun st => tag_down v (.list a) .bool st (by omega) ht hs (by omega) (by decide) q
      simp only [alike, Bool.false_eq_true, if_false] at hw
      exact ⟨.val (okP (.tag (.list a) v)), .val (enc .bool), by simp [p19_2_7, Ev, ne_any, q, hu, hq, hd1, h9, hw, hb]⟩
end
theorem y_turn {s0 t ba va to pl ki du upp wr : Slot} {st : Sto} (h : Dr st 0) : ∃ ba' va' to' pl' ki' du' upp' wr' st', Dr st' 0 ∧ p19_2b C (Ev s0 t ba va to pl ki du upp wr) st = .nx (Ev s0 t ba' va' to' pl' ki' du' upp' wr') st' := by
  obtain ⟨x, s1, a1, a2, a3, a4⟩ := y_0 (s0 := s0) (t := t) (ba := ba) (va := va) (to := to) (pl := pl) (ki := ki) (du := du) (upp := upp) (wr := wr) h
  obtain ⟨k, d, s2, b1, b2, b3, b4, b5, b6⟩ := y_1 (s0 := s0) (t := t) (va := va) (to := to) (pl := pl) (ki := ki) (du := du) (upp := upp) (wr := wr) a1 a3
  have hal := alike_of _ _ _ b3 b4
  have nk := nofn_finer _ _ b3 a2
  have nd := nofn_finer _ _ b4 a2
  obtain ⟨v, s3, c1, c2, c3, c4, c5⟩ := y_2 (s0 := s0) (t := t) (ba := .val (enc x)) (va := va) (to := to) (pl := pl) (du := .val (enc d)) (upp := upp) (wr := wr) b1 nk b5
  obtain ⟨upp', wr', e1⟩ := y_7 (s0 := s0) (t := t) (ba := .val (enc x)) (pl := .val (res NM (vcast k d v))) (upp := upp) (wr := wr) (st := s3) c1 c2 c3 hal nd b1 b2
  refine ⟨.val (enc x), .val (encV v), .val (res NM (dcast k d v)), .val (res NM (vcast k d v)), .val (enc k), .val (enc d), upp', wr', s3, c4, ?_⟩
  unfold p19_2b
  rw [x_seq, a4, nextS_nx]
  show sSeq (p19_2_1 C) _ _ s1 = _
  rw [x_seq, b6, nextS_nx]
  show sSeq (p19_2_2 C) _ _ s2 = _
  rw [x_seq, c5, nextS_nx]
  show sSeq (p19_2_3 C) _ _ s3 = _
  rw [x_seq, y_3 c1 c2 c3 hal b1 b2, nextS_nx]
  show sSeq (p19_2_4 C) _ _ s3 = _
  rw [x_seq, y_4 c1 c2 c3 hal nd b1 b2, nextS_nx]
  show sSeq (p19_2_5 C) _ _ s3 = _
  rw [x_seq, y_5 c1 c2 c3 hal b1 b2, nextS_nx]
  show sSeq (p19_2_6 C) _ _ s3 = _
  rw [x_seq, y_6 c1 c3 hal nd, nextS_nx]
  show sSeq (p19_2_7 C) _ _ s3 = _
  rw [x_seq, e1]
  rfl
theorem y_loop : ∀ (ks : List Int) {s0 t ba va to pl ki du upp wr : Slot} {st : Sto}, Dr st 0 → ∃ t' ba' va' to' pl' ki' du' upp' wr' st', forGo (gNm 3) (p19_2b C) (ks.map PV.int) (Ev s0 t ba va to pl ki du upp wr) st = .nx (Ev s0 t' ba' va' to' pl' ki' du' upp' wr') st'
  | [], s0, t, ba, va, to, pl, ki, du, upp, wr, st, _ => ⟨t, ba, va, to, pl, ki, du, upp, wr, st, rfl⟩
  | k :: ks, s0, t, ba, va, to, pl, ki, du, upp, wr, st, h => by
    obtain ⟨ba', va', to', pl', ki', du', upp', wr', st', h1, h2⟩ := y_turn (s0 := s0) (t := .val (.int k)) (ba := ba) (va := va) (to := to) (pl := pl) (ki := ki) (du := du) (upp := upp) (wr := wr) h
    obtain ⟨t2, b2, c2, d2, e2, f2, g2, h3, i2, st2, g⟩ := y_loop ks (s0 := s0) (t := .val (.int k)) (ba := ba') (va := va') (to := to') (pl := pl') (ki := ki') (du := du') (upp := upp') (wr := wr') h1
    refine ⟨t2, b2, c2, d2, e2, f2, g2, h3, i2, st2, ?_⟩
    rw [List.map_cons]
    unfold forGo
    show (match p19_2b C (Ev s0 (.val (.int k)) ba va to pl ki du upp wr) st with
      | .nx ρ1 st1 => forGo (gNm 3) (p19_2b C) (ks.map PV.int) ρ1 st1
      | .ct ρ1 st1 => forGo (gNm 3) (p19_2b C) (ks.map PV.int) ρ1 st1
      | .brk ρ1 st1 => .nx ρ1 st1
      | r => r) = _
    rw [h2]
    exact g
theorem lawTrue (ns : List Int) (h : ns.length ≤ 63) : ∃ st, tab.call 100 19 [.scr (ns.map PV.int)] [] = .ok (.bl true) st := by
  have hd : Dr [SO.lst [.lst (ns.map PV.int), .int 0, .int 0, .int 1]] 0 := ⟨ns, 0, 0, 1, rfl, by decide, by decide⟩
  obtain ⟨t2, b2, c2, d2, e2, f2, g2, h3, i2, st', g⟩ := y_loop [0, 1, 2, 3, 4, 5, 6, 7] (s0 := .val (.scr (ns.map PV.int))) (t := .no) (ba := .no) (va := .no) (to := .no) (pl := .no) (ki := .no) (du := .no) (upp := .no) (wr := .no) hd
  refine ⟨st', ?_⟩
  rw [r19]
  have e0 : p19_0 C [.val (.scr (ns.map PV.int)), .no, .no, .no, .no, .no, .no, .no, .no, .no, .no, .no] [] = .nx [.val (.scr (ns.map PV.int)), .val (.ref 0), .no, .no, .no, .no, .no, .no, .no, .no, .no, .no] [SO.lst [.lst (ns.map PV.int), .int 0, .int 0, .int 1]] := by
    simp [p19_0, draws7 98 ns [], PV.noRs, PV.noR, noRs_ints]
  have e1 : ∀ st, p19_1 C [.val (.scr (ns.map PV.int)), .val (.ref 0), .no, .no, .no, .no, .no, .no, .no, .no, .no, .no] st = .nx (Ev (.val (.scr (ns.map PV.int))) .no .no .no .no .no .no .no .no .no) st := fun st => by
    simp [p19_1, Ev, NM]
  have e3 : ∀ st ρ ρ' st', forGo (gNm 3) (p19_2b C) ([0, 1, 2, 3, 4, 5, 6, 7].map PV.int) ρ st = .nx ρ' st' → p19_2 C ρ st = .nx ρ' st' := fun st ρ ρ' st' h => by
    rw [← h]
    simp only [p19_2]
    rfl
  unfold m19
  rw [x_seq, e0, nextS_nx]
  show endOf false (sSeq (p19_1 C) _ _ _) = _
  rw [x_seq, e1, nextS_nx]
  show endOf false (sSeq (p19_2 C) _ _ _) = _
  rw [x_seq, e3 _ _ _ _ g]
  rfl
end Law

namespace Law
open PySem PySem.Spec PyProof.Rows L2 RZ
/-! ### the head (printed by gen.py) -/
theorem bnd0 {d : BK.FD} (h : ∀ (kV doc pm : Value) (an : Option Addr) (cdv ct : Value) (us : List Value), us.length = d.ps.length → bindArgs (BK.fdOf d .none kV doc pm an cdv ct) ⟨us, []⟩ = pure (d.ps.zip us)) : BK.Bnd0 d := h
theorem s0 : FnScope d0.N d0.ps (defScope d0.st) := ⟨rfl, rfl, rfl, by decide +kernel, rfl, by decide +kernel, by decide +kernel⟩
theorem b0 : BK.Bnd0 d0 := fun _ _ _ _ _ _ us hl => match us, hl with | [_], _ => rfl
theorem s1 : FnScope d1.N d1.ps (defScope d1.st) := ⟨rfl, rfl, rfl, by decide +kernel, rfl, by decide +kernel, by decide +kernel⟩
theorem b1 : BK.Bnd0 d1 := fun _ _ _ _ _ _ us hl => match us, hl with | [_, _], _ => rfl
theorem s2 : FnScope d2.N d2.ps (defScope d2.st) := ⟨rfl, rfl, rfl, by decide +kernel, rfl, by decide +kernel, by decide +kernel⟩
theorem b2 : BK.Bnd0 d2 := fun _ _ _ _ _ _ us hl => match us, hl with | [_, _, _, _], _ => rfl
theorem s3 : FnScope d3.N d3.ps (defScope d3.st) := ⟨rfl, rfl, rfl, by decide +kernel, rfl, by decide +kernel, by decide +kernel⟩
theorem b3 : BK.Bnd0 d3 := fun _ _ _ _ _ _ us hl => match us, hl with | [_, _, _], _ => rfl
theorem s4 : FnScope d4.N d4.ps (defScope d4.st) := ⟨rfl, rfl, rfl, by decide +kernel, rfl, by decide +kernel, by decide +kernel⟩
theorem b4 : BK.Bnd0 d4 := fun _ _ _ _ _ _ us hl => match us, hl with | [_, _, _, _], _ => rfl
theorem s5 : FnScope d5.N d5.ps (defScope d5.st) := ⟨rfl, rfl, rfl, by decide +kernel, rfl, by decide +kernel, by decide +kernel⟩
theorem b5 : BK.Bnd0 d5 := fun _ _ _ _ _ _ us hl => match us, hl with | [_, _, _, _], _ => rfl
theorem s6 : FnScope d6.N d6.ps (defScope d6.st) := ⟨rfl, rfl, rfl, by decide +kernel, rfl, by decide +kernel, by decide +kernel⟩
theorem b6 : BK.Bnd0 d6 := fun _ _ _ _ _ _ us hl => match us, hl with | [_], _ => rfl
theorem s7 : FnScope d7.N d7.ps (defScope d7.st) := ⟨rfl, rfl, rfl, by decide +kernel, rfl, by decide +kernel, by decide +kernel⟩
theorem b7 : BK.Bnd0 d7 := fun _ _ _ _ _ _ us hl => match us, hl with | [_, _, _, _], _ => rfl
theorem s8 : FnScope d8.N d8.ps (defScope d8.st) := ⟨rfl, rfl, rfl, by decide +kernel, rfl, by decide +kernel, by decide +kernel⟩
theorem b8 : BK.Bnd0 d8 := fun _ _ _ _ _ _ us hl => match us, hl with | [_], _ => rfl
theorem s9 : FnScope d9.N d9.ps (defScope d9.st) := ⟨rfl, rfl, rfl, by decide +kernel, rfl, by decide +kernel, by decide +kernel⟩
theorem b9 : BK.Bnd0 d9 := fun _ _ _ _ _ _ us hl => match us, hl with | [_, _], _ => rfl
theorem s10 : FnScope d10.N d10.ps (defScope d10.st) := ⟨rfl, rfl, rfl, by decide +kernel, rfl, by decide +kernel, by decide +kernel⟩
theorem b10 : BK.Bnd0 d10 := fun _ _ _ _ _ _ us hl => match us, hl with | [_, _], _ => rfl
theorem s12 : FnScope d12.N d12.ps (defScope d12.st) := ⟨rfl, rfl, rfl, by decide +kernel, rfl, by decide +kernel, by decide +kernel⟩
theorem b12 : BK.Bnd0 d12 := fun _ _ _ _ _ _ us hl => match us, hl with | [_, _], _ => rfl
theorem s13 : FnScope d13.N d13.ps (defScope d13.st) := ⟨rfl, rfl, rfl, by decide +kernel, rfl, by decide +kernel, by decide +kernel⟩
theorem b13 : BK.Bnd0 d13 := fun _ _ _ _ _ _ us hl => match us, hl with | [_, _], _ => rfl
theorem s15 : FnScope d15.N d15.ps (defScope d15.st) := ⟨rfl, rfl, rfl, by decide +kernel, rfl, by decide +kernel, by decide +kernel⟩
theorem b15 : BK.Bnd0 d15 := fun _ _ _ _ _ _ us hl => match us, hl with | [_, _, _], _ => rfl
theorem s16 : FnScope d16.N d16.ps (defScope d16.st) := ⟨rfl, rfl, rfl, by decide +kernel, rfl, by decide +kernel, by decide +kernel⟩
theorem b16 : BK.Bnd0 d16 := fun _ _ _ _ _ _ us hl => match us, hl with | [_, _], _ => rfl
theorem s18 : FnScope d18.N d18.ps (defScope d18.st) := ⟨rfl, rfl, rfl, by decide +kernel, rfl, by decide +kernel, by decide +kernel⟩
theorem b18 : BK.Bnd0 d18 := fun _ _ _ _ _ _ us hl => match us, hl with | [_, _, _, _], _ => rfl
theorem s19 : FnScope d19.N d19.ps (defScope d19.st) := ⟨rfl, rfl, rfl, by decide +kernel, rfl, by decide +kernel, by decide +kernel⟩
theorem b19 : BK.Bnd0 d19 := fun _ _ _ _ _ _ us hl => match us, hl with | [_], _ => rfl
theorem all_mk {P : Program} {w : World} {K : PySem.W.Frag} {h : Heap} {mg : Str → Option Value} {fa : Addr} (X : K.In h) (G : h.Ns mainGlobals mg) (hfa : mg "law" = some (.ref fa))
    {k_1 : Tok}
    {t1 : Addr} {td1 : Option Addr} {tn1 : Nat} {ts1 : Array (Option Value)}
    {f0 : Addr} {od0 an0 : Option Addr} {sl0 : Array (Option Value)} {oc0 kV0 dc0 pm0 cd0 ct0 : Value}
    {f1 : Addr} {od1 an1 : Option Addr} {sl1 : Array (Option Value)} {oc1 kV1 dc1 pm1 cd1 ct1 : Value}
    {f2 : Addr} {od2 an2 : Option Addr} {sl2 : Array (Option Value)} {oc2 kV2 dc2 pm2 cd2 ct2 : Value}
    {f3 : Addr} {od3 an3 : Option Addr} {sl3 : Array (Option Value)} {oc3 kV3 dc3 pm3 cd3 ct3 : Value}
    {f4 : Addr} {od4 an4 : Option Addr} {sl4 : Array (Option Value)} {oc4 kV4 dc4 pm4 cd4 ct4 : Value}
    {f5 : Addr} {od5 an5 : Option Addr} {sl5 : Array (Option Value)} {oc5 kV5 dc5 pm5 cd5 ct5 : Value}
    {f6 : Addr} {od6 an6 : Option Addr} {sl6 : Array (Option Value)} {oc6 kV6 dc6 pm6 cd6 ct6 : Value}
    {f7 : Addr} {od7 an7 : Option Addr} {sl7 : Array (Option Value)} {oc7 kV7 dc7 pm7 cd7 ct7 : Value}
    {f8 : Addr} {od8 an8 : Option Addr} {sl8 : Array (Option Value)} {oc8 kV8 dc8 pm8 cd8 ct8 : Value}
    {f9 : Addr} {od9 an9 : Option Addr} {sl9 : Array (Option Value)} {oc9 kV9 dc9 pm9 cd9 ct9 : Value}
    {f10 : Addr} {od10 an10 : Option Addr} {sl10 : Array (Option Value)} {oc10 kV10 dc10 pm10 cd10 ct10 : Value}
    {f12 : Addr} {od12 an12 : Option Addr} {sl12 : Array (Option Value)} {oc12 kV12 dc12 pm12 cd12 ct12 : Value}
    {f13 : Addr} {od13 an13 : Option Addr} {sl13 : Array (Option Value)} {oc13 kV13 dc13 pm13 cd13 ct13 : Value}
    {f15 : Addr} {od15 an15 : Option Addr} {sl15 : Array (Option Value)} {oc15 kV15 dc15 pm15 cd15 ct15 : Value}
    {f16 : Addr} {od16 an16 : Option Addr} {sl16 : Array (Option Value)} {oc16 kV16 dc16 pm16 cd16 ct16 : Value}
    {f18 : Addr} {od18 an18 : Option Addr} {sl18 : Array (Option Value)} {oc18 kV18 dc18 pm18 cd18 ct18 : Value}
    {f19 : Addr} {od19 an19 : Option Addr} {sl19 : Array (Option Value)} {oc19 kV19 dc19 pm19 cd19 ct19 : Value}
    (e0 : PySem.W.nsIn K mainGlobals "ANY" = some (some (.ref t1)))
    (a0 : PySem.W.nsIn K mainGlobals "ground_of" = some (some (.ref f0)))
    (a1 : PySem.W.nsIn K mainGlobals "alike" = some (some (.ref f1)))
    (a2 : PySem.W.nsIn K mainGlobals "cast_value" = some (some (.ref f2)))
    (a3 : PySem.W.nsIn K mainGlobals "tagged" = some (some (.ref f3)))
    (a4 : PySem.W.nsIn K mainGlobals "cast_pair" = some (some (.ref f4)))
    (a5 : PySem.W.nsIn K mainGlobals "cast_items" = some (some (.ref f5)))
    (a6 : PySem.W.nsIn K mainGlobals "shown" = some (some (.ref f6)))
    (a7 : PySem.W.nsIn K mainGlobals "cast_direct" = some (some (.ref f7)))
    (a8 : PySem.W.nsIn K mainGlobals "_law_draws" = some (some (.ref f8)))
    (a9 : PySem.W.nsIn K mainGlobals "_law_draw" = some (some (.ref f9)))
    (a10 : PySem.W.nsIn K mainGlobals "_law_same" = some (some (.ref f10)))
    (a12 : PySem.W.nsIn K mainGlobals "_law_vaguer" = some (some (.ref f12)))
    (a13 : PySem.W.nsIn K mainGlobals "_law_alike" = some (some (.ref f13)))
    (a15 : PySem.W.nsIn K mainGlobals "_law_value" = some (some (.ref f15)))
    (a16 : PySem.W.nsIn K mainGlobals "_law_plain" = some (some (.ref f16)))
    (a18 : PySem.W.nsIn K mainGlobals "_law_direct" = some (some (.ref f18)))
    (a19 : PySem.W.nsIn K mainGlobals "law" = some (some (.ref f19)))
    (l0 : K.lookup f0 = some ⟨oc0, od0, .func (BK.fdOf d0 .none kV0 dc0 pm0 an0 cd0 ct0), sl0⟩)
    (l1 : K.lookup f1 = some ⟨oc1, od1, .func (BK.fdOf d1 .none kV1 dc1 pm1 an1 cd1 ct1), sl1⟩)
    (l2 : K.lookup f2 = some ⟨oc2, od2, .func (BK.fdOf d2 .none kV2 dc2 pm2 an2 cd2 ct2), sl2⟩)
    (l3 : K.lookup f3 = some ⟨oc3, od3, .func (BK.fdOf d3 .none kV3 dc3 pm3 an3 cd3 ct3), sl3⟩)
    (l4 : K.lookup f4 = some ⟨oc4, od4, .func (BK.fdOf d4 .none kV4 dc4 pm4 an4 cd4 ct4), sl4⟩)
    (l5 : K.lookup f5 = some ⟨oc5, od5, .func (BK.fdOf d5 .none kV5 dc5 pm5 an5 cd5 ct5), sl5⟩)
    (l6 : K.lookup f6 = some ⟨oc6, od6, .func (BK.fdOf d6 .none kV6 dc6 pm6 an6 cd6 ct6), sl6⟩)
    (l7 : K.lookup f7 = some ⟨oc7, od7, .func (BK.fdOf d7 .none kV7 dc7 pm7 an7 cd7 ct7), sl7⟩)
    (l8 : K.lookup f8 = some ⟨oc8, od8, .func (BK.fdOf d8 .none kV8 dc8 pm8 an8 cd8 ct8), sl8⟩)
    (l9 : K.lookup f9 = some ⟨oc9, od9, .func (BK.fdOf d9 .none kV9 dc9 pm9 an9 cd9 ct9), sl9⟩)
    (l10 : K.lookup f10 = some ⟨oc10, od10, .func (BK.fdOf d10 .none kV10 dc10 pm10 an10 cd10 ct10), sl10⟩)
    (l12 : K.lookup f12 = some ⟨oc12, od12, .func (BK.fdOf d12 .none kV12 dc12 pm12 an12 cd12 ct12), sl12⟩)
    (l13 : K.lookup f13 = some ⟨oc13, od13, .func (BK.fdOf d13 .none kV13 dc13 pm13 an13 cd13 ct13), sl13⟩)
    (l15 : K.lookup f15 = some ⟨oc15, od15, .func (BK.fdOf d15 .none kV15 dc15 pm15 an15 cd15 ct15), sl15⟩)
    (l16 : K.lookup f16 = some ⟨oc16, od16, .func (BK.fdOf d16 .none kV16 dc16 pm16 an16 cd16 ct16), sl16⟩)
    (l18 : K.lookup f18 = some ⟨oc18, od18, .func (BK.fdOf d18 .none kV18 dc18 pm18 an18 cd18 ct18), sl18⟩)
    (l19 : K.lookup f19 = some ⟨oc19, od19, .func (BK.fdOf d19 .none kV19 dc19 pm19 an19 cd19 ct19), sl19⟩)
    (u1 : K.lookup t1 = some ⟨.type "tuple", td1, .seq #[(.str "any" k_1)] tn1, ts1⟩)
    (c0 : PySem.W.codeIn K cd0 "ground_of" = true)
    (k0 : PySem.W.keepIn K (.ref f0) = true)
    (c1 : PySem.W.codeIn K cd1 "alike" = true)
    (k1 : PySem.W.keepIn K (.ref f1) = true)
    (c2 : PySem.W.codeIn K cd2 "cast_value" = true)
    (k2 : PySem.W.keepIn K (.ref f2) = true)
    (c3 : PySem.W.codeIn K cd3 "tagged" = true)
    (k3 : PySem.W.keepIn K (.ref f3) = true)
    (c4 : PySem.W.codeIn K cd4 "cast_pair" = true)
    (k4 : PySem.W.keepIn K (.ref f4) = true)
    (c5 : PySem.W.codeIn K cd5 "cast_items" = true)
    (k5 : PySem.W.keepIn K (.ref f5) = true)
    (c6 : PySem.W.codeIn K cd6 "shown" = true)
    (k6 : PySem.W.keepIn K (.ref f6) = true)
    (c7 : PySem.W.codeIn K cd7 "cast_direct" = true)
    (k7 : PySem.W.keepIn K (.ref f7) = true)
    (c8 : PySem.W.codeIn K cd8 "_law_draws" = true)
    (k8 : PySem.W.keepIn K (.ref f8) = true)
    (c9 : PySem.W.codeIn K cd9 "_law_draw" = true)
    (k9 : PySem.W.keepIn K (.ref f9) = true)
    (c10 : PySem.W.codeIn K cd10 "_law_same" = true)
    (k10 : PySem.W.keepIn K (.ref f10) = true)
    (c12 : PySem.W.codeIn K cd12 "_law_vaguer" = true)
    (k12 : PySem.W.keepIn K (.ref f12) = true)
    (c13 : PySem.W.codeIn K cd13 "_law_alike" = true)
    (k13 : PySem.W.keepIn K (.ref f13) = true)
    (c15 : PySem.W.codeIn K cd15 "_law_value" = true)
    (k15 : PySem.W.keepIn K (.ref f15) = true)
    (c16 : PySem.W.codeIn K cd16 "_law_plain" = true)
    (k16 : PySem.W.keepIn K (.ref f16) = true)
    (c18 : PySem.W.codeIn K cd18 "_law_direct" = true)
    (k18 : PySem.W.keepIn K (.ref f18) = true)
    (c19 : PySem.W.codeIn K cd19 "law" = true)
    (k19 : PySem.W.keepIn K (.ref f19) = true)
    (z0 : PySem.W.nsIn K mainGlobals "len" = some none)
    (z1 : PySem.W.nsIn K mainGlobals "range" = some none)
    (z2 : PySem.W.nsIn K mainGlobals "list" = some none)
    (z3 : PySem.W.nsIn K mainGlobals "tuple" = some none)
    (z4 : PySem.W.nsIn K mainGlobals "int" = some none)
    (z5 : PySem.W.nsIn K mainGlobals "zip" = some none)
    (z6 : PySem.W.nsIn K mainGlobals "all" = some none)
    (z7 : PySem.W.nsIn K mainGlobals "isinstance" = some none)
    (z8 : PySem.W.nsIn K mainGlobals "str" = some none)
    (z9 : PySem.W.nsIn K mainGlobals "bool" = some none)
    : ∃ fd : FuncData, (∀ (s : Shared) (u : Value), BindsTo s fd ⟨[u], []⟩ [("script", u)]) ∧ ∀ base : Heap, K.In base → base.Ns mainGlobals mg → FnOk P w K mg base (L2.CX P w) 100 fa fd ["script"] (BK.spOf K) := by
  let fn : Nat → Addr := fun k => match k with
    | 0 => f0
    | 1 => f1
    | 2 => f2
    | 3 => f3
    | 4 => f4
    | 5 => f5
    | 6 => f6
    | 7 => f7
    | 8 => f8
    | 9 => f9
    | 10 => f10
    | 11 => f19
    | 12 => f12
    | 13 => f13
    | 14 => f19
    | 15 => f15
    | 16 => f16
    | 17 => f19
    | 18 => f18
    | _ => f19
  let fd : Nat → FuncData := fun k => match k with
    | 0 => BK.fdOf d0 .none kV0 dc0 pm0 an0 cd0 ct0
    | 1 => BK.fdOf d1 .none kV1 dc1 pm1 an1 cd1 ct1
    | 2 => BK.fdOf d2 .none kV2 dc2 pm2 an2 cd2 ct2
    | 3 => BK.fdOf d3 .none kV3 dc3 pm3 an3 cd3 ct3
    | 4 => BK.fdOf d4 .none kV4 dc4 pm4 an4 cd4 ct4
    | 5 => BK.fdOf d5 .none kV5 dc5 pm5 an5 cd5 ct5
    | 6 => BK.fdOf d6 .none kV6 dc6 pm6 an6 cd6 ct6
    | 7 => BK.fdOf d7 .none kV7 dc7 pm7 an7 cd7 ct7
    | 8 => BK.fdOf d8 .none kV8 dc8 pm8 an8 cd8 ct8
    | 9 => BK.fdOf d9 .none kV9 dc9 pm9 an9 cd9 ct9
    | 10 => BK.fdOf d10 .none kV10 dc10 pm10 an10 cd10 ct10
    | 11 => BK.fdOf d19 .none kV19 dc19 pm19 an19 cd19 ct19
    | 12 => BK.fdOf d12 .none kV12 dc12 pm12 an12 cd12 ct12
    | 13 => BK.fdOf d13 .none kV13 dc13 pm13 an13 cd13 ct13
    | 14 => BK.fdOf d19 .none kV19 dc19 pm19 an19 cd19 ct19
    | 15 => BK.fdOf d15 .none kV15 dc15 pm15 an15 cd15 ct15
    | 16 => BK.fdOf d16 .none kV16 dc16 pm16 an16 cd16 ct16
    | 17 => BK.fdOf d19 .none kV19 dc19 pm19 an19 cd19 ct19
    | 18 => BK.fdOf d18 .none kV18 dc18 pm18 an18 cd18 ct18
    | _ => BK.fdOf d19 .none kV19 dc19 pm19 an19 cd19 ct19
  have A : BK.TabAt ⟨K, fun k => some (fn k), fun _ => none⟩ mg tab fn fd := by
    refine ⟨fun k d hk => ?_, ?_, ?_⟩
    · match k, hk with
      | 0, hk => cases hk; exact BK.fnAt_mk (PySem.W.mg_of X G a0) l0 c0 k0 s0 (by decide +kernel) rfl b0
      | 1, hk => cases hk; exact BK.fnAt_mk (PySem.W.mg_of X G a1) l1 c1 k1 s1 (by decide +kernel) rfl b1
      | 2, hk => cases hk; exact BK.fnAt_mk (PySem.W.mg_of X G a2) l2 c2 k2 s2 (by decide +kernel) rfl b2
      | 3, hk => cases hk; exact BK.fnAt_mk (PySem.W.mg_of X G a3) l3 c3 k3 s3 (by decide +kernel) rfl b3
      | 4, hk => cases hk; exact BK.fnAt_mk (PySem.W.mg_of X G a4) l4 c4 k4 s4 (by decide +kernel) rfl b4
      | 5, hk => cases hk; exact BK.fnAt_mk (PySem.W.mg_of X G a5) l5 c5 k5 s5 (by decide +kernel) rfl b5
      | 6, hk => cases hk; exact BK.fnAt_mk (PySem.W.mg_of X G a6) l6 c6 k6 s6 (by decide +kernel) rfl b6
      | 7, hk => cases hk; exact BK.fnAt_mk (PySem.W.mg_of X G a7) l7 c7 k7 s7 (by decide +kernel) rfl b7
      | 8, hk => cases hk; exact BK.fnAt_mk (PySem.W.mg_of X G a8) l8 c8 k8 s8 (by decide +kernel) rfl b8
      | 9, hk => cases hk; exact BK.fnAt_mk (PySem.W.mg_of X G a9) l9 c9 k9 s9 (by decide +kernel) rfl b9
      | 10, hk => cases hk; exact BK.fnAt_mk (PySem.W.mg_of X G a10) l10 c10 k10 s10 (by decide +kernel) rfl b10
      | 11, hk => cases hk; exact BK.fnAt_mk (PySem.W.mg_of X G a19) l19 c19 k19 s19 (by decide +kernel) rfl b19
      | 12, hk => cases hk; exact BK.fnAt_mk (PySem.W.mg_of X G a12) l12 c12 k12 s12 (by decide +kernel) rfl b12
      | 13, hk => cases hk; exact BK.fnAt_mk (PySem.W.mg_of X G a13) l13 c13 k13 s13 (by decide +kernel) rfl b13
      | 14, hk => cases hk; exact BK.fnAt_mk (PySem.W.mg_of X G a19) l19 c19 k19 s19 (by decide +kernel) rfl b19
      | 15, hk => cases hk; exact BK.fnAt_mk (PySem.W.mg_of X G a15) l15 c15 k15 s15 (by decide +kernel) rfl b15
      | 16, hk => cases hk; exact BK.fnAt_mk (PySem.W.mg_of X G a16) l16 c16 k16 s16 (by decide +kernel) rfl b16
      | 17, hk => cases hk; exact BK.fnAt_mk (PySem.W.mg_of X G a19) l19 c19 k19 s19 (by decide +kernel) rfl b19
      | 18, hk => cases hk; exact BK.fnAt_mk (PySem.W.mg_of X G a18) l18 c18 k18 s18 (by decide +kernel) rfl b18
      | 19, hk => cases hk; exact BK.fnAt_mk (PySem.W.mg_of X G a19) l19 c19 k19 s19 (by decide +kernel) rfl b19
      | k + 20, hk => simp [tab] at hk
    · intro p hp
      simp only [tab, List.mem_cons, List.not_mem_nil, or_false] at hp
      rcases hp with rfl
      · exact ⟨_, .ref t1, PySem.W.mg_of X G e0, rfl, fun F μ => (.tup (vs := [.str "any"]) (.inr ⟨_, _, _, u1, rfl, rfl, by show 1 ≤ sizeLine; decide, (.cons ⟨_, rfl⟩ .nil)⟩) (by show 1 ≤ sizeLine; decide) (.cons (.str _ (by decide +kernel) (by decide +kernel)) .nil))⟩
    · intro x hx
      simp only [tab, List.mem_cons, List.not_mem_nil, or_false] at hx
      rcases hx with rfl | rfl | rfl | rfl | rfl | rfl | rfl | rfl | rfl | rfl
      · exact PySem.W.mg_none_of X G z0
      · exact PySem.W.mg_none_of X G z1
      · exact PySem.W.mg_none_of X G z2
      · exact PySem.W.mg_none_of X G z3
      · exact PySem.W.mg_none_of X G z4
      · exact PySem.W.mg_none_of X G z5
      · exact PySem.W.mg_none_of X G z6
      · exact PySem.W.mg_none_of X G z7
      · exact PySem.W.mg_none_of X G z8
      · exact PySem.W.mg_none_of X G z9
  exact BK.law_end (d := d19) (k := 19) (n := 100) hfa A rfl rfl rfl rfl rfl rfl (fun s v => .of_eq rfl) lawTrue
end Law
open PySem PySem.W PyProof.Rows
set_option maxRecDepth 100000 in
set_option pp.maxSteps 300 in
set_option maxHeartbeats 0 in
theorem PySem.Challenge.cw_blamekeep_k46_whole_direct_casts_holds : PySem.Challenge.rw_blamekeep_k46_whole_direct_casts.Holds := by
  w_on; o_law; k_head; (case hw => w_witness2)
  k_fill
  refine BK.walkT (l := PySem.Challenge.rw_blamekeep_k46_whole_direct_casts) (level := 100) rfl rfl ⟨rfl, by decide, by decide⟩ (fun w h Y => PySem.W.kIn_of Y) ?F
  case F =>
    intro w mg fa h KX G hmg
    refine' Law.all_mk KX G hmg ?e0 ?a0 ?a1 ?a2 ?a3 ?a4 ?a5 ?a6 ?a7 ?a8 ?a9 ?a10 ?a12 ?a13 ?a15 ?a16 ?a18 ?a19 ?l0 ?l1 ?l2 ?l3 ?l4 ?l5 ?l6 ?l7 ?l8 ?l9 ?l10 ?l12 ?l13 ?l15 ?l16 ?l18 ?l19 ?u1 ?c0 ?k0 ?c1 ?k1 ?c2 ?k2 ?c3 ?k3 ?c4 ?k4 ?c5 ?k5 ?c6 ?k6 ?c7 ?k7 ?c8 ?k8 ?c9 ?k9 ?c10 ?k10 ?c12 ?k12 ?c13 ?k13 ?c15 ?k15 ?c16 ?k16 ?c18 ?k18 ?c19 ?k19 ?z0 ?z1 ?z2 ?z3 ?z4 ?z5 ?z6 ?z7 ?z8 ?z9
    (case e0 => k_is)
    (case a0 => k_is)
    (case a1 => k_is)
    (case a2 => k_is)
    (case a3 => k_is)
    (case a4 => k_is)
    (case a5 => k_is)
    (case a6 => k_is)
    (case a7 => k_is)
    (case a8 => k_is)
    (case a9 => k_is)
    (case a10 => k_is)
    (case a12 => k_is)
    (case a13 => k_is)
    (case a15 => k_is)
    (case a16 => k_is)
    (case a18 => k_is)
    (case a19 => k_is)
    (case l0 => k_is)
    (case l1 => k_is)
    (case l2 => k_is)
    (case l3 => k_is)
    (case l4 => k_is)
    (case l5 => k_is)
    (case l6 => k_is)
    (case l7 => k_is)
    (case l8 => k_is)
    (case l9 => k_is)
    (case l10 => k_is)
    (case l12 => k_is)
    (case l13 => k_is)
    (case l15 => k_is)
    (case l16 => k_is)
    (case l18 => k_is)
    (case l19 => k_is)
    (case u1 => k_is)
    (case c0 => k_is)
    (case k0 => k_is)
    (case c1 => k_is)
    (case k1 => k_is)
    (case c2 => k_is)
    (case k2 => k_is)
    (case c3 => k_is)
    (case k3 => k_is)
    (case c4 => k_is)
    (case k4 => k_is)
    (case c5 => k_is)
    (case k5 => k_is)
    (case c6 => k_is)
    (case k6 => k_is)
    (case c7 => k_is)
    (case k7 => k_is)
    (case c8 => k_is)
    (case k8 => k_is)
    (case c9 => k_is)
    (case k9 => k_is)
    (case c10 => k_is)
    (case k10 => k_is)
    (case c12 => k_is)
    (case k12 => k_is)
    (case c13 => k_is)
    (case k13 => k_is)
    (case c15 => k_is)
    (case k15 => k_is)
    (case c16 => k_is)
    (case k16 => k_is)
    (case c18 => k_is)
    (case k18 => k_is)
    (case c19 => k_is)
    (case k19 => k_is)
    (case z0 => k_is)
    (case z1 => k_is)
    (case z2 => k_is)
    (case z3 => k_is)
    (case z4 => k_is)
    (case z5 => k_is)
    (case z6 => k_is)
    (case z7 => k_is)
    (case z8 => k_is)
    (case z9 => k_is)
