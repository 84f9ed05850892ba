import PyProof.Rows.All
import Wide.All
import OpenK.AllK
import Wide.FinOn
import HandS.ForExc
import HandS.Comp
import HandS.Iter
import HandS.TupAny
import HandS.TupMul
import HandS.Zip
import HandS.IsInst
import HandS.Defaults
import HandS.Deep
import HandS.Text
import HandS.Style
import HandS.Wide
import HandS.WideMore
import HandS.WideBits
import PyProof.ListMulRoad
import PyProof.FactsAll.tuple_2
import KE.GoesNew
import KE.GoesMore
import HandS.More
import HandS.DictComp
import HandS.WordsDict
import HandS.ExcInit
import HandS.ExcField
import HandS.Small
import KE.KExcIs
import PySem.Challenge.RW_blamekeep_k59_whole_contracts_and_casts
set_option Elab.async false
set_option linter.all false
set_option maxRecDepth 100000
set_option maxHeartbeats 4000000
/-! BkA: plain values, how they lie in the abstract heap, worlds -/
namespace BK
open PySem PySem.Spec PyProof.Rows L2

/-- values as plain data; ref n: the n-th store object; fn k: the k-th def -/
inductive PV where
  | non
  | bl (b : Bool)
  | int (i : Int)
  | str (x : Str)
  | tup (xs : List PV)
  | lst (xs : List PV)
  | dct (ks : List PV) (vs : List PV)
  | fn (k : Nat)
  | ref (n : Nat)
  /-- the script's own list: read only -/
  | scr (xs : List PV)
  /-- a built-in type; a class of the program -/
  | ty (n : String)
  | cls (k : Nat)
  /-- a written dict of the module's top -/
  | kct (ks : List PV) (vs : List PV)
deriving Inhabited
/-- where the defs and the written dicts lie -/
structure Fx where
  fn : Nat → Option Addr
  kd : Addr → List PV → List PV → Prop
  /-- where the classes of instances lie -/
  oc : Nat → Option Addr
/-- a key's plain value -/
def kP : Key → PV
  | .inl i => .int i
  | .inr x => .str x

mutual
/-- how deep lists and tuples stand -/
def PV.depth : PV → Nat
  | .tup xs => PV.depths xs + 1
  | .lst xs => PV.depths xs + 1
  | _ => 0
def PV.depths : List PV → Nat
  | [] => 0
  | x :: xs => max (PV.depth x) (PV.depths xs)
end
mutual
/-- numbers, truths, texts, None, and lists and tuples of these -/
def PV.plain : PV → Bool
  | .non => true
  | .bl _ => true
  | .int _ => true
  | .str _ => true
  | .tup xs => PV.plains xs
  | .lst xs => PV.plains xs
  | .dct _ _ => false
  | .fn _ => false
  | .ref _ => false
  | .scr _ => false
  | .ty _ => false
  | .cls _ => false
  | .kct _ _ => false
def PV.plains : List PV → Bool
  | [] => true
  | x :: xs => PV.plain x && PV.plains xs
end
mutual
/-- no list, dict or store object in it -/
def PV.noL : PV → Bool
  | .tup xs => PV.noLs xs
  | .lst _ => false
  | .dct _ _ => false
  | .ref _ => false
  | .scr _ => false
  | _ => true
def PV.noLs : List PV → Bool
  | [] => true
  | x :: xs => PV.noL x && PV.noLs xs
end
mutual
/-- no store object in it -/
def PV.noR : PV → Bool
  | .tup xs => PV.noRs xs
  | .lst xs => PV.noRs xs
  | .dct ks vs => PV.noRs ks && PV.noRs vs
  | .ref _ => false
  | .scr xs => PV.noRs xs
  | _ => true
def PV.noRs : List PV → Bool
  | [] => true
  | x :: xs => PV.noR x && PV.noRs xs
end
mutual
def PV.eqv : PV → PV → Bool
  | .non, .non => true
  | .bl a, .bl b => a == b
  | .bl a, .int j => (if a then 1 else 0) == j
  | .int i, .bl b => i == (if b then 1 else 0)
  | .int i, .int j => i == j
  | .str x, .str y => x == y
  | .tup xs, .tup ys => PV.eqvs xs ys
  | .lst xs, .lst ys => PV.eqvs xs ys
  | _, _ => false
def PV.eqvs : List PV → List PV → Bool
  | [], [] => true
  | x :: xs, y :: ys => PV.eqv x y && PV.eqvs xs ys
  | _, _ => false
end
mutual
def PV.toD : PV → PyData
  | .non => .none
  | .bl b => .bool b
  | .int i => .int i
  | .str x => .str x
  | .tup xs => .tuple (PV.toDs xs)
  | .lst xs => .list (PV.toDs xs)
  | _ => .none
def PV.toDs : List PV → List PyData
  | [] => []
  | x :: xs => PV.toD x :: PV.toDs xs
end
theorem toDs_map : ∀ xs : List PV, PV.toDs xs = xs.map PV.toD
  | [] => rfl
  | x :: xs => by simp only [PV.toDs, List.map_cons, toDs_map xs]
mutual
theorem toD_depth : ∀ x : PV, (PV.toD x).depth = PV.depth x
  | .non | .bl _ | .int _ | .str _ | .dct _ _ | .fn _ | .ref _ | .scr _ | .ty _ | .cls _ | .kct _ _ => by simp only [PV.toD, PyData.depth, PV.depth]
  | .tup xs => by simp only [PV.toD, PyData.depth, PV.depth, toDs_depth xs]
  | .lst xs => by simp only [PV.toD, PyData.depth, PV.depth, toDs_depth xs]
theorem toDs_depth : ∀ xs : List PV, PyData.depthAll (PV.toDs xs) = PV.depths xs
  | [] => by simp only [PV.toDs, PyData.depthAll, PV.depths]
  | x :: xs => by simp only [PV.toDs, PyData.depthAll, PV.depths, toD_depth x, toDs_depth xs]
end
mutual
theorem toD_eqv : ∀ x y : PV, PV.plain x = true → PV.plain y = true → PyData.eqv (PV.toD x) (PV.toD y) = PV.eqv x y
  | .tup xs, .tup ys, h, k => by
    simp only [PV.plain] at h k
    simp only [PV.toD, PyData.eqv, PV.eqv, toDs_eqv xs ys h k]
  | .lst xs, .lst ys, h, k => by
    simp only [PV.plain] at h k
    simp only [PV.toD, PyData.eqv, PV.eqv, toDs_eqv xs ys h k]
  | x, y, h, k => by
    cases x <;> cases y <;> first | (simp [PV.plain] at h; done) | (simp [PV.plain] at k; done) | (simp only [PV.toD, PyData.eqv, PV.eqv]; done) | skip
    · rename_i xs ys
      simp only [PV.plain] at h k
      simp only [PV.toD, PyData.eqv, PV.eqv, toDs_eqv xs ys h k]
    · rename_i xs ys
      simp only [PV.plain] at h k
      simp only [PV.toD, PyData.eqv, PV.eqv, toDs_eqv xs ys h k]
theorem toDs_eqv : ∀ xs ys : List PV, PV.plains xs = true → PV.plains ys = true → PyData.eqvAll (PV.toDs xs) (PV.toDs ys) = PV.eqvs xs ys
  | [], [], _, _ => by simp only [PV.toDs, PyData.eqvAll, PV.eqvs]
  | [], _ :: _, _, _ => by simp only [PV.toDs, PyData.eqvAll, PV.eqvs]
  | _ :: _, [], _, _ => by simp only [PV.toDs, PyData.eqvAll, PV.eqvs]
  | x :: xs, y :: ys, h, k => by
    simp only [PV.plains, Bool.and_eq_true] at h k
    simp only [PV.toDs, PyData.eqvAll, PV.eqvs, toD_eqv x y h.1 k.1, toDs_eqv xs ys h.2 k.2]
end

/-! ### how values lie -/
mutual
inductive Rep (K : PySem.W.Frag) (fa : Fx) (F : Hp) (μ : List Addr) : V → PV → Prop
  | non : Rep K fa F μ .non .non
  | bl (b : Bool) : Rep K fa F μ (.bl b) (.bl b)
  | int (i : Int) : Rep K fa F μ (.int i) (.int i)
  | str (x : Str) (h : PyData.strOk x = true) (hl : x.length ≤ sizeLine) : Rep K fa F μ (.str x) (.str x)
  | tup {a : Addr} {vs : List V} {xs : List PV} (h : SqT K F a vs) (hl : vs.length ≤ sizeLine) (r : Reps K fa F μ vs xs) : Rep K fa F μ (.ref a) (.tup xs)
  | lst {a : Addr} {vs : List V} {xs : List PV} (h : F a = some (HO.lst vs)) (hl : vs.length ≤ sizeLine) (r : Reps K fa F μ vs xs) : Rep K fa F μ (.ref a) (.lst xs)
  | ty (n : String) : Rep K fa F μ (.ty n) (.ty n)
  | scr {a : Addr} {vs : List V} {xs : List PV} (h : SqL K F a vs) (hl : vs.length ≤ sizeLine) (r : Reps K fa F μ vs xs) : Rep K fa F μ (.ref a) (.scr xs)
  | fn {k : Nat} {a : Addr} (h : fa.fn k = some a) : Rep K fa F μ (.ref a) (.fn k)
  | ref {n : Nat} {a : Addr} (h : μ[n]? = some a) : Rep K fa F μ (.ref a) (.ref n)
  | dct {a : Addr} {kvs : List (Key × V)} {ks vs : List PV} (h : F a = some (HO.dK kvs)) (hl : kvs.length ≤ sizeLine) (rk : Reps K fa F μ (kvs.map fun p => kV p.1) ks) (rv : Reps K fa F μ (kvs.map fun p => p.2) vs) : Rep K fa F μ (.ref a) (.dct ks vs)
  | kct {a : Addr} {ks vs : List PV} (h : fa.kd a ks vs) : Rep K fa F μ (.ref a) (.kct ks vs)
inductive Reps (K : PySem.W.Frag) (fa : Fx) (F : Hp) (μ : List Addr) : List V → List PV → Prop
  | nil : Reps K fa F μ [] []
  | cons {v : V} {x : PV} {vs : List V} {xs : List PV} (h : Rep K fa F μ v x) (t : Reps K fa F μ vs xs) : Reps K fa F μ (v :: vs) (x :: xs)
end
theorem sqT_same {K : PySem.W.Frag} {H H' : Hp} {a : Addr} {xs : List V} (e : Same H H') (h : SqT K H a xs) : SqT K H' a xs := by
  rcases h with (h | ⟨o, h⟩) | h
  · exact .inl (.inl (e _ _ h))
  · exact .inl (.inr ⟨o, e _ _ h⟩)
  · exact .inr h
section
variable {K : PySem.W.Frag} {fa : Fx} {F F' : Hp} {μ μ' : List Addr}
mutual
theorem Rep.mono (e : Same F F') (m : ∃ t, μ' = μ ++ t) : ∀ (x : PV) (v : V), Rep K fa F μ v x → Rep K fa F' μ' v x
  | .non, _, h => by cases h; exact .non
  | .bl _, _, h => by cases h; exact .bl _
  | .int _, _, h => by cases h; exact .int _
  | .str _, _, h => by cases h with | str _ h hl => exact .str _ h hl
  | .tup xs, _, h => by cases h with | tup h hl r => exact .tup (sqT_same e h) hl (Reps.mono e m xs _ r)
  | .lst xs, _, h => by cases h with | lst h hl r => exact .lst (e _ _ h) hl (Reps.mono e m xs _ r)
  | .scr xs, _, h => by cases h with | scr h hl r => exact .scr (e.seq h) hl (Reps.mono e m xs _ r)
  | .dct ks vs, _, h => by cases h with | dct h hl rk rv => exact .dct (e _ _ h) hl (Reps.mono e m ks _ rk) (Reps.mono e m vs _ rv)
  | .kct _ _, _, h => by cases h with | kct h => exact .kct h
  | .fn _, _, h => by cases h with | fn h => exact .fn h
  | .ty _, _, h => by cases h; exact .ty _
  | .cls _, _, h => by cases h
  | .ref n, _, h => by
    cases h with
    | ref h =>
      obtain ⟨t, rfl⟩ := m
      refine .ref ?_
      rw [List.getElem?_append_left (List.getElem?_eq_some_iff.mp h).1]
      exact h
theorem Reps.mono (e : Same F F') (m : ∃ t, μ' = μ ++ t) : ∀ (xs : List PV) (vs : List V), Reps K fa F μ vs xs → Reps K fa F' μ' vs xs
  | [], _, h => by cases h; exact .nil
  | x :: xs, _, h => by cases h with | cons h t => exact .cons (Rep.mono e m x _ h) (Reps.mono e m xs _ t)
end
theorem Reps.length : ∀ {vs : List V} {xs : List PV}, Reps K fa F μ vs xs → vs.length = xs.length
  | _, _, .nil => rfl
  | _, _, .cons _ t => by simp only [List.length_cons, Reps.length t]
theorem Reps.get : ∀ {vs : List V} {xs : List PV} {i : Nat} {x : PV}, Reps K fa F μ vs xs → xs[i]? = some x → ∃ v, vs[i]? = some v ∧ Rep K fa F μ v x
  | _, _, _, _, .nil, e => by simp at e
  | _, _, 0, _, .cons h _, e => by simp at e; subst e; exact ⟨_, rfl, h⟩
  | _, _, i + 1, x, .cons _ t, e => by
    obtain ⟨v, h1, h2⟩ := Reps.get (i := i) (x := x) t (by simpa using e)
    exact ⟨v, by simpa using h1, h2⟩
theorem Reps.get' : ∀ {vs : List V} {xs : List PV} {i : Nat} {v : V}, Reps K fa F μ vs xs → vs[i]? = some v → ∃ x, xs[i]? = some x ∧ Rep K fa F μ v x
  | _, _, _, _, .nil, e => by simp at e
  | _, _, 0, _, .cons h _, e => by simp at e; subst e; exact ⟨_, rfl, h⟩
  | _, _, i + 1, v, .cons _ t, e => by
    obtain ⟨x, h1, h2⟩ := Reps.get' (i := i) (v := v) t (by simpa using e)
    exact ⟨x, by simpa using h1, h2⟩
theorem Reps.append : ∀ {vs ws : List V} {xs ys : List PV}, Reps K fa F μ vs xs → Reps K fa F μ ws ys → Reps K fa F μ (vs ++ ws) (xs ++ ys)
  | _, _, _, _, .nil, h => h
  | _, _, _, _, .cons h t, k => .cons h (Reps.append t k)
theorem Reps.take : ∀ {vs : List V} {xs : List PV} (n : Nat), Reps K fa F μ vs xs → Reps K fa F μ (vs.take n) (xs.take n)
  | _, _, 0, _ => .nil
  | _, _, _ + 1, .nil => .nil
  | _, _, n + 1, .cons h t => .cons h (Reps.take n t)
theorem Reps.drop : ∀ {vs : List V} {xs : List PV} (n : Nat), Reps K fa F μ vs xs → Reps K fa F μ (vs.drop n) (xs.drop n)
  | _, _, 0, h => h
  | _, _, _ + 1, .nil => .nil
  | _, _, n + 1, .cons _ t => Reps.drop n t
theorem Reps.set : ∀ {vs : List V} {xs : List PV} (n : Nat) {v : V} {x : PV}, Reps K fa F μ vs xs → Rep K fa F μ v x → Reps K fa F μ (vs.set n v) (xs.set n x)
  | _, _, _, _, _, .nil, _ => .nil
  | _, _, 0, _, _, .cons _ t, h => .cons h t
  | _, _, n + 1, _, _, .cons h t, k => .cons h (Reps.set n t k)
theorem Reps.dropLast {vs : List V} {xs : List PV} (h : Reps K fa F μ vs xs) : Reps K fa F μ vs.dropLast xs.dropLast := by
  rw [List.dropLast_eq_take, List.dropLast_eq_take, h.length]
  exact h.take _
theorem Reps.rep {vs : List V} {xs : List PV} (h : Reps K fa F μ vs xs) : ∀ n : Nat, Reps K fa F μ (List.replicate n vs).flatten (List.replicate n xs).flatten
  | 0 => .nil
  | n + 1 => by
    rw [List.replicate_succ, List.replicate_succ, List.flatten_cons, List.flatten_cons]
    exact h.append (Reps.rep h n)
mutual
/-- for the library's equality -/
theorem Rep.dp {H : Hp} (e : Same F H) : ∀ (x : PV) (v : V), PV.plain x = true → Rep K fa F μ v x → Dp K H v (PV.toD x) ∧ (PV.toD x).canLay0 = true
  | .non, _, _, h => by cases h; exact ⟨.non, by simp only [PV.toD, PyData.canLay0]⟩
  | .bl _, _, _, h => by cases h; exact ⟨.bl _, by simp only [PV.toD, PyData.canLay0]⟩
  | .int _, _, _, h => by cases h; exact ⟨.int _, by simp only [PV.toD, PyData.canLay0]⟩
  | .str _, _, _, h => by cases h with | str _ h hl => exact ⟨.str _, by simp only [PV.toD, PyData.canLay0, h]⟩
  | .tup xs, _, p, h => by
    cases h with
    | tup h hl r =>
      simp only [PV.plain] at p
      obtain ⟨q1, q2⟩ := Reps.dp e xs _ p r
      exact ⟨.tup (sqT_same e h) q1, by simp only [PV.toD, PyData.canLay0, q2]⟩
  | .lst xs, _, p, h => by
    cases h with
    | lst h hl r =>
      simp only [PV.plain] at p
      obtain ⟨q1, q2⟩ := Reps.dp e xs _ p r
      exact ⟨.lst (SqL.of (e _ _ h)) q1, by simp only [PV.toD, PyData.canLay0, q2]⟩
  | .dct _ _, _, p, _ => by simp [PV.plain] at p
  | .fn _, _, p, _ => by simp [PV.plain] at p
  | .ref _, _, p, _ => by simp [PV.plain] at p
  | .scr _, _, p, _ => by simp [PV.plain] at p
  | .ty _, _, p, _ => by simp [PV.plain] at p
  | .cls _, _, p, _ => by simp [PV.plain] at p
  | .kct _ _, _, p, _ => by simp [PV.plain] at p
theorem Reps.dp {H : Hp} (e : Same F H) : ∀ (xs : List PV) (vs : List V), PV.plains xs = true → Reps K fa F μ vs xs → DpAll K H vs (PV.toDs xs) ∧ PyData.canLayAll0 (PV.toDs xs) = true
  | [], _, _, h => by cases h; exact ⟨.nil, by simp only [PV.toDs, PyData.canLayAll0]⟩
  | x :: xs, _, p, h => by
    cases h with
    | cons h t =>
      simp only [PV.plains, Bool.and_eq_true] at p
      obtain ⟨q1, q2⟩ := Rep.dp e x _ p.1 h
      obtain ⟨q3, q4⟩ := Reps.dp e xs _ p.2 t
      exact ⟨.cons q1 q3, by simp only [PV.toDs, PyData.canLayAll0, q2, q4, Bool.and_self]⟩
end
end

/-! ### worlds -/
/-- store objects -/
inductive SO where
  | lst (xs : List PV)
  | dct (ks vs : List PV)
  | obj (c : Nat) (fs : List (Str × PV))
deriving Inhabited
abbrev Sto := List SO
/-- how they lie -/
def SRep (K : PySem.W.Frag) (fa : Fx) (F : Hp) (μ : List Addr) : SO → HO → Prop
  | .lst xs, .lst vs => vs.length ≤ sizeLine ∧ Reps K fa F μ vs xs
  | .dct ks ws, .dK kvs => kvs.length ≤ sizeLine ∧ Reps K fa F μ (kvs.map fun p => kV p.1) ks ∧ Reps K fa F μ (kvs.map fun p => p.2) ws
  | .obj c fs, .ins C _ us => fa.oc c = some C ∧ us.map (·.1) = fs.map (·.1) ∧ us.length ≤ 900 ∧ Reps K fa F μ (us.map (·.2)) (fs.map (·.2))
  | _, _ => False
theorem SRep.mono {K : PySem.W.Frag} {fa : Fx} {F F' : Hp} {μ μ' : List Addr} (e : Same F F') (m : ∃ t, μ' = μ ++ t) {s : SO} {o : HO} (h : SRep K fa F μ s o) : SRep K fa F' μ' s o := by
  cases s <;> cases o <;> first | exact h.elim | skip
  · exact ⟨h.1, Reps.mono e m _ _ h.2⟩
  · exact ⟨h.1, Reps.mono e m _ _ h.2.1, Reps.mono e m _ _ h.2.2⟩
  · exact ⟨h.1, h.2.1, h.2.2.1, Reps.mono e m _ _ h.2.2.2⟩
theorem SRep.lst {K : PySem.W.Frag} {fa : Fx} {F : Hp} {μ : List Addr} {xs : List PV} {o : HO} (h : SRep K fa F μ (.lst xs) o) : ∃ vs, o = .lst vs ∧ vs.length ≤ sizeLine ∧ Reps K fa F μ vs xs := by
  cases o <;> first | exact h.elim | exact ⟨_, rfl, h⟩
theorem SRep.dct {K : PySem.W.Frag} {fa : Fx} {F : Hp} {μ : List Addr} {ks ws : List PV} {o : HO} (h : SRep K fa F μ (.dct ks ws) o) : ∃ kvs, o = .dK kvs ∧ kvs.length ≤ sizeLine ∧ Reps K fa F μ (kvs.map fun p => kV p.1) ks ∧ Reps K fa F μ (kvs.map fun p => p.2) ws := by
  cases o <;> first | exact h.elim | exact ⟨_, rfl, h⟩
theorem SRep.obj {K : PySem.W.Frag} {fa : Fx} {F : Hp} {μ : List Addr} {c : Nat} {fs : List (Str × PV)} {o : HO} (h : SRep K fa F μ (.obj c fs) o) : ∃ C dx us, o = .ins C dx us ∧ fa.oc c = some C ∧ us.map (·.1) = fs.map (·.1) ∧ us.length ≤ 900 ∧ Reps K fa F μ (us.map (·.2)) (fs.map (·.2)) := by
  cases o <;> first | exact h.elim | exact ⟨_, _, _, rfl, h⟩
/-- F: what is frozen; μ: where the store objects lie; H: all that is tracked -/
structure Wok (K : PySem.W.Frag) (fa : Fx) (F : Hp) (μ : List Addr) (H : Hp) (st : Sto) : Prop where
  sub : Same F H
  len : μ.length = st.length
  nd : μ.Nodup
  off : ∀ a ∈ μ, F a = none
  obj : ∀ (n : Nat) (a : Addr), μ[n]? = some a → ∃ (s : SO) (o : HO), st[n]? = some s ∧ H a = some o ∧ SRep K fa F μ s o
structure Ext (F : Hp) (μ : List Addr) (H F' : Hp) (μ' : List Addr) (H' : Hp) : Prop where
  fs : Same F F'
  ms : ∃ t, μ' = μ ++ t
  hs : ∀ a o, H a = some o → a ∉ μ → H' a = some o
  hm : ∀ a ∈ μ, H a ≠ none → H' a ≠ none
  fn : ∀ a, F a = none → F' a ≠ none → H a = none
  mn : ∀ a ∈ μ', a ∉ μ → H a = none
theorem Ext.refl (F : Hp) (μ : List Addr) (H : Hp) : Ext F μ H F μ H :=
  ⟨Same.refl _, ⟨[], by simp⟩, fun _ _ h _ => h, fun _ _ h => h, fun _ h k => absurd h k, fun _ h k => absurd h k⟩
theorem Ext.keep {F μ H F' μ' H'} (e : Ext F μ H F' μ' H') {a : Addr} (h : H' a = none) : H a = none := by
  cases q : H a with
  | none => rfl
  | some o =>
    by_cases m : a ∈ μ
    · exact absurd h (e.hm a m (by rw [q]; simp))
    · rw [e.hs a o q m] at h; cases h
theorem Ext.trans {F μ H F1 μ1 H1 F2 μ2 H2} (e : Ext F μ H F1 μ1 H1) (k : Ext F1 μ1 H1 F2 μ2 H2) : Ext F μ H F2 μ2 H2 where
  fs := e.fs.trans k.fs
  ms := by
    obtain ⟨t, rfl⟩ := e.ms
    obtain ⟨u, rfl⟩ := k.ms
    exact ⟨t ++ u, by simp⟩
  hs := fun a o h m => k.hs a o (e.hs a o h m) fun z => by
    have := e.mn a z m
    rw [h] at this; cases this
  hm := fun a m h => k.hm a (by obtain ⟨t, rfl⟩ := e.ms; exact List.mem_append_left _ m) (e.hm a m h)
  fn := fun a h h' => by
    cases q : F1 a with
    | some o => exact e.fn a h (by rw [q]; simp)
    | none => exact e.keep (k.fn a q h')
  mn := fun a h m => by
    by_cases q : a ∈ μ1
    · exact e.mn a q m
    · exact e.keep (k.mn a h q)
section
variable {K : PySem.W.Frag} {fa : Fx} {F F' : Hp} {μ μ' : List Addr} {H H' : Hp} {st : Sto}
/-- a new frozen object -/
theorem Wok.alloc (w : Wok K fa F μ H st) {p : Addr} (hp : H p = none) (o : HO) : Ext F μ H (upd F p o) μ (upd H p o) ∧ Wok K fa (upd F p o) μ (upd H p o) st ∧ (upd F p o) p = some o := by
  have hF : F p = none := w.sub.free hp
  have hm : p ∉ μ := fun z => by
    obtain ⟨n, hn⟩ := List.mem_iff_getElem?.mp z
    obtain ⟨so, ho, _, h, _⟩ := w.obj n p hn
    rw [hp] at h; cases h
  have sF : Same F (upd F p o) := fun b u h => by rw [upd_ne (ne_of_none h hF)]; exact h
  refine ⟨⟨sF, ⟨[], by simp⟩, fun a u h _ => by rw [upd_ne (ne_of_none h hp)]; exact h, fun a m h => ?_, fun a h k => ?_, fun a h k => absurd h k⟩, ⟨fun b u h => ?_, w.len, w.nd, fun a m => ?_, fun n a hn => ?_⟩, upd_same⟩
  · rw [upd_ne (fun z => hm (by rw [← z]; exact m))]; exact h
  · by_cases z : a = p
    · rw [z]; exact hp
    · rw [upd_ne z] at k; exact absurd h k
  · by_cases z : b = p
    · subst z; rw [upd_same] at h ⊢; exact h
    · rw [upd_ne z] at h ⊢; exact w.sub b u h
  · rw [upd_ne (fun z => hm (by rw [← z]; exact m))]; exact w.off a m
  · obtain ⟨xs, vs, h1, h2, h3⟩ := w.obj n a hn
    have ha : a ≠ p := fun z => by rw [z, hp] at h2; cases h2
    exact ⟨xs, vs, h1, by rw [upd_ne ha]; exact h2, h3.mono sF ⟨[], by simp⟩⟩
/-- a new object that is not frozen -/
theorem Wok.own (w : Wok K fa F μ H st) {p : Addr} (hp : H p = none) (o : HO) : Ext F μ H F μ (upd H p o) ∧ Wok K fa F μ (upd H p o) st ∧ F p = none ∧ p ∉ μ := by
  have hF : F p = none := w.sub.free hp
  have hm : p ∉ μ := fun z => by
    obtain ⟨n, hn⟩ := List.mem_iff_getElem?.mp z
    obtain ⟨so, ho, _, h, _⟩ := w.obj n p hn
    rw [hp] at h; cases h
  refine ⟨⟨Same.refl _, ⟨[], by simp⟩, fun a u h _ => by rw [upd_ne (ne_of_none h hp)]; exact h, fun a m h => ?_, fun a h k => absurd h k, fun a h k => absurd h k⟩, ⟨fun b u h => ?_, w.len, w.nd, w.off, fun n a hn => ?_⟩, hF, hm⟩
  · rw [upd_ne (fun z => hm (by rw [← z]; exact m))]; exact h
  · rw [upd_ne (ne_of_none h hF)]; exact w.sub b u h
  · obtain ⟨xs, vs, h1, h2, h3⟩ := w.obj n a hn
    have ha : a ≠ p := fun z => by rw [z, hp] at h2; cases h2
    exact ⟨xs, vs, h1, by rw [upd_ne ha]; exact h2, h3⟩
/-- an object that nobody else has is frozen -/
theorem Wok.freeze {F0 : Hp} {μ0 : List Addr} {H0 : Hp} (e : Ext F0 μ0 H0 F μ H) (w : Wok K fa F μ H st) {p : Addr} {o : HO} (h0 : H0 p = none) (hF : F p = none) (hm : p ∉ μ) (hH : H p = some o) :
    Ext F0 μ0 H0 (upd F p o) μ H ∧ Wok K fa (upd F p o) μ H st ∧ (upd F p o) p = some o ∧ Same F (upd F p o) := by
  have sF : Same F (upd F p o) := fun b u h => by rw [upd_ne (ne_of_none h hF)]; exact h
  refine ⟨⟨e.fs.trans sF, e.ms, e.hs, e.hm, fun a h k => ?_, e.mn⟩, ⟨fun b u h => ?_, w.len, w.nd, fun a m => ?_, fun n a hn => ?_⟩, upd_same, sF⟩
  · by_cases z : a = p
    · rw [z]; exact h0
    · rw [upd_ne z] at k; exact e.fn a h k
  · by_cases z : b = p
    · subst z; rw [upd_same] at h; cases h; exact hH
    · rw [upd_ne z] at h; exact w.sub b u h
  · rw [upd_ne (fun z => hm (by rw [← z]; exact m))]; exact w.off a m
  · obtain ⟨xs, vs, h1, h2, h3⟩ := w.obj n a hn
    exact ⟨xs, vs, h1, h2, h3.mono sF ⟨[], by simp⟩⟩
end
end BK

/-! BkB: what an expression comes to, as a function of the slots' values and the store; readings -/
namespace BK
open PySem PySem.Spec PyProof.Rows L2

inductive Res (α : Type) where
  | ok (a : α) (st : Sto)
  | exn (c : Nat) (fs : List PV) (st : Sto)
  | bad
def Res.bind {α β : Type} (r : Res α) (k : α → Sto → Res β) : Res β := match r with
  | .ok a st => k a st
  | .exn c fs st => .exn c fs st
  | .bad => .bad
def Res.opt {α : Type} (o : Option α) (st : Sto) : Res α := match o with
  | some a => .ok a st
  | none => .bad
/-- what a list or a dict holds that nobody else has -/
inductive Ob where
  | lst (xs : List PV)
  | dct (ks vs : List PV)
/-- a slot: nothing, a value, or a list or dict that nobody else has -/
inductive Slot where
  | no
  | val (x : PV)
  | own (b : Ob)
abbrev PEnv := List Slot
abbrev SEnv := List Slot
abbrev EM := PEnv → Sto → Res PV
abbrev BM := PEnv → Sto → Res Bool
abbrev AM := PEnv → Sto → Res (List PV)

/-- the parameters: the written part, where the defs and the classes lie -/
structure Gx where
  K : PySem.W.Frag
  fa : Fx
  fc : Nat → Option Addr
  /-- the names of an exception's fields -/
  xn : Nat → List Str
/-- an exception: its class's number, its fields' values (under the class's names) -/
def XRep (g : Gx) (F : Hp) (μ : List Addr) (H : Hp) (c : Nat) (fs : List PV) (cls : Value) (d : Option Addr) : Prop :=
  ∃ C, g.fc c = some C ∧ cls = .ref C ∧ ((fs = [] ∧ d = none) ∨ ∃ (da : Addr) (vs : List V), d = some da ∧ H da = some (.xd ((g.xn c).zip vs).reverse) ∧ vs.length = (g.xn c).length ∧ Reps g.K g.fa F μ vs fs)
def ObRep (g : Gx) (F : Hp) (μ : List Addr) : HO → Ob → Prop
  | .lst vs, .lst xs => vs.length ≤ sizeLine ∧ Reps g.K g.fa F μ vs xs
  | .dK kvs, .dct ks ws => kvs.length ≤ sizeLine ∧ Reps g.K g.fa F μ (kvs.map fun p => kV p.1) ks ∧ Reps g.K g.fa F μ (kvs.map fun p => p.2) ws
  | _, _ => False
def Ob.pv : Ob → PV
  | .lst xs => .lst xs
  | .dct ks vs => .dct ks vs
theorem ObRep.mono {g : Gx} {F F' : Hp} {μ μ' : List Addr} (e : Same F F') (m : ∃ t, μ' = μ ++ t) {o : HO} {b : Ob} (h : ObRep g F μ o b) : ObRep g F' μ' o b := by
  cases o <;> cases b <;> first | exact h.elim | skip
  · exact ⟨h.1, Reps.mono e m _ _ h.2⟩
  · exact ⟨h.1, Reps.mono e m _ _ h.2.1, Reps.mono e m _ _ h.2.2⟩
theorem ObRep.rep {g : Gx} {F : Hp} {μ : List Addr} {a : Addr} {o : HO} {b : Ob} (h : ObRep g F μ o b) (e : F a = some o) : Rep g.K g.fa F μ (.ref a) b.pv := by
  cases o <;> cases b <;> first | exact h.elim | skip
  · exact .lst e h.1 h.2
  · exact .dct e h.1 h.2.1 h.2.2
theorem ObRep.lst {g : Gx} {F : Hp} {μ : List Addr} {o : HO} {xs : List PV} (h : ObRep g F μ o (.lst xs)) : ∃ vs, o = .lst vs ∧ vs.length ≤ sizeLine ∧ Reps g.K g.fa F μ vs xs := by
  cases o <;> first | exact h.elim | skip
  exact ⟨_, rfl, h.1, h.2⟩
theorem ObRep.dct {g : Gx} {F : Hp} {μ : List Addr} {o : HO} {ks ws : List PV} (h : ObRep g F μ o (.dct ks ws)) : ∃ kvs, o = .dK kvs ∧ kvs.length ≤ sizeLine ∧ Reps g.K g.fa F μ (kvs.map fun p => kV p.1) ks ∧ Reps g.K g.fa F μ (kvs.map fun p => p.2) ws := by
  cases o <;> first | exact h.elim | skip
  exact ⟨_, rfl, h.1, h.2.1, h.2.2⟩
structure Env (g : Gx) (F : Hp) (μ : List Addr) (H : Hp) (σ : L2.St) (ρ : PEnv) : Prop where
  len : σ.length = ρ.length
  val : ∀ (i : Nat) (x : PV), ρ[i]? = some (.val x) → ∃ v, σ[i]? = some (some v) ∧ Rep g.K g.fa F μ v x
  own : ∀ (i : Nat) (b : Ob), ρ[i]? = some (.own b) → ∃ (a : Addr) (o : HO), σ[i]? = some (some (.ref a)) ∧ F a = none ∧ a ∉ μ ∧ H a = some o ∧ ObRep g F μ o b
/-- what is asked behind a result -/
def Post (g : Gx) (F : Hp) (μ : List Addr) (H : Hp) (W : WX) (σ : L2.St) {α : Type} (r : Res α) (k : α → Sto → Hp → List Addr → Hp → Prop) : Prop := match r with
  | .ok a st => ∀ F' μ' H', Ext F μ H F' μ' H' → Wok g.K g.fa F' μ' H' st → k a st F' μ' H'
  | .exn c fs st => ∀ F' μ' H' cls d, Ext F μ H F' μ' H' → Wok g.K g.fa F' μ' H' st → XRep g F' μ' H' c fs cls d → W cls d σ H'
  | .bad => False
section
variable {g : Gx} {F F1 : Hp} {μ μ1 : List Addr} {H H1 : Hp} {W : WX} {σ : L2.St} {α β : Type}
theorem Post.shift {r : Res α} {k : α → Sto → Hp → List Addr → Hp → Prop} (e : Ext F μ H F1 μ1 H1) (h : Post g F μ H W σ r k) : Post g F1 μ1 H1 W σ r k := by
  cases r with
  | ok a st => exact fun F' μ' H' e' w => h F' μ' H' (e.trans e') w
  | exn c fs st => exact fun F' μ' H' cls d e' w x => h F' μ' H' cls d (e.trans e') w x
  | bad => exact h
theorem Post.bind {r : Res α} {f : α → Sto → Res β} {k : β → Sto → Hp → List Addr → Hp → Prop} (h : Post g F μ H W σ (r.bind f) k) :
    Post g F μ H W σ r fun a st F1 μ1 H1 => Post g F1 μ1 H1 W σ (f a st) k := by
  cases r with
  | ok a st => exact fun F' μ' H' e w => Post.shift e h
  | exn c fs st => exact h
  | bad => exact h
theorem Post.imp {r : Res α} {k k' : α → Sto → Hp → List Addr → Hp → Prop} (h : Post g F μ H W σ r k) (i : ∀ a st F' μ' H', Ext F μ H F' μ' H' → Wok g.K g.fa F' μ' H' st → k a st F' μ' H' → k' a st F' μ' H') : Post g F μ H W σ r k' := by
  cases r with
  | ok a st => exact fun F' μ' H' e w => i _ _ _ _ _ e w (h F' μ' H' e w)
  | exn c fs st => exact h
  | bad => exact h
theorem Post.impE {r : Res α} {k k' : α → Sto → Hp → List Addr → Hp → Prop} (h : Post g F μ H W σ r k) (i : ∀ a st F' μ' H', r = .ok a st → Ext F μ H F' μ' H' → Wok g.K g.fa F' μ' H' st → k a st F' μ' H' → k' a st F' μ' H') : Post g F μ H W σ r k' := by
  cases r with
  | ok a st => exact fun F' μ' H' e w => i _ _ _ _ _ rfl e w (h F' μ' H' e w)
  | exn c fs st => exact h
  | bad => exact h
theorem Post.later {r : Res α} {k : α → Sto → Hp → List Addr → Hp → Prop} (h : Post g F μ H W σ r k) : Post g F μ H W σ r fun a st F1 μ1 H1 => ∀ F' μ' H', Ext F1 μ1 H1 F' μ' H' → Wok g.K g.fa F' μ' H' st → k a st F' μ' H' := by
  cases r with
  | ok a st => exact fun F1 μ1 H1 e w F' μ' H' e' w' => h F' μ' H' (e.trans e') w'
  | exn c fs st => exact h
  | bad => exact h
theorem Post.opt {o : Option α} {st : Sto} {k : α → Sto → Hp → List Addr → Hp → Prop} (h : Post g F μ H W σ (Res.opt o st) k) : ∃ a, o = some a ∧ ∀ F' μ' H', Ext F μ H F' μ' H' → Wok g.K g.fa F' μ' H' st → k a st F' μ' H' := by
  cases o with
  | some a => exact ⟨a, rfl, h⟩
  | none => exact h.elim
/-- what nobody else has stays so -/
theorem Ext.mine {F F' : Hp} {μ μ' : List Addr} {H H' : Hp} (e : Ext F μ H F' μ' H') {p : Addr} {o : HO} (hF : F p = none) (hm : p ∉ μ) (hH : H p = some o) : F' p = none ∧ p ∉ μ' ∧ H' p = some o := by
  refine ⟨?_, fun z => ?_, e.hs p o hH hm⟩
  · cases q : F' p with
    | none => rfl
    | some u =>
      have := e.fn p hF (by rw [q]; simp)
      rw [hH] at this; cases this
  · have := e.mn p z hm
    rw [hH] at this; cases this
theorem Env.mono {ρ : PEnv} (e : Ext F μ H F1 μ1 H1) (h : Env g F μ H σ ρ) : Env g F1 μ1 H1 σ ρ := ⟨h.len, fun i x q =>
  let ⟨v, h1, h2⟩ := h.val i x q
  ⟨v, h1, Rep.mono e.fs e.ms x v h2⟩, fun i b q =>
  let ⟨a, o, h1, h2, h3, h4, h5⟩ := h.own i b q
  let ⟨k1, k2, k3⟩ := e.mine h2 h3 h4
  ⟨a, o, h1, k1, k2, k3, h5.mono e.fs e.ms⟩⟩
theorem Rep.ext {v : V} {x : PV} (e : Ext F μ H F1 μ1 H1) (h : Rep g.K g.fa F μ v x) : Rep g.K g.fa F1 μ1 v x := Rep.mono e.fs e.ms x v h
theorem Reps.ext {vs : List V} {xs : List PV} (e : Ext F μ H F1 μ1 H1) (h : Reps g.K g.fa F μ vs xs) : Reps g.K g.fa F1 μ1 vs xs := Reps.mono e.fs e.ms xs vs h
end

/-- readings: a value; a truth; values; a new list that nobody else has -/
def tE (g : Gx) (W : WX) (m : EM) : TE := fun σ H Q => ∃ F μ st ρ, Wok g.K g.fa F μ H st ∧ Env g F μ H σ ρ ∧ Post g F μ H W σ (m ρ st) fun x _ F' μ' H' => ∀ v, Rep g.K g.fa F' μ' v x → Q v H'
def tT (g : Gx) (W : WX) (m : BM) : TT := fun σ H Q => ∃ F μ st ρ, Wok g.K g.fa F μ H st ∧ Env g F μ H σ ρ ∧ Post g F μ H W σ (m ρ st) fun b _ _ _ H' => Q b H'
def tA (g : Gx) (W : WX) (m : AM) : TA := fun σ H Q => ∃ F μ st ρ, Wok g.K g.fa F μ H st ∧ Env g F μ H σ ρ ∧ Post g F μ H W σ (m ρ st) fun xs _ F' μ' H' => ∀ vs, Reps g.K g.fa F' μ' vs xs → Q vs H'
def tL (g : Gx) (W : WX) (m : AM) : TE := fun σ H Q => ∃ F μ st ρ, Wok g.K g.fa F μ H st ∧ Env g F μ H σ ρ ∧ Post g F μ H W σ (m ρ st) fun xs _ F' μ' H' =>
  ∀ (a : Addr) (vs : List V), H a = none → F' a = none → a ∉ μ' → H' a = some (.lst vs) → vs.length ≤ sizeLine → Reps g.K g.fa F' μ' vs xs → Q (.ref a) H'
section
variable {X : Cx} {e : Expr}
theorem PE.mono {t t' : TE} (h : PE X e t) (i : ∀ σ H Q, t' σ H Q → t σ H Q) : PE X e t' := ⟨fun pins s σ H Q I q => h.run pins s σ H Q I (i _ _ _ q)⟩
theorem PT.mono {t t' : TT} (h : PT X e t) (i : ∀ σ H Q, t' σ H Q → t σ H Q) : PT X e t' := ⟨fun pins s σ H Q I q => h.run pins s σ H Q I (i _ _ _ q)⟩
theorem PA.mono {es : List Expr} {t t' : TA} (h : PA X es t) (i : ∀ σ H Q, t' σ H Q → t σ H Q) : PA X es t' := ⟨fun pos pins s σ H Q I q => h.run pos pins s σ H Q I (i _ _ _ q)⟩
end

/-! ### names, constants, displays -/
def mVar (i : Nat) : EM := fun ρ st => match ρ[i]? with
  | some (.val x) => .ok x st
  | _ => .bad
def mC (x : PV) : EM := fun _ st => .ok x st
def aNil : AM := fun _ st => .ok [] st
def aCons (m : EM) (n : AM) : AM := fun ρ st => (m ρ st).bind fun x st1 => (n ρ st1).bind fun xs st2 => .ok (x :: xs) st2
def mTup (n : AM) : EM := fun ρ st => (n ρ st).bind fun xs st1 => .ok (.tup xs) st1
def mFz (n : AM) : EM := fun ρ st => (n ρ st).bind fun xs st1 => .ok (.lst xs) st1
section
variable {X : Cx} {g : Gx} {W : WX} {e : Expr} {pos : Pos}
theorem se_var {i : Nat} {x : Str} (hN : X.N[i]? = some x) (hv : Vis X.env.scope x) (hd : (x == ("__debug__" : Str)) = false) (hcd : (x == ("__classdict__" : Str)) = false) : PE X (.Name x pos) (tE g W (mVar i)) := by
  refine PE.mono (pe_var hN hv hd hcd) fun σ H Q h => ?_
  obtain ⟨F, μ, st, ρ, w, en, h⟩ := h
  unfold mVar at h
  cases q : ρ[i]? with
  | none => rw [q] at h; exact h.elim
  | some o =>
    cases o with
    | no => rw [q] at h; exact h.elim
    | own b => rw [q] at h; exact h.elim
    | val x =>
      rw [q] at h
      obtain ⟨v, h1, h2⟩ := en.val i x q
      exact ⟨v, h1, h F μ H (Ext.refl ..) w v h2⟩
theorem se_const {v : V} {x : PV} (h : PE X e (tC v)) (r : ∀ F μ, Rep g.K g.fa F μ v x) : PE X e (tE g W (mC x)) := by
  refine PE.mono h fun σ H Q h => ?_
  obtain ⟨F, μ, st, ρ, w, en, h⟩ := h
  exact h F μ H (Ext.refl ..) w v (r F μ)
theorem sa_nil : PA X [] (tA g W aNil) := by
  refine PA.mono pa_nil fun σ H Q h => ?_
  obtain ⟨F, μ, st, ρ, w, en, h⟩ := h
  exact h F μ H (Ext.refl ..) w [] .nil
theorem sa_cons {es : List Expr} {m : EM} {n : AM} (he : PE X e (tE g W m)) (hr : PA X es (tA g W n)) (hs : starEach (e :: es) X.env = (false, eval e X.env) :: starEach es X.env) : PA X (e :: es) (tA g W (aCons m n)) := by
  refine PA.mono (pa_cons he hr hs) fun σ H Q h => ?_
  obtain ⟨F, μ, st, ρ, w, en, h⟩ := h
  refine ⟨F, μ, st, ρ, w, en, (Post.bind h).imp fun x st1 F1 μ1 H1 e1 w1 h1 v rv => ?_⟩
  refine ⟨F1, μ1, st1, ρ, w1, en.mono e1, (Post.bind h1).imp fun xs st2 F2 μ2 H2 e2 w2 h2 vs rvs => ?_⟩
  exact h2 F2 μ2 H2 (Ext.refl ..) w2 (v :: vs) (.cons (Rep.ext e2 rv) rvs)
/-- a bound on how many values come -/
def Few (n : AM) (k : Nat) : Prop := ∀ ρ st xs st', n ρ st = .ok xs st' → xs.length ≤ k
theorem few_nil : Few aNil 0 := fun _ _ _ _ h => by
  unfold aNil at h
  cases h
  exact Nat.le_refl _
theorem few_cons {m : EM} {n : AM} {k : Nat} (h : Few n k) : Few (aCons m n) (k + 1) := fun ρ st xs st' q => by
  unfold aCons at q
  cases e1 : m ρ st with
  | bad => rw [e1] at q; cases q
  | exn c fs s1 => rw [e1] at q; cases q
  | ok x s1 =>
    rw [e1] at q
    change (n ρ s1).bind _ = _ at q
    cases e2 : n ρ s1 with
    | bad => rw [e2] at q; cases q
    | exn c fs s2 => rw [e2] at q; cases q
    | ok ys s2 =>
      rw [e2] at q
      change Res.ok (x :: ys) s2 = _ at q
      cases q
      exact Nat.succ_le_succ (h ρ s1 ys st' e2)
theorem se_tup {es : List Expr} {n : AM} {k j : Nat} (h : PA X es (tA g W n)) (hf : Few n j) (hj : j ≤ sizeLine) : PE X (.Tuple es k pos) (tE g W (mTup n)) := by
  refine PE.mono (L2.pe_tup h) fun σ H Q h => ?_
  obtain ⟨F, μ, st, ρ, w, en, h⟩ := h
  refine ⟨F, μ, st, ρ, w, en, (Post.bind h).impE fun xs st1 F1 μ1 H1 eq e1 w1 h1 vs rvs => ?_⟩
  have hl : vs.length ≤ sizeLine := by rw [rvs.length]; exact Nat.le_trans (hf _ _ _ _ eq) hj
  refine ⟨hl, fun p hp => ?_⟩
  obtain ⟨e2, w2, q2⟩ := w1.alloc hp (.tup vs)
  exact h1 _ _ _ e2 w2 _ (.tup (.inl (.inl q2)) hl (Reps.ext e2 rvs))
/-- a new list, nobody else's -/
theorem sl_lst {es : List Expr} {n : AM} {j : Nat} (h : PA X es (tA g W n)) (hf : Few n j) (hj : j ≤ sizeLine) : PE X (.List es pos) (tL g W n) := by
  refine PE.mono (L2.pe_lst h) fun σ H Q h => ?_
  obtain ⟨F, μ, st, ρ, w, en, h⟩ := h
  refine ⟨F, μ, st, ρ, w, en, h.later.impE fun xs st1 F1 μ1 H1 eq e1 w1 h1 vs rvs => ?_⟩
  have hl : vs.length ≤ sizeLine := by rw [rvs.length]; exact Nat.le_trans (hf _ _ _ _ eq) hj
  refine ⟨hl, fun p hp => ?_⟩
  obtain ⟨e2, w2, q1, q2⟩ := w1.own hp (.lst vs)
  exact h1 _ _ _ e2 w2 p vs (e1.keep hp) q1 q2 upd_same hl rvs
/-- .. as a value: from now on it stays as it is -/
theorem se_fz {n : AM} (h : PE X e (tL g W n)) : PE X e (tE g W (mFz n)) := by
  refine PE.mono h fun σ H Q h => ?_
  obtain ⟨F, μ, st, ρ, w, en, h⟩ := h
  unfold mFz at h
  refine ⟨F, μ, st, ρ, w, en, ?_⟩
  cases q : n ρ st with
  | bad => rw [q] at h; exact h.elim
  | exn c fs s1 => rw [q] at h; exact h
  | ok xs st1 =>
    rw [q] at h
    intro F1 μ1 H1 e1 w1 a vs h0 hF hm hH hl r
    obtain ⟨e2, w2, q2, s2⟩ := Wok.freeze e1 w1 h0 hF hm hH
    exact h _ _ _ e2 w2 _ (.lst q2 hl (Reps.mono s2 ⟨[], by simp⟩ _ _ r))
end

/-! ### operators by values -/
def VOp (g : Gx) (r : R2) (f : PV → PV → Option PV) : Prop := ∀ (F : Hp) (μ : List Addr) (H : Hp) (st : Sto) (x y : V) (px py z : PV) (Q : VK), Wok g.K g.fa F μ H st → Rep g.K g.fa F μ x px → Rep g.K g.fa F μ y py → f px py = some z →
  (∀ F' H', Ext F μ H F' μ H' → Wok g.K g.fa F' μ H' st → ∀ v, Rep g.K g.fa F' μ v z → Q v H') → r x y H Q
def mBin (f : PV → PV → Option PV) (ma mb : EM) : EM := fun ρ st => (ma ρ st).bind fun x st1 => (mb ρ st1).bind fun y st2 => Res.opt (f x y) st2
section
variable {X : Cx} {g : Gx} {W : WX} {a b : Expr} {pos : Pos} {ma mb : EM}
theorem tOp_of {r : R2} {f : PV → PV → Option PV} (hf : VOp g r f) {σ : L2.St} {H : Hp} {Q : VK} (h : tE g W (mBin f ma mb) σ H Q) : tOp r (tE g W ma) (tE g W mb) σ H Q := by
  obtain ⟨F, μ, st, ρ, w, en, h⟩ := h
  refine ⟨F, μ, st, ρ, w, en, (Post.bind h).imp fun x st1 F1 μ1 H1 e1 w1 h1 v rv => ?_⟩
  refine ⟨F1, μ1, st1, ρ, w1, en.mono e1, (Post.bind h1).imp fun y st2 F2 μ2 H2 e2 w2 h2 u ru => ?_⟩
  obtain ⟨z, hz, h3⟩ := Post.opt h2
  exact hf F2 μ2 H2 st2 v u x y z Q w2 (Rep.ext e2 rv) ru hz fun F' H' e' w' v' r' => h3 F' μ2 H' e' w' v' r'
theorem se_bin {op : Operator} {r : R2} {f : PV → PV → Option PV} (ho : OpR X (binaryOp op) r) (hf : VOp g r f) (ha : PE X a (tE g W ma)) (hb : PE X b (tE g W mb)) : PE X (.BinOp a op b pos) (tE g W (mBin f ma mb)) :=
  PE.mono (pe_op ho ha hb) fun _ _ _ h => tOp_of hf h
theorem se_cmp {op : CmpOp} {r : R2} {f : PV → PV → Option PV} (ho : OpR X (compareOp op) r) (hf : VOp g r f) (ha : PE X a (tE g W ma)) (hb : PE X b (tE g W mb)) (hm : behindInMarks op b = false) : PE X (.Compare a [op] [b] pos) (tE g W (mBin f ma mb)) :=
  PE.mono (pe_cmpR ho ha hb hm) fun _ _ _ h => tOp_of hf h
theorem se_ix {r : R2} {f : PV → PV → Option PV} (ho : IxR X r) (hf : VOp g r f) (ha : PE X a (tE g W ma)) (hb : PE X b (tE g W mb)) (hs : PlainIx b) : PE X (.Subscript a b pos) (tE g W (mBin f ma mb)) :=
  PE.mono (pe_ix ho ha hb hs) fun _ _ _ h => tOp_of hf h
end
theorem VOp.or {g : Gx} {r r' : R2} {f f' : PV → PV → Option PV} (h : VOp g r f) (h' : VOp g r' f') : VOp g (fun x y H Q => r x y H Q ∨ r' x y H Q) fun a b => (f a b).or (f' a b) := by
  intro F μ H st x y px py z Q w rx ry hz k
  cases q : f px py with
  | some u =>
    dsimp only at hz
    rw [q] at hz
    exact .inl (h F μ H st x y px py z Q w rx ry (by rw [q]; exact hz) k)
  | none =>
    dsimp only at hz
    rw [q] at hz
    exact .inr (h' F μ H st x y px py z Q w rx ry hz k)
theorem VOp.imp {g : Gx} {r : R2} {f f' : PV → PV → Option PV} (h : VOp g r f) (i : ∀ a b z, f' a b = some z → f a b = some z) : VOp g r f' := fun F μ H st x y px py z Q w rx ry hz k => h F μ H st x y px py z Q w rx ry (i _ _ _ hz) k
def iI (C : Int → Int → Bool) (f : Int → Int → PV) : PV → PV → Option PV
  | .int i, .int j => if C i j = true then some (f i j) else none
  | _, _ => none
section
variable {g : Gx}
/-- two ints -/
theorem vo_int {C : Int → Int → Prop} {D : Int → Int → Bool} {f : Int → Int → V} {p : Int → Int → PV} (hC : ∀ i j, D i j = true → C i j) (hp : ∀ F μ i j, Rep g.K g.fa F μ (f i j) (p i j)) : VOp g (rI C f) (iI D p) := by
  intro F μ H st x y px py z Q w rx ry hz k
  cases rx <;> try (simp [iI] at hz; done)
  cases ry <;> try (simp [iI] at hz; done)
  rename_i i j
  simp only [iI] at hz
  split at hz
  · rename_i c
    cases hz
    exact ⟨i, j, rfl, rfl, hC i j c, k F H (Ext.refl ..) w _ (hp _ _ i j)⟩
  · cases hz
theorem vo_int0 {f : Int → Int → V} {p : Int → Int → PV} (hp : ∀ F μ i j, Rep g.K g.fa F μ (f i j) (p i j)) : VOp g (rI0 f) (iI (fun _ _ => true) p) := by
  intro F μ H st x y px py z Q w rx ry hz k
  cases rx <;> try (simp [iI] at hz; done)
  cases ry <;> try (simp [iI] at hz; done)
  rename_i i j
  simp only [iI, if_true, Option.some.injEq] at hz
  subst hz
  exact ⟨i, j, rfl, rfl, k F H (Ext.refl ..) w _ (hp _ _ i j)⟩
theorem strOk_append {a b : Str} (h : PyData.strOk a = true) (k : PyData.strOk b = true) : PyData.strOk (a ++ b) = true := by
  unfold PyData.strOk at h k ⊢
  show (a.cps ++ b.cps).all _ = true
  rw [Array.all_append, h, k]
  rfl
theorem str_length_append (a b : Str) : (a ++ b).length = a.length + b.length := by
  show (a.cps ++ b.cps).size = _
  rw [Array.size_append]
  rfl
def addS : PV → PV → Option PV
  | .str a, .str b => if a.length + b.length ≤ sizeLine then some (.str (a ++ b)) else none
  | _, _ => none
def addT : PV → PV → Option PV
  | .tup xs, .tup ys => if xs.length + ys.length ≤ sizeLine then some (.tup (xs ++ ys)) else none
  | _, _ => none
def addL : PV → PV → Option PV
  | .lst xs, .lst ys => if xs.length + ys.length ≤ sizeLine then some (.lst (xs ++ ys)) else none
  | _, _ => none
theorem vo_addS : VOp g (fun x y H Q => ∃ i j, x = .str i ∧ y = .str j ∧ i.length + j.length ≤ sizeLine ∧ Q (.str (i ++ j)) H) addS := by
  intro F μ H st x y px py z Q w rx ry hz k
  cases rx <;> try (simp [addS] at hz; done)
  cases ry <;> try (simp [addS] at hz; done)
  rename_i i hi hil j hj hjl
  simp only [addS] at hz
  split at hz
  · rename_i c
    cases hz
    exact ⟨i, j, rfl, rfl, c, k F H (Ext.refl ..) w _ (.str _ (strOk_append hi hj) (by rw [str_length_append]; exact c))⟩
  · cases hz
theorem vo_addT : VOp g (rCatA g.K) addT := by
  intro F μ H st x y px py z Q w rx ry hz k
  cases rx <;> try (simp [addT] at hz; done)
  cases ry <;> try (simp [addT] at hz; done)
  rename_i a vs xs h1 l1 r1 b ws ys h2 l2 r2
  simp only [addT] at hz
  split at hz
  · rename_i c
    cases hz
    have e1 := r1.length
    have e2 := r2.length
    have hz : vs.length + ws.length ≤ sizeLine := by omega
    refine ⟨a, b, vs, ws, rfl, rfl, sqT_same w.sub h1, sqT_same w.sub h2, hz, fun q => ?_, fun _ q => ?_, fun _ _ p hp => ?_⟩
    · subst q
      cases r1
      exact k F H (Ext.refl ..) w _ (.tup h2 l2 r2)
    · subst q
      cases r2
      rw [List.append_nil] at k
      exact k F H (Ext.refl ..) w _ (.tup h1 l1 r1)
    · obtain ⟨e, w2, q2⟩ := w.alloc hp (.tup (vs ++ ws))
      exact k _ _ e w2 _ (.tup (.inl (.inl q2)) (by rw [List.length_append]; exact hz) ((Reps.ext e r1).append (Reps.ext e r2)))
  · cases hz
theorem vo_addL : VOp g rCat addL := by
  intro F μ H st x y px py z Q w rx ry hz k
  cases rx <;> try (simp [addL] at hz; done)
  cases ry <;> try (simp [addL] at hz; done)
  rename_i a vs xs h1 l1 r1 b ws ys h2 l2 r2
  simp only [addL] at hz
  split at hz
  · rename_i c
    cases hz
    have e1 := r1.length
    have e2 := r2.length
    have hz : vs.length + ws.length ≤ sizeLine := by omega
    refine ⟨a, b, vs, ws, rfl, rfl, w.sub _ _ h1, w.sub _ _ h2, hz, fun p hp => ?_⟩
    obtain ⟨e, w2, q2⟩ := w.alloc hp (.lst (vs ++ ws))
    exact k _ _ e w2 _ (.lst q2 (by rw [List.length_append]; exact hz) ((Reps.ext e r1).append (Reps.ext e r2)))
  · cases hz
end
end BK

/-! BkC0: tuple * 0, tuple * 1 -/
namespace BK
open PySem PySem.Spec PyProof.Rows L2

/-- tuple * 1: the same object -/
theorem mul_one (l : Addr) (its : Array Value) (n : Nat) (dd : Option Addr) (sl : Array (Option Value)) (u : Tok) :
    Meets (Builtin.«tuple.__mul__» ⟨[.ref l, .int 1 u], []⟩) (fun _ R s => s.heap.get? l = some { cls := .type "tuple", dict := dd, data := .seq its n, slots := sl } ∧ R (.ok (.ret (Value.ref l))) s) :=
  .of_wp fun prog w A R s h => by
    obtain ⟨hp, g, d, tk, os⟩ := s
    obtain ⟨hl, h⟩ := h
    have f1 := AutoSeq1.idx_int
    have c0 : (decide ((1 : Int) < -(2 ^ 63)) || decide ((1 : Int) ≥ 2 ^ 63)) = false := by decide
    have c1 : (its.isEmpty || (1 : Int) == 1) = true := by simp
    wp_walk using wpAny_loadPart' hl
    repeat (first
      | (refine wpAny_ite_false (decide_eq_false (by rw [c0]; exact Bool.false_ne_true)) ?_; wp_walk using wpAny_loadPart' hl)
      | (refine wpAny_ite_true (decide_eq_true c1) ?_; wp_walk using wpAny_loadPart' hl))
    exact ⟨_, rfl, h⟩
/-- tuple * 0: a new empty tuple -/
theorem mul_zero (l : Addr) (its : Array Value) (n : Nat) (dd : Option Addr) (sl : Array (Option Value)) (u : Tok) (hi : its.isEmpty = false) :
    Meets (Builtin.«tuple.__mul__» ⟨[.ref l, .int 0 u], []⟩) (fun _ R s => s.heap.get? l = some { cls := .type "tuple", dict := dd, data := .seq its n, slots := sl } ∧
      R (.ok (.ret (Value.ref s.heap.objs.size))) { s with heap := s.heap.push { cls := Value.type "tuple", data := Data.seq #[] }, toks := s.toks }) :=
  .of_wp fun prog w A R s h => by
    obtain ⟨hp, g, d, tk, os⟩ := s
    obtain ⟨hl, h⟩ := h
    have f1 := AutoSeq1.idx_int
    have c0 : (decide ((0 : Int) < -(2 ^ 63)) || decide ((0 : Int) ≥ 2 ^ 63)) = false := by decide
    have c1 : (its.isEmpty || (0 : Int) == 1) = false := by rw [hi]; decide
    have c2 : (decide ((0 : Int) ≤ 0) || its.isEmpty) = true := by rw [hi]; decide
    wp_walk using wpAny_loadPart' hl
    repeat (first
      | (refine wpAny_ite_false (decide_eq_false (by rw [c0]; exact Bool.false_ne_true)) ?_; wp_walk using wpAny_loadPart' hl)
      | (refine wpAny_ite_false (decide_eq_false (by rw [c1]; exact Bool.false_ne_true)) ?_; wp_walk using wpAny_loadPart' hl)
      | (refine wpAny_ite_true (decide_eq_true c2) ?_; wp_walk using wpAny_loadPart' hl))
    repeat (first
      | (refine wpAny_ite_false (decide_eq_false (by decide)) ?_; wp_walk using wpAny_loadPart' hl))
    exact ⟨_, rfl, h⟩
def rRep1 (K : PySem.W.Frag) : R2 := fun x y H Q => ∃ l xs, x = .ref l ∧ y = .int 1 ∧ SqT K H l xs ∧ xs ≠ [] ∧ Q (.ref l) H
def rRep0 (K : PySem.W.Frag) : R2 := fun x y H Q => ∃ l xs, x = .ref l ∧ y = .int 0 ∧ SqT K H l xs ∧ xs ≠ [] ∧ ∀ p, H p = none → Q (.ref p) (upd H p (.tup []))
section
variable {X : Cx}
theorem op_rep1 : OpR X (binaryOp .Mult) (rRep1 X.K) := by
  intro pins s σ H x y v u Q I rx ry h
  obtain ⟨l, xs, rfl, rfl, hT, hne, q⟩ := h
  cases rx
  obtain ⟨t, rfl⟩ := ry
  obtain ⟨its, r, ⟨⟨cls, dd, data, sl⟩, ho, hc, n, hd⟩, hs⟩ := I.tuple hT
  simp only at hc hd
  subst hc hd
  refine wpAny_binaryOp_repeat_ref (T := "tuple") (U := "int") (by decide) ⟨_, ho, rfl⟩ (fun s' => typeIs_int s' 1 t) noFill_tuple_mul F.fills_int_mul F.slot_int_rmul repeat_tuple F.slot_int_index.lookup
    (call_meets F.slot_int_rmul (typeIs_int s 1 t) F.entry_int_rmul (F.args_int_rmul_2 _ _) (int_rmul_tuple 1 t l its.toArray n dd sl)
      ⟨ho, rfl, ⟨_, ho, rfl⟩, call_meets F.slot_tuple_mul ⟨_, ho, rfl⟩ F.entry_tuple_mul (F.args_tuple_mul_2 _ _) (mul_one l its.toArray n dd sl t) ⟨ho, ?_⟩⟩)
  exact ⟨.ref l, H, I, rfl, q⟩
theorem op_rep0 : OpR X (binaryOp .Mult) (rRep0 X.K) := by
  intro pins s σ H x y v u Q I rx ry h
  obtain ⟨l, xs, rfl, rfl, hT, hne, q⟩ := h
  cases rx
  obtain ⟨t, rfl⟩ := ry
  obtain ⟨its, r, ⟨⟨cls, dd, data, sl⟩, ho, hc, n, hd⟩, hs⟩ := I.tuple hT
  simp only at hc hd
  subst hc hd
  have hle : its.length = xs.length := r.length.symm
  have hi : its.toArray.isEmpty = false := by
    cases its with
    | nil => exact absurd (List.eq_nil_of_length_eq_zero hle.symm) hne
    | cons a b => rfl
  refine wpAny_binaryOp_repeat_ref (T := "tuple") (U := "int") (by decide) ⟨_, ho, rfl⟩ (fun s' => typeIs_int s' 0 t) noFill_tuple_mul F.fills_int_mul F.slot_int_rmul repeat_tuple F.slot_int_index.lookup
    (call_meets F.slot_int_rmul (typeIs_int s 0 t) F.entry_int_rmul (F.args_int_rmul_2 _ _) (int_rmul_tuple 0 t l its.toArray n dd sl)
      ⟨ho, rfl, ⟨_, ho, rfl⟩, call_meets F.slot_tuple_mul ⟨_, ho, rfl⟩ F.entry_tuple_mul (F.args_tuple_mul_2 _ _) (mul_zero l its.toArray n dd sl t hi) ⟨ho, ?_⟩⟩)
  refine ⟨.ref s.heap.objs.size, _, I.laid (t' := s.toks) (o := .tup []) (fun b ob z => Heap.get?_push_of_some _ z) (Nat.le_refl _) ?_, rfl, q _ (I.hok.fresh (Nat.le_refl _))⟩
  exact ⟨Nat.zero_le _, [], .nil, IsTup.new _ _⟩
end
section
variable {g : Gx}
def rep01 : PV → PV → Option PV
  | .tup xs, .int k => if xs ≠ [] ∧ k = 0 then some (.tup []) else if xs ≠ [] ∧ k = 1 then some (.tup xs) else none
  | _, _ => none
theorem vo_rep01 : VOp g (fun x y H Q => rRep0 g.K x y H Q ∨ rRep1 g.K x y H Q) rep01 := by
  intro F μ H st x y px py z Q w rx ry hz k
  cases rx <;> try (simp [rep01] at hz; done)
  cases ry <;> try (simp [rep01] at hz; done)
  rename_i a vs xs h1 l1 r1 n
  have e1 := r1.length
  simp only [rep01] at hz
  split at hz
  · rename_i c
    obtain ⟨c1, rfl⟩ := c
    cases hz
    have c1' : vs ≠ [] := fun q => c1 (by rw [q] at e1; exact List.eq_nil_of_length_eq_zero e1.symm)
    refine .inl ⟨a, vs, rfl, rfl, sqT_same w.sub h1, c1', fun p hp => ?_⟩
    obtain ⟨e, w2, q2⟩ := w.alloc hp (.tup [])
    exact k _ _ e w2 _ (.tup (.inl (.inl q2)) (Nat.zero_le _) .nil)
  · split at hz
    · rename_i c
      obtain ⟨c1, rfl⟩ := c
      cases hz
      have c1' : vs ≠ [] := fun q => c1 (by rw [q] at e1; exact List.eq_nil_of_length_eq_zero e1.symm)
      exact .inr ⟨a, vs, rfl, rfl, sqT_same w.sub h1, c1', k _ _ (Ext.refl ..) w _ (.tup h1 l1 r1)⟩
    · cases hz
end
end BK

/-! BkC: operators, comparisons, subscripts, slices, tests, by values -/
namespace BK
open PySem PySem.Spec PyProof.Rows L2

/-! ### + - * // % ** -/
def opAdd : PV → PV → Option PV
  | .int i, .int j => some (.int (i + j))
  | .str a, .str b => if a.length + b.length ≤ sizeLine then some (.str (a ++ b)) else none
  | .tup xs, .tup ys => if xs.length + ys.length ≤ sizeLine then some (.tup (xs ++ ys)) else none
  | .lst xs, .lst ys => if xs.length + ys.length ≤ sizeLine then some (.lst (xs ++ ys)) else none
  | _, _ => none
def opSub : PV → PV → Option PV
  | .int i, .int j => some (.int (i - j))
  | _, _ => none
def mulOk (i j : Int) : Bool := decide (-(2 ^ 64) < i ∧ i < 2 ^ 64) || decide (-(2 ^ 64) < j ∧ j < 2 ^ 64)
def opMul : PV → PV → Option PV
  | .int i, .int j => if mulOk i j = true then some (.int (i * j)) else none
  | .tup xs, .int k => if xs ≠ [] ∧ k = 0 then some (.tup []) else if xs ≠ [] ∧ k = 1 then some (.tup xs) else if xs ≠ [] ∧ 2 ≤ k ∧ k ≤ 1000 ∧ xs.length ≤ 1000 then some (.tup (List.replicate k.toNat xs).flatten) else none
  | _, _ => none
def opDiv : PV → PV → Option PV
  | .int i, .int j => if 0 < j ∧ j < 1073741824 then some (.int (i / j)) else none
  | _, _ => none
def opMod : PV → PV → Option PV
  | .int i, .int j => if 0 < j then some (.int (i % j)) else none
  | _, _ => none
def opPow : PV → PV → Option PV
  | .int i, .int j => if 0 ≤ j ∧ j ≤ 1000000 ∧ i.natAbs < 2 ^ 64 then some (.int (i ^ j.toNat)) else none
  | _, _ => none
section
variable {X : Cx} {g : Gx}
theorem vo_add : VOp g (fun x y H Q => rI0 (fun i j => .int (i + j)) x y H Q ∨ (∃ i j, x = .str i ∧ y = .str j ∧ i.length + j.length ≤ sizeLine ∧ Q (.str (i ++ j)) H) ∨ rCatA g.K x y H Q ∨ rCat x y H Q) opAdd :=
  VOp.imp (VOp.or (vo_int0 (p := fun i j => .int (i + j)) fun _ _ _ _ => .int _) (VOp.or vo_addS (VOp.or vo_addT vo_addL))) fun a b z h => by
    cases a <;> cases b <;> simp [opAdd] at h <;> simp [iI, addS, addT, addL, h]
theorem op_add4 : OpR X (binaryOp .Add) (fun x y H Q => rI0 (fun i j => .int (i + j)) x y H Q ∨ (∃ i j, x = .str i ∧ y = .str j ∧ i.length + j.length ≤ sizeLine ∧ Q (.str (i ++ j)) H) ∨ rCatA X.K x y H Q ∨ rCat x y H Q) :=
  op_add.or (op_add_str.or (op_catA.or op_cat))
theorem vo_sub : VOp g (rI0 fun i j => .int (i - j)) opSub := VOp.imp (vo_int0 (p := fun i j => .int (i - j)) fun _ _ _ _ => .int _) fun a b z h => by
  cases a <;> cases b <;> simp [opSub] at h <;> simp [iI, h]
def repT : PV → PV → Option PV
  | .tup xs, .int k => if xs ≠ [] ∧ 2 ≤ k ∧ k ≤ 1000 ∧ xs.length ≤ 1000 then some (.tup (List.replicate k.toNat xs).flatten) else none
  | _, _ => none
theorem vo_repT : VOp g (rRepT g.K) repT := by
  intro F μ H st x y px py z Q w rx ry hz k
  cases rx <;> try (simp [repT] at hz; done)
  cases ry <;> try (simp [repT] at hz; done)
  rename_i a vs xs h1 l1 r1 n
  simp only [repT] at hz
  split at hz
  · rename_i c
    cases hz
    obtain ⟨c1, c2, c3, c4⟩ := c
    have e1 := r1.length
    have c1' : vs ≠ [] := fun q => c1 (by rw [q] at e1; exact List.eq_nil_of_length_eq_zero e1.symm)
    refine ⟨a, n, vs, rfl, rfl, sqT_same w.sub h1, c1', c2, c3, by omega, fun p hp => ?_⟩
    obtain ⟨e, w2, q2⟩ := w.alloc hp (.tup (List.replicate n.toNat vs).flatten)
    refine k _ _ e w2 _ (.tup (.inl (.inl q2)) ?_ ((Reps.ext e r1).rep _))
    rw [PyProof.Rows.lm_len_rep_flat, sizeLine_eq]
    have a1 : n.toNat * vs.length ≤ 1000 * 1000 := Nat.mul_le_mul (by omega) (by omega)
    omega
  · cases hz
theorem vo_mul : VOp g (fun x y H Q => rI CMul (fun i j => .int (i * j)) x y H Q ∨ (rRep0 g.K x y H Q ∨ rRep1 g.K x y H Q) ∨ rRepT g.K x y H Q) opMul :=
  VOp.imp (VOp.or (vo_int (D := mulOk) (p := fun i j => .int (i * j)) (fun i j h => by
    unfold mulOk at h
    rw [Bool.or_eq_true] at h
    exact h.imp of_decide_eq_true of_decide_eq_true) fun _ _ _ _ => .int _) (VOp.or vo_rep01 vo_repT)) fun a b z h => by
    cases a <;> cases b <;> simp only [opMul] at h <;> try (cases h; done)
    · simp [iI, rep01, repT]; simpa using h
    · rename_i xs k
      simp only [iI, rep01, repT]
      split at h
      · rename_i c; rw [if_pos c]; simpa using h
      · rename_i c
        rw [if_neg c]
        split at h
        · rename_i c2; rw [if_pos c2]; simpa using h
        · rename_i c2; rw [if_neg c2]; simpa using h
theorem op_mul2 : OpR X (binaryOp .Mult) (fun x y H Q => rI CMul (fun i j => .int (i * j)) x y H Q ∨ (rRep0 X.K x y H Q ∨ rRep1 X.K x y H Q) ∨ rRepT X.K x y H Q) := op_mul.or ((op_rep0.or op_rep1).or op_repT)
theorem vo_div : VOp g (rI CDiv fun i j => .int (i / j)) opDiv :=
  VOp.imp (vo_int (D := fun _ j => decide (0 < j ∧ j < 1073741824)) (p := fun i j => .int (i / j)) (fun i j h => show 0 < j ∧ j < 1073741824 from of_decide_eq_true h) fun _ _ _ _ => .int _) fun a b z h => by
    cases a <;> cases b <;> simp [opDiv] at h <;> simp [iI, h]
theorem vo_mod : VOp g (rI (fun _ j => 0 < j) fun i j => .int (i % j)) opMod :=
  VOp.imp (vo_int (D := fun _ j => decide (0 < j)) (p := fun i j => .int (i % j)) (fun i j h => of_decide_eq_true h) fun _ _ _ _ => .int _) fun a b z h => by
    cases a <;> cases b <;> simp [opMod] at h <;> simp [iI, h]
theorem vo_pow : VOp g (rI CPow fun i j => .int (i ^ j.toNat)) opPow :=
  VOp.imp (vo_int (D := fun i j => decide (0 ≤ j ∧ j ≤ 1000000 ∧ i.natAbs < 2 ^ 64)) (p := fun i j => .int (i ^ j.toNat)) (fun i j h => show 0 ≤ j ∧ j ≤ 1000000 ∧ i.natAbs < 2 ^ 64 from of_decide_eq_true h) fun _ _ _ _ => .int _) fun a b z h => by
    cases a <;> cases b <;> simp [opPow] at h <;> simp [iI, h]
end

/-! ### comparisons -/
def eqOk (x y : PV) : Bool := x.plain && y.plain && decide (min x.depth y.depth ≤ 60)
def opEq (x y : PV) : Option PV := if eqOk x y = true then some (.bl (x.eqv y)) else none
def opNe (x y : PV) : Option PV := if eqOk x y = true then some (.bl (!x.eqv y)) else none
def opLt : PV → PV → Option PV
  | .int i, .int j => some (.bl (decide (i < j)))
  | _, _ => none
def opLe : PV → PV → Option PV
  | .int i, .int j => some (.bl (decide (i ≤ j)))
  | _, _ => none
def opGt : PV → PV → Option PV
  | .int i, .int j => some (.bl (decide (j < i)))
  | _, _ => none
def opGe : PV → PV → Option PV
  | .int i, .int j => some (.bl (decide (j ≤ i)))
  | _, _ => none
def inOk (x : PV) (xs : List PV) : Bool := x.plain && PV.plains xs && decide (min (PV.depths xs) x.depth ≤ 60)
def opIn0 : PV → PV → Option PV
  | x, .tup xs => if inOk x xs = true then some (.bl (xs.any fun y => y.eqv x)) else none
  | x, .lst xs => if inOk x xs = true then some (.bl (xs.any fun y => y.eqv x)) else none
  | .str x, .str y => if x.length = 1 then some (.bl (decide (x.cps.getD 0 0 ∈ y.cps.toList))) else none
  | _, _ => none
def opNotIn0 : PV → PV → Option PV
  | x, .tup xs => if inOk x xs = true then some (.bl (!xs.any fun y => y.eqv x)) else none
  | x, .lst xs => if inOk x xs = true then some (.bl (!xs.any fun y => y.eqv x)) else none
  | .str x, .str y => if x.length = 1 then some (.bl (!decide (x.cps.getD 0 0 ∈ y.cps.toList))) else none
  | _, _ => none
def isN : PV → Bool
  | .non => true
  | _ => false
def opIs : PV → PV → Option PV
  | x, .non => some (.bl (isN x))
  | .bl a, .bl b => some (.bl (decide (a = b)))
  | _, _ => none
def opIsNot : PV → PV → Option PV
  | x, .non => some (.bl (!isN x))
  | .bl a, .bl b => some (.bl (!decide (a = b)))
  | _, _ => none
section
variable {X : Cx} {g : Gx}
def rEqM (K : PySem.W.Frag) : R2 := fun x y H Q => ∃ d e, Dp K H x d ∧ Dp K H y e ∧ d.canLay0 = true ∧ e.canLay0 = true ∧ min d.depth e.depth ≤ 60 ∧ Q (.bl (PyData.eqv d e)) H
def rNeM (K : PySem.W.Frag) : R2 := fun x y H Q => ∃ d e, Dp K H x d ∧ Dp K H y e ∧ d.canLay0 = true ∧ e.canLay0 = true ∧ min d.depth e.depth ≤ 60 ∧ Q (.bl (!PyData.eqv d e)) H
theorem op_eqM (hu : X.A.units + 64 < cLine) : OpR X (compareOp .Eq) (rEqM X.K) := by
  intro pins s σ H x y v u Q I rx ry h
  obtain ⟨d, e, hd, he, sd, se, hm, q⟩ := h
  obtain ⟨as, r1⟩ := Dp.reads I d x v hd rx
  obtain ⟨bs, r2⟩ := Dp.reads I e y u he ry
  exact SeqAt.compareEq_reads r1 r2 sd se (by omega) ⟨.bl _, H, I, rfl, q⟩
theorem op_neM (hu : X.A.units + 64 < cLine) : OpR X (compareOp .NotEq) (rNeM X.K) := by
  intro pins s σ H x y v u Q I rx ry h
  obtain ⟨d, e, hd, he, sd, se, hm, q⟩ := h
  obtain ⟨as, r1⟩ := Dp.reads I d x v hd rx
  obtain ⟨bs, r2⟩ := Dp.reads I e y u he ry
  exact SeqAt.compareNe_reads r1 r2 sd se (by omega) ⟨.bl _, H, I, rfl, q⟩
theorem eqOk_inv {x y : PV} (h : eqOk x y = true) : x.plain = true ∧ y.plain = true ∧ min x.depth y.depth ≤ 60 := by
  unfold eqOk at h
  rw [Bool.and_eq_true, Bool.and_eq_true] at h
  exact ⟨h.1.1, h.1.2, of_decide_eq_true h.2⟩
theorem vo_eq : VOp g (rEqM g.K) opEq := by
  intro F μ H st x y px py z Q w rx ry hz k
  unfold opEq at hz
  split at hz
  · rename_i c
    cases hz
    obtain ⟨c1, c2, c3⟩ := eqOk_inv c
    obtain ⟨d1, l1⟩ := Rep.dp w.sub px x c1 rx
    obtain ⟨d2, l2⟩ := Rep.dp w.sub py y c2 ry
    refine ⟨_, _, d1, d2, l1, l2, by rw [toD_depth, toD_depth]; exact c3, ?_⟩
    rw [toD_eqv px py c1 c2]
    exact k F H (Ext.refl ..) w _ (.bl _)
  · cases hz
theorem vo_ne : VOp g (rNeM g.K) opNe := by
  intro F μ H st x y px py z Q w rx ry hz k
  unfold opNe at hz
  split at hz
  · rename_i c
    cases hz
    obtain ⟨c1, c2, c3⟩ := eqOk_inv c
    obtain ⟨d1, l1⟩ := Rep.dp w.sub px x c1 rx
    obtain ⟨d2, l2⟩ := Rep.dp w.sub py y c2 ry
    refine ⟨_, _, d1, d2, l1, l2, by rw [toD_depth, toD_depth]; exact c3, ?_⟩
    rw [toD_eqv px py c1 c2]
    exact k F H (Ext.refl ..) w _ (.bl _)
  · cases hz
theorem vo_lt : VOp g (rI0 fun i j => .bl (decide (i < j))) opLt := VOp.imp (vo_int0 (p := fun i j => .bl (decide (i < j))) fun _ _ _ _ => .bl _) fun a b z h => by
  cases a <;> cases b <;> simp [opLt] at h <;> simp [iI, h]
theorem vo_le : VOp g (rI0 fun i j => .bl (decide (i ≤ j))) opLe := VOp.imp (vo_int0 (p := fun i j => .bl (decide (i ≤ j))) fun _ _ _ _ => .bl _) fun a b z h => by
  cases a <;> cases b <;> simp [opLe] at h <;> simp [iI, h]
theorem vo_gt : VOp g (rI0 fun i j => .bl (decide (j < i))) opGt := VOp.imp (vo_int0 (p := fun i j => .bl (decide (j < i))) fun _ _ _ _ => .bl _) fun a b z h => by
  cases a <;> cases b <;> simp [opGt] at h <;> simp [iI, h]
theorem vo_ge : VOp g (rI0 fun i j => .bl (decide (j ≤ i))) opGe := VOp.imp (vo_int0 (p := fun i j => .bl (decide (j ≤ i))) fun _ _ _ _ => .bl _) fun a b z h => by
  cases a <;> cases b <;> simp [opGe] at h <;> simp [iI, h]
/-! ### in, not in -/
def rInM (K : PySem.W.Frag) (neg : Bool) : R2 := fun x y H Q => ∃ d ds, Dp K H x d ∧ (Dp K H y (.list ds) ∨ Dp K H y (.tuple ds)) ∧ d.canLay0 = true ∧ PyData.canLayAll0 ds = true ∧ min (PyData.depthAll ds) d.depth ≤ 60 ∧ Q (.bl (if neg then !ds.any fun z => PyData.eqv z d else ds.any fun z => PyData.eqv z d)) H
theorem op_inM (hu : X.A.units + 64 < cLine) : OpR X (compareOp .In) (rInM X.K false) := by
  intro pins s σ H x y v u Q I rx ry h
  obtain ⟨d, ds, hd, he, sd, se, hm, q⟩ := h
  obtain ⟨as, r1⟩ := Dp.reads I d x v hd rx
  rcases he with he | he
  · obtain ⟨bs, r2⟩ := Dp.reads I (.list ds) y u he ry
    exact SeqAt.in_list_reads r2 r1 se sd (by omega) ⟨.bl _, H, I, rfl, q⟩
  · obtain ⟨bs, r2⟩ := Dp.reads I (.tuple ds) y u he ry
    exact SeqAt.in_tuple_reads r2 r1 se sd (by omega) ⟨.bl _, H, I, rfl, q⟩
theorem op_notInM (hu : X.A.units + 64 < cLine) : OpR X (compareOp .NotIn) (rInM X.K true) := by
  intro pins s σ H x y v u Q I rx ry h
  obtain ⟨d, ds, hd, he, sd, se, hm, q⟩ := h
  obtain ⟨as, r1⟩ := Dp.reads I d x v hd rx
  rcases he with he | he
  · obtain ⟨bs, r2⟩ := Dp.reads I (.list ds) y u he ry
    exact SeqAt.notIn_list_reads r2 r1 se sd (by omega) ⟨.bl _, H, I, rfl, q⟩
  · obtain ⟨bs, r2⟩ := Dp.reads I (.tuple ds) y u he ry
    exact SeqAt.notIn_tuple_reads r2 r1 se sd (by omega) ⟨.bl _, H, I, rfl, q⟩
theorem inOk_inv {x : PV} {xs : List PV} (h : inOk x xs = true) : x.plain = true ∧ PV.plains xs = true ∧ min (PV.depths xs) x.depth ≤ 60 := by
  unfold inOk at h
  rw [Bool.and_eq_true, Bool.and_eq_true] at h
  exact ⟨h.1.1, h.1.2, of_decide_eq_true h.2⟩
theorem toDs_any {x : PV} (hx : x.plain = true) : ∀ {xs : List PV}, PV.plains xs = true → ((PV.toDs xs).any fun z => PyData.eqv z (PV.toD x)) = xs.any fun y => y.eqv x
  | [], _ => by simp [PV.toDs]
  | y :: ys, h => by
    simp only [PV.plains, Bool.and_eq_true] at h
    simp only [PV.toDs, List.any_cons, toD_eqv y x h.1 hx, toDs_any hx h.2]
def inSeq (neg : Bool) : PV → PV → Option PV
  | x, .tup xs => if inOk x xs = true then some (.bl (if neg then !xs.any fun y => y.eqv x else xs.any fun y => y.eqv x)) else none
  | x, .lst xs => if inOk x xs = true then some (.bl (if neg then !xs.any fun y => y.eqv x else xs.any fun y => y.eqv x)) else none
  | _, _ => none
theorem vo_inSeq (neg : Bool) : VOp g (rInM g.K neg) (inSeq neg) := by
  intro F μ H st x y px py z Q w rx ry hz k
  cases ry <;> try (simp [inSeq] at hz; done)
  · rename_i b ws ys h2 l2 r2
    simp only [inSeq] at hz
    split at hz
    · rename_i c
      cases hz
      obtain ⟨c1, c2, c3⟩ := inOk_inv c
      obtain ⟨d1, q1⟩ := Rep.dp w.sub px x c1 rx
      obtain ⟨d2, q2⟩ := Reps.dp w.sub ys ws c2 r2
      refine ⟨_, _, d1, .inr (.tup (sqT_same w.sub h2) d2), q1, q2, by rw [toD_depth, toDs_depth]; exact c3, ?_⟩
      rw [toDs_any c1 c2]
      exact k F H (Ext.refl ..) w _ (.bl _)
    · cases hz
  · rename_i b ws ys h2 l2 r2
    simp only [inSeq] at hz
    split at hz
    · rename_i c
      cases hz
      obtain ⟨c1, c2, c3⟩ := inOk_inv c
      obtain ⟨d1, q1⟩ := Rep.dp w.sub px x c1 rx
      obtain ⟨d2, q2⟩ := Reps.dp w.sub ys ws c2 r2
      refine ⟨_, _, d1, .inl (.lst (SqL.of (w.sub _ _ h2)) d2), q1, q2, by rw [toD_depth, toDs_depth]; exact c3, ?_⟩
      rw [toDs_any c1 c2]
      exact k F H (Ext.refl ..) w _ (.bl _)
    · cases hz
def inStr (neg : Bool) : PV → PV → Option PV
  | .str x, .str y => if x.length = 1 then some (.bl (if neg then !decide (x.cps.getD 0 0 ∈ y.cps.toList) else decide (x.cps.getD 0 0 ∈ y.cps.toList))) else none
  | _, _ => none
theorem str_one {x : Str} (h : x.length = 1) : x = ⟨#[x.cps.getD 0 0]⟩ := by
  obtain ⟨⟨l⟩⟩ := x
  match l, h with
  | [c], _ => rfl
theorem vo_inStr : VOp g (fun x y H Q => ∃ (c : Nat) (z : Str), x = .str ⟨#[c]⟩ ∧ y = .str z ∧ Q (.bl (decide (c ∈ z.cps.toList))) H) (inStr false) := by
  intro F μ H st x y px py z Q w rx ry hz k
  cases rx <;> try (simp [inStr] at hz; done)
  cases ry <;> try (simp [inStr] at hz; done)
  rename_i i hi hil j hj hjl
  simp only [inStr] at hz
  split at hz
  · rename_i c
    cases hz
    exact ⟨_, j, congrArg V.str (str_one c), rfl, k F H (Ext.refl ..) w _ (.bl _)⟩
  · cases hz
theorem vo_notInStr : VOp g (fun x y H Q => ∃ (c : Nat) (z : Str), x = .str ⟨#[c]⟩ ∧ y = .str z ∧ Q (.bl (!decide (c ∈ z.cps.toList))) H) (inStr true) := by
  intro F μ H st x y px py z Q w rx ry hz k
  cases rx <;> try (simp [inStr] at hz; done)
  cases ry <;> try (simp [inStr] at hz; done)
  rename_i i hi hil j hj hjl
  simp only [inStr] at hz
  split at hz
  · rename_i c
    cases hz
    exact ⟨_, j, congrArg V.str (str_one c), rfl, k F H (Ext.refl ..) w _ (.bl _)⟩
  · cases hz
theorem vo_in : VOp g (fun x y H Q => rInM g.K false x y H Q ∨ ∃ (c : Nat) (z : Str), x = .str ⟨#[c]⟩ ∧ y = .str z ∧ Q (.bl (decide (c ∈ z.cps.toList))) H) opIn0 :=
  VOp.imp (VOp.or (vo_inSeq false) vo_inStr) fun a b z h => by
    cases b <;> first | (simp only [opIn0] at h; simp [inSeq, h]; done) | skip
    all_goals cases a <;> simp [opIn0] at h <;> simp [inSeq, inStr, h]
theorem vo_notIn : VOp g (fun x y H Q => rInM g.K true x y H Q ∨ ∃ (c : Nat) (z : Str), x = .str ⟨#[c]⟩ ∧ y = .str z ∧ Q (.bl (!decide (c ∈ z.cps.toList))) H) opNotIn0 :=
  VOp.imp (VOp.or (vo_inSeq true) vo_notInStr) fun a b z h => by
    cases b <;> first | (simp only [opNotIn0] at h; simp [inSeq, h]; done) | skip
    all_goals cases a <;> simp [opNotIn0] at h <;> simp [inSeq, inStr, h]
theorem op_in2 (hu : X.A.units + 64 < cLine) : OpR X (compareOp .In) (fun x y H Q => rInM X.K false x y H Q ∨ ∃ (c : Nat) (z : Str), x = .str ⟨#[c]⟩ ∧ y = .str z ∧ Q (.bl (decide (c ∈ z.cps.toList))) H) := (op_inM hu).or op_in_sign
theorem op_notIn2 (hu : X.A.units + 64 < cLine) : OpR X (compareOp .NotIn) (fun x y H Q => rInM X.K true x y H Q ∨ ∃ (c : Nat) (z : Str), x = .str ⟨#[c]⟩ ∧ y = .str z ∧ Q (.bl (!decide (c ∈ z.cps.toList))) H) := (op_notInM hu).or op_notIn_sign
/-! ### is -/
theorem rep_isN {F : Hp} {μ : List Addr} {x : V} {px : PV} (r : Rep g.K g.fa F μ x px) : decide (x = .non) = isN px := by
  cases r <;> simp [isN]
def isB (neg : Bool) : PV → PV → Option PV
  | .bl a, .bl b => some (.bl (if neg then !decide (a = b) else decide (a = b)))
  | _, _ => none
def isNo (neg : Bool) : PV → PV → Option PV
  | x, .non => some (.bl (if neg then !isN x else isN x))
  | _, _ => none
theorem vo_isN : VOp g (fun x y H Q => y = .non ∧ Q (.bl (decide (x = .non))) H) (isNo false) := by
  intro F μ H st x y px py z Q w rx ry hz k
  cases ry <;> try (simp [isNo] at hz; done)
  simp only [isNo] at hz
  cases hz
  exact ⟨rfl, by rw [rep_isN rx]; exact k F H (Ext.refl ..) w _ (.bl _)⟩
theorem vo_notN : VOp g (fun x y H Q => y = .non ∧ Q (.bl (!decide (x = .non))) H) (isNo true) := by
  intro F μ H st x y px py z Q w rx ry hz k
  cases ry <;> try (simp [isNo] at hz; done)
  simp only [isNo] at hz
  cases hz
  exact ⟨rfl, by rw [rep_isN rx]; exact k F H (Ext.refl ..) w _ (.bl _)⟩
theorem vo_isB : VOp g rIsB (isB false) := by
  intro F μ H st x y px py z Q w rx ry hz k
  cases rx <;> try (simp [isB] at hz; done)
  cases ry <;> try (simp [isB] at hz; done)
  simp only [isB] at hz
  cases hz
  exact ⟨_, _, rfl, rfl, k F H (Ext.refl ..) w _ (.bl _)⟩
theorem vo_notB : VOp g rNotB (isB true) := by
  intro F μ H st x y px py z Q w rx ry hz k
  cases rx <;> try (simp [isB] at hz; done)
  cases ry <;> try (simp [isB] at hz; done)
  simp only [isB] at hz
  cases hz
  exact ⟨_, _, rfl, rfl, k F H (Ext.refl ..) w _ (.bl _)⟩
theorem vo_is : VOp g (fun x y H Q => (y = .non ∧ Q (.bl (decide (x = .non))) H) ∨ rIsB x y H Q) opIs := VOp.imp (VOp.or vo_isN vo_isB) fun a b z h => by
  cases a <;> cases b <;> simp [opIs] at h <;> simp [isNo, isB, h]
theorem vo_isNot : VOp g (fun x y H Q => (y = .non ∧ Q (.bl (!decide (x = .non))) H) ∨ rNotB x y H Q) opIsNot := VOp.imp (VOp.or vo_notN vo_notB) fun a b z h => by
  cases a <;> cases b <;> simp [opIsNot] at h <;> simp [isNo, isB, h]
end
end BK

/-! BkD: subscripts, slices, tests, calls of defs -/
namespace BK
open PySem PySem.Spec PyProof.Rows L2

/-! ### a[i] -/
def opIx0 (st : Sto) : PV → PV → Option PV
  | .tup xs, .int i => atI xs i
  | .lst xs, .int i => atI xs i
  | .scr xs, .int i => atI xs i
  | .str s, .int i => (atI s.cps.toList i).map fun c => .str ⟨#[c]⟩
  | .ref n, .int i => match st[n]? with
    | some (.lst xs) => atI xs i
    | _ => none
  | _, _ => none
def VOpS (g : Gx) (r : R2) (f : Sto → PV → PV → Option PV) : Prop := ∀ (F : Hp) (μ : List Addr) (H : Hp) (st : Sto) (x y : V) (px py z : PV) (Q : VK), Wok g.K g.fa F μ H st → Rep g.K g.fa F μ x px → Rep g.K g.fa F μ y py → f st px py = some z →
  (∀ F' H', Ext F μ H F' μ H' → Wok g.K g.fa F' μ H' st → ∀ v, Rep g.K g.fa F' μ v z → Q v H') → r x y H Q
def mBinS (f : Sto → PV → PV → Option PV) (ma mb : EM) : EM := fun ρ st => (ma ρ st).bind fun x st1 => (mb ρ st1).bind fun y st2 => Res.opt (f st2 x y) st2
section
variable {g : Gx} {F : Hp} {μ : List Addr}
theorem Reps.atI {vs : List V} {xs : List PV} {i : Int} {x : PV} (r : Reps g.K g.fa F μ vs xs) (h : atI xs i = some x) : ∃ v, L2.atI vs i = some v ∧ Rep g.K g.fa F μ v x := by
  unfold L2.atI at h ⊢
  rw [r.length]
  cases q : ixN xs.length i with
  | none => rw [q] at h; cases h
  | some j =>
    rw [q] at h
    exact r.get h
end
section
variable {X : Cx} {g : Gx} {W : WX} {a b : Expr} {pos : Pos} {ma mb : EM}
theorem tOpS_of {r : R2} {f : Sto → PV → PV → Option PV} (hf : VOpS g r f) {σ : L2.St} {H : Hp} {Q : VK} (h : tE g W (mBinS f ma mb) σ H Q) : tOp r (tE g W ma) (tE g W mb) σ H Q := by
  obtain ⟨F, μ, st, ρ, w, en, h⟩ := h
  refine ⟨F, μ, st, ρ, w, en, (Post.bind h).imp fun x st1 F1 μ1 H1 e1 w1 h1 v rv => ?_⟩
  refine ⟨F1, μ1, st1, ρ, w1, en.mono e1, (Post.bind h1).imp fun y st2 F2 μ2 H2 e2 w2 h2 u ru => ?_⟩
  obtain ⟨z, hz, h3⟩ := Post.opt h2
  exact hf F2 μ2 H2 st2 v u x y z Q w2 (Rep.ext e2 rv) ru hz fun F' H' e' w' v' r' => h3 F' μ2 H' e' w' v' r'
theorem vo_ix : VOpS g (rIx g.K) opIx0 := by
  intro F μ H st x y px py z Q w rx ry hz k
  have fin : ∀ v, Rep g.K g.fa F μ v z → Q v H := fun v r => k F H (Ext.refl ..) w v r
  cases ry <;> try (cases rx <;> simp [opIx0] at hz; done)
  rename_i i
  cases rx <;> try (simp [opIx0] at hz; done)
  · rename_i s hs hl
    simp only [opIx0, Option.map_eq_some_iff] at hz
    obtain ⟨c, hc, rfl⟩ := hz
    refine .inr (.inr ⟨s, i, c, rfl, rfl, hl, hc, fin _ (.str _ ?_ (by show 1 ≤ sizeLine; rw [sizeLine_eq]; omega))⟩)
    obtain ⟨j, _, hj, _⟩ := atI_get hc
    unfold PyData.strOk at hs ⊢
    rw [Array.all_eq_true_iff_forall_mem] at hs
    have := hs c (by rw [← Array.mem_toList_iff]; exact List.mem_of_getElem? hj)
    simpa using this
  · rename_i a vs xs h l r
    simp only [opIx0] at hz
    obtain ⟨v, hv, rv⟩ := r.atI hz
    exact .inr (.inl ⟨a, vs, i, v, rfl, rfl, sqT_same w.sub h, hv, fin v rv⟩)
  · rename_i a vs xs h l r
    simp only [opIx0] at hz
    obtain ⟨v, hv, rv⟩ := r.atI hz
    exact .inl ⟨a, vs, i, v, rfl, rfl, SqL.of (w.sub _ _ h), hv, fin v rv⟩
  · rename_i a vs xs h l r
    simp only [opIx0] at hz
    obtain ⟨v, hv, rv⟩ := r.atI hz
    exact .inl ⟨a, vs, i, v, rfl, rfl, w.sub.seq h, hv, fin v rv⟩
  · rename_i n a h
    simp only [opIx0] at hz
    obtain ⟨so, ho, h1, h2, h3⟩ := w.obj n a h
    rw [h1] at hz
    cases so <;> try (cases hz; done)
    rename_i xs
    obtain ⟨vs, rfl, h4, h3⟩ := h3.lst
    obtain ⟨v, hv, rv⟩ := h3.atI (show atI xs i = some z from hz)
    exact .inl ⟨a, vs, i, v, rfl, rfl, SqL.of h2, hv, fin v rv⟩
theorem se_ixS0 (ha : PE X a (tE g W ma)) (hb : PE X b (tE g W mb)) (hK : g.K = X.K) (hs : PlainIx b) : PE X (.Subscript a b pos) (tE g W (mBinS opIx0 ma mb)) := by
  refine PE.mono (pe_ix ix_seq ha hb hs) fun _ _ _ h => ?_
  rw [← hK]
  exact tOpS_of vo_ix h
end

/-! ### a[lo:hi] -/
abbrev OM := PEnv → Sto → Res (Option Int)
def oNo : OM := fun _ st => .ok none st
def oInt (m : EM) : OM := fun ρ st => (m ρ st).bind fun x st1 => match x with
  | .int i => .ok (some i) st1
  | _ => .bad
def cut {α : Type} (xs : List α) (lo hi : Option Int) : List α := (xs.drop (HT.sIx xs.length 0 lo)).take (HT.sIx xs.length xs.length hi - HT.sIx xs.length 0 lo)
def opSl : PV → Option Int → Option Int → Option PV
  | .tup xs, lo, hi => some (.tup (cut xs lo hi))
  | .lst xs, lo, hi => some (.lst (cut xs lo hi))
  | _, _, _ => none
def mSl (m : EM) (l u : OM) : EM := fun ρ st => (m ρ st).bind fun x st1 => (l ρ st1).bind fun lo st2 => (u ρ st2).bind fun hi st3 => Res.opt (opSl x lo hi) st3
def tOx (g : Gx) (W : WX) (m : OM) : TO := fun σ H Q => ∃ F μ st ρ, Wok g.K g.fa F μ H st ∧ Env g F μ H σ ρ ∧ Post g F μ H W σ (m ρ st) fun o _ _ _ H' => Q o H'
section
variable {X : Cx} {g : Gx} {W : WX} {e : Expr} {lo hi : Option Expr} {pos p2 : Pos} {m : EM} {l u : OM}
theorem PO.mono {e : Option Expr} {t t' : TO} (h : PO X e t) (i : ∀ σ H Q, t' σ H Q → t σ H Q) : PO X e t' := ⟨fun pins s σ H Q I q => h.run pins s σ H Q I (i _ _ _ q)⟩
theorem so_none : PO X none (tOx g W oNo) := PO.mono po_none fun σ H Q h => by
  obtain ⟨F, μ, st, ρ, w, en, h⟩ := h
  exact h F μ H (Ext.refl ..) w
theorem so_some (h : PE X e (tE g W m)) : PO X (some e) (tOx g W (oInt m)) := PO.mono (po_some h) fun σ H Q h => by
  obtain ⟨F, μ, st, ρ, w, en, h⟩ := h
  refine ⟨F, μ, st, ρ, w, en, (Post.bind h).imp fun x st1 F1 μ1 H1 e1 w1 h1 v rv => ?_⟩
  cases rv with
  | int i => exact ⟨i, rfl, h1 F1 μ1 H1 (Ext.refl ..) w1⟩
  | _ => exact h1.elim
theorem cutV_eq (vs : List V) (lo hi : Option Int) : cutV vs lo hi = cut vs lo hi := rfl
theorem Reps.cut {F : Hp} {μ : List Addr} {vs : List V} {xs : List PV} (r : Reps g.K g.fa F μ vs xs) (lo hi : Option Int) : Reps g.K g.fa F μ (cut vs lo hi) (BK.cut xs lo hi) := by
  unfold BK.cut
  rw [r.length]
  exact (r.drop _).take _
theorem cut_length {α : Type} (xs : List α) (lo hi : Option Int) : (cut xs lo hi).length ≤ xs.length := by
  unfold cut
  rw [List.length_take, List.length_drop]
  omega
theorem cut_whole {α : Type} {xs : List α} {lo hi : Option Int} (h : HT.sIx xs.length 0 lo = 0 ∧ HT.sIx xs.length xs.length hi = xs.length) : cut xs lo hi = xs := by
  unfold cut
  rw [h.1, h.2]
  simp
theorem se_sl (he : PE X e (tE g W m)) (hl : PO X lo (tOx g W l)) (hu : PO X hi (tOx g W u)) (hK : g.K = X.K) : PE X (.Subscript e (.Slice lo hi none p2) pos) (tE g W (mSl m l u)) := by
  refine PE.mono (pe_slice (sl_tupA.or sl_list) he hl hu) fun σ H Q h => ?_
  obtain ⟨F, μ, st, ρ, w, en, h⟩ := h
  refine ⟨F, μ, st, ρ, w, en, (Post.bind h).imp fun x st1 F1 μ1 H1 e1 w1 h1 v rv => ?_⟩
  refine ⟨F1, μ1, st1, ρ, w1, en.mono e1, (Post.bind h1).imp fun lo st2 F2 μ2 H2 e2 w2 h2 => ?_⟩
  refine ⟨F2, μ2, st2, ρ, w2, (en.mono e1).mono e2, (Post.bind h2).imp fun hi st3 F3 μ3 H3 e3 w3 h3 => ?_⟩
  obtain ⟨z, hz, h4⟩ := Post.opt h3
  have rv := Rep.ext e3 (Rep.ext e2 rv)
  cases rv <;> try (simp [opSl] at hz; done)
  · rename_i a vs xs h l r
    simp only [opSl] at hz
    cases hz
    rw [← hK]
    refine .inl ⟨a, vs, rfl, sqT_same w3.sub h, fun c => ?_, fun _ p hp => ?_⟩
    · have c' : HT.sIx xs.length 0 lo = 0 ∧ HT.sIx xs.length xs.length hi = xs.length := by rw [← r.length]; exact c
      rw [cut_whole c'] at h4
      exact h4 F3 μ3 H3 (Ext.refl ..) w3 _ (.tup h l r)
    · obtain ⟨e4, w4, q4⟩ := w3.alloc hp (.tup (cutV vs lo hi))
      exact h4 _ _ _ e4 w4 _ (.tup (.inl (.inl q4)) (Nat.le_trans (cut_length vs lo hi) l) ((Reps.ext e4 r).cut lo hi))
  · rename_i a vs xs h l r
    simp only [opSl] at hz
    cases hz
    refine .inr ⟨a, vs, rfl, SqL.of (w3.sub _ _ h), fun p hp => ?_⟩
    obtain ⟨e4, w4, q4⟩ := w3.alloc hp (.lst (cutV vs lo hi))
    exact h4 _ _ _ e4 w4 _ (.lst q4 (Nat.le_trans (cut_length vs lo hi) l) ((Reps.ext e4 r).cut lo hi))
end

/-! ### - a -/
def opNeg : PV → Option PV
  | .int i => some (.int (-i))
  | _ => none
def mUn (f : PV → Option PV) (m : EM) : EM := fun ρ st => (m ρ st).bind fun x st1 => Res.opt (f x) st1
section
variable {X : Cx} {g : Gx} {W : WX} {a b c : Expr} {pos : Pos} {m ma mb : EM}
theorem se_neg (ha : PE X a (tE g W m)) : PE X (.UnaryOp .USub a pos) (tE g W (mUn opNeg m)) := by
  refine PE.mono (pe_un un_neg ha) fun σ H Q h => ?_
  obtain ⟨F, μ, st, ρ, w, en, h⟩ := h
  refine ⟨F, μ, st, ρ, w, en, (Post.bind h).imp fun x st1 F1 μ1 H1 e1 w1 h1 v rv => ?_⟩
  obtain ⟨z, hz, h2⟩ := Post.opt h1
  cases rv <;> try (simp [opNeg] at hz; done)
  rename_i i
  simp only [opNeg] at hz
  cases hz
  exact ⟨i, rfl, h2 F1 μ1 H1 (Ext.refl ..) w1 _ (.int _)⟩
end

/-! ### tests -/
def bVal (m : EM) : BM := fun ρ st => (m ρ st).bind fun x st1 => match x with
  | .bl b => .ok b st1
  | _ => .bad
def bAnd (a b : BM) : BM := fun ρ st => (a ρ st).bind fun c st1 => if c = true then b ρ st1 else .ok false st1
def bOr (a b : BM) : BM := fun ρ st => (a ρ st).bind fun c st1 => if c = true then .ok true st1 else b ρ st1
def bNot (a : BM) : BM := fun ρ st => (a ρ st).bind fun c st1 => .ok (!c) st1
def mAndV (a b : EM) : EM := fun ρ st => (a ρ st).bind fun x st1 => match x with
  | .bl c => if c = true then b ρ st1 else .ok (.bl false) st1
  | _ => .bad
def mOrV (a b : EM) : EM := fun ρ st => (a ρ st).bind fun x st1 => match x with
  | .bl c => if c = true then .ok (.bl true) st1 else b ρ st1
  | _ => .bad
def mNotV (a : EM) : EM := fun ρ st => (a ρ st).bind fun x st1 => match x with
  | .bl c => .ok (.bl (!c)) st1
  | _ => .bad
def mIf (c : BM) (a b : EM) : EM := fun ρ st => (c ρ st).bind fun d st1 => if d = true then a ρ st1 else b ρ st1
section
variable {X : Cx} {g : Gx} {W : WX} {a b c : Expr} {pos : Pos} {ma mb : EM} {ta tb tc : BM} {rest : List Expr}
theorem tTest_of {σ : L2.St} {H : Hp} {Q : Bool → Hp → Prop} {t : TE} (i : ∀ σ H Q, tE g W ma σ H Q → t σ H Q) (h : tT g W (bVal ma) σ H Q) : tTest t σ H Q := by
  obtain ⟨F, μ, st, ρ, w, en, h⟩ := h
  refine i _ _ _ ⟨F, μ, st, ρ, w, en, (Post.bind h).imp fun x st1 F1 μ1 H1 e1 w1 h1 v rv => ?_⟩
  cases rv with
  | bl b => exact ⟨b, rfl, h1 F1 μ1 H1 (Ext.refl ..) w1⟩
  | _ => exact h1.elim
theorem st_cmp {op : CmpOp} {r : R2} {f : PV → PV → Option PV} (ho : OpR X (compareOp op) r) (hf : VOp g r f) (ha : PE X a (tE g W ma)) (hb : PE X b (tE g W mb)) (hm : behindInMarks op b = false) : PT X (.Compare a [op] [b] pos) (tT g W (bVal (mBin f ma mb))) :=
  PT.mono (pt_cmpR ho ha hb hm) fun _ _ _ h => tTest_of (fun _ _ _ h => tOp_of hf h) h
theorem st_val (h : PE X a (tE g W ma)) (he : ∀ whole, isTrue a X.env whole = (do let v ← whole; standAt a.pos; holding [v] (truthy v))) : PT X a (tT g W (bVal ma)) :=
  PT.mono (pt_val h he) fun _ _ _ h => tTest_of (fun _ _ _ h => h) h
theorem st_not (h : PT X a (tT g W ta)) : PT X (.UnaryOp .Not a pos) (tT g W (bNot ta)) := PT.mono (pt_not h) fun σ H Q h => by
  obtain ⟨F, μ, st, ρ, w, en, h⟩ := h
  exact ⟨F, μ, st, ρ, w, en, (Post.bind h).imp fun c st1 F1 μ1 H1 e1 w1 h1 => h1 F1 μ1 H1 (Ext.refl ..) w1⟩
theorem PW.mono {t t' : TT} (h : PW X a t) (i : ∀ σ H Q, t' σ H Q → t σ H Q) : PW X a t' := ⟨fun wh pins s σ H Q I q => h.run wh pins s σ H Q I (i _ _ _ q)⟩
theorem tAnd_of {σ : L2.St} {H : Hp} {Q : Bool → Hp → Prop} (h : tT g W (bAnd ta tb) σ H Q) : tAnd (tT g W ta) (tT g W tb) σ H Q := by
  obtain ⟨F, μ, st, ρ, w, en, h⟩ := h
  refine ⟨F, μ, st, ρ, w, en, (Post.bind h).imp fun c st1 F1 μ1 H1 e1 w1 h1 => ?_⟩
  cases c with
  | true =>
    rw [if_pos rfl] at h1 ⊢
    exact ⟨F1, μ1, st1, ρ, w1, en.mono e1, h1⟩
  | false =>
    rw [if_neg Bool.false_ne_true] at h1 ⊢
    exact h1 F1 μ1 H1 (Ext.refl ..) w1
theorem tOr_of {σ : L2.St} {H : Hp} {Q : Bool → Hp → Prop} (h : tT g W (bOr ta tb) σ H Q) : tOr (tT g W ta) (tT g W tb) σ H Q := by
  obtain ⟨F, μ, st, ρ, w, en, h⟩ := h
  refine ⟨F, μ, st, ρ, w, en, (Post.bind h).imp fun c st1 F1 μ1 H1 e1 w1 h1 => ?_⟩
  cases c with
  | true =>
    rw [if_pos rfl] at h1 ⊢
    exact h1 F1 μ1 H1 (Ext.refl ..) w1
  | false =>
    rw [if_neg Bool.false_ne_true] at h1 ⊢
    exact ⟨F1, μ1, st1, ρ, w1, en.mono e1, h1⟩
theorem sw_and1 (h : PT X a (tT g W ta)) : PW X (.BoolOp .And [a] pos) (tT g W ta) := pw_and1 h
theorem sw_or1 (h : PT X a (tT g W ta)) : PW X (.BoolOp .Or [a] pos) (tT g W ta) := pw_or1 h
theorem sw_and (h : PT X a (tT g W ta)) (k : PW X (.BoolOp .And (b :: rest) pos) (tT g W tb)) : PW X (.BoolOp .And (a :: b :: rest) pos) (tT g W (bAnd ta tb)) := PW.mono (pw_and h k) fun _ _ _ h => tAnd_of h
theorem sw_or (h : PT X a (tT g W ta)) (k : PW X (.BoolOp .Or (b :: rest) pos) (tT g W tb)) : PW X (.BoolOp .Or (a :: b :: rest) pos) (tT g W (bOr ta tb)) := PW.mono (pw_or h k) fun _ _ _ h => tOr_of h
theorem se_one {op} (h : PE X a (tE g W ma)) : PE X (.BoolOp op [a] pos) (tE g W ma) := pe_one h
theorem se_and (ha : PE X a (tE g W ma)) (hb : PE X (.BoolOp .And (b :: rest) pos) (tE g W mb)) : PE X (.BoolOp .And (a :: b :: rest) pos) (tE g W (mAndV ma mb)) := PE.mono (pe_and ha hb) fun σ H Q h => by
  obtain ⟨F, μ, st, ρ, w, en, h⟩ := h
  refine ⟨F, μ, st, ρ, w, en, (Post.bind h).imp fun x st1 F1 μ1 H1 e1 w1 h1 v rv => ?_⟩
  cases rv with
  | bl c =>
    refine ⟨c, rfl, ?_⟩
    change Post g F1 μ1 H1 W σ (if c = true then mb ρ st1 else .ok (.bl false) st1) _ at h1
    cases c with
    | true =>
      rw [if_pos rfl] at h1 ⊢
      exact ⟨F1, μ1, st1, ρ, w1, en.mono e1, h1⟩
    | false =>
      rw [if_neg Bool.false_ne_true] at h1 ⊢
      exact h1 F1 μ1 H1 (Ext.refl ..) w1 _ (.bl _)
  | _ => exact h1.elim
theorem se_or (ha : PE X a (tE g W ma)) (hb : PE X (.BoolOp .Or (b :: rest) pos) (tE g W mb)) : PE X (.BoolOp .Or (a :: b :: rest) pos) (tE g W (mOrV ma mb)) := PE.mono (pe_or ha hb) fun σ H Q h => by
  obtain ⟨F, μ, st, ρ, w, en, h⟩ := h
  refine ⟨F, μ, st, ρ, w, en, (Post.bind h).imp fun x st1 F1 μ1 H1 e1 w1 h1 v rv => ?_⟩
  cases rv with
  | bl c =>
    refine ⟨c, rfl, ?_⟩
    change Post g F1 μ1 H1 W σ (if c = true then .ok (.bl true) st1 else mb ρ st1) _ at h1
    cases c with
    | false =>
      rw [if_neg Bool.false_ne_true] at h1 ⊢
      exact ⟨F1, μ1, st1, ρ, w1, en.mono e1, h1⟩
    | true =>
      rw [if_pos rfl] at h1 ⊢
      exact h1 F1 μ1 H1 (Ext.refl ..) w1 _ (.bl _)
  | _ => exact h1.elim
theorem se_not (ha : PE X a (tE g W ma)) : PE X (.UnaryOp .Not a pos) (tE g W (mNotV ma)) := PE.mono (pe_not ha) fun σ H Q h => by
  obtain ⟨F, μ, st, ρ, w, en, h⟩ := h
  refine ⟨F, μ, st, ρ, w, en, (Post.bind h).imp fun x st1 F1 μ1 H1 e1 w1 h1 v rv => ?_⟩
  cases rv with
  | bl c => exact ⟨c, rfl, h1 F1 μ1 H1 (Ext.refl ..) w1 _ (.bl _)⟩
  | _ => exact h1.elim
theorem se_if (hc : PT X c (tT g W tc)) (ha : PE X a (tE g W ma)) (hb : PE X b (tE g W mb)) : PE X (.IfExp c a b pos) (tE g W (mIf tc ma mb)) := PE.mono (pe_ifExp hc ha hb) fun σ H Q h => by
  obtain ⟨F, μ, st, ρ, w, en, h⟩ := h
  refine ⟨F, μ, st, ρ, w, en, (Post.bind h).imp fun d st1 F1 μ1 H1 e1 w1 h1 => ?_⟩
  cases d with
  | true =>
    rw [if_pos rfl] at h1 ⊢
    exact ⟨F1, μ1, st1, ρ, w1, en.mono e1, h1⟩
  | false =>
    rw [if_neg Bool.false_ne_true] at h1 ⊢
    exact ⟨F1, μ1, st1, ρ, w1, en.mono e1, h1⟩
end
end BK

/-! BkE: calls of defs and of built-ins -/
namespace BK
open PySem PySem.Spec PyProof.Rows L2

/-! ### no stars -/
def isStar : Expr → Bool
  | .Starred _ _ => true
  | _ => false
theorem starEach_cons {e : Expr} {es : List Expr} {env : PySem.Env} (h : isStar e = false) : starEach (e :: es) env = (false, eval e env) :: starEach es env := by
  cases e <;> first | rfl | (simp [isStar] at h)
theorem starEach_any : ∀ {es : List Expr} {env : PySem.Env}, es.any isStar = false → (starEach es env).any (·.1) = false
  | [], _, _ => rfl
  | e :: es, env, h => by
    rw [List.any_cons, Bool.or_eq_false_iff] at h
    rw [starEach_cons h.1, List.any_cons, starEach_any h.2]
    rfl
theorem backTo_any {es : List Expr} {env : PySem.Env} {pos : Pos} (h : es.any isStar = false) : (backTo pos (starEach es env)).any (·.1) = false := by
  have := starEach_any (env := env) h
  unfold backTo
  rw [List.any_map]
  exact this

/-! ### what a def promises -/
def RepR (g : Gx) (fr : Bool) (H0 : Hp) (F : Hp) (μ : List Addr) (H : Hp) (v : V) (x : PV) : Prop :=
  if fr = true then ∃ (a : Addr) (vs : List V) (xs : List PV), v = .ref a ∧ x = .lst xs ∧ H0 a = none ∧ F a = none ∧ a ∉ μ ∧ H a = some (HO.lst vs) ∧ vs.length ≤ sizeLine ∧ Reps g.K g.fa F μ vs xs
  else Rep g.K g.fa F μ v x
def spM (g : Gx) (call : List PV → Sto → Res PV) (fr : Bool) (np : Nat) : Sp := fun vs H Q E => vs.length = np ∧ ∃ F μ st xs, Wok g.K g.fa F μ H st ∧ Reps g.K g.fa F μ vs xs ∧
  Post g F μ H (fun c d _ H' => E c d H') [] (call xs st) fun x _ F' μ' H' => ∀ v, RepR g fr H F' μ' H' v x → Q v H'
def mCall (call : List PV → Sto → Res PV) (n : AM) (dfl : List PV) : EM := fun ρ st => (n ρ st).bind fun xs st1 => call (xs ++ dfl) st1
/-- .. of a def that hands back a new list -/
def aCall (call : List PV → Sto → Res PV) (n : AM) (dfl : List PV) : AM := fun ρ st => (n ρ st).bind fun xs st1 => (call (xs ++ dfl) st1).bind fun x st2 => match x with
  | .lst ys => .ok ys st2
  | _ => .bad
section
variable {X : Cx} {g : Gx} {W : WX} {k : Nat} {f : Addr} {fd : FuncData} {ps : List Str} {sp : Sp} {x : Str} {p pos : Pos} {e : Expr} {es : List Expr} {t : TA} {dvs : List V} {ds : List Value}
theorem run_fnSD {CX : CXT} {E : L2.St → XK} {pins : List (Addr × Obj)} {σ : L2.St} {H : Hp} {s : Shared} {Q : VK} {us : List Value} {vs : List V} (Fn : FnOk X.prog X.w X.K X.mg X.base CX k f fd ps sp) (hr : Room k X.A) (hb : Binds X.K fd ps ds) (hd : Vals dvs ds) (hx : PassesAt CX X σ (E σ))
    (I : Inv X pins σ H s) (r : Vals vs us) (h : sp (vs ++ dvs) H Q (E σ)) : wpAny (model X.prog X.w) X.A (call (.ref f) us) (EP X pins σ Q) X.xe s := by
  have r2 : Vals (vs ++ dvs) (us ++ ds) := r.append hd
  have hl : (us ++ ds).length = ps.length := by rw [← r2.length]; exact Fn.len _ _ _ _ h
  refine wpAny_call (codeAny_mono (Fn.run X.A X.stack s H ⟨us, []⟩ (us ++ ds) (vs ++ dvs) Q (E σ) hr I.env0 (hb s us I.kIn hl) r2 h) fun r s' hq => ?_)
  cases r with
  | error e => exact hx pins H s e s' I hq
  | ok fl =>
    cases fl with
    | ret u => exact I.after hq
    | next => exact False.elim hq
    | brk => exact False.elim hq
    | cont => exact False.elim hq
def tCallSD (sp : Sp) (dvs : List V) (E : L2.St → XK) (t : TA) : TE := fun σ H Q => t σ H fun vs H1 => sp (vs ++ dvs) H1 Q (E σ)
theorem pe_callSD {CX : CXT} {E : L2.St → XK} (Fn : FnOk X.prog X.w X.K X.mg X.base CX k f fd ps sp) (hr : Room k X.A) (hg : Gl X x) (hm : X.mg x = some (.ref f)) (hk : PySem.W.keepIn X.K (.ref f) = true) (hb : Binds X.K fd ps ds) (hd : Vals dvs ds) (hx : ∀ σ, PassesAt CX X σ (E σ))
    (ha : PA X (e :: es) t) (hdb : (x == ("__debug__" : Str)) = false) (hs : (e :: es).any isStar = false) :
    PE X (.Call (.Name x p) (e :: es) [] pos) (tCallSD sp dvs E t) := by
  refine ⟨fun pins s σ H Q I h => ?_⟩
  rw [List.any_cons, Bool.or_eq_false_iff] at hs
  refine wpAny_Call_Name_kw (ld_glob I hg hm ?_ hdb)
  refine PySem.W.callWith_K (h₀ := X.base) I.ok.mod.kin hk (thn (ha.run pos pins s σ H _ I h) fun us s1 ⟨vs, H1, I1, r, q⟩ => ⟨I1.kIn, ?_⟩) (starEach_cons hs.1) (backTo_any hs.2)
  exact run_fnSD Fn hr hb hd (hx σ) I1 r q
theorem post_E {F : Hp} {μ : List Addr} {H : Hp} {σ : L2.St} {r : Res PV} {K : PV → Sto → Hp → List Addr → Hp → Prop} (h : Post g F μ H W σ r K) : Post g F μ H (fun c d _ H' => WE W σ c d H') [] r K := by
  cases r with
  | ok a st => exact h
  | exn c fs st => exact h
  | bad => exact h
theorem se_call {cl : List PV → Sto → Res PV} {np : Nat} {n : AM} {dfl : List PV} (Fn : FnOk X.prog X.w X.K X.mg X.base (L2.CX X.prog X.w) k f fd ps (spM g cl false np)) (hr : Room k X.A) (hg : Gl X x) (hm : X.mg x = some (.ref f)) (hk : PySem.W.keepIn X.K (.ref f) = true)
    (hb : Binds X.K fd ps ds) (hd : Vals dvs ds) (tk : Takes X W) (ha : PA X (e :: es) (tA g W n)) (hdb : (x == ("__debug__" : Str)) = false) (hs : (e :: es).any isStar = false)
    (hdf : ∀ F μ, Reps g.K g.fa F μ dvs dfl) (hn : ∀ ρ st xs st', n ρ st = .ok xs st' → xs.length + dfl.length = np) : PE X (.Call (.Name x p) (e :: es) [] pos) (tE g W (mCall cl n dfl)) := by
  refine PE.mono (pe_callSD (E := WE W) Fn hr hg hm hk hb hd (fun σ => passAt tk σ) ha hdb hs) fun σ H Q h => ?_
  obtain ⟨F, μ, st, ρ, w, en, h⟩ := h
  refine ⟨F, μ, st, ρ, w, en, (Post.bind h).impE fun xs st1 F1 μ1 H1 eq e1 w1 h1 vs rvs => ?_⟩
  have hl := hn _ _ _ _ eq
  refine ⟨?_, F1, μ1, st1, xs ++ dfl, w1, rvs.append (hdf _ _), (post_E h1).imp fun y st2 F2 μ2 H2 e2 w2 h2 v rv => ?_⟩
  · rw [List.length_append, rvs.length, (hdf F1 μ1).length]
    exact hl
  · exact h2 v rv
theorem sl_call {cl : List PV → Sto → Res PV} {np : Nat} {n : AM} {dfl : List PV} (Fn : FnOk X.prog X.w X.K X.mg X.base (L2.CX X.prog X.w) k f fd ps (spM g cl true np)) (hr : Room k X.A) (hg : Gl X x) (hm : X.mg x = some (.ref f)) (hk : PySem.W.keepIn X.K (.ref f) = true)
    (hb : Binds X.K fd ps ds) (hd : Vals dvs ds) (tk : Takes X W) (ha : PA X (e :: es) (tA g W n)) (hdb : (x == ("__debug__" : Str)) = false) (hs : (e :: es).any isStar = false)
    (hdf : ∀ F μ, Reps g.K g.fa F μ dvs dfl) (hn : ∀ ρ st xs st', n ρ st = .ok xs st' → xs.length + dfl.length = np) : PE X (.Call (.Name x p) (e :: es) [] pos) (tL g W (aCall cl n dfl)) := by
  refine PE.mono (pe_callSD (E := WE W) Fn hr hg hm hk hb hd (fun σ => passAt tk σ) ha hdb hs) fun σ H Q h => ?_
  obtain ⟨F, μ, st, ρ, w, en, h⟩ := h
  refine ⟨F, μ, st, ρ, w, en, (Post.bind h).impE fun xs st1 F1 μ1 H1 eq e1 w1 h1 vs rvs => ?_⟩
  have hl := hn _ _ _ _ eq
  refine ⟨?_, F1, μ1, st1, xs ++ dfl, w1, rvs.append (hdf _ _), (post_E (Post.bind h1)).imp fun y st2 F2 μ2 H2 e2 w2 h2 v rv => ?_⟩
  · rw [List.length_append, rvs.length, (hdf F1 μ1).length]
    exact hl
  · obtain ⟨a, vs2, ys, rfl, rfl, q0, q1, q2, q3, q4, q5⟩ := rv
    exact h2 F2 μ2 H2 (Ext.refl ..) w2 a vs2 (e1.keep q0) q1 q2 q3 q4 q5
end

/-! ### calls of built-ins by values -/
def VCall (g : Gx) (r : List V → Hp → VK → Prop) (f : Sto → List PV → Option PV) : Prop := ∀ (F : Hp) (μ : List Addr) (H : Hp) (st : Sto) (vs : List V) (xs : List PV) (z : PV) (Q : VK), Wok g.K g.fa F μ H st → Reps g.K g.fa F μ vs xs → f st xs = some z →
  (∀ F' H', Ext F μ H F' μ H' → Wok g.K g.fa F' μ H' st → ∀ v, Rep g.K g.fa F' μ v z → Q v H') → r vs H Q
def mBi (f : Sto → List PV → Option PV) (n : AM) : EM := fun ρ st => (n ρ st).bind fun xs st1 => Res.opt (f st1 xs) st1
section
variable {X : Cx} {g : Gx} {W : WX} {x : Str} {p pos : Pos} {e : Expr} {es : List Expr} {n : AM} {r : List V → Hp → VK → Prop} {f : Sto → List PV → Option PV} {id T : String}
theorem tCB_of (hf : VCall g r f) {σ : L2.St} {H : Hp} {Q : VK} (h : tE g W (mBi f n) σ H Q) : tCB r (tA g W n) σ H Q := by
  obtain ⟨F, μ, st, ρ, w, en, h⟩ := h
  refine ⟨F, μ, st, ρ, w, en, (Post.bind h).imp fun xs st1 F1 μ1 H1 e1 w1 h1 vs rvs => ?_⟩
  obtain ⟨z, hz, h2⟩ := Post.opt h1
  exact hf F1 μ1 H1 st1 vs xs z Q w1 rvs hz fun F' H' e' w' v' r' => h2 F' μ1 H' e' w' v' r'
theorem se_callB (hc : CallR X (.builtin id) r) (hf : VCall g r f) (hg : Gl X x) (hm : X.mg x = none) (hv : bootBuiltins x = some (.builtin id)) (ha : PA X (e :: es) (tA g W n)) (hn : x ≠ "__name__") (hdb : (x == ("__debug__" : Str)) = false) (hs : (e :: es).any isStar = false) :
    PE X (.Call (.Name x p) (e :: es) [] pos) (tE g W (mBi f n)) := by
  rw [List.any_cons, Bool.or_eq_false_iff] at hs
  exact PE.mono (pe_callB hc hg hm hv ha hn hdb (starEach_cons hs.1) (backTo_any hs.2)) fun _ _ _ h => tCB_of hf h
theorem se_callT (hc : CallR X (.type T) r) (hf : VCall g r f) (hg : Gl X x) (hm : X.mg x = none) (hv : bootBuiltins x = some (.type T)) (ha : PA X (e :: es) (tA g W n)) (hn : x ≠ "__name__") (hdb : (x == ("__debug__" : Str)) = false) (hs : (e :: es).any isStar = false) :
    PE X (.Call (.Name x p) (e :: es) [] pos) (tE g W (mBi f n)) := by
  rw [List.any_cons, Bool.or_eq_false_iff] at hs
  exact PE.mono (pe_callTy hc hg hm hv ha hn hdb (starEach_cons hs.1) (backTo_any hs.2)) fun _ _ _ h => tCB_of hf h
end
/-! len -/
def fLen (st : Sto) : List PV → Option PV
  | [.tup xs] => some (.int xs.length)
  | [.lst xs] => some (.int xs.length)
  | [.scr xs] => some (.int xs.length)
  | [.str s] => some (.int s.length)
  | [.ref n] => match st[n]? with
    | some (.lst xs) => some (.int xs.length)
    | _ => none
  | _ => none
/-! tuple(..), list(..), int(..), all, any, sum, max, abs -/
def fTuple (_ : Sto) : List PV → Option PV
  | [.tup xs] => some (.tup xs)
  | [.lst xs] => some (.tup xs)
  | [.scr xs] => some (.tup xs)
  | _ => none
def fInt (_ : Sto) : List PV → Option PV
  | [.int i] => some (.int i)
  | [.bl b] => some (.int (if b then 1 else 0))
  | _ => none
def fAbs (_ : Sto) : List PV → Option PV
  | [.int i] => some (.int (if i < 0 then -i else i))
  | _ => none
def boolsOf : List PV → Option (List Bool)
  | [] => some []
  | .bl b :: r => (boolsOf r).map (b :: ·)
  | _ => none
def intsOf : List PV → Option (List Int)
  | [] => some []
  | .int i :: r => (intsOf r).map (i :: ·)
  | _ => none
def fAll (_ : Sto) : List PV → Option PV
  | [.lst xs] => (boolsOf xs).map fun bs => .bl (bs.all id)
  | _ => none
def fAny (_ : Sto) : List PV → Option PV
  | [.lst xs] => (boolsOf xs).map fun bs => .bl (bs.any id)
  | _ => none
def fSum (_ : Sto) : List PV → Option PV
  | [.lst xs] => (intsOf xs).map fun ns => .int ns.sum
  | _ => none
def maxI : List Int → Option Int
  | [] => none
  | i :: r => some (r.foldl max i)
def fMax (_ : Sto) : List PV → Option PV
  | [.lst xs] => (intsOf xs).bind fun ns => (maxI ns).map .int
  | _ => none
section
variable {X : Cx} {g : Gx}
theorem vc_len : VCall g (fun xs H Q => (∃ p ys, xs = [.ref p] ∧ (SqL g.K H p ys ∨ SqT g.K H p ys) ∧ Q (.int ys.length) H) ∨ ∃ z, xs = [.str z] ∧ z.length ≤ sizeLine ∧ Q (.int z.length) H) fLen := by
  intro F μ H st vs xs z Q w rs hz k
  have fin : ∀ i : Int, z = .int i → Q (.int i) H := fun i e => k F H (Ext.refl ..) w _ (by rw [e]; exact .int i)
  match xs, rs with
  | [], _ => simp [fLen] at hz
  | _ :: _ :: _, _ => simp [fLen] at hz
  | [y], .cons ry .nil =>
    cases ry <;> try (simp [fLen] at hz; done)
    · rename_i s hs hl
      simp only [fLen, Option.some.injEq] at hz
      exact .inr ⟨s, rfl, hl, fin _ hz.symm⟩
    · rename_i a us ys h l r
      simp only [fLen, Option.some.injEq] at hz
      exact .inl ⟨a, us, rfl, .inr (sqT_same w.sub h), by rw [r.length]; exact fin _ hz.symm⟩
    · rename_i a us ys h l r
      simp only [fLen, Option.some.injEq] at hz
      exact .inl ⟨a, us, rfl, .inl (SqL.of (w.sub _ _ h)), by rw [r.length]; exact fin _ hz.symm⟩
    · rename_i a us ys h l r
      simp only [fLen, Option.some.injEq] at hz
      exact .inl ⟨a, us, rfl, .inl (w.sub.seq h), by rw [r.length]; exact fin _ hz.symm⟩
    · rename_i n a h
      obtain ⟨so, ho, h1, h2, h3⟩ := w.obj n a h
      cases so <;> simp only [fLen, h1, Option.some.injEq, reduceCtorEq] at hz
      rename_i ys
      obtain ⟨us, rfl, h4, h3⟩ := h3.lst
      exact .inl ⟨a, us, rfl, .inl (SqL.of h2), by rw [h3.length]; exact fin _ hz.symm⟩
theorem cr_len : CallR X (.builtin "len") (fun xs H Q => (∃ p ys, xs = [.ref p] ∧ (SqL X.K H p ys ∨ SqT X.K H p ys) ∧ Q (.int ys.length) H) ∨ ∃ z, xs = [.str z] ∧ z.length ≤ sizeLine ∧ Q (.int z.length) H) := call_len_seq.or call_len_str
theorem vc_tuple : VCall g (fun xs H Q => ∃ p ys, xs = [.ref p] ∧ ((SqL g.K H p ys ∧ ∀ l, H l = none → Q (.ref l) (upd H l (.tup ys))) ∨ (SqT g.K H p ys ∧ Q (.ref p) H))) fTuple := by
  intro F μ H st vs xs z Q w rs hz k
  match xs, rs with
  | [], _ => simp [fTuple] at hz
  | _ :: _ :: _, _ => simp [fTuple] at hz
  | [y], .cons ry .nil =>
    cases ry <;> try (simp [fTuple] at hz; done)
    · rename_i a us ys h l r
      simp only [fTuple, Option.some.injEq] at hz
      subst hz
      exact ⟨a, us, rfl, .inr ⟨sqT_same w.sub h, k F H (Ext.refl ..) w _ (.tup h l r)⟩⟩
    · rename_i a us ys h l r
      simp only [fTuple, Option.some.injEq] at hz
      subst hz
      refine ⟨a, us, rfl, .inl ⟨SqL.of (w.sub _ _ h), fun p hp => ?_⟩⟩
      obtain ⟨e, w2, q2⟩ := w.alloc hp (.tup us)
      exact k _ _ e w2 _ (.tup (.inl (.inl q2)) l (Reps.ext e r))
    · rename_i a us ys h l r
      simp only [fTuple, Option.some.injEq] at hz
      subst hz
      refine ⟨a, us, rfl, .inl ⟨w.sub.seq h, fun p hp => ?_⟩⟩
      obtain ⟨e, w2, q2⟩ := w.alloc hp (.tup us)
      exact k _ _ e w2 _ (.tup (.inl (.inl q2)) l (Reps.ext e r))
theorem vc_int : VCall g (fun xs H Q => (∃ i, xs = [.int i] ∧ Q (.int i) H) ∨ ∃ k, xs = [.bl k] ∧ Q (.int (if k then 1 else 0)) H) fInt := by
  intro F μ H st vs xs z Q w rs hz k
  match xs, rs with
  | [], _ => simp [fInt] at hz
  | _ :: _ :: _, _ => simp [fInt] at hz
  | [y], .cons ry .nil =>
    cases ry <;> try (simp [fInt] at hz; done)
    · simp only [fInt, Option.some.injEq] at hz
      subst hz
      exact .inr ⟨_, rfl, k F H (Ext.refl ..) w _ (.int _)⟩
    · simp only [fInt, Option.some.injEq] at hz
      subst hz
      exact .inl ⟨_, rfl, k F H (Ext.refl ..) w _ (.int _)⟩
theorem vc_abs : VCall g (fun xs H Q => ∃ i, xs = [.int i] ∧ Q (.int (if i < 0 then -i else i)) H) fAbs := by
  intro F μ H st vs xs z Q w rs hz k
  match xs, rs with
  | [], _ => simp [fAbs] at hz
  | _ :: _ :: _, _ => simp [fAbs] at hz
  | [y], .cons ry .nil =>
    cases ry <;> try (simp [fAbs] at hz; done)
    simp only [fAbs, Option.some.injEq] at hz
    subst hz
    exact ⟨_, rfl, k F H (Ext.refl ..) w _ (.int _)⟩
theorem bools_rep {F : Hp} {μ : List Addr} : ∀ {xs : List PV} {vs : List V} {bs : List Bool}, Reps g.K g.fa F μ vs xs → boolsOf xs = some bs → vs = bs.map V.bl
  | [], _, _, .nil, h => by
    simp only [boolsOf, Option.some.injEq] at h
    subst h
    rfl
  | x :: xs, _, _, .cons r t, h => by
    cases r <;> try (simp [boolsOf] at h; done)
    simp only [boolsOf, Option.map_eq_some_iff] at h
    obtain ⟨b2, h2, rfl⟩ := h
    rw [bools_rep t h2]
    rfl
theorem ints_rep {F : Hp} {μ : List Addr} : ∀ {xs : List PV} {vs : List V} {ns : List Int}, Reps g.K g.fa F μ vs xs → intsOf xs = some ns → vs = ns.map V.int
  | [], _, _, .nil, h => by
    simp only [intsOf, Option.some.injEq] at h
    subst h
    rfl
  | x :: xs, _, _, .cons r t, h => by
    cases r <;> try (simp [intsOf] at h; done)
    simp only [intsOf, Option.map_eq_some_iff] at h
    obtain ⟨b2, h2, rfl⟩ := h
    rw [ints_rep t h2]
    rfl
theorem vc_all : VCall g (rAll g.K) fAll := by
  intro F μ H st vs xs z Q w rs hz k
  match xs, rs with
  | [], _ => simp [fAll] at hz
  | _ :: _ :: _, _ => simp [fAll] at hz
  | [y], .cons ry .nil =>
    cases ry <;> try (simp [fAll] at hz; done)
    rename_i a us ys h l r
    simp only [fAll, Option.map_eq_some_iff] at hz
    obtain ⟨bs, hb, rfl⟩ := hz
    have e := bools_rep r hb
    subst e
    exact ⟨a, bs, rfl, SqL.of (w.sub _ _ h), k F H (Ext.refl ..) w _ (.bl _)⟩
theorem vc_any : VCall g (rAny g.K) fAny := by
  intro F μ H st vs xs z Q w rs hz k
  match xs, rs with
  | [], _ => simp [fAny] at hz
  | _ :: _ :: _, _ => simp [fAny] at hz
  | [y], .cons ry .nil =>
    cases ry <;> try (simp [fAny] at hz; done)
    rename_i a us ys h l r
    simp only [fAny, Option.map_eq_some_iff] at hz
    obtain ⟨bs, hb, rfl⟩ := hz
    have e := bools_rep r hb
    subst e
    exact ⟨a, bs, rfl, SqL.of (w.sub _ _ h), k F H (Ext.refl ..) w _ (.bl _)⟩
theorem vc_sum : VCall g (rSum g.K) fSum := by
  intro F μ H st vs xs z Q w rs hz k
  match xs, rs with
  | [], _ => simp [fSum] at hz
  | _ :: _ :: _, _ => simp [fSum] at hz
  | [y], .cons ry .nil =>
    cases ry <;> try (simp [fSum] at hz; done)
    rename_i a us ys h l r
    simp only [fSum, Option.map_eq_some_iff] at hz
    obtain ⟨ns, hb, rfl⟩ := hz
    have e := ints_rep r hb
    subst e
    exact ⟨a, ns, rfl, SqL.of (w.sub _ _ h), k F H (Ext.refl ..) w _ (.int _)⟩
theorem foldl_max : ∀ (r : List Int) (i m : Int), m ∈ i :: r → (∀ y ∈ i :: r, y ≤ m) → r.foldl max i = m
  | [], i, m, h, _ => by
    have : m = i := by simpa using h
    rw [this]
    rfl
  | j :: r, i, m, h, k => by
    rw [List.foldl_cons]
    refine foldl_max r (max i j) m ?_ fun y hy => ?_
    · have hi := k i (by simp)
      have hj := k j (by simp)
      rcases List.mem_cons.mp h with e | h
      · rw [← e, Int.max_eq_left hj] <;> simp
      · rcases List.mem_cons.mp h with e | h
        · rw [← e, Int.max_eq_right hi] <;> simp
        · exact List.mem_cons_of_mem _ h
    · rcases List.mem_cons.mp hy with e | h
      · rw [e]
        exact Int.max_le.mpr ⟨k i (by simp), k j (by simp)⟩
      · exact k y (List.mem_cons_of_mem _ (List.mem_cons_of_mem _ h))
theorem vc_max : VCall g (rMax g.K) fMax := by
  intro F μ H st vs xs z Q w rs hz k
  match xs, rs with
  | [], _ => simp [fMax] at hz
  | _ :: _ :: _, _ => simp [fMax] at hz
  | [y], .cons ry .nil =>
    cases ry <;> try (simp [fMax] at hz; done)
    rename_i a us ys h l r
    simp only [fMax, Option.bind_eq_some_iff, Option.map_eq_some_iff] at hz
    obtain ⟨ns, hb, m, hm, rfl⟩ := hz
    have e := ints_rep r hb
    subst e
    cases ns with
    | nil => simp [maxI] at hm
    | cons i ns =>
      refine ⟨a, i :: ns, rfl, SqL.of (w.sub _ _ h), by simp, fun m' h1 h2 => ?_⟩
      simp only [maxI, Option.some.injEq] at hm
      rw [foldl_max ns i m' h1 h2] at hm
      subst hm
      exact k F H (Ext.refl ..) w _ (.int _)
end
end BK

/-! BkF: isinstance, list(..), what is walked, targets, comprehensions -/
namespace BK
open PySem PySem.Spec PyProof.Rows L2 RZ

/-! ### isinstance -/
def tyOf (st : Sto) : PV → Option String
  | .non => some "NoneType"
  | .bl _ => some "bool"
  | .int _ => some "int"
  | .str _ => some "str"
  | .tup _ => some "tuple"
  | .lst _ => some "list"
  | .scr _ => some "list"
  | .ref n => match st[n]? with
    | some (.lst _) => some "list"
    | _ => none
  | _ => none
def isT (t T : String) : Option Bool := if ["tuple", "list", "str", "int", "bool"].contains T then some (t == T || (t == "bool" && T == "int")) else none
def fIsi (st : Sto) : List PV → Option PV
  | [x, .ty T] => (tyOf st x).bind fun t => (isT t T).map .bl
  | _ => none
theorem isT_kit {t T : String} {b : Bool} (h : isT t T = some b) (ht : t = "NoneType" ∨ t = "bool" ∨ t = "int" ∨ t = "str" ∨ t = "tuple" ∨ t = "list") : kitB t T = some b := by
  unfold isT at h
  split at h
  · rename_i c
    have c' : T = "tuple" ∨ T = "list" ∨ T = "str" ∨ T = "int" ∨ T = "bool" := by simpa using c
    rcases ht with rfl | rfl | rfl | rfl | rfl | rfl <;> rcases c' with rfl | rfl | rfl | rfl | rfl <;> (cases h; decide +kernel)
  · cases h
section
variable {g : Gx}
theorem tyOf_x {F : Hp} {μ : List Addr} {H : Hp} {st : Sto} (w : Wok g.K g.fa F μ H st) {v : V} {x : PV} {t : String} (r : Rep g.K g.fa F μ v x) (h : tyOf st x = some t) : TyX g.K H v (.type t) ∧ (t = "NoneType" ∨ t = "bool" ∨ t = "int" ∨ t = "str" ∨ t = "tuple" ∨ t = "list") := by
  cases r <;> simp only [tyOf, Option.some.injEq] at h <;> try (cases h; done)
  · subst h; exact ⟨.base .non, by simp⟩
  · subst h; exact ⟨.base (.bl _), by simp⟩
  · subst h; exact ⟨.base (.int _), by simp⟩
  · subst h; exact ⟨.base (.str _), by simp⟩
  · rename_i a vs xs q hl r
    subst h
    refine ⟨?_, by simp⟩
    rcases sqT_same w.sub q with (q | ⟨o, q⟩) | ⟨o, its, n, q, qc, _⟩
    · exact .base (.tup q)
    · exact .fTuple q
    · exact .kTuple q qc
  · rename_i a vs xs q hl r
    subst h
    exact ⟨.base (.lst (w.sub _ _ q)), by simp⟩
  · rename_i a vs xs q hl r
    subst h
    refine ⟨?_, by simp⟩
    rcases w.sub.seq q with (q | ⟨o, q⟩) | ⟨o, its, n, q, qc, _⟩
    · exact .base (.lst q)
    · exact .base (.frz q)
    · exact .kList q qc
  · rename_i n a q
    obtain ⟨so, ho, h1, h2, h3⟩ := w.obj n a q
    rw [h1] at h
    cases so <;> simp only [Option.some.injEq, reduceCtorEq] at h
    subst h
    obtain ⟨us, rfl, h4, h3⟩ := h3.lst
    exact ⟨.base (.lst h2), by simp⟩
theorem vc_isi : VCall g (rIsi g.K) fIsi := by
  intro F μ H st vs xs z Q w rs hz k
  match xs, rs with
  | [], _ => simp [fIsi] at hz
  | [_], _ => simp [fIsi] at hz
  | _ :: _ :: _ :: _, _ => simp [fIsi] at hz
  | [x, y], .cons rx (.cons ry .nil) =>
    cases ry <;> try (simp [fIsi] at hz; done)
    rename_i T
    simp only [fIsi, Option.bind_eq_some_iff, Option.map_eq_some_iff] at hz
    obtain ⟨t, ht, b, hb, rfl⟩ := hz
    obtain ⟨q1, q2⟩ := tyOf_x w rx ht
    exact ⟨_, _, _, _, b, rfl, .ty T, q1, kit_ty (isT_kit hb q2), k F H (Ext.refl ..) w _ (.bl _)⟩
end

/-! ### list(..): a new list -/
def itemsOf : PV → Option (List PV)
  | .tup xs => some xs
  | .lst xs => some xs
  | .scr xs => some xs
  | _ => none
def aList (n : AM) : AM := fun ρ st => (n ρ st).bind fun xs st1 => match xs with
  | [x] => Res.opt (itemsOf x) st1
  | _ => .bad
section
variable {X : Cx} {g : Gx} {W : WX} {p pos : Pos} {e : Expr} {n : AM}
theorem itemsOf_sq {F : Hp} {μ : List Addr} {H : Hp} {v : V} {x : PV} {xs : List PV} (s : Same F H) (r : Rep g.K g.fa F μ v x) (h : itemsOf x = some xs) : ∃ a vs, v = .ref a ∧ ((SqL g.K F a vs ∧ SqL g.K H a vs) ∨ (SqT g.K F a vs ∧ SqT g.K H a vs)) ∧ vs.length ≤ sizeLine ∧ Reps g.K g.fa F μ vs xs := by
  cases r <;> simp only [itemsOf, Option.some.injEq] at h <;> try (cases h; done)
  · rename_i a vs ys q hl r
    subst h
    exact ⟨a, vs, rfl, .inr ⟨q, sqT_same s q⟩, hl, r⟩
  · rename_i a vs ys q hl r
    subst h
    exact ⟨a, vs, rfl, .inl ⟨SqL.of q, SqL.of (s _ _ q)⟩, hl, r⟩
  · rename_i a vs ys q hl r
    subst h
    exact ⟨a, vs, rfl, .inl ⟨q, s.seq q⟩, hl, r⟩
theorem sl_list (hK : g.K = X.K) (hg : Gl X "list") (hm : X.mg "list" = none) (ha : PA X [e] (tA g W n)) (hs : isStar e = false) : PE X (.Call (.Name "list" p) [e] [] pos) (tL g W (aList n)) := by
  refine PE.mono (pe_callTy call_list_of hg hm (by decide +kernel) ha (by decide) (by decide) (starEach_cons hs) (by rfl)) fun σ H Q h => ?_
  obtain ⟨F, μ, st, ρ, w, en, h⟩ := h
  refine ⟨F, μ, st, ρ, w, en, (Post.bind h).imp fun xs st1 F1 μ1 H1 e1 w1 h1 vs rvs => ?_⟩
  match xs, rvs with
  | [], _ => exact h1.elim
  | _ :: _ :: _, _ => exact h1.elim
  | [x], .cons rx .nil =>
    obtain ⟨ys, hy, h2⟩ := Post.opt h1
    obtain ⟨a, us, rfl, q, hl, r⟩ := itemsOf_sq w1.sub rx hy
    refine ⟨a, us, rfl, by rw [← hK]; exact q.imp And.right And.right, fun l hl' => ?_⟩
    obtain ⟨e2, w2, q1, q2⟩ := w1.own hl' (.lst us)
    exact h2 _ _ _ e2 w2 l us (e1.keep hl') q1 q2 upd_same hl r
end

/-! ### what is walked: its items -/
def Goes (g : Gx) (F : Hp) (μ : List Addr) (xs : List PV) (J : It) : Prop := xs.length ≤ sizeLine ∧ ∀ (F' : Hp) (μ' : List Addr) (H' : Hp) (st' : Sto), Same F F' → (∃ t, μ' = μ ++ t) → Wok g.K g.fa F' μ' H' st' → ∀ i : Nat,
  (∀ x, xs[i]? = some x → J.go i H' ∧ ∀ v H'', J.yld i H' v H'' → ∃ F'', Ext F' μ' H' F'' μ' H'' ∧ Wok g.K g.fa F'' μ' H'' st' ∧ Rep g.K g.fa F'' μ' v x) ∧ (xs[i]? = none → J.stop i H')
def tI (g : Gx) (W : WX) (m : AM) : TI := fun σ H R => ∃ F μ st ρ, Wok g.K g.fa F μ H st ∧ Env g F μ H σ ρ ∧ Post g F μ H W σ (m ρ st) fun xs _ F' μ' H' => ∀ J, Goes g F' μ' xs J → R J H'
def aSeq (m : EM) : AM := fun ρ st => (m ρ st).bind fun x st1 => Res.opt (itemsOf x) st1
def pairs : List PV → List PV → List PV
  | x :: xs, y :: ys => .tup [x, y] :: pairs xs ys
  | _, _ => []
def aZip (n : AM) : AM := fun ρ st => (n ρ st).bind fun xs st1 => match xs with
  | [.tup a, .tup b] => .ok (pairs a b) st1
  | [.lst a, .lst b] => .ok (pairs a b) st1
  | _ => .bad
def rangeL (lo : Int) : Nat → List PV
  | 0 => []
  | n + 1 => .int lo :: rangeL (lo + 1) n
def rOk (i : Int) : Bool := decide (-(2 ^ 62) ≤ i ∧ i < 2 ^ 62)
def aRange1 (n : AM) : AM := fun ρ st => (n ρ st).bind fun xs st1 => match xs with
  | [.int j] => if rOk j = true ∧ j.toNat ≤ sizeLine then .ok (rangeL 0 j.toNat) st1 else .bad
  | _ => .bad
def aRange2 (n : AM) : AM := fun ρ st => (n ρ st).bind fun xs st1 => match xs with
  | [.int i, .int j] => if rOk i = true ∧ rOk j = true ∧ (j - i).toNat ≤ sizeLine then .ok (rangeL i (j - i).toNat) st1 else .bad
  | _ => .bad
theorem pairs_length : ∀ (a b : List PV), (pairs a b).length = min a.length b.length
  | [], b => by simp [pairs]
  | _ :: _, [] => by simp [pairs]
  | x :: a, y :: b => by simp only [pairs, List.length_cons, pairs_length a b]; omega
theorem pairs_get : ∀ {a b : List PV} {i : Nat} {x : PV}, (pairs a b)[i]? = some x → ∃ u w, a[i]? = some u ∧ b[i]? = some w ∧ x = .tup [u, w]
  | [], b, i, x, h => by simp [pairs] at h
  | _ :: _, [], i, x, h => by simp [pairs] at h
  | u :: a, w :: b, 0, x, h => by simp [pairs] at h; exact ⟨u, w, rfl, rfl, h.symm⟩
  | u :: a, w :: b, i + 1, x, h => by
    simp only [pairs, List.getElem?_cons_succ] at h ⊢
    exact pairs_get h
theorem rangeL_length : ∀ (n : Nat) (lo : Int), (rangeL lo n).length = n
  | 0, _ => rfl
  | n + 1, lo => by simp only [rangeL, List.length_cons, rangeL_length n]
theorem rangeL_get : ∀ {n : Nat} {lo : Int} {i : Nat} {x : PV}, (rangeL lo n)[i]? = some x → x = .int (lo + i) ∧ i < n
  | 0, _, _, _, h => by simp [rangeL] at h
  | n + 1, lo, 0, x, h => by
    simp [rangeL] at h
    exact ⟨by rw [← h]; simp, by omega⟩
  | n + 1, lo, i + 1, x, h => by
    simp only [rangeL, List.getElem?_cons_succ] at h
    obtain ⟨h1, h2⟩ := rangeL_get h
    exact ⟨by rw [h1]; congr 1; omega, by omega⟩
section
variable {g : Gx} {F : Hp} {μ : List Addr}
theorem Reps.ofMap {vs : List V} {xs : List PV} {i : Nat} {x : PV} (r : Reps g.K g.fa F μ vs xs) (h : xs[i]? = none) : vs.length ≤ i := by
  rw [r.length]
  exact List.getElem?_eq_none_iff.mp h
theorem goes_list {a : Addr} {vs : List V} {xs : List PV} (h : SqL g.K F a vs) (hl : vs.length ≤ sizeLine) (r : Reps g.K g.fa F μ vs xs) : Goes g F μ xs (Itl g.K a) := by
  refine ⟨by rw [← r.length]; exact hl, fun F' μ' H' st' s m w i => ⟨fun x hx => ?_, fun hx => ?_⟩⟩
  · obtain ⟨v, hv, rv⟩ := r.get hx
    have hH := w.sub.seq (s.seq h)
    refine ⟨⟨vs, v, hH, hv⟩, fun u H'' y => ?_⟩
    obtain ⟨e, f⟩ := y
    subst e
    have q := f vs hH
    rw [hv] at q
    cases q
    exact ⟨F', Ext.refl .., w, Rep.mono s m x v rv⟩
  · exact ⟨vs, w.sub.seq (s.seq h), by rw [r.length]; exact List.getElem?_eq_none_iff.mp hx⟩
theorem goes_tup {a : Addr} {vs : List V} {xs : List PV} (h : SqT g.K F a vs) (hl : vs.length ≤ sizeLine) (r : Reps g.K g.fa F μ vs xs) : Goes g F μ xs (Itt g.K a) := by
  refine ⟨by rw [← r.length]; exact hl, fun F' μ' H' st' s m w i => ⟨fun x hx => ?_, fun hx => ?_⟩⟩
  · obtain ⟨v, hv, rv⟩ := r.get hx
    have hH := sqT_same w.sub (sqT_same s h)
    refine ⟨⟨vs, v, hH, hv⟩, fun u H'' y => ?_⟩
    obtain ⟨e, f⟩ := y
    subst e
    have q := f vs hH
    rw [hv] at q
    cases q
    exact ⟨F', Ext.refl .., w, Rep.mono s m x v rv⟩
  · exact ⟨vs, sqT_same w.sub (sqT_same s h), by rw [r.length]; exact List.getElem?_eq_none_iff.mp hx⟩
theorem goes_range {lo : Int} {n : Nat} (hn : n ≤ sizeLine) : Goes g F μ (rangeL lo n) (Itr lo n) := by
  refine ⟨by rw [rangeL_length]; exact hn, fun F' μ' H' st' s m w i => ⟨fun x hx => ?_, fun hx => ?_⟩⟩
  · obtain ⟨rfl, hi⟩ := rangeL_get hx
    refine ⟨hi, fun u H'' y => ?_⟩
    obtain ⟨e, f⟩ := y
    subst e f
    exact ⟨F', Ext.refl .., w, .int _⟩
  · have := List.getElem?_eq_none_iff.mp hx
    rw [rangeL_length] at this
    exact this
theorem goes_zipL {a b : Addr} {vs us : List V} {xs ys : List PV} (h : SqL g.K F a vs) (hl : vs.length ≤ sizeLine) (r : Reps g.K g.fa F μ vs xs) (h' : SqL g.K F b us) (r' : Reps g.K g.fa F μ us ys) : Goes g F μ (pairs xs ys) (Itz g.K a b) := by
  refine ⟨?_, fun F' μ' H' st' s m w i => ⟨fun x hx => ?_, fun hx => ?_⟩⟩
  · rw [pairs_length, ← r.length]
    omega
  · obtain ⟨x1, x2, hx1, hx2, rfl⟩ := pairs_get hx
    obtain ⟨v1, hv1, rv1⟩ := r.get hx1
    obtain ⟨v2, hv2, rv2⟩ := r'.get hx2
    have hH := w.sub.seq (s.seq h)
    have hH' := w.sub.seq (s.seq h')
    refine ⟨⟨vs, us, v1, v2, hH, hH', hv1, hv2⟩, fun u H'' y => ?_⟩
    obtain ⟨T, y1, y2, rfl, hT, rfl, f1, f2⟩ := y
    have q1 := f1 vs hH
    have q2 := f2 us hH'
    rw [hv1] at q1
    rw [hv2] at q2
    cases q1
    cases q2
    obtain ⟨e, w2, q⟩ := w.alloc hT (.tup [v1, v2])
    exact ⟨_, e, w2, .tup (.inl (.inl q)) (by show 2 ≤ sizeLine; rw [sizeLine_eq]; omega) (.cons (Rep.ext e (Rep.mono s m _ _ rv1)) (.cons (Rep.ext e (Rep.mono s m _ _ rv2)) .nil))⟩
  · refine ⟨vs, us, w.sub.seq (s.seq h), w.sub.seq (s.seq h'), ?_⟩
    have := List.getElem?_eq_none_iff.mp hx
    rw [pairs_length, ← r.length, ← r'.length] at this
    omega
theorem goes_zipT {a b : Addr} {vs us : List V} {xs ys : List PV} (h : SqT g.K F a vs) (hl : vs.length ≤ sizeLine) (r : Reps g.K g.fa F μ vs xs) (h' : SqT g.K F b us) (r' : Reps g.K g.fa F μ us ys) : Goes g F μ (pairs xs ys) (ItzT g.K a b) := by
  refine ⟨?_, fun F' μ' H' st' s m w i => ⟨fun x hx => ?_, fun hx => ?_⟩⟩
  · rw [pairs_length, ← r.length]
    omega
  · obtain ⟨x1, x2, hx1, hx2, rfl⟩ := pairs_get hx
    obtain ⟨v1, hv1, rv1⟩ := r.get hx1
    obtain ⟨v2, hv2, rv2⟩ := r'.get hx2
    have hH := sqT_same w.sub (sqT_same s h)
    have hH' := sqT_same w.sub (sqT_same s h')
    refine ⟨⟨vs, us, v1, v2, hH, hH', hv1, hv2⟩, fun u H'' y => ?_⟩
    obtain ⟨T, y1, y2, rfl, hT, rfl, f1, f2⟩ := y
    have q1 := f1 vs hH
    have q2 := f2 us hH'
    rw [hv1] at q1
    rw [hv2] at q2
    cases q1
    cases q2
    obtain ⟨e, w2, q⟩ := w.alloc hT (.tup [v1, v2])
    exact ⟨_, e, w2, .tup (.inl (.inl q)) (by show 2 ≤ sizeLine; rw [sizeLine_eq]; omega) (.cons (Rep.ext e (Rep.mono s m _ _ rv1)) (.cons (Rep.ext e (Rep.mono s m _ _ rv2)) .nil))⟩
  · refine ⟨vs, us, sqT_same w.sub (sqT_same s h), sqT_same w.sub (sqT_same s h'), ?_⟩
    have := List.getElem?_eq_none_iff.mp hx
    rw [pairs_length, ← r.length, ← r'.length] at this
    omega
end
section
variable {X : Cx} {g : Gx} {W : WX} {tg e e2 : Expr} {p pos tpos : Pos} {m : EM} {n : AM} {wi wi' : TI}
theorem PI.mono (h : PI X tg e wi) (i : ∀ σ H R, wi' σ H R → wi σ H R) : PI X tg e wi' := ⟨fun pins s σ H R I q => h.run pins s σ H R I (i _ _ _ q)⟩
def iSeq (K : PySem.W.Frag) (tl : TE) : TI := fun σ H R => tl σ H fun x H1 => (∃ a, x = .ref a ∧ (∃ xs, SqL K H1 a xs) ∧ R (Itl K a) H1) ∨ (∃ a, x = .ref a ∧ (∃ xs, SqT K H1 a xs) ∧ R (Itt K a) H1)
theorem pi_seq {l : Expr} {tl : TE} (hl : PE X l tl) : PI X tg l (iSeq X.K tl) := by
  refine ⟨fun pins s σ H R I h => ?_⟩
  refine thn (hl.run pins s σ H _ I h) fun v s1 ⟨x, H1, I1, r1, q1⟩ => ?_
  rcases q1 with ⟨a, e, ⟨xs, hq⟩, q⟩ | ⟨a, e, ⟨xs, hq⟩, q⟩
  · subst e
    cases r1
    obtain ⟨its, rv, p, hz⟩ := I1.list hq
    refine wpAny_pyIter_list p.isList ?_
    refine ⟨s1.heap.objs.size, [s1.heap.objs.size], _, _, H1, rfl, I1.kept (t' := s1.toks) fun b o e => Heap.get?_push_of_some _ e, turn_list a _, ⟨_, Heap.get?_push_size _ rfl, rfl, rfl⟩, fun b hb => ?_, q⟩
    have e : b = s1.heap.objs.size := by simpa using hb
    subst e
    exact I1.fpOk (Nat.le_refl _) (I1.hok.fresh (Nat.le_refl _))
  · subst e
    cases r1
    obtain ⟨its, rv, p, hz⟩ := I1.tuple hq
    refine wpAny_pyIter_tuple (show s1.heap.IsTuple a its.toArray from p) ?_
    refine ⟨s1.heap.objs.size, [s1.heap.objs.size], _, _, H1, rfl, I1.kept (t' := s1.toks) fun b o e => Heap.get?_push_of_some _ e, turn_tuple a _, ⟨_, Heap.get?_push_size _ rfl, rfl, rfl⟩, fun b hb => ?_, q⟩
    have e : b = s1.heap.objs.size := by simpa using hb
    subst e
    exact I1.fpOk (Nat.le_refl _) (I1.hok.fresh (Nat.le_refl _))
theorem si_seq (hK : g.K = X.K) (h : PE X e (tE g W m)) : PI X tg e (tI g W (aSeq m)) := by
  refine PI.mono (pi_seq h) fun σ H R h => ?_
  obtain ⟨F, μ, st, ρ, w, en, h⟩ := h
  refine ⟨F, μ, st, ρ, w, en, (Post.bind h).imp fun x st1 F1 μ1 H1 e1 w1 h1 v rv => ?_⟩
  obtain ⟨xs, hx, h2⟩ := Post.opt h1
  obtain ⟨a, vs, rfl, q, hl, r⟩ := itemsOf_sq w1.sub rv hx
  have h3 := h2 F1 μ1 H1 (Ext.refl ..) w1
  rcases q with ⟨q1, q2⟩ | ⟨q1, q2⟩
  · exact .inl ⟨a, rfl, ⟨vs, by rw [← hK]; exact q2⟩, by rw [← hK]; exact h3 _ (goes_list q1 hl r)⟩
  · exact .inr ⟨a, rfl, ⟨vs, by rw [← hK]; exact q2⟩, by rw [← hK]; exact h3 _ (goes_tup q1 hl r)⟩
theorem si_zip {elts : List Expr} {kk : Nat} (hK : g.K = X.K) (hg : Gl X "zip") (hm : X.mg "zip" = none) (ha : PA X [e, e2] (tA g W n)) (h1 : isStar e = false) (h2 : isStar e2 = false) :
    PI X (.Tuple elts kk tpos) (.Call (.Name "zip" p) [e, e2] [] pos) (tI g W (aZip n)) := by
  refine PI.mono (pi_zipA hg hm ha (starEach_cons h1) (backTo_any (by simp [h2]))) fun σ H R h => ?_
  obtain ⟨F, μ, st, ρ, w, en, h⟩ := h
  refine ⟨F, μ, st, ρ, w, en, (Post.bind h).imp fun xs st1 F1 μ1 H1 e1 w1 h1 vs rvs => ?_⟩
  match xs, rvs with
  | [], _ => exact h1.elim
  | [_], _ => simp at h1; exact h1.elim
  | _ :: _ :: _ :: _, _ => simp at h1; exact h1.elim
  | [x, y], .cons rx (.cons ry .nil) =>
    cases rx <;> try (simp at h1; exact h1.elim)
    · cases ry <;> try (simp at h1; exact h1.elim)
      rename_i a us xs q1 l1 r1 b ws ys q2 l2 r2
      refine ⟨a, b, us, ws, rfl, .inr ⟨by rw [← hK]; exact sqT_same w1.sub q1, by rw [← hK]; exact sqT_same w1.sub q2, ?_⟩⟩
      rw [← hK]
      exact h1 F1 μ1 H1 (Ext.refl ..) w1 _ (goes_zipT q1 l1 r1 q2 r2)
    · cases ry <;> try (simp at h1; exact h1.elim)
      rename_i a us xs q1 l1 r1 b ws ys q2 l2 r2
      refine ⟨a, b, us, ws, rfl, .inl ⟨SqL.of (w1.sub _ _ q1), SqL.of (w1.sub _ _ q2), ?_⟩⟩
      rw [← hK]
      exact h1 F1 μ1 H1 (Ext.refl ..) w1 _ (goes_zipL (SqL.of q1) l1 r1 (SqL.of q2) r2)
theorem rOk_inv {i : Int} (h : rOk i = true) : -(2 ^ 62) ≤ i ∧ i < 2 ^ 62 := of_decide_eq_true h
theorem si_range1 (hg : Gl X "range") (hm : X.mg "range" = none) (ha : PA X [e] (tA g W n)) (h1 : isStar e = false) : PI X tg (.Call (.Name "range" p) [e] [] pos) (tI g W (aRange1 n)) := by
  refine PI.mono (pi_range1 hg hm ha (starEach_cons h1)) fun σ H R h => ?_
  obtain ⟨F, μ, st, ρ, w, en, h⟩ := h
  refine ⟨F, μ, st, ρ, w, en, (Post.bind h).imp fun xs st1 F1 μ1 H1 e1 w1 h1 vs rvs => ?_⟩
  match xs, rvs with
  | [], _ => exact h1.elim
  | _ :: _ :: _, _ => simp at h1; exact h1.elim
  | [x], .cons rx .nil =>
    cases rx <;> try (simp at h1; exact h1.elim)
    rename_i j
    simp only at h1
    split at h1
    · rename_i c
      obtain ⟨c1, c2⟩ := rOk_inv c.1
      exact ⟨j, rfl, c1, c2, h1 F1 μ1 H1 (Ext.refl ..) w1 _ (goes_range c.2)⟩
    · exact h1.elim
theorem si_range2 (hg : Gl X "range") (hm : X.mg "range" = none) (ha : PA X [e, e2] (tA g W n)) (h1 : isStar e = false) (h2 : isStar e2 = false) : PI X tg (.Call (.Name "range" p) [e, e2] [] pos) (tI g W (aRange2 n)) := by
  refine PI.mono (pi_range2 hg hm ha (by rw [starEach_cons h1, starEach_cons h2]; rfl) (starEach_cons h2)) fun σ H R h => ?_
  obtain ⟨F, μ, st, ρ, w, en, h⟩ := h
  refine ⟨F, μ, st, ρ, w, en, (Post.bind h).imp fun xs st1 F1 μ1 H1 e1 w1 h1 vs rvs => ?_⟩
  match xs, rvs with
  | [], _ => exact h1.elim
  | [_], _ => simp at h1; exact h1.elim
  | _ :: _ :: _ :: _, _ => simp at h1; exact h1.elim
  | [x, y], .cons rx (.cons ry .nil) =>
    cases rx <;> try (simp at h1; exact h1.elim)
    cases ry <;> try (simp at h1; exact h1.elim)
    rename_i i j
    simp only at h1
    split at h1
    · rename_i c
      obtain ⟨c1, c2⟩ := rOk_inv c.1
      obtain ⟨c3, c4⟩ := rOk_inv c.2.1
      exact ⟨i, j, rfl, ⟨c1, c2, c3, c4⟩, h1 F1 μ1 H1 (Ext.refl ..) w1 _ (goes_range c.2.2)⟩
    · exact h1.elim
end
end BK

/-! BkX0: walks over lists and tuples in any mix: enumerate, zip of two, zip of three -/
namespace BK
open PySem PySem.Spec PyProof.Rows L2 RZ

theorem enum_new {v : Value} {o : Obj} {G : Heap → Prop} (B : Begins v o G) :
    Meets (Builtin.«enumerate.__new__» ⟨[.type "enumerate", v], []⟩) (fun _ R s => G s.heap ∧
      R (.ok (.ret (.ref (s.heap.push o).objs.size))) { s with heap := (s.heap.push o).push { cls := .type "enumerate", data := .fields #[.none, .bool false, .ref s.heap.objs.size, rawInt 0, .none, .none] } }) :=
  .of_wp fun prog w A R s hyp => by
    obtain ⟨hp, g, d, tk, os⟩ := s
    obtain ⟨h1, h⟩ := hyp
    have hsub := sub_enumerate
    have q1 : ∀ {A' : Around} {E : Value → Shared → Prop} {Q : Value → Shared → Prop}, Q (.ref hp.objs.size) (Shared.mk (hp.push o) g d tk os) → wpAny (model prog w) A' (pyIter v) Q E (Shared.mk hp g d tk os) :=
      fun q => B.iter prog w _ _ (Shared.mk hp g d tk os) _ h1 q
    wp_walk using q1
    refine wpAny_stack_any fun st => wpAny_pure ?_
    split
    · rename_i c _ _ _ _ _
      cases (c == Value.type "enumerate") <;> (wp_walk using q1; exact ⟨_, rfl, h⟩)
    · wp_walk using q1
      exact ⟨_, rfl, h⟩
theorem call_enum {prog : Program} {w : World} {A : Around} {E : Value → Shared → Prop} {s : Shared} {v : Value} {o : Obj} {G : Heap → Prop} {Q : Value → Shared → Prop} (B : Begins v o G) (h1 : G s.heap)
    (h : ∀ h', IsEnum h' (s.heap.objs.size + 1) s.heap.objs.size 0 .none → h'.get? s.heap.objs.size = some o → h'.objs.size = s.heap.objs.size + 2 →
      (∀ b o, s.heap.get? b = some o → h'.get? b = some o) → Q (.ref (s.heap.objs.size + 1)) { s with heap := h' }) :
    wpAny (model prog w) A (call (.type "enumerate") [v]) Q E s := by
  refine callType_new F.called_enumerate (by decide) (F.typeCall_enumerate_1 _) (F.newCall_enumerate_1 _) (fun obj => F.args_object_init_2 obj _) F.entry_enumerate_new (enum_new B) ⟨h1, ?_⟩
  have hz : (s.heap.push o).objs.size = s.heap.objs.size + 1 := Heap.size_push ..
  show _ ∧ _
  rw [hz]
  have he : IsEnum ((s.heap.push o).push (Obj.mk (.type "enumerate") none (.fields #[.none, .bool false, .ref s.heap.objs.size, rawInt 0, .none, .none]) #[])) (s.heap.objs.size + 1) s.heap.objs.size 0 .none := by
    have q := Heap.get?_push_size (s.heap.push o) (o := Obj.mk (.type "enumerate") none (.fields #[.none, .bool false, .ref s.heap.objs.size, rawInt 0, .none, .none]) #[]) rfl
    rw [hz] at q; exact q
  exact ⟨⟨_, he, rfl⟩, h _ he (Heap.get?_push_of_some _ (Heap.get?_push_size _ B.free)) (by rw [Heap.size_push, hz]) fun b u x => Heap.get?_push_of_some _ (Heap.get?_push_of_some _ x)⟩

/-! ### a list or a tuple -/
def Sq (K : PySem.W.Frag) (l : Bool) (H : Hp) (a : Addr) (xs : List V) : Prop := match l with
  | true => SqL K H a xs
  | false => SqT K H a xs
def ItAt (l : Bool) (h : Heap) (it a : Addr) (i : Nat) : Prop := match l with
  | true => h.IsListIter it a i
  | false => h.IsTupleIter it a i
def SrcAt (l : Bool) (h : Heap) (a : Addr) (its : Array Value) : Prop := match l with
  | true => h.IsList a its
  | false => h.IsTuple a its
def itObj (l : Bool) (a : Addr) : Obj := match l with
  | true => { cls := .type "list_iterator", data := .fields #[.ref a, .int 0 0] }
  | false => { cls := .type "tuple_iterator", data := .fields #[.ref a, .int 0 0] }
theorem begins_sq (l : Bool) (a : Addr) (its : Array Value) : Begins (.ref a) (itObj l a) fun h => SrcAt l h a its := by
  cases l
  · exact begins_tuple a its
  · exact begins_list a its
theorem draws_sq {prog : Program} {w : World} {A : Around} (hh : A.handled = none) (l : Bool) (it a : Addr) (hne : a ≠ it) (its : Array Value) :
    Draws prog w A it [it, a] its.size (fun i v => its[i]? = some v) (fun i h => ItAt l h it a i ∧ SrcAt l h a its) := by
  cases l
  · exact Draws.tuple hh it a hne its
  · exact Draws.list hh it a hne its
theorem itAt_start {l : Bool} {h : Heap} {it a : Addr} (e : h.get? it = some (itObj l a)) : ItAt l h it a 0 := by
  cases l
  · exact ⟨_, e, rfl, rfl⟩
  · exact ⟨_, e, rfl, rfl⟩
theorem ItAt.obj {l : Bool} {h : Heap} {it a : Addr} {i : Nat} (x : ItAt l h it a i) : ∃ o, h.get? it = some o ∧ ∀ v, o.data ≠ .cell v := by
  cases l
  · obtain ⟨o, e, _, d⟩ := x; exact ⟨o, e, fun v z => by rw [d] at z; cases z⟩
  · obtain ⟨o, e, _, d⟩ := x; exact ⟨o, e, fun v z => by rw [d] at z; cases z⟩
theorem ItAt.keep {l : Bool} {h h' : Heap} {it a : Addr} {i : Nat} (x : ItAt l h it a i) (k : ∀ o, h.get? it = some o → h'.get? it = some o) : ItAt l h' it a i := by
  cases l
  · exact Heap.IsTupleIter.at x k
  · exact Heap.IsListIter.at x k
section
variable {X : Cx} {pins : List (Addr × Obj)} {σ : L2.St} {H : Hp} {s : Shared} {a : Addr} {l : Bool} {xs ys : List V}
theorem sq_at (I : Inv X pins σ H s) (h : Sq X.K l H a xs) : ∃ its : List Value, Vals xs its ∧ SrcAt l s.heap a its.toArray ∧ a < s.heap.objs.size := by
  cases l
  · obtain ⟨its, rv, p, _⟩ := I.tuple h
    exact ⟨its, rv, p, p.lt⟩
  · obtain ⟨its, rv, p, _⟩ := I.list h
    exact ⟨its, rv, p.isList, p.lt⟩
theorem sq_inj (I : Inv X pins σ H s) (h : Sq X.K l H a xs) (h' : Sq X.K l H a ys) : xs = ys := by
  cases l
  · exact I.tuple_inj h h'
  · exact I.list_inj h h'
end
/-! ### a turn by a walk that hands out new tuples -/
section
variable {X : Cx} {pins : List (Addr × Obj)} {σ : L2.St} {H : Hp} {s : Shared} {tg : Expr} {it : Addr} {fp fpG wr : List Addr} {n i : Nat} {Y : Nat → Heap → Value → Heap → Prop} {St : Nat → Heap → Prop} {tn : Nat → Heap → Prop} {J : It} {E : Value → Shared → Prop}
theorem item_goes (W : GoesN X.prog X.w X.A tg it fpG wr n Y St) (hwr : ∀ b ∈ wr, b ∈ fp) (I : Inv X pins σ H s) (hf : ∀ b ∈ fp, FpOk X pins H b) (lt : ∀ b ∈ fp, b < s.heap.objs.size) (hi : i < n) (st : St i s.heap)
    (hY : ∀ v h', Y i s.heap v h' → ∃ (T : Addr) (xs : List V) (its : List Value), v = .ref T ∧ s.heap.objs.size ≤ T ∧ h'.IsTuple T its.toArray ∧ Vals xs its ∧ xs.length ≤ sizeLine ∧ (H T = none → J.yld i H (.ref T) (upd H T (.tup xs))))
    (htn : ∀ h', St (i + 1) h' → (∀ b o, b ∉ wr → s.heap.get? b = some o → h'.get? b = some o) → tn (i + 1) h') :
    wpAny (model X.prog X.w) X.A (pyNext (.ref it)) (fun r s1 => ∃ u, r = some u ∧
      wpAny (model X.prog X.w) X.A (letOwnedTupleGo tg (.ref it) u) (fun _ s2 => ∃ x H', Inv X pins σ H' s2 ∧ RelV x u ∧ J.yld i H x H' ∧ tn (i + 1) s2.heap ∧ ∀ b ∈ fp, H' b = none) E s1) E s := by
  refine W.goes i s (fun u s2 => ∃ x H', Inv X pins σ H' s2 ∧ RelV x u ∧ J.yld i H x H' ∧ tn (i + 1) s2.heap ∧ ∀ b ∈ fp, H' b = none) E hi st fun v h' tk y st' hk htk => ?_
  obtain ⟨T, xs, its, rfl, hT, tup, rv, hl, yl⟩ := hY v h' y
  refine ⟨.ref T, upd H T (.tup xs), I.turnedNew (ch := fp) (fun b o hb e => hk b o (fun z => hb (hwr b z)) e) hf hT ⟨hl, its, rv, tup⟩, rfl, yl (I.hok.fresh hT), htn h' st' hk, fun b hb => ?_⟩
  rw [upd_ne (fun z => absurd (lt b hb) (by rw [z]; exact Nat.not_lt.mpr hT))]
  exact (hf b hb).1
theorem done_goes (W : GoesN X.prog X.w X.A tg it fpG wr n Y St) (hwr : ∀ b ∈ wr, b ∈ fp) (I : Inv X pins σ H s) (hf : ∀ b ∈ fp, FpOk X pins H b) (st : St n s.heap) : wpAny (model X.prog X.w) X.A (pyNext (.ref it)) (fun r s1 => r = none ∧ Inv X pins σ H s1) E s :=
  W.stops s (Inv X pins σ H) E st fun h' tk hk htk => I.turnedL (ch := fp) (fun b o hb e => hk b o (fun z => hb (hwr b z)) e) hf
end
/-! ### enumerate -/
def ItE (K : PySem.W.Frag) (l : Bool) (a : Addr) (xs : List V) : It :=
  ⟨fun i H => Sq K l H a xs ∧ i < xs.length, fun i H v H' => ∃ T x, v = .ref T ∧ H T = none ∧ H' = upd H T (.tup [.int (i : Nat), x]) ∧ xs[i]? = some x, fun i H => Sq K l H a xs ∧ xs.length ≤ i⟩
theorem vals_get' {xs : List V} {its : List Value} {i : Nat} {u : Value} (rv : Vals xs its) (h : its.toArray[i]? = some u) : ∃ x, xs[i]? = some x ∧ RelV x u := by
  have h : its[i]? = some u := by simpa using h
  cases q : xs[i]? with
  | none => rw [rv.none_of q] at h; cases h
  | some x =>
    obtain ⟨u', e, r⟩ := rv.get q
    rw [h] at e; cases e
    exact ⟨x, rfl, r⟩
theorem turn_enumS {P : Program} {w : World} {K : PySem.W.Frag} {elts : List Expr} {kk : Nat} {tpos : Pos} (l : Bool) (a e it : Addr) (xs : List V) (hei : e ≠ it) (hae : a ≠ e) (hai : a ≠ it) :
    Turn P w K (.Tuple elts kk tpos) (ItE K l a xs) [e, it] e (fun i h => i ≤ xs.length ∧ (∃ old, IsEnum h e it ((0 : Int) + (i : Int)) old) ∧ ItAt l h it a i) where
  mem := by simp
  obj := fun i h st b hb => by
    obtain ⟨_, ⟨old, he⟩, hi⟩ := st
    rcases (by simpa using hb : b = e ∨ b = it) with z | z
    · rw [z]; exact ⟨_, he, fun v q => nomatch q⟩
    · rw [z]; exact hi.obj
  keep := fun i h h' st k => by
    obtain ⟨hl, ⟨old, he⟩, hi⟩ := st
    exact ⟨hl, ⟨old, k e (by simp) _ he⟩, hi.keep fun o q => k it (by simp) o q⟩
  item := by
    intro X hP hw hK hc i pins s σ H E I hf st hg
    subst hP hw hK
    obtain ⟨_, ⟨old, he⟩, hi⟩ := st
    obtain ⟨hq, hx⟩ := hg
    obtain ⟨its, rv, p, hlt⟩ := sq_at I hq
    have hl := rv.length
    have W := GoesN.enumFrom (elts := elts) (x1 := kk) (pos := tpos) 0 (draws_sq (prog := X.prog) (w := X.w) (A := X.A.in1) (I.ok.hd hc) l it a hai its.toArray) e hei (by simp; exact ⟨hei, Ne.symm hae⟩) (by simp)
    refine item_goes (J := ItE X.K l a xs) (tn := fun i h => i ≤ xs.length ∧ (∃ old, IsEnum h e it ((0 : Int) + (i : Int)) old) ∧ ItAt l h it a i) W (fp := [e, it]) (by simp) I hf (fun b hb => ?_) (by simp; omega) ⟨⟨old, he⟩, hi, p⟩ (fun v h' y => ?_) fun h' st' hk => ⟨by omega, st'.1, st'.2.1⟩
    · rcases (by simpa using hb : b = e ∨ b = it) with z | z
      · rw [z]; exact Heap.lt_size he
      · rw [z]; obtain ⟨o, q, _⟩ := hi.obj; exact Heap.lt_size q
    · obtain ⟨T, t, u, rfl, hT, hu, tup⟩ := y
      obtain ⟨x, hx, ru⟩ := vals_get' rv hu
      exact ⟨T, [.int (i : Nat), x], [.int ((0 : Int) + (i : Int)) t, u], rfl, hT, tup, .cons ⟨t, by rw [Int.zero_add]⟩ (.cons ru .nil), by show 2 ≤ sizeLine; decide, fun z => ⟨T, x, rfl, z, rfl, hx⟩⟩
  done := by
    intro X hP hw hK hc i pins s σ H E I hf st hg
    subst hP hw hK
    obtain ⟨hle, ⟨old, he⟩, hi⟩ := st
    obtain ⟨hq, hx⟩ := hg
    obtain ⟨its, rv, p, hlt⟩ := sq_at I hq
    have hl := rv.length
    have W := GoesN.enumFrom (elts := elts) (x1 := kk) (pos := tpos) 0 (draws_sq (prog := X.prog) (w := X.w) (A := X.A.in1) (I.ok.hd hc) l it a hai its.toArray) e hei (by simp; exact ⟨hei, Ne.symm hae⟩) (by simp)
    have ei : its.toArray.size = i := by simp; omega
    exact done_goes W (fp := [e, it]) (by simp) I hf (by rw [ei]; exact ⟨⟨old, he⟩, hi, p⟩)
  self := fun A i s Q E st h => let ⟨_, ⟨_, he⟩, _⟩ := st; wpAny_pyIter_enum he h
def iEnumS (K : PySem.W.Frag) (ta : TA) : TI := fun σ H R => ta σ H fun vs H1 => ∃ l a xs, vs = [.ref a] ∧ Sq K l H1 a xs ∧ R (ItE K l a xs) H1
theorem fpOk2 {X : Cx} {pins : List (Addr × Obj)} {σ : L2.St} {H : Hp} {s : Shared} (I : Inv X pins σ H s) {fp : List Addr} (h : ∀ b ∈ fp, s.heap.objs.size ≤ b) : ∀ b ∈ fp, FpOk X pins H b := fun b hb => I.fpOk (h b hb) (I.hok.fresh (h b hb))
theorem pi_enumS {X : Cx} {e : Expr} {ta : TA} {p pos tpos : Pos} {elts : List Expr} {kk : Nat} (hg : Gl X "enumerate") (hm : X.mg "enumerate" = none) (ha : PA X [e] ta) (hs : starEach [e] X.env = [(false, eval e X.env)]) :
    PI X (.Tuple elts kk tpos) (.Call (.Name "enumerate" p) [e] [] pos) (iEnumS X.K ta) := by
  refine ⟨fun pins s σ H R I h => ?_⟩
  refine Call_ (ld_blt I hg hm boot_enumerate (PyProof.Rows.callWith_type1 (thn (ha.run pos pins s σ H _ I h) fun us s1 ⟨vs, H1, I1, r1, l, a, xs, ex, hq, q⟩ => ?_) hs rfl))
  subst ex
  cases r1 with
  | cons r rr =>
    cases rr
    cases r
    obtain ⟨its, rv, p, hlt⟩ := sq_at I1 hq
    refine call_enum (begins_sq l a its.toArray) p fun h' he hit hsz hk => wpAny_pyIter_enum he ?_
    have I2 : Inv X pins σ H1 { s1 with heap := h' } := I1.kept (t' := s1.toks) hk
    have n1 : s1.heap.objs.size + 1 ≠ s1.heap.objs.size := Nat.succ_ne_self _
    have n2 : a ≠ s1.heap.objs.size + 1 := Nat.ne_of_lt (Nat.lt_succ_of_lt hlt)
    have n3 : a ≠ s1.heap.objs.size := Nat.ne_of_lt hlt
    refine ⟨s1.heap.objs.size + 1, [s1.heap.objs.size + 1, s1.heap.objs.size], _, _, H1, rfl, I2, turn_enumS l a (s1.heap.objs.size + 1) s1.heap.objs.size xs n1 n2 n3, ⟨Nat.zero_le _, ⟨.none, he⟩, itAt_start hit⟩, fpOk2 I1 fun b hb => ?_, q⟩
    rcases (by simpa using hb : b = s1.heap.objs.size + 1 ∨ b = s1.heap.objs.size) with z | z
    · rw [z]; exact Nat.le_add_right _ _
    · rw [z]; exact Nat.le_refl _
/-! ### zip of two -/
def ItZ2 (K : PySem.W.Frag) (l m : Bool) (a b : Addr) (xs ys : List V) : It :=
  ⟨fun i H => Sq K l H a xs ∧ Sq K m H b ys ∧ i < xs.length ∧ i < ys.length, fun i H v H' => ∃ T x y, v = .ref T ∧ H T = none ∧ H' = upd H T (.tup [x, y]) ∧ xs[i]? = some x ∧ ys[i]? = some y,
    fun i H => Sq K l H a xs ∧ Sq K m H b ys ∧ (xs.length ≤ i ∨ ys.length ≤ i)⟩
theorem turn_zip2S {P : Program} {w : World} {K : PySem.W.Frag} {elts : List Expr} {kk : Nat} {tpos : Pos} (l m : Bool) (a b z TI TO i1 i2 : Addr) (xs ys : List V) (D : ZipSep2 z TI TO i1 i2 [i1, a] [i2, b]) (n1 : a ≠ i1) (n2 : b ≠ i2) :
    Turn P w K (.Tuple elts kk tpos) (ItZ2 K l m a b xs ys) [z, TI, TO, i1, i2] z (fun i h => i ≤ min xs.length ys.length ∧ IsZip h z TI TO .none ∧ IsTupOf2 h TI (.ref i1) (.ref i2) ∧ (∃ x y, IsTupOf2 h TO x y) ∧ ItAt l h i1 a i ∧ ItAt m h i2 b i) where
  mem := by simp
  obj := fun i h st c hc => by
    obtain ⟨_, hz, hTI, ⟨x, y, hTO⟩, h1, h2⟩ := st
    rcases (by simpa using hc : c = z ∨ c = TI ∨ c = TO ∨ c = i1 ∨ c = i2) with q | q | q | q | q
    · rw [q]; exact ⟨_, hz, fun v q => nomatch q⟩
    · rw [q]; exact ⟨_, hTI, fun v q => nomatch q⟩
    · rw [q]; exact ⟨_, hTO, fun v q => nomatch q⟩
    · rw [q]; exact h1.obj
    · rw [q]; exact h2.obj
  keep := fun i h h' st k => by
    obtain ⟨hl, hz, hTI, ⟨x, y, hTO⟩, h1, h2⟩ := st
    exact ⟨hl, k z (by simp) _ hz, k TI (by simp) _ hTI, ⟨x, y, k TO (by simp) _ hTO⟩, h1.keep fun o q => k i1 (by simp) o q, h2.keep fun o q => k i2 (by simp) o q⟩
  item := by
    intro X hP hw hK hc i pins s σ H E I hf st hg
    subst hP hw hK
    obtain ⟨_, hz, hTI, ⟨x0, y0, hTO⟩, h1, h2⟩ := st
    obtain ⟨hqx, hqy, hx, hy⟩ := hg
    obtain ⟨its, rv, p, _⟩ := sq_at I hqx
    obtain ⟨its2, rv2, p2, _⟩ := sq_at I hqy
    have l1 := rv.length
    have l2 := rv2.length
    have W := GoesN.zip2 (elts := elts) (x1 := kk) (pos := tpos) D (draws_sq (prog := X.prog) (w := X.w) (A := X.A.in1) (I.ok.hd hc) l i1 a n1 its.toArray) (draws_sq (prog := X.prog) (w := X.w) (A := X.A.in1) (I.ok.hd hc) m i2 b n2 its2.toArray)
    refine item_goes (J := ItZ2 X.K l m a b xs ys) (tn := fun i h => i ≤ min xs.length ys.length ∧ IsZip h z TI TO .none ∧ IsTupOf2 h TI (.ref i1) (.ref i2) ∧ (∃ x y, IsTupOf2 h TO x y) ∧ ItAt l h i1 a i ∧ ItAt m h i2 b i) W (fp := [z, TI, TO, i1, i2]) (by simp) I hf (fun c hcm => ?_) (by simp; omega) ⟨hz, hTI, ⟨x0, y0, hTO⟩, ⟨h1, p⟩, h2, p2⟩ (fun v h' y => ?_) fun h' st' hk => ⟨by simp only [Nat.le_min]; omega, st'.1, st'.2.1, st'.2.2.1, st'.2.2.2.1.1, st'.2.2.2.2.1⟩
    · rcases (by simpa using hcm : c = z ∨ c = TI ∨ c = TO ∨ c = i1 ∨ c = i2) with q | q | q | q | q
      · rw [q]; exact Heap.lt_size hz
      · rw [q]; exact Heap.lt_size hTI
      · rw [q]; exact Heap.lt_size hTO
      · rw [q]; obtain ⟨o, q, _⟩ := h1.obj; exact Heap.lt_size q
      · rw [q]; obtain ⟨o, q, _⟩ := h2.obj; exact Heap.lt_size q
    · obtain ⟨T, u, u2, rfl, hT, hu, hu2, tup⟩ := y
      obtain ⟨x, hx, ru⟩ := vals_get' rv hu
      obtain ⟨y, hy, ru2⟩ := vals_get' rv2 hu2
      exact ⟨T, [x, y], [u, u2], rfl, hT, tup, .cons ru (.cons ru2 .nil), by show 2 ≤ sizeLine; decide, fun z => ⟨T, x, y, rfl, z, rfl, hx, hy⟩⟩
  done := by
    intro X hP hw hK hc i pins s σ H E I hf st hg
    subst hP hw hK
    obtain ⟨hle, hz, hTI, ⟨x0, y0, hTO⟩, h1, h2⟩ := st
    obtain ⟨hqx, hqy, hend⟩ := hg
    obtain ⟨its, rv, p, _⟩ := sq_at I hqx
    obtain ⟨its2, rv2, p2, _⟩ := sq_at I hqy
    have l1 := rv.length
    have l2 := rv2.length
    have W := GoesN.zip2 (elts := elts) (x1 := kk) (pos := tpos) D (draws_sq (prog := X.prog) (w := X.w) (A := X.A.in1) (I.ok.hd hc) l i1 a n1 its.toArray) (draws_sq (prog := X.prog) (w := X.w) (A := X.A.in1) (I.ok.hd hc) m i2 b n2 its2.toArray)
    have ei : min its.toArray.size its2.toArray.size = i := by simp only [List.size_toArray]; simp only [Nat.le_min] at hle; omega
    exact done_goes W (fp := [z, TI, TO, i1, i2]) (by simp) I hf (by rw [ei]; exact ⟨hz, hTI, ⟨x0, y0, hTO⟩, ⟨h1, p⟩, h2, p2⟩)
  self := fun A i s Q E st h => wpAny_pyIter_zip st.2.1 h
def iZip2S (K : PySem.W.Frag) (ta : TA) : TI := fun σ H R => ta σ H fun vs H1 => ∃ l m a b xs ys, vs = [.ref a, .ref b] ∧ Sq K l H1 a xs ∧ Sq K m H1 b ys ∧ R (ItZ2 K l m a b xs ys) H1
theorem pi_zip2S {X : Cx} {e e2 : Expr} {ta : TA} {p pos tpos : Pos} {elts : List Expr} {kk : Nat} (hg : Gl X "zip") (hm : X.mg "zip" = none) (ha : PA X [e, e2] ta)
    (hs : starEach [e, e2] X.env = (false, eval e X.env) :: starEach [e2] X.env) (hpl : (backTo pos (starEach [e2] X.env)).any (·.1) = false) :
    PI X (.Tuple elts kk tpos) (.Call (.Name "zip" p) [e, e2] [] pos) (iZip2S X.K ta) := by
  refine ⟨fun pins s σ H R I h => ?_⟩
  refine Call_ (ld_blt I hg hm PyProof.Rows.boot_zip (PyProof.Rows.callWith_type1 (thn (ha.run pos pins s σ H _ I h) fun us s1 ⟨vs, H1, I1, r1, l, m, a, b, xs, ys, ex, hqx, hqy, q⟩ => ?_) hs hpl))
  subst ex
  cases r1 with
  | cons r rr =>
    cases rr with
    | cons r' rr =>
      cases rr
      cases r
      cases r'
      obtain ⟨its, rv, p1, la⟩ := sq_at I1 hqx
      obtain ⟨its2, rv2, p2, lb⟩ := sq_at I1 hqy
      refine zip_begins2 (begins_sq l a its.toArray) (begins_sq m b its2.toArray) p1 p2 fun h' hz hTI hTO h1 h2 hsz hk => wpAny_pyIter_zip hz ?_
      have I2 : Inv X pins σ H1 { s1 with heap := h' } := I1.kept (t' := s1.toks) hk
      have D := zip_sep2 (N := s1.heap.objs.size) (fp1 := [a]) (fp2 := [b]) (by simpa using la) (by simpa using lb)
      have n1 : a ≠ s1.heap.objs.size := Nat.ne_of_lt la
      have n2 : b ≠ s1.heap.objs.size + 1 := Nat.ne_of_lt (Nat.lt_succ_of_lt lb)
      refine ⟨s1.heap.objs.size + 4, [s1.heap.objs.size + 4, s1.heap.objs.size + 2, s1.heap.objs.size + 3, s1.heap.objs.size, s1.heap.objs.size + 1], _, _, H1, rfl, I2, turn_zip2S l m a b _ _ _ _ _ xs ys D n1 n2, ⟨Nat.zero_le _, hz, hTI, ⟨_, _, hTO⟩, itAt_start h1, itAt_start h2⟩, fpOk2 I1 fun c hc => ?_, q⟩
      rcases (by simpa using hc : c = s1.heap.objs.size + 4 ∨ c = s1.heap.objs.size + 2 ∨ c = s1.heap.objs.size + 3 ∨ c = s1.heap.objs.size ∨ c = s1.heap.objs.size + 1) with q | q | q | q | q <;> rw [q] <;> first | exact Nat.le_refl _ | exact Nat.le_add_right _ _
/-! ### zip of three -/
def ItZ3 (K : PySem.W.Frag) (l m n : Bool) (a b c : Addr) (xs ys zs : List V) : It :=
  ⟨fun i H => Sq K l H a xs ∧ Sq K m H b ys ∧ Sq K n H c zs ∧ i < xs.length ∧ i < ys.length ∧ i < zs.length, fun i H v H' => ∃ T x y z, v = .ref T ∧ H T = none ∧ H' = upd H T (.tup [x, y, z]) ∧ xs[i]? = some x ∧ ys[i]? = some y ∧ zs[i]? = some z,
    fun i H => Sq K l H a xs ∧ Sq K m H b ys ∧ Sq K n H c zs ∧ (xs.length ≤ i ∨ ys.length ≤ i ∨ zs.length ≤ i)⟩
theorem turn_zip3S {P : Program} {w : World} {K : PySem.W.Frag} {elts : List Expr} {kk : Nat} {tpos : Pos} (l m n : Bool) (a b c z TI TO i1 i2 i3 : Addr) (xs ys zs : List V) (D : ZipSep3 z TI TO i1 i2 i3 [i1, a] [i2, b] [i3, c]) (n1 : a ≠ i1) (n2 : b ≠ i2) (n3 : c ≠ i3) :
    Turn P w K (.Tuple elts kk tpos) (ItZ3 K l m n a b c xs ys zs) [z, TI, TO, i1, i2, i3] z (fun i h => i ≤ min (min xs.length ys.length) zs.length ∧ IsZip h z TI TO .none ∧ IsTupOf3 h TI (.ref i1) (.ref i2) (.ref i3) ∧ (∃ x y z, IsTupOf3 h TO x y z) ∧ ItAt l h i1 a i ∧ ItAt m h i2 b i ∧ ItAt n h i3 c i) where
  mem := by simp
  obj := fun i h st d hd => by
    obtain ⟨_, hz, hTI, ⟨x, y, u, hTO⟩, h1, h2, h3⟩ := st
    rcases (by simpa using hd : d = z ∨ d = TI ∨ d = TO ∨ d = i1 ∨ d = i2 ∨ d = i3) with q | q | q | q | q | q
    · rw [q]; exact ⟨_, hz, fun v q => nomatch q⟩
    · rw [q]; exact ⟨_, hTI, fun v q => nomatch q⟩
    · rw [q]; exact ⟨_, hTO, fun v q => nomatch q⟩
    · rw [q]; exact h1.obj
    · rw [q]; exact h2.obj
    · rw [q]; exact h3.obj
  keep := fun i h h' st k => by
    obtain ⟨hl, hz, hTI, ⟨x, y, u, hTO⟩, h1, h2, h3⟩ := st
    exact ⟨hl, k z (by simp) _ hz, k TI (by simp) _ hTI, ⟨x, y, u, k TO (by simp) _ hTO⟩, h1.keep fun o q => k i1 (by simp) o q, h2.keep fun o q => k i2 (by simp) o q, h3.keep fun o q => k i3 (by simp) o q⟩
  item := by
    intro X hP hw hK hc i pins s σ H E I hf st hg
    subst hP hw hK
    obtain ⟨_, hz, hTI, ⟨x0, y0, z0, hTO⟩, h1, h2, h3⟩ := st
    obtain ⟨hqx, hqy, hqz, hx, hy, hw⟩ := hg
    obtain ⟨its, rv, p, _⟩ := sq_at I hqx
    obtain ⟨its2, rv2, p2, _⟩ := sq_at I hqy
    obtain ⟨its3, rv3, p3, _⟩ := sq_at I hqz
    have l1 := rv.length
    have l2 := rv2.length
    have l3 := rv3.length
    have W := GoesN.zip3 (elts := elts) (x1 := kk) (pos := tpos) D (draws_sq (prog := X.prog) (w := X.w) (A := X.A.in1) (I.ok.hd hc) l i1 a n1 its.toArray) (draws_sq (prog := X.prog) (w := X.w) (A := X.A.in1) (I.ok.hd hc) m i2 b n2 its2.toArray) (draws_sq (prog := X.prog) (w := X.w) (A := X.A.in1) (I.ok.hd hc) n i3 c n3 its3.toArray)
    refine item_goes (J := ItZ3 X.K l m n a b c xs ys zs) (tn := fun i h => i ≤ min (min xs.length ys.length) zs.length ∧ IsZip h z TI TO .none ∧ IsTupOf3 h TI (.ref i1) (.ref i2) (.ref i3) ∧ (∃ x y z, IsTupOf3 h TO x y z) ∧ ItAt l h i1 a i ∧ ItAt m h i2 b i ∧ ItAt n h i3 c i) W (fp := [z, TI, TO, i1, i2, i3]) (by simp) I hf (fun d hd => ?_) (by simp; omega) ⟨hz, hTI, ⟨x0, y0, z0, hTO⟩, ⟨h1, p⟩, ⟨h2, p2⟩, h3, p3⟩ (fun v h' y => ?_) fun h' st' hk => ⟨by simp only [Nat.le_min]; omega, st'.1, st'.2.1, st'.2.2.1, st'.2.2.2.1.1, st'.2.2.2.2.1.1, st'.2.2.2.2.2.1⟩
    · rcases (by simpa using hd : d = z ∨ d = TI ∨ d = TO ∨ d = i1 ∨ d = i2 ∨ d = i3) with q | q | q | q | q | q
      · rw [q]; exact Heap.lt_size hz
      · rw [q]; exact Heap.lt_size hTI
      · rw [q]; exact Heap.lt_size hTO
      · rw [q]; obtain ⟨o, q, _⟩ := h1.obj; exact Heap.lt_size q
      · rw [q]; obtain ⟨o, q, _⟩ := h2.obj; exact Heap.lt_size q
      · rw [q]; obtain ⟨o, q, _⟩ := h3.obj; exact Heap.lt_size q
    · obtain ⟨T, u, u2, u3, rfl, hT, hu, hu2, hu3, tup⟩ := y
      obtain ⟨x, hx, ru⟩ := vals_get' rv hu
      obtain ⟨y, hy, ru2⟩ := vals_get' rv2 hu2
      obtain ⟨v, hv, ru3⟩ := vals_get' rv3 hu3
      exact ⟨T, [x, y, v], [u, u2, u3], rfl, hT, tup, .cons ru (.cons ru2 (.cons ru3 .nil)), by show 3 ≤ sizeLine; decide, fun z => ⟨T, x, y, v, rfl, z, rfl, hx, hy, hv⟩⟩
  done := by
    intro X hP hw hK hc i pins s σ H E I hf st hg
    subst hP hw hK
    obtain ⟨hle, hz, hTI, ⟨x0, y0, z0, hTO⟩, h1, h2, h3⟩ := st
    obtain ⟨hqx, hqy, hqz, hend⟩ := hg
    obtain ⟨its, rv, p, _⟩ := sq_at I hqx
    obtain ⟨its2, rv2, p2, _⟩ := sq_at I hqy
    obtain ⟨its3, rv3, p3, _⟩ := sq_at I hqz
    have l1 := rv.length
    have l2 := rv2.length
    have l3 := rv3.length
    have W := GoesN.zip3 (elts := elts) (x1 := kk) (pos := tpos) D (draws_sq (prog := X.prog) (w := X.w) (A := X.A.in1) (I.ok.hd hc) l i1 a n1 its.toArray) (draws_sq (prog := X.prog) (w := X.w) (A := X.A.in1) (I.ok.hd hc) m i2 b n2 its2.toArray) (draws_sq (prog := X.prog) (w := X.w) (A := X.A.in1) (I.ok.hd hc) n i3 c n3 its3.toArray)
    have ei : min (min its.toArray.size its2.toArray.size) its3.toArray.size = i := by simp only [List.size_toArray]; simp only [Nat.le_min] at hle; omega
    exact done_goes W (fp := [z, TI, TO, i1, i2, i3]) (by simp) I hf (by rw [ei]; exact ⟨hz, hTI, ⟨x0, y0, z0, hTO⟩, ⟨h1, p⟩, ⟨h2, p2⟩, h3, p3⟩)
  self := fun A i s Q E st h => wpAny_pyIter_zip st.2.1 h
def iZip3S (K : PySem.W.Frag) (ta : TA) : TI := fun σ H R => ta σ H fun vs H1 => ∃ l m n a b c xs ys zs, vs = [.ref a, .ref b, .ref c] ∧ Sq K l H1 a xs ∧ Sq K m H1 b ys ∧ Sq K n H1 c zs ∧ R (ItZ3 K l m n a b c xs ys zs) H1
theorem pi_zip3S {X : Cx} {e e2 e3 : Expr} {ta : TA} {p pos tpos : Pos} {elts : List Expr} {kk : Nat} (hg : Gl X "zip") (hm : X.mg "zip" = none) (ha : PA X [e, e2, e3] ta)
    (hs : starEach [e, e2, e3] X.env = (false, eval e X.env) :: starEach [e2, e3] X.env) (hpl : (backTo pos (starEach [e2, e3] X.env)).any (·.1) = false) :
    PI X (.Tuple elts kk tpos) (.Call (.Name "zip" p) [e, e2, e3] [] pos) (iZip3S X.K ta) := by
  refine ⟨fun pins s σ H R I h => ?_⟩
  refine Call_ (ld_blt I hg hm PyProof.Rows.boot_zip (PyProof.Rows.callWith_type1 (thn (ha.run pos pins s σ H _ I h) fun us s1 ⟨vs, H1, I1, r1, l, m, n, a, b, c, xs, ys, zs, ex, hqx, hqy, hqz, q⟩ => ?_) hs hpl))
  subst ex
  cases r1 with
  | cons r rr =>
    cases rr with
    | cons r' rr =>
      cases rr with
      | cons r'' rr =>
        cases rr
        cases r
        cases r'
        cases r''
        obtain ⟨its, rv, p1, la⟩ := sq_at I1 hqx
        obtain ⟨its2, rv2, p2, lb⟩ := sq_at I1 hqy
        obtain ⟨its3, rv3, p3, lc⟩ := sq_at I1 hqz
        refine zip_begins3 (begins_sq l a its.toArray) (begins_sq m b its2.toArray) (begins_sq n c its3.toArray) p1 p2 p3 fun h' hz hTI hTO h1 h2 h3 hsz hk => wpAny_pyIter_zip hz ?_
        have I2 : Inv X pins σ H1 { s1 with heap := h' } := I1.kept (t' := s1.toks) hk
        have D := zip_sep3 (N := s1.heap.objs.size) (fp1 := [a]) (fp2 := [b]) (fp3 := [c]) (by simpa using la) (by simpa using lb) (by simpa using lc)
        have n1 : a ≠ s1.heap.objs.size := Nat.ne_of_lt la
        have n2 : b ≠ s1.heap.objs.size + 1 := Nat.ne_of_lt (Nat.lt_succ_of_lt lb)
        have n3 : c ≠ s1.heap.objs.size + 2 := Nat.ne_of_lt (Nat.lt_succ_of_lt (Nat.lt_succ_of_lt lc))
        refine ⟨s1.heap.objs.size + 5, [s1.heap.objs.size + 5, s1.heap.objs.size + 3, s1.heap.objs.size + 4, s1.heap.objs.size, s1.heap.objs.size + 1, s1.heap.objs.size + 2], _, _, H1, rfl, I2, turn_zip3S l m n a b c _ _ _ _ _ _ xs ys zs D n1 n2 n3, ⟨Nat.zero_le _, hz, hTI, ⟨_, _, _, hTO⟩, itAt_start h1, itAt_start h2, itAt_start h3⟩, fpOk2 I1 fun d hd => ?_, q⟩
        rcases (by simpa using hd : d = s1.heap.objs.size + 5 ∨ d = s1.heap.objs.size + 3 ∨ d = s1.heap.objs.size + 4 ∨ d = s1.heap.objs.size ∨ d = s1.heap.objs.size + 1 ∨ d = s1.heap.objs.size + 2) with q | q | q | q | q | q <;> rw [q] <;> first | exact Nat.le_refl _ | exact Nat.le_add_right _ _
end BK

/-! BkX1: enumerate, zip of any lists and tuples: the readings -/
namespace BK
open PySem PySem.Spec PyProof.Rows L2 RZ

def enumL (i : Nat) : List PV → List PV
  | [] => []
  | x :: xs => .tup [.int (i : Int), x] :: enumL (i + 1) xs
def trips : List PV → List PV → List PV → List PV
  | x :: xs, y :: ys, z :: zs => .tup [x, y, z] :: trips xs ys zs
  | _, _, _ => []
theorem enumL_length : ∀ (xs : List PV) (i : Nat), (enumL i xs).length = xs.length
  | [], _ => rfl
  | x :: xs, i => by simp [enumL, enumL_length xs]
theorem enumL_get : ∀ {xs : List PV} {j i : Nat} {x : PV}, (enumL j xs)[i]? = some x → ∃ u, xs[i]? = some u ∧ x = .tup [.int ((j + i : Nat) : Int), u]
  | [], _, _, _, h => by simp [enumL] at h
  | y :: ys, j, 0, x, h => by simp [enumL] at h; exact ⟨y, rfl, by rw [← h]; rfl⟩
  | y :: ys, j, i + 1, x, h => by
    obtain ⟨u, h1, h2⟩ := enumL_get (xs := ys) (j := j + 1) (i := i) (by simpa [enumL] using h)
    exact ⟨u, by simpa using h1, by rw [h2, show j + 1 + i = j + (i + 1) by omega]⟩
theorem trips_length : ∀ (a b c : List PV), (trips a b c).length = min (min a.length b.length) c.length
  | [], b, c => by simp [trips]
  | x :: a, [], c => by simp [trips]
  | x :: a, y :: b, [] => by simp [trips]
  | x :: a, y :: b, z :: c => by simp [trips, trips_length a b c] <;> omega
theorem trips_get : ∀ {a b c : List PV} {i : Nat} {x : PV}, (trips a b c)[i]? = some x → ∃ u w v, a[i]? = some u ∧ b[i]? = some w ∧ c[i]? = some v ∧ x = .tup [u, w, v]
  | [], b, c, i, x, h => by simp [trips] at h
  | _ :: a, [], c, i, x, h => by simp [trips] at h
  | _ :: a, _ :: b, [], i, x, h => by simp [trips] at h
  | x :: a, y :: b, z :: c, 0, u, h => by simp [trips] at h; exact ⟨x, y, z, rfl, rfl, rfl, h.symm⟩
  | x :: a, y :: b, z :: c, i + 1, u, h => by
    obtain ⟨p, q, r, h1, h2, h3, h4⟩ := trips_get (a := a) (b := b) (c := c) (i := i) (by simpa [trips] using h)
    exact ⟨p, q, r, by simpa using h1, by simpa using h2, by simpa using h3, h4⟩
def aEnum (n : AM) : AM := fun ρ st => (n ρ st).bind fun xs st1 => match xs with
  | [x] => Res.opt ((itemsOf x).map (enumL 0)) st1
  | _ => .bad
def aZipM (n : AM) : AM := fun ρ st => (n ρ st).bind fun xs st1 => match xs with
  | [x, y] => Res.opt ((itemsOf x).bind fun a => (itemsOf y).map fun b => pairs a b) st1
  | _ => .bad
def aZip3 (n : AM) : AM := fun ρ st => (n ρ st).bind fun xs st1 => match xs with
  | [x, y, z] => Res.opt ((itemsOf x).bind fun a => (itemsOf y).bind fun b => (itemsOf z).map fun c => trips a b c) st1
  | _ => .bad
section
variable {g : Gx} {F : Hp} {μ : List Addr}
theorem Sq.same {H H' : Hp} {l : Bool} {a : Addr} {xs : List V} {K : PySem.W.Frag} (e : Same H H') (h : Sq K l H a xs) : Sq K l H' a xs := by
  cases l
  · exact sqT_same e h
  · exact e.seq h
theorem itemsOf_Sq {v : V} {x : PV} {xs : List PV} (r : Rep g.K g.fa F μ v x) (h : itemsOf x = some xs) : ∃ l a vs, v = .ref a ∧ Sq g.K l F a vs ∧ vs.length ≤ sizeLine ∧ Reps g.K g.fa F μ vs xs := by
  obtain ⟨a, vs, rfl, q, hl, rr⟩ := itemsOf_sq (H := F) (Same.refl _) r h
  rcases q with ⟨q, _⟩ | ⟨q, _⟩
  · exact ⟨true, a, vs, rfl, q, hl, rr⟩
  · exact ⟨false, a, vs, rfl, q, hl, rr⟩
theorem goes_enum {l : Bool} {a : Addr} {vs : List V} {xs : List PV} (h : Sq g.K l F a vs) (hl : vs.length ≤ sizeLine) (r : Reps g.K g.fa F μ vs xs) : Goes g F μ (enumL 0 xs) (ItE g.K l a vs) := by
  refine ⟨by rw [enumL_length, ← r.length]; exact hl, fun F' μ' H' st' s m w i => ⟨fun x hx => ?_, fun hx => ⟨(h.same s).same w.sub, ?_⟩⟩⟩
  · obtain ⟨u, hu, rfl⟩ := enumL_get hx
    obtain ⟨v, hv, rv⟩ := r.get hu
    refine ⟨⟨(h.same s).same w.sub, (List.getElem?_eq_some_iff.mp hv).1⟩, fun z H'' y => ?_⟩
    obtain ⟨T, y1, rfl, hT, rfl, f1⟩ := y
    rw [hv] at f1
    cases f1
    obtain ⟨e, w2, q⟩ := w.alloc hT (.tup [.int (i : Nat), v])
    exact ⟨_, e, w2, .tup (.inl (.inl q)) (by show 2 ≤ sizeLine; decide) (.cons (by rw [Nat.zero_add]; exact .int _) (.cons (Rep.ext e (Rep.mono s m _ _ rv)) .nil))⟩
  · have := List.getElem?_eq_none_iff.mp hx
    rw [enumL_length, ← r.length] at this
    exact this
theorem goes_zip2 {l l' : Bool} {a b : Addr} {vs us : List V} {xs ys : List PV} (h : Sq g.K l F a vs) (hl : vs.length ≤ sizeLine) (r : Reps g.K g.fa F μ vs xs) (h' : Sq g.K l' F b us) (r' : Reps g.K g.fa F μ us ys) : Goes g F μ (pairs xs ys) (ItZ2 g.K l l' a b vs us) := by
  refine ⟨by rw [pairs_length, ← r.length]; omega, fun F' μ' H' st' s m w i => ⟨fun x hx => ?_, fun hx => ⟨(h.same s).same w.sub, (h'.same s).same w.sub, ?_⟩⟩⟩
  · obtain ⟨x1, x2, hx1, hx2, rfl⟩ := pairs_get hx
    obtain ⟨v1, hv1, rv1⟩ := r.get hx1
    obtain ⟨v2, hv2, rv2⟩ := r'.get hx2
    refine ⟨⟨(h.same s).same w.sub, (h'.same s).same w.sub, (List.getElem?_eq_some_iff.mp hv1).1, (List.getElem?_eq_some_iff.mp hv2).1⟩, fun z H'' y => ?_⟩
    obtain ⟨T, y1, y2, rfl, hT, rfl, f1, f2⟩ := y
    rw [hv1] at f1
    rw [hv2] at f2
    cases f1
    cases f2
    obtain ⟨e, w2, q⟩ := w.alloc hT (.tup [v1, v2])
    exact ⟨_, e, w2, .tup (.inl (.inl q)) (by show 2 ≤ sizeLine; decide) (.cons (Rep.ext e (Rep.mono s m _ _ rv1)) (.cons (Rep.ext e (Rep.mono s m _ _ rv2)) .nil))⟩
  · have := List.getElem?_eq_none_iff.mp hx
    rw [pairs_length, ← r.length, ← r'.length] at this
    omega
theorem goes_zip3 {l l' l'' : Bool} {a b c : Addr} {vs us ws : List V} {xs ys zs : List PV} (h : Sq g.K l F a vs) (hl : vs.length ≤ sizeLine) (r : Reps g.K g.fa F μ vs xs) (h' : Sq g.K l' F b us) (r' : Reps g.K g.fa F μ us ys) (h'' : Sq g.K l'' F c ws) (r'' : Reps g.K g.fa F μ ws zs) :
    Goes g F μ (trips xs ys zs) (ItZ3 g.K l l' l'' a b c vs us ws) := by
  refine ⟨by rw [trips_length, ← r.length]; omega, fun F' μ' H' st' s m w i => ⟨fun x hx => ?_, fun hx => ⟨(h.same s).same w.sub, (h'.same s).same w.sub, (h''.same s).same w.sub, ?_⟩⟩⟩
  · obtain ⟨x1, x2, x3, hx1, hx2, hx3, rfl⟩ := trips_get hx
    obtain ⟨v1, hv1, rv1⟩ := r.get hx1
    obtain ⟨v2, hv2, rv2⟩ := r'.get hx2
    obtain ⟨v3, hv3, rv3⟩ := r''.get hx3
    refine ⟨⟨(h.same s).same w.sub, (h'.same s).same w.sub, (h''.same s).same w.sub, (List.getElem?_eq_some_iff.mp hv1).1, (List.getElem?_eq_some_iff.mp hv2).1, (List.getElem?_eq_some_iff.mp hv3).1⟩, fun z H'' y => ?_⟩
    obtain ⟨T, y1, y2, y3, rfl, hT, rfl, f1, f2, f3⟩ := y
    rw [hv1] at f1
    rw [hv2] at f2
    rw [hv3] at f3
    cases f1
    cases f2
    cases f3
    obtain ⟨e, w2, q⟩ := w.alloc hT (.tup [v1, v2, v3])
    exact ⟨_, e, w2, .tup (.inl (.inl q)) (by show 3 ≤ sizeLine; decide) (.cons (Rep.ext e (Rep.mono s m _ _ rv1)) (.cons (Rep.ext e (Rep.mono s m _ _ rv2)) (.cons (Rep.ext e (Rep.mono s m _ _ rv3)) .nil)))⟩
  · have := List.getElem?_eq_none_iff.mp hx
    rw [trips_length, ← r.length, ← r'.length, ← r''.length] at this
    omega
end
section
variable {X : Cx} {g : Gx} {W : WX} {tg e e2 e3 : Expr} {p pos tpos : Pos} {m : EM} {n : AM}
theorem si_enum {elts : List Expr} {kk : Nat} (hK : g.K = X.K) (hg : Gl X "enumerate") (hm : X.mg "enumerate" = none) (ha : PA X [e] (tA g W n)) (h1 : isStar e = false) :
    PI X (.Tuple elts kk tpos) (.Call (.Name "enumerate" p) [e] [] pos) (tI g W (aEnum n)) := by
  refine PI.mono (pi_enumS hg hm ha (starEach_cons h1)) fun σ H R h => ?_
  obtain ⟨F, μ, st, ρ, w, en, h⟩ := h
  refine ⟨F, μ, st, ρ, w, en, (Post.bind h).imp fun xs st1 F1 μ1 H1 e1 w1 h1 vs rvs => ?_⟩
  match xs, rvs with
  | [], _ => exact h1.elim
  | _ :: _ :: _, _ => simp at h1; exact h1.elim
  | [x], .cons rx .nil =>
    obtain ⟨ys, hy, h2⟩ := Post.opt h1
    simp only [Option.map_eq_some_iff] at hy
    obtain ⟨xs, hx, rfl⟩ := hy
    obtain ⟨l, a, vs, rfl, q, hl, r⟩ := itemsOf_Sq rx hx
    refine ⟨l, a, vs, rfl, by rw [← hK]; exact q.same w1.sub, ?_⟩
    rw [← hK]
    exact h2 F1 μ1 H1 (Ext.refl ..) w1 _ (goes_enum q hl r)
theorem si_zipM {elts : List Expr} {kk : Nat} (hK : g.K = X.K) (hg : Gl X "zip") (hm : X.mg "zip" = none) (ha : PA X [e, e2] (tA g W n)) (h1 : isStar e = false) (h2 : isStar e2 = false) :
    PI X (.Tuple elts kk tpos) (.Call (.Name "zip" p) [e, e2] [] pos) (tI g W (aZipM n)) := by
  refine PI.mono (pi_zip2S hg hm ha (starEach_cons h1) (backTo_any (by simp [h2]))) fun σ H R h => ?_
  obtain ⟨F, μ, st, ρ, w, en, h⟩ := h
  refine ⟨F, μ, st, ρ, w, en, (Post.bind h).imp fun xs st1 F1 μ1 H1 e1 w1 h1 vs rvs => ?_⟩
  match xs, rvs with
  | [], _ => exact h1.elim
  | [_], _ => simp at h1; exact h1.elim
  | _ :: _ :: _ :: _, _ => simp at h1; exact h1.elim
  | [x, y], .cons rx (.cons ry .nil) =>
    obtain ⟨ys, hy, h2⟩ := Post.opt h1
    simp only [Option.bind_eq_some_iff, Option.map_eq_some_iff] at hy
    obtain ⟨xs, hx, zs, hz, rfl⟩ := hy
    obtain ⟨l, a, vs, rfl, q, hl, r⟩ := itemsOf_Sq rx hx
    obtain ⟨l', b, us, rfl, q', hl', r'⟩ := itemsOf_Sq ry hz
    refine ⟨l, l', a, b, vs, us, rfl, by rw [← hK]; exact q.same w1.sub, by rw [← hK]; exact q'.same w1.sub, ?_⟩
    rw [← hK]
    exact h2 F1 μ1 H1 (Ext.refl ..) w1 _ (goes_zip2 q hl r q' r')
theorem si_zip3 {elts : List Expr} {kk : Nat} (hK : g.K = X.K) (hg : Gl X "zip") (hm : X.mg "zip" = none) (ha : PA X [e, e2, e3] (tA g W n)) (h1 : isStar e = false) (h2 : isStar e2 = false) (h3 : isStar e3 = false) :
    PI X (.Tuple elts kk tpos) (.Call (.Name "zip" p) [e, e2, e3] [] pos) (tI g W (aZip3 n)) := by
  refine PI.mono (pi_zip3S hg hm ha (starEach_cons h1) (backTo_any (by simp [h2, h3]))) fun σ H R h => ?_
  obtain ⟨F, μ, st, ρ, w, en, h⟩ := h
  refine ⟨F, μ, st, ρ, w, en, (Post.bind h).imp fun xs st1 F1 μ1 H1 e1 w1 h1 vs rvs => ?_⟩
  match xs, rvs with
  | [], _ => exact h1.elim
  | [_], _ => simp at h1; exact h1.elim
  | [_, _], _ => simp at h1; exact h1.elim
  | _ :: _ :: _ :: _ :: _, _ => simp at h1; exact h1.elim
  | [x, y, z], .cons rx (.cons ry (.cons rz .nil)) =>
    obtain ⟨ys, hy, h2⟩ := Post.opt h1
    simp only [Option.bind_eq_some_iff, Option.map_eq_some_iff] at hy
    obtain ⟨xs, hx, zs, hz, us, hu, rfl⟩ := hy
    obtain ⟨l, a, vs, rfl, q, hl, r⟩ := itemsOf_Sq rx hx
    obtain ⟨l', b, us, rfl, q', hl', r'⟩ := itemsOf_Sq ry hz
    obtain ⟨l'', c, ws, rfl, q'', hl'', r''⟩ := itemsOf_Sq rz hu
    refine ⟨l, l', l'', a, b, c, vs, us, ws, rfl, by rw [← hK]; exact q.same w1.sub, by rw [← hK]; exact q'.same w1.sub, by rw [← hK]; exact q''.same w1.sub, ?_⟩
    rw [← hK]
    exact h2 F1 μ1 H1 (Ext.refl ..) w1 _ (goes_zip3 q hl r q' r' q'' r'')
/-! ### xs[::-1] -/
def mRev (m : EM) : AM := fun ρ st => (m ρ st).bind fun x st1 => match x with
  | .lst xs => .ok xs.reverse st1
  | _ => .bad
theorem Reps.reverse : ∀ {vs : List V} {xs : List PV} {g : Gx} {F : Hp} {μ : List Addr}, Reps g.K g.fa F μ vs xs → Reps g.K g.fa F μ vs.reverse xs.reverse
  | _, _, _, _, _, .nil => .nil
  | _, _, _, _, _, .cons h t => by
    rw [List.reverse_cons, List.reverse_cons]
    exact Reps.append (Reps.reverse t) (.cons h .nil)
theorem sl_rev {k : Nat} {p1 p2 p3 : Pos} (hK : g.K = X.K) (he : PE X e (tE g W m)) : PE X (.Subscript e (.Slice none none (some (.UnaryOp .USub (.Constant (.int 1) k p1) p2)) p3) pos) (tL g W (mRev m)) := by
  refine PE.mono (pe_revL he) fun σ H Q h => ?_
  obtain ⟨F, μ, st, ρ, w, en, h⟩ := h
  refine ⟨F, μ, st, ρ, w, en, (Post.bind h).imp fun x st1 F1 μ1 H1 e1 w1 h1 v rv => ?_⟩
  cases rv <;> try (exact h1.elim)
  rename_i a vs xs hq hl r
  refine ⟨a, vs, rfl, SqL.of (w1.sub _ _ hq), fun q hp => ?_⟩
  obtain ⟨e2, w2, q1, q2⟩ := w1.own hp (.lst vs.reverse)
  exact h1 _ _ _ e2 w2 q vs.reverse (e1.keep hp) q1 q2 upd_same (by simpa using hl) (Reps.reverse r)
end
end BK

/-! BkX2: dicts as values: written ones, displays, look-ups -/
namespace BK
open PySem PySem.Spec PyProof.Rows L2 RZ

def keyOk : PV → Bool
  | .int _ => true
  | .str _ => true
  | _ => false
def keyEq : PV → PV → Bool
  | .int i, .int j => i == j
  | .str x, .str y => x == y
  | _, _ => false
def dLook (k : PV) : List PV → List PV → Option PV
  | k' :: ks, v :: vs => if keyEq k' k = true then some v else dLook k ks vs
  | _, _ => none
/-- what a look-up finds in a written dict -/
def KdAt (K : PySem.W.Frag) (fa : Fx) (r : Option (Option Value)) : Option PV → Prop
  | some x => ∃ u v, r = some (some u) ∧ RelV v u ∧ ∀ F μ, Rep K fa F μ v x
  | none => r = some none
/-- what is known of a written dict of the top -/
def KdOk (K : PySem.W.Frag) (w : World) (fa : Fx) : Prop := ∀ a ks vs, fa.kd a ks vs → ∃ es n, KDict K w a es n ∧ ∀ z : Str, KdAt K fa (PySem.W.nsIn K a z) (dLook (.str z) ks vs)
section
variable {g : Gx} {F : Hp} {μ : List Addr}
theorem keyEq_kP (k k' : Key) : keyEq (kP k') (kP k) = decide (k' = k) := by
  rw [Bool.eq_iff_iff]
  cases k <;> cases k' <;> simp [keyEq, kP]
theorem rep_key {v : V} {x : PV} (r : Rep g.K g.fa F μ v x) (h : keyOk x = true) : ∃ k : Key, v = kV k ∧ x = kP k := by
  cases r <;> first | (simp [keyOk] at h; done) | skip
  · exact ⟨.inl _, rfl, rfl⟩
  · exact ⟨.inr _, rfl, rfl⟩
theorem reps_keys : ∀ {ks : List Key} {xs : List PV}, Reps g.K g.fa F μ (ks.map kV) xs → xs = ks.map kP
  | [], _, h => by cases h; rfl
  | k :: ks, _, h => by
    cases h with
    | cons h t =>
      rw [List.map_cons, ← reps_keys t]
      cases k
      · cases h; rfl
      · cases h; rfl
theorem look_rep {k : Key} : ∀ {kvs : List (Key × V)} {ks vs : List PV}, Reps g.K g.fa F μ (kvs.map fun p => kV p.1) ks → Reps g.K g.fa F μ (kvs.map fun p => p.2) vs →
    match dLook (kP k) ks vs with
    | some x => ∃ v, valV kvs k = some v ∧ Rep g.K g.fa F μ v x
    | none => valV kvs k = none
  | [], _, _, h, h' => by cases h; cases h'; rfl
  | (k', v) :: kvs, _, _, h, h' => by
    cases h with
    | @cons _ x _ ks h t =>
      cases h' with
      | @cons _ y _ vs h' t' =>
        have e : x = kP k' := by cases k' <;> cases h <;> rfl
        subst e
        unfold dLook valV
        rw [keyEq_kP, List.find?_cons]
        by_cases q : k' = k
        · rw [if_pos (by simpa using q)]
          simp only [q, decide_true, Option.map_some]
          exact ⟨v, rfl, h'⟩
        · rw [if_neg (by simpa using q)]
          simp only [q, decide_false]
          exact look_rep t t'
end
/-! ### d[k] -/
def opIx (st : Sto) : PV → PV → Option PV
  | .dct ks vs, y => if keyOk y = true then dLook y ks vs else none
  | .kct ks vs, .str z => dLook (.str z) ks vs
  | .kct _ _, _ => none
  | x, y => opIx0 st x y
section
variable {X : Cx} {g : Gx} {W : WX} {a b e o : Expr} {pos apos cpos : Pos} {ma mb mc : EM}
theorem ix_dK (hu : X.A.units + 1 < cLine) : IxR X (fun x y H Q => ∃ a v, x = .ref a ∧ DGet H a y (some v) ∧ Q v H) := by
  intro value slice pins s σ H x y v u Q I rx ry h hs
  obtain ⟨a, w, rfl, dg, q⟩ := h
  obtain rfl : v = Value.ref a := rx
  exact tail_any (dict_typeIs I dg) PySem.F.slot_dict_getitem.lookup (d_getItem hu I dg ry fun w' s' I' rw' => ⟨w, H, I', rw', q⟩) hs
def rKd (K : PySem.W.Frag) (w : World) : R2 := fun x y H Q => ∃ (p : Addr) (es : Array DictEntry) (n : Nat) (z : Str) (u0 : Value) (v0 : V), KDict K w p es n ∧ x = .ref p ∧ y = .str z ∧ PySem.W.nsIn K p z = some (some u0) ∧ RelV v0 u0 ∧ Q v0 H
theorem ix_kd : IxR X (rKd X.K X.w) := by
  intro value slice pins s σ H x y v u Q I rx ry h hs
  obtain ⟨p, es, n, z, u0, v0, D, rfl, rfl, e, r, q⟩ := h
  obtain rfl : v = Value.ref p := rx
  exact tail_any (kd_type D I) PySem.F.slot_dict_getitem.lookup (op_item_kd D pins s σ H (.ref p) (.str z) _ _ Q I rfl ry ⟨z, u0, v0, rfl, rfl, e, r, q⟩) hs
theorem vo_ixD (hK : g.K = X.K) (kd : KdOk g.K X.w g.fa) : VOpS g (fun x y H Q => rIx g.K x y H Q ∨ (∃ a v, x = .ref a ∧ DGet H a y (some v) ∧ Q v H) ∨ rKd g.K X.w x y H Q) opIx := by
  intro F μ H st x y px py z Q w rx ry hz k
  have base : opIx0 st px py = some z → rIx g.K x y H Q := fun h => vo_ix F μ H st x y px py z Q w rx ry h k
  cases rx with
  | dct h hl rk rv =>
    simp only [opIx] at hz
    split at hz
    · rename_i hk
      obtain ⟨key, rfl, rfl⟩ := rep_key ry hk
      have q := look_rep (k := key) rk rv
      rw [hz] at q
      obtain ⟨v, q1, q2⟩ := q
      refine .inr (.inl ⟨_, v, rfl, ?_, k F H (Ext.refl ..) w v q2⟩)
      rw [← q1]
      exact DGet.k (w.sub _ _ h)
    · cases hz
  | kct h =>
    cases ry <;> simp only [opIx] at hz <;> try (cases hz; done)
    obtain ⟨es, n, D, q⟩ := kd _ _ _ h
    rename_i zs _ _
    have q := q zs
    rw [hz] at q
    obtain ⟨u, v, q1, q2, q3⟩ := q
    exact .inr (.inr ⟨_, es, n, zs, u, v, D, rfl, rfl, q1, q2, k F H (Ext.refl ..) w v (q3 F μ)⟩)
  | _ => exact .inl (base hz)
theorem se_ixD (ha : PE X a (tE g W ma)) (hb : PE X b (tE g W mb)) (hK : g.K = X.K) (kd : KdOk g.K X.w g.fa) (hu : X.A.units + 64 < cLine) (hs : PlainIx b) : PE X (.Subscript a b pos) (tE g W (mBinS opIx ma mb)) := by
  have hv := vo_ixD (X := X) hK kd
  rw [hK] at hv
  exact PE.mono (pe_ix (ix_seq.or ((ix_dK (by omega)).or ix_kd)) ha hb hs) fun σ H Q h => tOpS_of hv h
/-! ### k in d -/
def inD (neg : Bool) : PV → PV → Option PV
  | x, .dct ks vs => if keyOk x = true then some (.bl (if neg then !(dLook x ks vs).isSome else (dLook x ks vs).isSome)) else none
  | .str z, .kct ks vs => some (.bl (if neg then !(dLook (.str z) ks vs).isSome else (dLook (.str z) ks vs).isSome))
  | _, _ => none
def rInD (neg : Bool) : R2 := fun y x H Q => ∃ a o, x = .ref a ∧ DGet H a y o ∧ Q (.bl (if neg then !o.isSome else o.isSome)) H
def rInK (K : PySem.W.Frag) (w : World) (neg : Bool) : R2 := fun x y H Q => ∃ (p : Addr) (es : Array DictEntry) (n : Nat) (z : Str) (r : Option Value), KDict K w p es n ∧ x = .str z ∧ y = .ref p ∧ PySem.W.nsIn K p z = some r ∧ Q (.bl (if neg then !r.isSome else r.isSome)) H
theorem op_inD (hu : X.A.units + 1 < cLine) : OpR X (compareOp .In) (rInD false) := by
  intro pins s σ H y x u v Q I ry rx h
  obtain ⟨a, o, rfl, dg, q⟩ := h
  obtain rfl : v = Value.ref a := rx
  exact d_in hu I dg ry fun s' I' => ⟨.bl o.isSome, H, I', rfl, q⟩
theorem op_notInD (hu : X.A.units + 1 < cLine) : OpR X (compareOp .NotIn) (rInD true) := by
  intro pins s σ H y x u v Q I ry rx h
  obtain ⟨a, o, rfl, dg, q⟩ := h
  obtain rfl : v = Value.ref a := rx
  exact d_notIn hu I dg ry fun s' I' => ⟨.bl (!o.isSome), H, I', rfl, q⟩
theorem op_inK : OpR X (compareOp .In) (rInK X.K X.w false) := by
  intro pins s σ H x y u v Q I rx ry h
  obtain ⟨p, es, n, z, r, D, h1, h2, h3, q⟩ := h
  exact op_in_kd D pins s σ H x y u v Q I rx ry ⟨z, r, h1, h2, h3, q⟩
theorem op_notInK : OpR X (compareOp .NotIn) (rInK X.K X.w true) := by
  intro pins s σ H x y u v Q I rx ry h
  obtain ⟨p, es, n, z, r, D, h1, h2, h3, q⟩ := h
  exact op_notIn_kd D pins s σ H x y u v Q I rx ry ⟨z, r, h1, h2, h3, q⟩
theorem vo_inD (neg : Bool) (kd : KdOk g.K X.w g.fa) : VOp g (fun x y H Q => rInD neg x y H Q ∨ rInK g.K X.w neg x y H Q) (inD neg) := by
  intro F μ H st x y px py z Q w rx ry hz k
  cases ry <;> first | (simp only [inD] at hz; cases hz; done) | skip
  · rename_i a kvs ks vs h hl rk rv
    simp only [inD] at hz
    split at hz
    · rename_i hk
      cases hz
      obtain ⟨key, rfl, rfl⟩ := rep_key rx hk
      refine .inl ⟨_, valV kvs key, rfl, DGet.k (w.sub _ _ h), ?_⟩
      have q := look_rep (k := key) rk rv
      have e : (valV kvs key).isSome = (dLook (kP key) ks vs).isSome := by
        split at q
        · rename_i e; obtain ⟨v, q1, _⟩ := q; rw [e, q1]; rfl
        · rename_i e; rw [e, q]; rfl
      rw [e]
      exact k F H (Ext.refl ..) w _ (.bl _)
    · cases hz
  · rename_i h
    cases rx <;> simp only [inD] at hz <;> try (cases hz; done)
    cases hz
    obtain ⟨es, n, D, q⟩ := kd _ _ _ h
    rename_i zs _ _
    have q := q zs
    cases e : dLook (.str zs) _ _ with
    | some x =>
      rw [e] at q k
      obtain ⟨u, v, q1, _⟩ := q
      exact .inr ⟨_, es, n, zs, _, D, rfl, rfl, q1, k F H (Ext.refl ..) w _ (.bl _)⟩
    | none =>
      rw [e] at q k
      exact .inr ⟨_, es, n, zs, _, D, rfl, rfl, q, k F H (Ext.refl ..) w _ (.bl _)⟩
end
def opIn : PV → PV → Option PV
  | x, .dct ks vs => inD false x (.dct ks vs)
  | x, .kct ks vs => inD false x (.kct ks vs)
  | x, y => opIn0 x y
def opNotIn : PV → PV → Option PV
  | x, .dct ks vs => inD true x (.dct ks vs)
  | x, .kct ks vs => inD true x (.kct ks vs)
  | x, y => opNotIn0 x y
theorem opIn_or {x y z : PV} (h : opIn x y = some z) : ((opIn0 x y).or (inD false x y)) = some z := by
  cases y with
  | dct ks vs => have e : opIn0 x (.dct ks vs) = none := by cases x <;> rfl
                 rw [e]; exact h
  | kct ks vs => have e : opIn0 x (.kct ks vs) = none := by cases x <;> rfl
                 rw [e]; exact h
  | _ => simp only [opIn] at h; rw [h]; rfl
theorem opNotIn_or {x y z : PV} (h : opNotIn x y = some z) : ((opNotIn0 x y).or (inD true x y)) = some z := by
  cases y with
  | dct ks vs => have e : opNotIn0 x (.dct ks vs) = none := by cases x <;> rfl
                 rw [e]; exact h
  | kct ks vs => have e : opNotIn0 x (.kct ks vs) = none := by cases x <;> rfl
                 rw [e]; exact h
  | _ => simp only [opNotIn] at h; rw [h]; rfl
section
variable {X : Cx} {g : Gx}
def rIn3 (K : PySem.W.Frag) (w : World) (neg : Bool) : R2 := fun x y H Q => (rInM K neg x y H Q ∨ ∃ (c : Nat) (z : Str), x = .str ⟨#[c]⟩ ∧ y = .str z ∧ Q (.bl (if neg then !decide (c ∈ z.cps.toList) else decide (c ∈ z.cps.toList))) H) ∨ (rInD neg x y H Q ∨ rInK K w neg x y H Q)
theorem op_in3 (hu : X.A.units + 64 < cLine) : OpR X (compareOp .In) (rIn3 X.K X.w false) := (op_in2 hu).or ((op_inD (by omega)).or op_inK)
theorem op_notIn3 (hu : X.A.units + 64 < cLine) : OpR X (compareOp .NotIn) (rIn3 X.K X.w true) := (op_notIn2 hu).or ((op_notInD (by omega)).or op_notInK)
theorem vo_in3 (kd : KdOk g.K X.w g.fa) : VOp g (rIn3 g.K X.w false) opIn := VOp.imp (VOp.or vo_in (vo_inD false kd)) fun _ _ _ h => opIn_or h
theorem vo_notIn3 (kd : KdOk g.K X.w g.fa) : VOp g (rIn3 g.K X.w true) opNotIn := VOp.imp (VOp.or vo_notIn (vo_inD true kd)) fun _ _ _ h => opNotIn_or h
end
end BK

/-! BkX3: d.get(..), new dicts: displays, copies -/
namespace BK
open PySem PySem.Spec PyProof.Rows L2 RZ

def isCall0 : Expr → Bool
  | .Call (.Name _ _) [] [] _ => true
  | _ => false
theorem base_of {o : Expr} {m : Str} {env : PySem.Env} {whole : Sem Value} (h : isCall0 o = false) : attributeBase o m env whole = whole := by
  cases o <;> first | rfl | skip
  rename_i f as ks p
  cases f <;> first | rfl | skip
  cases as <;> first | rfl | skip
  cases ks <;> first | rfl | skip
  simp [isCall0] at h
/-- few arguments, none with a star -/
abbrev FewArgs (es : List Expr) (env : PySem.Env) (p : Pos) : Prop := ((backTo p (starEach es env)).all (fun d => !d.1) && (backToKw p (keywordEach [] env)).all (fun d => d.1.isSome) && decide (es.length + ([] : List Keyword).length + (if ([] : List Keyword).isEmpty then 0 else 1) < 30)) = true
theorem fewArgs : ∀ {es : List Expr} {env : PySem.Env} {p : Pos}, es.any isStar = false → es.length < 30 → FewArgs es env p := by
  intro es env p h hl
  unfold FewArgs
  have e1 : (backTo p (starEach es env)).all (fun d => !d.1) = true := by
    rw [List.all_eq_not_any_not]
    have := backTo_any (pos := p) (env := env) h
    simp only [Bool.not_not] at this ⊢
    rw [this]; rfl
  rw [e1]
  simp [keywordEach, backToKw]
  omega
section
variable {X : Cx} {g : Gx} {W : WX} {a b e f o : Expr} {pos apos cpos : Pos} {ma mb mc : EM} {n : AM}
/-- d.get(k), d.get(k, x) by values -/
def fGet (_ : Sto) : List PV → Option PV
  | [.dct ks vs, k] => if keyOk k = true then some ((dLook k ks vs).getD .non) else none
  | [.kct ks vs, .str z] => some ((dLook (.str z) ks vs).getD .non)
  | [.dct ks vs, k, x] => if keyOk k = true then some ((dLook k ks vs).getD x) else none
  | [.kct ks vs, .str z, x] => some ((dLook (.str z) ks vs).getD x)
  | _ => none
theorem getD_some {α : Type} {o : Option α} {x y : α} (h : o = some y) : o.getD x = y := by rw [h]; rfl
theorem kd_get {X : Cx} {pins : List (Addr × Obj)} {σ : L2.St} {H : Hp} {s : Shared} {p : Addr} {es : Array DictEntry} {m : Nat} {z : Str} {u : Value} {r : Option Value} {A : Around} {E : Value → Shared → Prop} {Q : Value → Shared → Prop} (D : KDict X.K X.w p es m) (I : Inv X pins σ H s) (ry : RelV (.str z) u) (hr : PySem.W.nsIn X.K p z = some r)
    (h : Q (r.getD .none) { s with toks := s.toks + 1 }) : wpAny (model X.prog X.w) A (call (.builtin "dict.get") [.ref p, u]) Q E s := by
  obtain ⟨t, rfl⟩ := ry
  have hm := PySem.W.mapOf_K (prog := X.prog) (w := X.w) I.kIn D.at_ D.lit
  refine call_meetsIn PySem.F.slot_dict_get hm.typeIs PySem.F.entry_dict_get (PySem.F.args_dict_get_2 _ _) (meets_dict_get (strKind X.prog X.w) p (PySem.strKind_is X.prog X.w z t) D.low) ⟨_, hm, ?_⟩
  rw [PySem.W.find_K D.at_ hr]
  exact h
theorem kd_get2 {X : Cx} {pins : List (Addr × Obj)} {σ : L2.St} {H : Hp} {s : Shared} {p : Addr} {es : Array DictEntry} {m : Nat} {z : Str} {u d : Value} {r : Option Value} {A : Around} {E : Value → Shared → Prop} {Q : Value → Shared → Prop} (D : KDict X.K X.w p es m) (I : Inv X pins σ H s) (ry : RelV (.str z) u) (hr : PySem.W.nsIn X.K p z = some r)
    (h : Q (r.getD d) { s with toks := s.toks + 1 }) : wpAny (model X.prog X.w) A (call (.builtin "dict.get") [.ref p, u, d]) Q E s := by
  obtain ⟨t, rfl⟩ := ry
  have hm := PySem.W.mapOf_K (prog := X.prog) (w := X.w) I.kIn D.at_ D.lit
  refine call_meetsIn PySem.F.slot_dict_get hm.typeIs PySem.F.entry_dict_get (PySem.F.args_dict_get_3 _ _ _) (meets_dict_get_default (strKind X.prog X.w) p (PySem.strKind_is X.prog X.w z t) D.low d) ⟨_, hm, ?_⟩
  rw [PySem.W.find_K D.at_ hr]
  exact h
theorem kd_no {X : Cx} {pins : List (Addr × Obj)} {σ : L2.St} {H : Hp} {s : Shared} {p : Addr} {es : Array DictEntry} {m : Nat} (D : KDict X.K X.w p es m) (I : Inv X pins σ H s) : ∀ b, Value.ref p = .ref b → ∃ ob, s.heap.get? b = some ob ∧ ob.dict = none := fun b e => by
  cases e
  exact ⟨_, I.kIn _ _ D.at_, rfl⟩
/-- a dict of the heap, or a written one -/
def IsDx (K : PySem.W.Frag) (w : World) (x : V) (H : Hp) : Prop := ∃ p, x = .ref p ∧ ((∃ kvs, H p = some (.dK kvs)) ∨ ∃ es n, KDict K w p es n)
theorem isDx_is {X : Cx} {pins : List (Addr × Obj)} {σ : L2.St} {H : Hp} {s : Shared} {x : V} {v : Value} (I : Inv X pins σ H s) (r : RelV x v) (ty : IsDx X.K X.w x H) :
    s.TypeIs v "dict" ∧ ∀ a, v = .ref a → ∃ ob, s.heap.get? a = some ob ∧ ob.dict = none := by
  obtain ⟨p, rfl, q⟩ := ty
  obtain rfl : v = Value.ref p := r
  rcases q with ⟨kvs, q⟩ | ⟨es, n, D⟩
  · obtain ⟨t1, t2, _⟩ := isD_at I (.inl ⟨kvs, .inl q⟩)
    exact ⟨t1, t2⟩
  · exact ⟨kd_type D I, kd_no D I⟩
def tDM (K : PySem.W.Frag) (w : World) (r : V → List V → Hp → VK → Prop) (to : TE) (t : TA) : TE := fun σ H Q => to σ H fun x H1 => IsDx K w x H1 ∧ t σ H1 fun xs H2 => r x xs H2 Q
theorem pe_dm {es : List Expr} {to : TE} {t : TA} {name : Str} {id : String} {r : V → List V → Hp → VK → Prop} (slot : PySem.Slot "dict" name id) (hty : typeOf (.builtin id) = pure (.type "method_descriptor")) (hm : MtR X id r) (ho : PE X o to) (ha : PA X (e :: es) t)
    (hbase : attributeBase o name X.env (eval o X.env) = eval o X.env)
    (hfew : FewArgs (e :: es) X.env cpos)
    (hline : (apos.endLine == cpos.line) = true) (hs : starEach (e :: es) X.env = (false, eval e X.env) :: starEach es X.env) (hplain : (backTo cpos (starEach es X.env)).any (·.1) = false) :
    PE X (.Call (.Attribute o name apos) (e :: es) [] cpos) (tDM X.K X.w r to t) := by
  refine ⟨fun pins s σ H Q I h => ?_⟩
  refine wpAny_Call_method_late hbase hfew hline rfl (thn (ho.run pins s σ H _ I h) fun v s1 ⟨x, H1, I1, rx, ty, q⟩ => ?_)
  obtain ⟨h1, h2⟩ := isDx_is I1 rx ty
  refine ⟨"dict", id, PySem.F.plainAttrs_dict, slot, hty, h1, h2, ?_⟩
  have args := ha.run cpos pins s1 σ H1 _ I1 q
  rw [hs] at args ⊢
  have plain : (false || (backTo cpos (starEach es X.env)).any fun d => d.1) = false := by rw [hplain]; rfl
  exact Calls.callWith_builtin plain (Calls.evalArgs_plain (thn args fun us s2 ⟨xs, H2, I2, rs, k⟩ => hm pins s2 σ H2 x xs v us Q I2 rx rs k))
def rGet (K : PySem.W.Frag) (w : World) (x : V) (xs : List V) (H : Hp) (Q : VK) : Prop := ∃ p, x = .ref p ∧
  ((∃ y o, xs = [y] ∧ DGet H p y o ∧ Q (o.getD .non) H) ∨ (∃ y z o, xs = [y, z] ∧ DGet H p y o ∧ Q (o.getD z) H) ∨
   (∃ es n y r v, KDict K w p es n ∧ xs = [.str y] ∧ PySem.W.nsIn K p y = some r ∧ RelV v (r.getD .none) ∧ Q v H) ∨
   ∃ es n y z r v, KDict K w p es n ∧ xs = [.str y, z] ∧ PySem.W.nsIn K p y = some r ∧ (∀ u, RelV z u → RelV v (r.getD u)) ∧ Q v H)
theorem mt_get (hu : X.A.units + 64 < cLine) : MtR X "dict.get" (rGet X.K X.w) := by
  intro pins s σ H x xs v us Q I rx rs h
  obtain ⟨p, rfl, h⟩ := h
  obtain rfl : v = Value.ref p := rx
  rcases h with ⟨y, o, rfl, dg, q⟩ | ⟨y, z, o, rfl, dg, q⟩ | ⟨es, n, y, r, v, D, rfl, hr, rv, q⟩ | ⟨es, n, y, z, r, v, D, rfl, hr, rv, q⟩
  · cases rs with
    | cons ry rs =>
      cases rs
      exact d_get1 (by omega) I dg ry fun w' s' I' rw' => ⟨_, H, I', rw', q⟩
  · cases rs with
    | cons ry rs =>
      cases rs with
      | cons rz rs =>
        cases rs
        exact d_get2 (by omega) I dg ry rz fun w' s' I' rw' => ⟨_, H, I', rw', q⟩
  · cases rs with
    | cons ry rs =>
      cases rs
      exact kd_get D I ry hr ⟨v, H, I.tok _, rv, q⟩
  · cases rs with
    | cons ry rs =>
      cases rs with
      | cons rz rs =>
        cases rs
        exact kd_get2 D I ry hr ⟨v, H, I.tok _, rv _ rz, q⟩
/-- a method of dicts by values -/
def VMeth (g : Gx) (w0 : World) (r : V → List V → Hp → VK → Prop) (f : PV → List PV → Option PV) : Prop := ∀ (F : Hp) (μ : List Addr) (H : Hp) (st : Sto) (x : V) (px : PV) (vs : List V) (xs : List PV) (z : PV) (Q : VK), Wok g.K g.fa F μ H st → Rep g.K g.fa F μ x px → Reps g.K g.fa F μ vs xs → f px xs = some z →
  (∀ F' H', Ext F μ H F' μ H' → Wok g.K g.fa F' μ H' st → ∀ v, Rep g.K g.fa F' μ v z → Q v H') → r x vs H Q
def isDp : PV → Bool
  | .dct _ _ => true
  | .kct _ _ => true
  | _ => false
def fGetM : PV → List PV → Option PV
  | .dct ks vs, [k] => if keyOk k = true then some ((dLook k ks vs).getD .non) else none
  | .kct ks vs, [.str z] => some ((dLook (.str z) ks vs).getD .non)
  | .dct ks vs, [k, x] => if keyOk k = true then some ((dLook k ks vs).getD x) else none
  | .kct ks vs, [.str z, x] => some ((dLook (.str z) ks vs).getD x)
  | _, _ => none
theorem vm_get (kd : KdOk g.K X.w g.fa) : VMeth g X.w (rGet g.K X.w) fGetM := by
  intro F μ H st x px vs xs z Q w rx rs hz k
  cases rx <;> first | (simp only [fGetM] at hz; cases hz; done) | skip
  · rename_i a kvs ks ws h hl rk rv
    match xs, rs, hz with
    | [], _, hz => simp only [fGetM] at hz; cases hz
    | _ :: _ :: _ :: _, _, hz => simp only [fGetM] at hz; cases hz
    | [y], .cons ry .nil, hz =>
      simp only [fGetM] at hz
      split at hz
      · rename_i hk
        cases hz
        obtain ⟨key, rfl, rfl⟩ := rep_key ry hk
        refine ⟨_, rfl, .inl ⟨_, valV kvs key, rfl, DGet.k (w.sub _ _ h), ?_⟩⟩
        have q := look_rep (k := key) rk rv
        cases e : dLook (kP key) ks ws with
        | none => rw [e] at q k; simp only at q; rw [q]; exact k F H (Ext.refl ..) w _ .non
        | some y => rw [e] at q k; obtain ⟨v, q1, q2⟩ := q; rw [q1]; exact k F H (Ext.refl ..) w _ q2
      · cases hz
    | [y, u], .cons ry (.cons ru .nil), hz =>
      simp only [fGetM] at hz
      split at hz
      · rename_i hk
        cases hz
        obtain ⟨key, rfl, rfl⟩ := rep_key ry hk
        refine ⟨_, rfl, .inr (.inl ⟨_, _, valV kvs key, rfl, DGet.k (w.sub _ _ h), ?_⟩)⟩
        have q := look_rep (k := key) rk rv
        cases e : dLook (kP key) ks ws with
        | none => rw [e] at q k; simp only at q; rw [q]; exact k F H (Ext.refl ..) w _ ru
        | some y => rw [e] at q k; obtain ⟨v, q1, q2⟩ := q; rw [q1]; exact k F H (Ext.refl ..) w _ q2
      · cases hz
  · rename_i a ks ws h
    obtain ⟨es, n, D, q⟩ := kd _ _ _ h
    match xs, rs, hz with
    | [], _, hz => simp only [fGetM] at hz; cases hz
    | _ :: _ :: _ :: _, _, hz => simp only [fGetM] at hz; cases hz
    | [y], .cons ry .nil, hz =>
      cases ry <;> simp only [fGetM] at hz <;> try (cases hz; done)
      cases hz
      rename_i zs _ _
      have q := q zs
      cases e : dLook (.str zs) ks ws with
      | none => rw [e] at q k; exact ⟨_, rfl, .inr (.inr (.inl ⟨es, n, zs, none, .non, D, rfl, q, rfl, k F H (Ext.refl ..) w _ .non⟩))⟩
      | some y => rw [e] at q k; obtain ⟨u, v, q1, q2, q3⟩ := q; exact ⟨_, rfl, .inr (.inr (.inl ⟨es, n, zs, some u, v, D, rfl, q1, q2, k F H (Ext.refl ..) w _ (q3 F μ)⟩))⟩
    | [y, u], .cons ry (.cons ru .nil), hz =>
      cases ry <;> simp only [fGetM] at hz <;> try (cases hz; done)
      cases hz
      rename_i zs _ _
      have q := q zs
      cases e : dLook (.str zs) ks ws with
      | none => rw [e] at q k; exact ⟨_, rfl, .inr (.inr (.inr ⟨es, n, zs, _, none, _, D, rfl, q, fun u r => r, k F H (Ext.refl ..) w _ ru⟩))⟩
      | some y => rw [e] at q k; obtain ⟨u, v, q1, q2, q3⟩ := q; exact ⟨_, rfl, .inr (.inr (.inr ⟨es, n, zs, _, some u, v, D, rfl, q1, fun _ _ => q2, k F H (Ext.refl ..) w _ (q3 F μ)⟩))⟩
def mDm (f : PV → List PV → Option PV) (m : EM) (n : AM) : EM := fun ρ st => (m ρ st).bind fun x st1 => if isDp x = true then (n ρ st1).bind fun xs st2 => Res.opt (f x xs) st2 else .bad
theorem isDp_dx {F : Hp} {μ : List Addr} {H : Hp} {st : Sto} {w0 : World} (kd : KdOk g.K w0 g.fa) (w : Wok g.K g.fa F μ H st) {x : V} {px : PV} (r : Rep g.K g.fa F μ x px) (h : isDp px = true) : IsDx g.K w0 x H := by
  cases r <;> first | (simp [isDp] at h; done) | skip
  · rename_i q _ _ _
    exact ⟨_, rfl, .inl ⟨_, w.sub _ _ q⟩⟩
  · rename_i q
    obtain ⟨es, m, D, _⟩ := kd _ _ _ q
    exact ⟨_, rfl, .inr ⟨es, m, D⟩⟩
theorem tDM_of {w0 : World} {r : V → List V → Hp → VK → Prop} {f : PV → List PV → Option PV} (kd : KdOk g.K w0 g.fa) (hf : VMeth g w0 r f) {σ : L2.St} {H : Hp} {Q : VK} (h : tE g W (mDm f ma n) σ H Q) : tDM g.K w0 r (tE g W ma) (tA g W n) σ H Q := by
  obtain ⟨F, μ, st, ρ, w, en, h⟩ := h
  refine ⟨F, μ, st, ρ, w, en, (Post.bind h).imp fun x st1 F1 μ1 H1 e1 w1 h1 v rv => ?_⟩
  split at h1
  · rename_i hd
    refine ⟨isDp_dx kd w1 rv hd, F1, μ1, st1, ρ, w1, en.mono e1, (Post.bind h1).imp fun xs st2 F2 μ2 H2 e2 w2 h2 vs rvs => ?_⟩
    obtain ⟨z, hz, h3⟩ := Post.opt h2
    exact hf F2 μ2 H2 st2 v x vs xs z Q w2 (rv.ext e2) rvs hz fun F' H' e' w' u ru => h3 F' μ2 H' e' w' u ru
  · exact h1.elim
theorem se_get {es : List Expr} (hK : g.K = X.K) (kd : KdOk g.K X.w g.fa) (hu : X.A.units + 64 < cLine) (ho : PE X o (tE g W ma)) (ha : PA X (e :: es) (tA g W n)) (hb : isCall0 o = false) (hs : (e :: es).any isStar = false)
    (hfew : FewArgs (e :: es) X.env cpos) (hl : (apos.endLine == cpos.line) = true) :
    PE X (.Call (.Attribute o "get" apos) (e :: es) [] cpos) (tE g W (mDm fGetM ma n)) := by
  rw [List.any_cons, Bool.or_eq_false_iff] at hs
  have hv := fun σ H Q => tDM_of (W := W) (ma := ma) (n := n) (σ := σ) (H := H) (Q := Q) kd (vm_get (X := X) kd)
  rw [hK] at hv
  exact PE.mono (pe_dm PySem.F.slot_dict_get PySem.F.type_dict_get (mt_get hu) ho ha (base_of hb) hfew hl (starEach_cons hs.1) (backTo_any hs.2)) fun σ H Q h => hv σ H Q h
end
/-! ### new dicts -/
abbrev DM := PEnv → Sto → Res (List PV × List PV)
def tD (g : Gx) (W : WX) (m : DM) : TE := fun σ H Q => ∃ F μ st ρ, Wok g.K g.fa F μ H st ∧ Env g F μ H σ ρ ∧ Post g F μ H W σ (m ρ st) fun d _ F' μ' H' =>
  ∀ (a : Addr) (kvs : List (Key × V)), H a = none → F' a = none → a ∉ μ' → H' a = some (.dK kvs) → kvs.length ≤ sizeLine → Reps g.K g.fa F' μ' (kvs.map fun p => kV p.1) d.1 → Reps g.K g.fa F' μ' (kvs.map fun p => p.2) d.2 → Q (.ref a) H'
def mFzD (n : DM) : EM := fun ρ st => (n ρ st).bind fun d st1 => .ok (.dct d.1 d.2) st1
section
variable {X : Cx} {g : Gx} {W : WX} {a b e f o : Expr} {pos apos cpos p : Pos} {ma mb mc : EM} {n : AM} {m : DM}
theorem se_fzD (h : PE X e (tD g W m)) : PE X e (tE g W (mFzD m)) := PE.mono h fun σ H Q h => by
  obtain ⟨F, μ, st, ρ, w, en, h⟩ := h
  refine ⟨F, μ, st, ρ, w, en, ?_⟩
  unfold mFzD at h
  cases q : m ρ st with
  | bad => rw [q] at h; exact h.elim
  | exn c fs s1 => rw [q] at h; exact h
  | ok d st1 =>
    rw [q] at h
    intro F1 μ1 H1 e1 w1 a kvs h0 hF hm hH hl rk rv
    obtain ⟨e2, w2, q2, s2⟩ := Wok.freeze e1 w1 h0 hF hm hH
    exact h _ _ _ e2 w2 _ (.dct q2 hl (Reps.mono s2 ⟨[], by simp⟩ _ _ rk) (Reps.mono s2 ⟨[], by simp⟩ _ _ rv))
/-! ### dict(d) -/
def dCopy (n : AM) : DM := fun ρ st => (n ρ st).bind fun xs st1 => match xs with
  | [.dct ks vs] => .ok (ks, vs) st1
  | _ => .bad
theorem se_dcopy {x : Str} (hg : Gl X x) (hm : X.mg x = none) (hv : bootBuiltins x = some (.type "dict")) (ha : PA X [e] (tA g W n)) (hn : x ≠ "__name__") (hdb : (x == ("__debug__" : Str)) = false) (hs : isStar e = false) :
    PE X (.Call (.Name x p) [e] [] pos) (tD g W (dCopy n)) := by
  refine PE.mono (pe_callTy call_dictD hg hm hv ha hn hdb (starEach_cons hs) rfl) fun σ H Q h => ?_
  obtain ⟨F, μ, st, ρ, w, en, h⟩ := h
  refine ⟨F, μ, st, ρ, w, en, (Post.bind h).imp fun xs st1 F1 μ1 H1 e1 w1 h1 vs rvs => ?_⟩
  match xs, rvs with
  | [], _ => exact h1.elim
  | _ :: _ :: _, _ => simp at h1; exact h1.elim
  | [x], .cons rx .nil =>
    cases rx <;> first | (exact h1.elim) | skip
    rename_i a kvs ks vs hq hl rk rv
    refine ⟨a, kvs, rfl, .inl (w1.sub _ _ hq), fun q hp => ?_⟩
    obtain ⟨e2, w2, q1, q2⟩ := w1.own hp (.dK kvs)
    exact h1 _ _ _ e2 w2 q kvs (e1.keep hp) q1 q2 upd_same hl rk rv
end
end BK

/-! BkX4: dict displays -/
namespace BK
open PySem PySem.Spec PyProof.Rows L2 RZ

section
variable {F : Hp} {μ : List Addr}
theorem Wok.put {fa : Fx} {K : PySem.W.Frag} {H : Hp} {st : Sto} (w : Wok K fa F μ H st) {p : Addr} (o : HO) (hF : F p = none) (hm : p ∉ μ) : Wok K fa F μ (upd H p o) st :=
  ⟨fun b u h => by rw [upd_ne (ne_of_none h hF)]; exact w.sub b u h, w.len, w.nd, w.off, fun n a hn => by
    obtain ⟨xs, vs, h1, h2, h3⟩ := w.obj n a hn
    have ha : a ≠ p := fun z => hm (by rw [← z]; exact List.mem_iff_getElem?.mpr ⟨n, hn⟩)
    exact ⟨xs, vs, h1, by rw [upd_ne ha]; exact h2, h3⟩⟩
theorem Ext.put {F0 : Hp} {μ0 : List Addr} {H0 H : Hp} (e : Ext F0 μ0 H0 F μ H) {p : Addr} (o : HO) (h0 : H0 p = none) : Ext F0 μ0 H0 F μ (upd H p o) :=
  ⟨e.fs, e.ms, fun a u h m => by rw [upd_ne (ne_of_none h h0)]; exact e.hs a u h m, fun a m h => by
    by_cases z : a = p
    · rw [z, upd_same]; simp
    · rw [upd_ne z]; exact e.hm a m h, e.fn, e.mn⟩
end

def dHas (k : PV) (ks : List PV) : Bool := ks.any fun k' => keyEq k' k
def dSet (k v : PV) : List PV → List PV → List PV
  | k' :: ks, v' :: vs => (if keyEq k' k = true then v else v') :: dSet k v ks vs
  | _, vs => vs
/-- d[k] = v: the keys, the values -/
def dPutK (k : PV) (ks : List PV) : List PV := if dHas k ks = true then ks else ks ++ [k]
def dPutV (k v : PV) (ks vs : List PV) : List PV := if dHas k ks = true then dSet k v ks vs else vs ++ [v]
def dMergeK : List PV → List PV → List PV
  | ks, [] => ks
  | ks, k :: r => dMergeK (dPutK k ks) r
def dMergeV : List PV → List PV → List PV → List PV → List PV
  | ks, vs, k :: r, v :: q => dMergeV (dPutK k ks) (dPutV k v ks vs) r q
  | _, vs, _, _ => vs
def mPairs : List (EM × EM) → PEnv → Sto → Res (List PV × List PV)
  | [], _, st => .ok ([], []) st
  | (a, b) :: r, ρ, st => (a ρ st).bind fun x st1 => (b ρ st1).bind fun y st2 => (mPairs r ρ st2).bind fun d st3 => .ok (x :: d.1, y :: d.2) st3
def dDisp (ps : List (EM × EM)) : DM := fun ρ st => (mPairs ps ρ st).bind fun d st1 => if d.1.all keyOk = true then .ok (dMergeK [] d.1, dMergeV [] [] d.1 d.2) st1 else .bad
section
variable {g : Gx} {F : Hp} {μ : List Addr}
theorem kV_ok {k : Key} {x : PV} (r : Rep g.K g.fa F μ (kV k) x) : x = kP k := by
  cases k <;> cases r <;> rfl
theorem dHas_kP (k : Key) (kvs : List (Key × V)) : dHas (kP k) (kvs.map fun p => kP p.1) = kvs.any fun p => decide (p.1 = k) := by
  unfold dHas
  rw [List.any_map]
  congr 1
  funext p
  exact keyEq_kP k p.1
theorem set_rep {k : Key} {v : V} {y : PV} (ry : Rep g.K g.fa F μ v y) : ∀ {kvs : List (Key × V)} {vs : List PV}, Reps g.K g.fa F μ (kvs.map fun p => p.2) vs →
    Reps g.K g.fa F μ ((kvs.map fun kv => if kv.1 = k then (kv.1, v) else kv).map fun p => p.2) (dSet (kP k) y (kvs.map fun p => kP p.1) vs)
  | [], _, h => by cases h; exact .nil
  | p :: kvs, _, h => by
    cases h with
    | cons h t =>
      simp only [List.map_cons, dSet, keyEq_kP]
      by_cases q : p.1 = k
      · rw [if_pos q, if_pos (by simpa using q)]
        exact .cons ry (set_rep ry t)
      · rw [if_neg q, if_neg (by simpa using q)]
        exact .cons h (set_rep ry t)
/-- the representation of a dict's content -/
structure DRep (g : Gx) (F : Hp) (μ : List Addr) (kvs : List (Key × V)) (ks vs : List PV) : Prop where
  k : Reps g.K g.fa F μ (kvs.map fun p => kV p.1) ks
  v : Reps g.K g.fa F μ (kvs.map fun p => p.2) vs
theorem DRep.keys {kvs : List (Key × V)} {ks vs : List PV} (d : DRep g F μ kvs ks vs) : ks = kvs.map fun p => kP p.1 := by
  have h := d.k
  rw [show (kvs.map fun p => kV p.1) = (kvs.map (·.1)).map kV by simp] at h
  rw [reps_keys h]
  simp
theorem DRep.put {kvs : List (Key × V)} {ks vs : List PV} (d : DRep g F μ kvs ks vs) {k : Key} {v : V} {y : PV} (rk : Rep g.K g.fa F μ (kV k) (kP k)) (ry : Rep g.K g.fa F μ v y) : DRep g F μ (putK kvs k v) (dPutK (kP k) ks) (dPutV (kP k) y ks vs) := by
  have e := d.keys
  unfold putK dPutK dPutV
  rw [e, dHas_kP]
  by_cases q : (kvs.any fun p => decide (p.1 = k)) = true
  · rw [if_pos q, if_pos q, if_pos q]
    refine ⟨?_, ?_⟩
    · have h := d.k
      rw [e] at h
      rw [List.map_map]
      have : ((fun p : Key × V => kV p.1) ∘ fun kv : Key × V => if kv.1 = k then (kv.1, v) else kv) = fun p => kV p.1 := by
        funext p
        simp only [Function.comp]
        split <;> rfl
      rw [this]
      exact h
    · exact set_rep ry d.v
  · rw [if_neg q, if_neg q, if_neg q]
    refine ⟨?_, ?_⟩
    · have h := d.k
      rw [e] at h
      rw [List.map_append]
      exact h.append (.cons rk .nil)
    · rw [List.map_append]
      exact d.v.append (.cons ry .nil)
theorem DRep.merge : ∀ {more : List (Key × V)} {kvs : List (Key × V)} {ks vs ks' vs' : List PV}, DRep g F μ more ks' vs' → DRep g F μ kvs ks vs → DRep g F μ (mergeK kvs more) (dMergeK ks ks') (dMergeV ks vs ks' vs')
  | [], kvs, ks, vs, _, _, h, d => by
    obtain ⟨hk, hv⟩ := h
    cases hk
    cases hv
    exact d
  | p :: more, kvs, ks, vs, _, _, h, d => by
    obtain ⟨hk, hv⟩ := h
    cases hk with
    | cons hk tk =>
      cases hv with
      | cons hv tv =>
        have e := kV_ok hk
        subst e
        have z := DRep.merge (more := more) ⟨tk, tv⟩ (d.put hk hv)
        exact z
theorem DRep.ext {H F1 H1 : Hp} {μ1 : List Addr} {kvs : List (Key × V)} {ks vs : List PV} (e : Ext F μ H F1 μ1 H1) (d : DRep g F μ kvs ks vs) : DRep g F1 μ1 kvs ks vs := ⟨d.k.ext e, d.v.ext e⟩
theorem DRep.mono {F1 : Hp} {μ1 : List Addr} (e : Same F F1) (m : ∃ t, μ1 = μ ++ t) {kvs : List (Key × V)} {ks vs : List PV} (d : DRep g F μ kvs ks vs) : DRep g F1 μ1 kvs ks vs := ⟨Reps.mono e m _ _ d.k, Reps.mono e m _ _ d.v⟩
theorem keys_of : ∀ {us : List V} {ks : List PV} {ws : List V} {vs : List PV}, Reps g.K g.fa F μ us ks → Reps g.K g.fa F μ ws vs → us.length = ws.length → ks.all keyOk = true → ∃ kvs : List (Key × V), us.zip ws = kvs.map (fun kv => (kV kv.1, kv.2)) ∧ DRep g F μ kvs ks vs ∧ kvs.length = us.length
  | _, _, _, _, .nil, .nil, _, _ => ⟨[], rfl, ⟨.nil, .nil⟩, rfl⟩
  | _, _, _, _, .nil, .cons _ _, h, _ => by simp at h
  | _, _, _, _, .cons _ _, .nil, h, _ => by simp at h
  | _, _, _, _, .cons h t, .cons h' t', hl, hk => by
    simp only [List.all_cons, Bool.and_eq_true] at hk
    obtain ⟨k, rfl, rfl⟩ := rep_key h hk.1
    obtain ⟨kvs, e1, e2, e3⟩ := keys_of t t' (by simpa using hl) hk.2
    exact ⟨(k, _) :: kvs, by rw [List.zip_cons_cons, List.map_cons, e1], ⟨.cons h e2.k, .cons h' e2.v⟩, by simp [e3]⟩
end
section
variable {X : Cx} {g : Gx} {W : WX} {e : Expr} {pos : Pos}
theorem Post.base {F F1 : Hp} {μ μ1 : List Addr} {H H1 : Hp} {σ : L2.St} {α β : Type} {r : Res α} {f : α → Sto → Res β} {k : β → Sto → Hp → List Addr → Hp → Prop} (h : Post g F μ H W σ (r.bind f) k) (e : Ext F μ H F1 μ1 H1) :
    Post g F1 μ1 H1 W σ r fun a st F2 μ2 H2 => Post g F μ H W σ (f a st) k := by
  cases r with
  | ok a st => exact fun F' μ' H' _ _ => h
  | exn c fs st => exact fun F' μ' H' cls d e' w x => h F' μ' H' cls d (e.trans e') w x
  | bad => exact h
theorem pairs_of {ρ : PEnv} {σ : L2.St} {F0 : Hp} {μ0 : List Addr} {H0 : Hp} {k : (List PV × List PV) → Sto → Hp → List Addr → Hp → Prop} : ∀ (ps : List (EM × EM)) {β : Type} {f : (List PV × List PV) → Sto → Res β} {k : β → Sto → Hp → List Addr → Hp → Prop} {F : Hp} {μ : List Addr} {H : Hp} {st : Sto} {Q : List (V × V) → Hp → Prop}, Ext F0 μ0 H0 F μ H → Wok g.K g.fa F μ H st → Env g F μ H σ ρ →
    Post g F0 μ0 H0 W σ ((mPairs ps ρ st).bind f) k → (∀ d st3 F3 μ3 H3 us ws, Ext F μ H F3 μ3 H3 → Wok g.K g.fa F3 μ3 H3 st3 → us.length = ws.length → us.length = ps.length → Reps g.K g.fa F3 μ3 us d.1 → Reps g.K g.fa F3 μ3 ws d.2 → Post g F0 μ0 H0 W σ (f d st3) k → Q (us.zip ws) H3) →
    tPairs (ps.map fun p => (tE g W p.1, tE g W p.2)) σ H Q
  | [], β, f, k, F, μ, H, st, Q, e, w, en, h, fin => fin ([], []) st F μ H [] [] (Ext.refl ..) w rfl rfl .nil .nil h
  | (a, b) :: ps, β, f, k, F, μ, H, st, Q, e, w, en, h, fin => by
    have as1 : (mPairs ((a, b) :: ps) ρ st).bind f = (a ρ st).bind fun x st1 => (b ρ st1).bind fun y st2 => (mPairs ps ρ st2).bind fun d st3 => f (x :: d.1, y :: d.2) st3 := by
      show ((a ρ st).bind fun x st1 => (b ρ st1).bind fun y st2 => (mPairs ps ρ st2).bind fun d st3 => .ok (x :: d.1, y :: d.2) st3).bind f = _
      cases a ρ st with
      | ok x st1 =>
        simp only [Res.bind]
        cases b ρ st1 with
        | ok y st2 =>
          simp only
          cases mPairs ps ρ st2 <;> rfl
        | _ => rfl
      | _ => rfl
    rw [as1] at h
    refine ⟨F, μ, st, ρ, w, en, (Post.base h e).imp fun x st1 F1 μ1 H1 e1 w1 h1 v rv => ?_⟩
    refine ⟨F1, μ1, st1, ρ, w1, en.mono e1, (Post.base h1 (e.trans e1)).imp fun y st2 F2 μ2 H2 e2 w2 h2 u ru => ?_⟩
    refine pairs_of (k := fun _ _ _ _ _ => True) ps ((e.trans e1).trans e2) w2 ((en.mono e1).mono e2) h2 fun d st3 F3 μ3 H3 us ws e3 w3 hl hn ru2 rw2 h3 => ?_
    exact fin (x :: d.1, y :: d.2) st3 F3 μ3 H3 (v :: us) (u :: ws) ((e1.trans e2).trans e3) w3 (by simp [hl]) (by simp [hn]) (.cons (rv.ext (e2.trans e3)) ru2) (.cons (ru.ext e3) rw2) h3
theorem sd_disp {keys : List (Option Expr)} {values : List Expr} {ps : List (EM × EM)} (h : PPs X pos keys values (ps.map fun p => (tE g W p.1, tE g W p.2))) (hall : keys.all (·.isSome) = true) (hl : keys.length = values.length) (h0 : keys ≠ []) (h15 : ps.length ≤ 15) (hp : keys.length = ps.length) :
    PE X (.Dict keys values pos) (tD g W (dDisp ps)) := by
  refine PE.mono (pe_disp h hall hl h0 (by omega)) fun σ H Q h => ?_
  obtain ⟨F, μ, st, ρ, w, en, h⟩ := h
  intro p hp
  obtain ⟨e1, w1, f1, m1⟩ := w.own hp (.dK [])
  refine pairs_of (k := fun _ _ _ _ _ => True) ps e1 w1 (en.mono e1) h fun d st2 F2 μ2 H2 us ws e2 w2 hl2 hn ru rw2 h2 => ?_
  obtain ⟨f2, m2, hHp⟩ := e2.mine f1 m1 upd_same
  refine ⟨hHp, ?_⟩
  split at h2
  · rename_i hk
    obtain ⟨kvs, q1, q2, q3⟩ := keys_of ru rw2 hl2 hk
    refine ⟨kvs, q1, by omega, ?_⟩
    have d2 : DRep g F2 μ2 (mergeK [] kvs) (dMergeK [] d.1) (dMergeV [] [] d.1 d.2) := DRep.merge q2 ⟨.nil, .nil⟩
    have hlen : (mergeK [] kvs).length ≤ sizeLine := by
      have h1 := length_mergeK kvs []
      rw [List.length_nil] at h1
      rw [sizeLine_eq]; omega
    exact h2 F2 μ2 _ ((e1.trans e2).put (.dK (mergeK [] kvs)) hp) (w2.put (.dK (mergeK [] kvs)) f2 m2) p _ hp f2 m2 upd_same hlen d2.k d2.v
  · exact h2.elim
def dNil : DM := fun _ st => .ok ([], []) st
theorem sd_nil : PE X (.Dict [] [] pos) (tD g W dNil) := PE.mono pe_dnewK fun σ H Q h => by
  obtain ⟨F, μ, st, ρ, w, en, h⟩ := h
  intro p hp
  obtain ⟨e1, w1, f1, m1⟩ := w.own hp (.dK [])
  exact h F μ _ e1 w1 p [] hp f1 m1 upd_same (Nat.zero_le _) .nil .nil
end
end BK

/-! BkX5: readings of lists and dicts that nobody else has -/
namespace BK
open PySem PySem.Spec PyProof.Rows L2 RZ

def pvAt (ρ : PEnv) (i : Nat) : Option PV := match ρ[i]? with
  | some (.val x) => some x
  | some (.own b) => some b.pv
  | _ => none
/-- by a slot as the left operand, as the right one, as the only argument -/
def mOpL (f : Sto → PV → PV → Option PV) (i : Nat) (m : EM) : EM := fun ρ st => match pvAt ρ i with
  | some x => (m ρ st).bind fun y st1 => Res.opt (f st1 x y) st1
  | none => .bad
def mOpR (f : PV → PV → Option PV) (m : EM) (i : Nat) : EM := fun ρ st => match pvAt ρ i with
  | some y => (m ρ st).bind fun x st1 => Res.opt (f x y) st1
  | none => .bad
def mBi1 (f : Sto → List PV → Option PV) (i : Nat) : EM := fun ρ st => match pvAt ρ i with
  | some x => Res.opt (f st [x]) st
  | none => .bad
def aOf (f : PV → Option (List PV)) (i : Nat) : AM := fun ρ st => match pvAt ρ i with
  | some x => Res.opt (f x) st
  | none => .bad
/-- a value, or an object that nobody else has -/
def Src (g : Gx) (F : Hp) (μ : List Addr) (H : Hp) (v : V) (x : PV) : Prop := Rep g.K g.fa F μ v x ∨ ∃ (a : Addr) (o : HO) (b : Ob), v = .ref a ∧ x = b.pv ∧ F a = none ∧ a ∉ μ ∧ H a = some o ∧ ObRep g F μ o b
theorem pvAt_src {g : Gx} {F : Hp} {μ : List Addr} {H : Hp} {σ : L2.St} {ρ : PEnv} (en : Env g F μ H σ ρ) {i : Nat} {x : PV} (h : pvAt ρ i = some x) : ∃ v, σ[i]? = some (some v) ∧ Src g F μ H v x := by
  unfold pvAt at h
  split at h
  · rename_i y q
    cases h
    obtain ⟨v, h1, h2⟩ := en.val i _ q
    exact ⟨v, h1, .inl h2⟩
  · rename_i b q
    cases h
    obtain ⟨a, o, h1, h2, h3, h4, h5⟩ := en.own i _ q
    exact ⟨_, h1, .inr ⟨a, o, b, rfl, rfl, h2, h3, h4, h5⟩⟩
  · cases h
/-- what a list, a tuple or a dict holds, wherever it lies -/
theorem Src.lst {g : Gx} {F : Hp} {μ : List Addr} {H : Hp} (s : Same F H) {v : V} {xs : List PV} (h : Src g F μ H v (.lst xs)) : ∃ a vs, v = .ref a ∧ H a = some (.lst vs) ∧ vs.length ≤ sizeLine ∧ Reps g.K g.fa F μ vs xs := by
  rcases h with h | ⟨a, o, b, rfl, e, _, _, hH, r⟩
  · cases h with | lst h hl r => exact ⟨_, _, rfl, s _ _ h, hl, r⟩
  · cases b with
    | dct _ _ => cases e
    | lst ys =>
      cases e
      obtain ⟨vs, rfl, h1, h2⟩ := r.lst
      exact ⟨a, vs, rfl, hH, h1, h2⟩
theorem Src.dct {g : Gx} {F : Hp} {μ : List Addr} {H : Hp} (s : Same F H) {v : V} {ks ws : List PV} (h : Src g F μ H v (.dct ks ws)) : ∃ a kvs, v = .ref a ∧ H a = some (.dK kvs) ∧ kvs.length ≤ sizeLine ∧ DRep g F μ kvs ks ws := by
  rcases h with h | ⟨a, o, b, rfl, e, _, _, hH, r⟩
  · cases h with | dct h hl r1 r2 => exact ⟨_, _, rfl, s _ _ h, hl, ⟨r1, r2⟩⟩
  · cases b with
    | lst _ => cases e
    | dct ks ws =>
      cases e
      obtain ⟨kvs, rfl, h1, h2, h3⟩ := r.dct
      exact ⟨a, kvs, rfl, hH, h1, ⟨h2, h3⟩⟩
theorem Src.rep {g : Gx} {F : Hp} {μ : List Addr} {H : Hp} {v : V} {x : PV} (h : Src g F μ H v x) (h1 : ∀ xs, x ≠ .lst xs) (h2 : ∀ ks ws, x ≠ .dct ks ws) : Rep g.K g.fa F μ v x := by
  rcases h with h | ⟨a, o, b, rfl, e, _⟩
  · exact h
  · cases b with
    | lst xs => exact absurd e (h1 xs)
    | dct ks ws => exact absurd e (h2 ks ws)
section
variable {X : Cx} {g : Gx} {W : WX} {e : Expr} {m : EM} {i : Nat} {x : Str} {p pos apos cpos : Pos}
def SOpL (g : Gx) (r : R2) (f : Sto → PV → PV → Option PV) : Prop := ∀ (F : Hp) (μ : List Addr) (H : Hp) (st : Sto) (x y : V) (px py z : PV) (Q : VK), Wok g.K g.fa F μ H st → Src g F μ H x px → Rep g.K g.fa F μ y py → f st px py = some z →
  (∀ F' H', Ext F μ H F' μ H' → Wok g.K g.fa F' μ H' st → ∀ v, Rep g.K g.fa F' μ v z → Q v H') → r x y H Q
def SOpR (g : Gx) (r : R2) (f : PV → PV → Option PV) : Prop := ∀ (F : Hp) (μ : List Addr) (H : Hp) (st : Sto) (x y : V) (px py z : PV) (Q : VK), Wok g.K g.fa F μ H st → Rep g.K g.fa F μ x px → Src g F μ H y py → f px py = some z →
  (∀ F' H', Ext F μ H F' μ H' → Wok g.K g.fa F' μ H' st → ∀ v, Rep g.K g.fa F' μ v z → Q v H') → r x y H Q
def SCall (g : Gx) (r : List V → Hp → VK → Prop) (f : Sto → List PV → Option PV) : Prop := ∀ (F : Hp) (μ : List Addr) (H : Hp) (st : Sto) (x : V) (px z : PV) (Q : VK), Wok g.K g.fa F μ H st → Src g F μ H x px → f st [px] = some z →
  (∀ F' H', Ext F μ H F' μ H' → Wok g.K g.fa F' μ H' st → ∀ v, Rep g.K g.fa F' μ v z → Q v H') → r [x] H Q
theorem tOpL_of {r : R2} {f : Sto → PV → PV → Option PV} (hf : SOpL g r f) {σ : L2.St} {H : Hp} {Q : VK} (h : tE g W (mOpL f i m) σ H Q) : tOp r (tVar i) (tE g W m) σ H Q := by
  obtain ⟨F, μ, st, ρ, w, en, h⟩ := h
  unfold mOpL at h
  cases q : pvAt ρ i with
  | none => rw [q] at h; exact h.elim
  | some x =>
    rw [q] at h
    obtain ⟨v, h1, h2⟩ := pvAt_src en q
    refine ⟨v, h1, F, μ, st, ρ, w, en, (Post.bind h).imp fun y st1 F1 μ1 H1 e1 w1 k1 u ru => ?_⟩
    obtain ⟨z, hz, k2⟩ := Post.opt k1
    obtain ⟨v', h1', h2'⟩ := pvAt_src (en.mono e1) q
    rw [h1] at h1'
    cases h1'
    exact hf F1 μ1 H1 st1 _ u x y z Q w1 h2' ru hz fun F' H' e' w' v' r' => k2 F' μ1 H' e' w' v' r'
theorem tOpR_of {r : R2} {f : PV → PV → Option PV} (hf : SOpR g r f) {σ : L2.St} {H : Hp} {Q : VK} (h : tE g W (mOpR f m i) σ H Q) : tOp r (tE g W m) (tVar i) σ H Q := by
  obtain ⟨F, μ, st, ρ, w, en, h⟩ := h
  unfold mOpR at h
  cases q : pvAt ρ i with
  | none => rw [q] at h; exact h.elim
  | some x =>
    rw [q] at h
    refine ⟨F, μ, st, ρ, w, en, (Post.bind h).imp fun y st1 F1 μ1 H1 e1 w1 k1 u ru => ?_⟩
    obtain ⟨z, hz, k2⟩ := Post.opt k1
    obtain ⟨v', h1', h2'⟩ := pvAt_src (en.mono e1) q
    exact ⟨v', h1', hf F1 μ1 H1 st1 u _ y x z Q w1 ru h2' hz fun F' H' e' w' v' r' => k2 F' μ1 H' e' w' v' r'⟩
theorem tCB1_of {r : List V → Hp → VK → Prop} {f : Sto → List PV → Option PV} (hf : SCall g r f) {σ : L2.St} {H : Hp} {Q : VK} (h : tE g W (mBi1 f i) σ H Q) : tCB r (tCons (tVar i) tNil) σ H Q := by
  obtain ⟨F, μ, st, ρ, w, en, h⟩ := h
  unfold mBi1 at h
  cases q : pvAt ρ i with
  | none => rw [q] at h; exact h.elim
  | some x =>
    rw [q] at h
    obtain ⟨v, h1, h2⟩ := pvAt_src en q
    obtain ⟨z, hz, k2⟩ := Post.opt h
    exact ⟨v, h1, hf F μ H st v x z Q w h2 hz fun F' H' e' w' v' r' => k2 F' μ H' e' w' v' r'⟩
/-! ### x[k] -/
theorem so_ix (hK : g.K = X.K) (kd : KdOk g.K X.w g.fa) : SOpL g (fun x y H Q => rIx g.K x y H Q ∨ (∃ a v, x = .ref a ∧ DGet H a y (some v) ∧ Q v H) ∨ rKd g.K X.w x y H Q) opIx := by
  intro F μ H st x y px py z Q w rx ry hz k
  have viaRep : Rep g.K g.fa F μ x px → _ := fun r => vo_ixD (X := X) hK kd F μ H st x y px py z Q w r ry hz k
  cases px with
  | lst xs =>
    obtain ⟨a, vs, rfl, hH, hl, r⟩ := rx.lst w.sub
    cases ry <;> simp only [opIx, opIx0] at hz <;> try (cases hz; done)
    obtain ⟨v, h1, h2⟩ := r.atI hz
    exact .inl (.inl ⟨a, vs, _, v, rfl, rfl, SqL.of hH, h1, k F H (Ext.refl ..) w v h2⟩)
  | dct ks ws =>
    obtain ⟨a, kvs, rfl, hH, hl, r⟩ := rx.dct w.sub
    simp only [opIx] at hz
    split at hz
    · rename_i hk
      obtain ⟨key, rfl, rfl⟩ := rep_key ry hk
      have q := look_rep (k := key) r.k r.v
      rw [hz] at q
      obtain ⟨v, q1, q2⟩ := q
      refine .inr (.inl ⟨_, v, rfl, ?_, k F H (Ext.refl ..) w v q2⟩)
      rw [← q1]
      exact DGet.k hH
    · cases hz
  | _ => exact viaRep (rx.rep (fun _ h => by cases h) (fun _ _ h => by cases h))
theorem se_ixO {b : Expr} {mb : EM} (hN : X.N[i]? = some x) (hv : Vis X.env.scope x) (hd : (x == ("__debug__" : Str)) = false) (hcd : (x == ("__classdict__" : Str)) = false) (hb : PE X b (tE g W mb)) (hK : g.K = X.K) (kd : KdOk g.K X.w g.fa) (hu : X.A.units + 64 < cLine) (hs : PlainIx b) :
    PE X (.Subscript (.Name x p) b pos) (tE g W (mOpL opIx i mb)) := by
  have h := so_ix (X := X) hK kd
  rw [hK] at h
  exact PE.mono (pe_ix (ix_seq.or ((ix_dK (by omega)).or ix_kd)) (pe_var hN hv hd hcd) hb hs) fun σ H Q q => tOpL_of h q
/-! ### x in y -/
theorem so_in (neg : Bool) (kd : KdOk g.K X.w g.fa) : SOpR g (rIn3 g.K X.w neg) (if neg then opNotIn else opIn) := by
  intro F μ H st x y px py z Q w rx ry hz k
  have viaRep : Rep g.K g.fa F μ y py → rIn3 g.K X.w neg x y H Q := fun r => by
    cases neg
    · exact vo_in3 (X := X) kd F μ H st x y px py z Q w rx r hz k
    · exact vo_notIn3 (X := X) kd F μ H st x y px py z Q w rx r hz k
  cases py with
  | lst xs =>
    obtain ⟨a, vs, rfl, hH, hl, r⟩ := ry.lst w.sub
    have hz2 : (if inOk px xs = true then some (PV.bl (if neg then !xs.any fun y => y.eqv px else xs.any fun y => y.eqv px)) else none) = some z := by
      cases neg
      · simp only [Bool.false_eq_true, if_false, opIn] at hz ⊢
        cases px <;> exact hz
      · simp only [if_true, opNotIn] at hz ⊢
        cases px <;> exact hz
    split at hz2
    · rename_i c
      cases hz2
      obtain ⟨c1, c2, c3⟩ := inOk_inv c
      obtain ⟨d1, q1⟩ := Rep.dp w.sub px x c1 rx
      obtain ⟨d2, q2⟩ := Reps.dp w.sub xs vs c2 r
      refine .inl (.inl ⟨_, _, d1, .inl (.lst (SqL.of hH) d2), q1, q2, by rw [toD_depth, toDs_depth]; exact c3, ?_⟩)
      rw [toDs_any c1 c2]
      exact k F H (Ext.refl ..) w _ (.bl _)
    · cases hz2
  | dct ks ws =>
    obtain ⟨a, kvs, rfl, hH, hl, r⟩ := ry.dct w.sub
    have hz2 : inD neg px (.dct ks ws) = some z := by cases neg <;> exact hz
    simp only [inD] at hz2
    split at hz2
    · rename_i hk
      cases hz2
      obtain ⟨key, rfl, rfl⟩ := rep_key rx hk
      refine .inr (.inl ⟨_, valV kvs key, rfl, DGet.k hH, ?_⟩)
      have q := look_rep (k := key) r.k r.v
      have e : (valV kvs key).isSome = (dLook (kP key) ks ws).isSome := by
        split at q
        · rename_i e; obtain ⟨v, q1, _⟩ := q; rw [e, q1]; rfl
        · rename_i e; rw [e, q]; rfl
      rw [e]
      exact k F H (Ext.refl ..) w _ (.bl _)
    · cases hz2
  | _ => exact viaRep (ry.rep (fun _ h => by cases h) (fun _ _ h => by cases h))
theorem so_in3 (kd : KdOk g.K X.w g.fa) : SOpR g (rIn3 g.K X.w false) opIn := so_in false kd
theorem so_notIn3 (kd : KdOk g.K X.w g.fa) : SOpR g (rIn3 g.K X.w true) opNotIn := so_in true kd
/-! ### len(x), tuple(x) -/
def rLenX (K : PySem.W.Frag) : List V → Hp → VK → Prop := fun xs H Q => ((∃ p ys, xs = [.ref p] ∧ (SqL K H p ys ∨ SqT K H p ys) ∧ Q (.int ys.length) H) ∨ ∃ z, xs = [.str z] ∧ z.length ≤ sizeLine ∧ Q (.int z.length) H) ∨ ∃ d kvs, xs = [.ref d] ∧ H d = some (.dK kvs) ∧ Q (.int kvs.length) H
theorem cr_lenX : CallR X (.builtin "len") (rLenX X.K) := cr_len.or call_lenD
def fLenX (st : Sto) : List PV → Option PV
  | [.dct ks _] => some (.int ks.length)
  | xs => fLen st xs
theorem sc_len : SCall g (rLenX g.K) fLenX := by
  intro F μ H st x px z Q w rx hz k
  cases px with
  | lst xs =>
    obtain ⟨a, vs, rfl, hH, hl, r⟩ := rx.lst w.sub
    cases hz
    exact .inl (.inl ⟨a, vs, rfl, .inl (SqL.of hH), by rw [r.length]; exact k F H (Ext.refl ..) w _ (.int _)⟩)
  | dct ks ws =>
    obtain ⟨a, kvs, rfl, hH, hl, r⟩ := rx.dct w.sub
    cases hz
    have e : kvs.length = ks.length := by rw [r.keys]; simp
    exact .inr ⟨a, kvs, rfl, hH, by rw [e]; exact k F H (Ext.refl ..) w _ (.int _)⟩
  | _ => exact .inl (vc_len F μ H st [x] _ z Q w (.cons (rx.rep (fun _ h => by cases h) (fun _ _ h => by cases h)) .nil) hz k)
theorem vc_lenX : VCall g (rLenX g.K) fLenX := by
  intro F μ H st vs xs z Q w rs hz k
  match xs, rs with
  | [], _ => simp [fLenX, fLen] at hz
  | _ :: _ :: _, _ => simp [fLenX, fLen] at hz
  | [y], .cons ry .nil => exact sc_len F μ H st _ y z Q w (.inl ry) hz k
theorem sc_tuple : SCall g (fun xs H Q => ∃ p ys, xs = [.ref p] ∧ ((SqL g.K H p ys ∧ ∀ l, H l = none → Q (.ref l) (upd H l (.tup ys))) ∨ (SqT g.K H p ys ∧ Q (.ref p) H))) fTuple := by
  intro F μ H st x px z Q w rx hz k
  cases px with
  | lst xs =>
    obtain ⟨a, vs, rfl, hH, hl, r⟩ := rx.lst w.sub
    cases hz
    refine ⟨a, vs, rfl, .inl ⟨SqL.of hH, fun p hp => ?_⟩⟩
    obtain ⟨e, w2, q⟩ := w.alloc hp (.tup vs)
    exact k _ _ e w2 _ (.tup (.inl (.inl q)) hl (Reps.ext e r))
  | dct ks ws => cases hz
  | _ => exact vc_tuple F μ H st [x] _ z Q w (.cons (rx.rep (fun _ h => by cases h) (fun _ _ h => by cases h)) .nil) hz k
theorem se_call1B {f : Sto → List PV → Option PV} {r : List V → Hp → VK → Prop} {y : Str} {id : String} (hc : CallR X (.builtin id) r) (hf : SCall g r f) (hg : Gl X y) (hm : X.mg y = none) (hv : bootBuiltins y = some (.builtin id)) (hN : X.N[i]? = some x) (hvi : Vis X.env.scope x) (hd : (x == ("__debug__" : Str)) = false) (hcd : (x == ("__classdict__" : Str)) = false)
    (hn : y ≠ "__name__") (hdb : (y == ("__debug__" : Str)) = false) : PE X (.Call (.Name y p) [.Name x apos] [] pos) (tE g W (mBi1 f i)) :=
  PE.mono (pe_callB hc hg hm hv (pa_cons (pe_var hN hvi hd hcd) pa_nil rfl) hn hdb rfl rfl) fun _ _ _ h => tCB1_of hf h
theorem se_call1T {f : Sto → List PV → Option PV} {r : List V → Hp → VK → Prop} {y : Str} {T : String} (hc : CallR X (.type T) r) (hf : SCall g r f) (hg : Gl X y) (hm : X.mg y = none) (hv : bootBuiltins y = some (.type T)) (hN : X.N[i]? = some x) (hvi : Vis X.env.scope x) (hd : (x == ("__debug__" : Str)) = false) (hcd : (x == ("__classdict__" : Str)) = false)
    (hn : y ≠ "__name__") (hdb : (y == ("__debug__" : Str)) = false) : PE X (.Call (.Name y p) [.Name x apos] [] pos) (tE g W (mBi1 f i)) :=
  PE.mono (pe_callTy hc hg hm hv (pa_cons (pe_var hN hvi hd hcd) pa_nil rfl) hn hdb rfl rfl) fun _ _ _ h => tCB1_of hf h
end
end BK

/-! BkX6: calls of what an expression gives -/
namespace BK
open PySem PySem.Spec PyProof.Rows L2 RZ
/-- what a def does, found by its address -/
structure HeldE (X : Cx) (k : Nat) (f : Addr) (sp : Sp) : Prop where
  ex : ∃ (fd : FuncData) (ps : List Str), FnOk X.prog X.w X.K X.mg X.base (L2.CX X.prog X.w) k f fd ps sp ∧ PySem.W.keepIn X.K (.ref f) = true ∧ Binds X.K fd ps []
def tCallE (k : Nat) (X : Cx) (E : L2.St → XK) (tf : TE) (t : TA) : TE := fun σ H Q => tf σ H fun v H1 => ∃ f sp, v = .ref f ∧ HeldE X k f sp ∧ t σ H1 fun vs H2 => sp vs H2 Q (E σ)
section
variable {X : Cx} {k : Nat} {E : L2.St → XK} {fe e : Expr} {es : List Expr} {tf : TE} {t : TA} {pos : Pos}
theorem pe_callE (hr : Room k X.A) (hx : ∀ σ, PassesAt (L2.CX X.prog X.w) X σ (E σ)) (hf : PE X fe tf) (ha : PA X (e :: es) t)
    (ht : eval (.Call fe (e :: es) [] pos) X.env = (do callWith pos (← eval fe X.env) [] (backTo pos (starEach (e :: es) X.env)) (backToKw pos (keywordEach [] X.env))))
    (he : starEach (e :: es) X.env = (false, eval e X.env) :: starEach es X.env) (hpl : (backTo pos (starEach es X.env)).any (·.1) = false) : PE X (.Call fe (e :: es) [] pos) (tCallE k X E tf t) := by
  refine ⟨fun pins s σ H Q I h => ?_⟩
  refine Call_ (thn (hf.run pins s σ H _ I h) fun u s1 ⟨v, H1, I1, rv, f, sp, ev, hd, q⟩ => ?_) ht
  subst ev
  obtain rfl : u = Value.ref f := rv
  obtain ⟨fd, ps, F, hk, hb⟩ := hd.ex
  refine PySem.W.callWith_K (h₀ := X.base) I1.ok.mod.kin hk (thn (ha.run pos pins s1 σ H1 _ I1 q) fun us s2 ⟨vs, H2, I2, r, q2⟩ => ⟨I2.kIn, ?_⟩) he hpl
  refine run_fnSD F hr hb .nil (hx σ) I2 r ?_
  rw [List.append_nil]
  exact q2
end
/-- f(..), f what an expression gives: a def -/
def mCallV (m : EM) (n : AM) (call : Nat → List PV → Sto → Res PV) : EM := fun ρ st => (m ρ st).bind fun x st1 => match x with
  | .fn k => (n ρ st1).bind fun xs st2 => call k xs st2
  | _ => .bad
/-- what the defs do that are values -/
def FnsOk (g : Gx) (X : Cx) (call : Nat → List PV → Sto → Res PV) : Prop := ∃ n, Room n X.A ∧ ∀ k f, g.fa.fn k = some f → ∃ (fd : FuncData) (ps : List Str) (np : Nat), PySem.W.keepIn X.K (.ref f) = true ∧
  FnOk X.prog X.w X.K X.mg X.base (L2.CX X.prog X.w) n f fd ps (spM g (call k) false np) ∧ Binds X.K fd ps [] ∧ ∀ xs st, call k xs st ≠ .bad → xs.length = np
section
variable {X : Cx} {g : Gx} {W : WX} {fe e : Expr} {es : List Expr} {m : EM} {n : AM} {pos : Pos} {call : Nat → List PV → Sto → Res PV}
theorem se_callV (ok : FnsOk g X call) (tk : Takes X W) (hf : PE X fe (tE g W m)) (ha : PA X (e :: es) (tA g W n)) (hs : (e :: es).any isStar = false)
    (ht : eval (.Call fe (e :: es) [] pos) X.env = (do callWith pos (← eval fe X.env) [] (backTo pos (starEach (e :: es) X.env)) (backToKw pos (keywordEach [] X.env)))) :
    PE X (.Call fe (e :: es) [] pos) (tE g W (mCallV m n call)) := by
  obtain ⟨lv, hr, ok⟩ := ok
  have hs' := hs
  rw [List.any_cons, Bool.or_eq_false_iff] at hs'
  refine PE.mono (pe_callE (E := WE W) hr (fun σ => passAt tk σ) hf ha ht (starEach_cons hs'.1) (backTo_any hs'.2)) fun σ H Q h => ?_
  obtain ⟨F, μ, st, ρ, w, en, h⟩ := h
  refine ⟨F, μ, st, ρ, w, en, (Post.bind h).imp fun x st1 F1 μ1 H1 e1 w1 h1 v rv => ?_⟩
  obtain ⟨k, rfl⟩ : ∃ k, x = PV.fn k := by
    cases x <;> first | exact ⟨_, rfl⟩ | exact h1.elim
  obtain ⟨f, hk, rfl⟩ : ∃ f, g.fa.fn k = some f ∧ v = .ref f := by
    cases rv with
    | fn q => exact ⟨_, q, rfl⟩
  obtain ⟨fd, ps, np, k1, k2, k3, k4⟩ := ok k f hk
  refine ⟨f, _, rfl, ⟨fd, ps, k2, k1, k3⟩, F1, μ1, st1, ρ, w1, en.mono e1, (Post.bind h1).imp fun xs st2 F2 μ2 H2 e2 w2 h2 vs rvs => ?_⟩
  have hb : call k xs st2 ≠ .bad := fun z => by
    rw [z] at h2
    exact h2.elim
  refine ⟨by rw [rvs.length]; exact k4 _ _ hb, F2, μ2, st2, xs, w2, rvs, (post_E h2).imp fun y st3 F3 μ3 H3 e3 w3 h3 u ru => ?_⟩
  exact h3 u ru
end
end BK

/-! BkG: targets, comprehensions -/
namespace BK
open PySem PySem.Spec PyProof.Rows L2 RZ

/-! ### targets -/
/-- a target takes a value to the slots that it sets -/
abbrev GM := PV → Option (List (Nat × PV))
abbrev GsM := List PV → Option (List (Nat × PV))
def gNm (i : Nat) : GM := fun x => some [(i, x)]
def gTp (t : GsM) : GM := fun x => match x with
  | .tup xs => t xs
  | _ => none
def gsNil : GsM := fun xs => match xs with
  | [] => some []
  | _ => none
def gsCons (t : GM) (u : GsM) : GsM := fun xs => match xs with
  | x :: r => (t x).bind fun a => (u r).map (a ++ ·)
  | [] => none
def setP (ρ : PEnv) : List (Nat × PV) → PEnv
  | [] => ρ
  | (i, x) :: r => setP (ρ.set i (.val x)) r
theorem setP_append : ∀ (a b : List (Nat × PV)) (ρ : PEnv), setP ρ (a ++ b) = setP (setP ρ a) b
  | [], _, _ => rfl
  | (i, x) :: a, b, ρ => by simp only [List.cons_append, setP, setP_append a b]
/-- only the slots at vs may change -/
def Off (vs : List Nat) (σ σ' : L2.St) : Prop := σ'.length = σ.length ∧ ∀ j, j ∉ vs → σ'[j]? = σ[j]?
def tG (g : Gx) (vs : List Nat) (t : GM) : TG := fun v σ H Q => ∃ F μ st ρ x as, Wok g.K g.fa F μ H st ∧ Env g F μ H σ ρ ∧ Rep g.K g.fa F μ v x ∧ t x = some as ∧ ∀ σ', Off vs σ σ' → Env g F μ H σ' (setP ρ as) → Q σ' H
def tGs (g : Gx) (vs : List Nat) (t : GsM) : TGs := fun us σ H Q => ∃ F μ st ρ xs as, Wok g.K g.fa F μ H st ∧ Env g F μ H σ ρ ∧ Reps g.K g.fa F μ us xs ∧ t xs = some as ∧ ∀ σ', Off vs σ σ' → Env g F μ H σ' (setP ρ as) → Q σ' H
theorem Off.refl (vs : List Nat) (σ : L2.St) : Off vs σ σ := ⟨rfl, fun _ _ => rfl⟩
theorem Off.trans {vs : List Nat} {σ σ1 σ2 : L2.St} (a : Off vs σ σ1) (b : Off vs σ1 σ2) : Off vs σ σ2 := ⟨b.1.trans a.1, fun j h => (b.2 j h).trans (a.2 j h)⟩
theorem Off.mono {vs ws : List Nat} {σ σ1 : L2.St} (a : Off vs σ σ1) (h : ∀ j ∈ vs, j ∈ ws) : Off ws σ σ1 := ⟨a.1, fun j k => a.2 j fun z => k (h j z)⟩
section
variable {X : Cx} {g : Gx} {pos : Pos}
theorem set_at {α : Type} {l : List α} {i j : Nat} {x y : α} (h : (l.set i x)[j]? = some y) : (i = j ∧ i < l.length ∧ y = x) ∨ (i ≠ j ∧ l[j]? = some y) := by
  by_cases e : i = j
  · subst e
    by_cases hi : i < l.length
    · rw [List.getElem?_set_self hi] at h
      cases h
      exact .inl ⟨rfl, hi, rfl⟩
    · rw [List.getElem?_eq_none (by simpa using hi)] at h
      cases h
  · rw [List.getElem?_set_ne e] at h
    exact .inr ⟨e, h⟩
theorem env_set {F : Hp} {μ : List Addr} {H : Hp} {σ : L2.St} {ρ : PEnv} {i : Nat} {v : V} {x : PV} (en : Env g F μ H σ ρ) (r : Rep g.K g.fa F μ v x) : Env g F μ H (σ.set i (some v)) (ρ.set i (.val x)) := ⟨by simpa using en.len, fun j y h => by
  have hl := en.len
  rcases set_at h with ⟨rfl, hi, z⟩ | ⟨e, h⟩
  · cases z
    exact ⟨v, by rw [List.getElem?_set_self (by omega)], r⟩
  · rw [List.getElem?_set_ne e]
    exact en.val j y h, fun j b h => by
  rcases set_at h with ⟨rfl, hi, z⟩ | ⟨e, h⟩
  · cases z
  · rw [List.getElem?_set_ne e]
    exact en.own j b h⟩
theorem sg_name {i : Nat} {x : Str} (hN : X.N.Nodup) (hi : X.N[i]? = some x) (hx : Loc X.env.scope x) (hf : X.fn x = true ∨ X.env.scope.names.lookup x = some .local) : PG X (.Name x pos) (tG g [i] (gNm i)) := by
  refine ⟨fun pins s σ H v u Q I r h => ?_⟩
  refine (pg_name hN hi hx hf).run pins s σ H v u Q I r ?_
  obtain ⟨F, μ, st, ρ, x, as, w, en, rv, ht, q⟩ := h
  simp only [gNm, Option.some.injEq] at ht
  subst ht
  refine q _ ⟨by simp, fun j hj => ?_⟩ (env_set en rv)
  rw [List.getElem?_set_ne (fun z => hj (by simp [z]))]
theorem sgs_nil : PGs X [] (tGs g [] gsNil) := by
  refine ⟨fun pins s σ H vs us Q I r h => ?_⟩
  refine pgs_nil.run pins s σ H vs us Q I r ?_
  obtain ⟨F, μ, st, ρ, xs, as, w, en, rv, ht, q⟩ := h
  cases xs with
  | nil =>
    cases rv
    simp only [gsNil, Option.some.injEq] at ht
    subst ht
    exact ⟨rfl, q σ (Off.refl _ _) en⟩
  | cons x xs => simp [gsNil] at ht
theorem sgs_cons {e : Expr} {es : List Expr} {t : GM} {u : GsM} {vs ws : List Nat} (h1 : PG X e (tG g vs t)) (h2 : PGs X es (tGs g ws u)) (hs : isStar e = false) : PGs X (e :: es) (tGs g (vs ++ ws) (gsCons t u)) := by
  have hs' : (assignEach (e :: es) X.env).map (·.2) = assign e X.env :: (assignEach es X.env).map (·.2) := by
    cases e <;> first | rfl | (simp [isStar] at hs)
  refine ⟨fun pins s σ H vv us Q I r h => ?_⟩
  refine (pgs_cons h1 h2 hs').run pins s σ H vv us Q I r ?_
  obtain ⟨F, μ, st, ρ, xs, as, w, en, rv, ht, q⟩ := h
  cases xs with
  | nil => simp [gsCons] at ht
  | cons x xs =>
    cases rv with
    | cons rv rt =>
      simp only [gsCons, Option.bind_eq_some_iff, Option.map_eq_some_iff] at ht
      obtain ⟨a1, ht1, a2, ht2, rfl⟩ := ht
      refine ⟨_, _, rfl, F, μ, st, ρ, x, a1, w, en, rv, ht1, fun σ1 o1 en1 => ?_⟩
      rw [setP_append] at q
      exact ⟨F, μ, st, setP ρ a1, xs, a2, w, en1, rt, ht2, fun σ2 o2 en2 => q σ2 ((o1.mono fun j h => List.mem_append_left _ h).trans (o2.mono fun j h => List.mem_append_right _ h)) en2⟩
theorem assignEach_length : ∀ {es : List Expr} {env : PySem.Env}, (assignEach es env).length = es.length
  | [], _ => rfl
  | e :: es, env => by
    have := assignEach_length (es := es) (env := env)
    cases e <;> simp only [assignEach, List.length_cons, this]
theorem assignEach_star : ∀ {es : List Expr} {env : PySem.Env}, es.any isStar = false → (assignEach es env).findIdx? (·.1) = none
  | [], _, _ => rfl
  | e :: es, env, h => by
    rw [List.any_cons, Bool.or_eq_false_iff] at h
    have := assignEach_star (es := es) (env := env) h.2
    cases e <;> first | (simp only [assignEach, List.findIdx?_cons, Bool.false_eq_true, if_false, this, Option.map_none]; done) | (simp [isStar] at h)
theorem sg_tup {es : List Expr} {k : Nat} {t : GsM} {vs : List Nat} (hc : X.calm = true) (hK : g.K = X.K) (h : PGs X es (tGs g vs t)) (hs : es.any isStar = false) (hn : ∀ xs as, t xs = some as → xs.length = es.length) : PG X (.Tuple es k pos) (tG g vs (gTp t)) := by
  refine ⟨fun pins s σ H v u Q I r hw => ?_⟩
  refine (pg_tup (n := es.length) hc h assignEach_length (assignEach_star hs)).run pins s σ H v u Q I r ?_
  obtain ⟨F, μ, st, ρ, x, as, w, en, rv, ht, q⟩ := hw
  cases rv <;> try (simp [gTp] at ht; done)
  rename_i a us xs h1 l1 r1
  simp only [gTp] at ht
  exact ⟨a, us, rfl, by rw [← hK]; exact sqT_same w.sub h1, by rw [r1.length]; exact hn _ _ ht, F, μ, st, ρ, xs, as, w, en, r1, ht, q⟩
end

/-! ### comprehensions -/
def noX {α : Type} (r : Res α) : Res α := match r with
  | .ok a st => .ok a st
  | _ => .bad
def wipeP (ρ : PEnv) : List Nat → PEnv
  | [] => ρ
  | v :: vs => (wipeP ρ vs).set v .no
def bYes : BM := fun _ st => .ok true st
/-- a turn for each item -/
def compGo (t : GM) (c : BM) (m : EM) (ρ : PEnv) : List PV → Sto → Res (List PV)
  | [], st => .ok [] st
  | x :: xs, st => match (t x).map (setP ρ) with
    | none => .bad
    | some ρ1 => (c ρ1 st).bind fun b st1 => if b = true then (m ρ1 st1).bind fun y st2 => (compGo t c m ρ xs st2).bind fun ys st3 => .ok (y :: ys) st3 else compGo t c m ρ xs st1
def aLc (it : AM) (vs : List Nat) (t : GM) (c : BM) (m : EM) : AM := fun ρ st => (it ρ st).bind fun xs st1 => noX (compGo t c m (wipeP ρ vs) xs st1)
abbrev W0 : WX := fun _ _ _ _ => False
theorem wipeP_length (ρ : PEnv) : ∀ vs : List Nat, (wipeP ρ vs).length = ρ.length
  | [] => rfl
  | v :: vs => by unfold wipeP; rw [List.length_set, wipeP_length ρ vs]
theorem wipeP_some {ρ : PEnv} {i : Nat} {s : Slot} (hs : s ≠ .no) : ∀ {vs : List Nat}, (wipeP ρ vs)[i]? = some s → ρ[i]? = some s ∧ i ∉ vs
  | [], h => ⟨h, by simp⟩
  | v :: vs, h => by
    unfold wipeP at h
    rcases set_at h with ⟨rfl, hi, z⟩ | ⟨e, h⟩
    · exact absurd z hs
    · obtain ⟨h1, h2⟩ := wipeP_some hs h
      exact ⟨h1, by simp only [List.mem_cons, not_or]; exact ⟨fun q => e q.symm, h2⟩⟩
theorem wipe_in {σ : L2.St} {i : Nat} : ∀ {vs : List Nat}, i ∈ vs → i < σ.length → (wipe σ vs)[i]? = some none
  | v :: vs, h, hl => by
    unfold wipe
    by_cases e : v = i
    · subst e
      rw [List.getElem?_set_self (by rw [wipe_length]; exact hl)]
    · rw [List.getElem?_set_ne e]
      exact wipe_in (by rcases List.mem_cons.mp h with z | z; exact absurd z.symm e; exact z) hl
theorem wipe_eq {σ σ' : L2.St} {vs : List Nat} (o : Off vs σ σ') : wipe σ' vs = wipe σ vs := by
  refine List.ext_getElem? fun i => ?_
  by_cases hm : i ∈ vs
  · by_cases hl : i < σ.length
    · rw [wipe_in hm (by rw [o.1]; exact hl), wipe_in hm hl]
    · rw [List.getElem?_eq_none (by rw [wipe_length, o.1]; omega), List.getElem?_eq_none (by rw [wipe_length]; omega)]
  · rw [wipe_out hm, wipe_out hm]
    exact o.2 i hm
theorem wipe_off (σ : L2.St) (vs : List Nat) : Off vs σ (wipe σ vs) := ⟨wipe_length σ vs, fun j h => wipe_out h⟩
section
variable {g : Gx} {F : Hp} {μ : List Addr}
theorem env_wipe {H : Hp} {σ : L2.St} {ρ : PEnv} (en : Env g F μ H σ ρ) (vs : List Nat) : Env g F μ H (wipe σ vs) (wipeP ρ vs) := ⟨by rw [wipe_length, wipeP_length]; exact en.len, fun i x h => by
  obtain ⟨h1, h2⟩ := wipeP_some (by simp) h
  rw [wipe_out h2]
  exact en.val i x h1, fun i b h => by
  obtain ⟨h1, h2⟩ := wipeP_some (by simp) h
  rw [wipe_out h2]
  exact en.own i b h1⟩
end
theorem noX_ok {α : Type} {r : Res α} {a : α} {st : Sto} (h : noX r = .ok a st) : r = .ok a st := by
  cases r with
  | ok b s => exact h
  | exn c fs s => cases h
  | bad => cases h
theorem Res.bind_ok {α β : Type} {r : Res α} {k : α → Sto → Res β} {b : β} {st : Sto} (h : r.bind k = .ok b st) : ∃ a s, r = .ok a s ∧ k a s = .ok b st := by
  cases r with
  | ok a s => exact ⟨a, s, rfl, h⟩
  | exn c fs s => cases h
  | bad => cases h
section
variable {X : Cx} {g : Gx} {W : WX}
/-- the reading of a comprehension's loop -/
theorem tLc_of {it : AM} {vs : List Nat} {t : GM} {c : BM} {m : EM} {wi : TI} {tt : TT} {te : TE} {σ : L2.St} {H : Hp} {Q : VK}
    (hi : ∀ σ H R, tI g W it σ H R → wi σ H R) (ht : ∀ σ H Q, tT g W0 c σ H Q → tt σ H Q) (he : ∀ σ H Q, tE g W0 m σ H Q → te σ H Q)
    (h : tL g W (aLc it vs t c m) σ H Q) : tLc wi (tG g vs t) tt te vs σ H Q := by
  obtain ⟨F, μ, st, ρ, w, en, h⟩ := h
  refine hi _ _ _ ⟨F, μ, st, ρ, w, en, (Post.bind h).imp fun xs st1 F1 μ1 H1 e1 w1 h1 J hJ D hD => ?_⟩
  obtain ⟨hxl, hJ⟩ := hJ
  cases q : noX (compGo t c m (wipeP ρ vs) xs st1) with
  | bad => rw [q] at h1; exact h1.elim
  | exn cn fs s2 =>
    cases q2 : compGo t c m (wipeP ρ vs) xs st1 <;> rw [q2] at q <;> cases q
  | ok zs stE =>
  rw [q] at h1
  have q := noX_ok q
  refine ⟨fun i n H2 => n = xs.length - i ∧ ∃ F2 μ2 st2 acc pacc ys, Ext F1 μ1 H1 F2 μ2 H2 ∧ Wok g.K g.fa F2 μ2 H2 st2 ∧ F2 D = none ∧ D ∉ μ2 ∧ H2 D = some (.lst acc) ∧ (acc.length ≤ i ∧ i ≤ xs.length) ∧ Reps g.K g.fa F2 μ2 acc pacc ∧
    compGo t c m (wipeP ρ vs) (xs.drop i) st2 = .ok ys stE ∧ zs = pacc ++ ys, ?_, ?_⟩
  · obtain ⟨e2, w2, q1, q2⟩ := w1.own hD (.lst [])
    exact ⟨_, rfl, F1, μ1, st1, [], [], zs, e2, w2, q1, q2, upd_same, ⟨Nat.le_refl _, Nat.zero_le _⟩, .nil, q, rfl⟩
  rintro i n H2 ⟨rfl, F2, μ2, st2, acc, pacc, ys, e2, w2, d1, d2, d3, d4, r2, g2, z2⟩
  obtain ⟨hgo, hstop⟩ := hJ F2 μ2 H2 st2 e2.fs e2.ms w2 i
  have en2 : Env g F2 μ2 H2 σ ρ := (en.mono e1).mono e2
  by_cases hlt : i < xs.length
  · have hx : xs[i]? = some xs[i] := List.getElem?_eq_getElem hlt
    obtain ⟨go, yld⟩ := hgo _ hx
    rw [List.drop_eq_getElem_cons hlt] at g2
    unfold compGo at g2
    cases qt : t xs[i] with
    | none => rw [qt] at g2; cases g2
    | some as =>
    rw [qt] at g2
    rw [Option.map_some] at g2
    simp only at g2
    generalize hρ : setP (wipeP ρ vs) as = ρ1 at g2
    obtain ⟨b, s3, g3, g4⟩ := Res.bind_ok g2
    refine .inr ⟨go, fun H' => ∃ F2 μ2 st2 acc pacc ys, Ext F1 μ1 H1 F2 μ2 H' ∧ Wok g.K g.fa F2 μ2 H' st2 ∧ F2 D = none ∧ D ∉ μ2 ∧ H' D = some (.lst acc) ∧ (acc.length ≤ i + 1 ∧ i + 1 ≤ xs.length) ∧ Reps g.K g.fa F2 μ2 acc pacc ∧
      compGo t c m (wipeP ρ vs) (xs.drop (i + 1)) st2 = .ok ys stE ∧ zs = pacc ++ ys, fun H' h' => ⟨xs.length - (i + 1), by omega, rfl, h'⟩, fun v H3 y => ?_⟩
    obtain ⟨F3, e3, w3, rv⟩ := yld v H3 y
    obtain ⟨f1, f2, f3⟩ := e3.mine d1 d2 d3
    refine ⟨F3, μ2, st2, wipeP ρ vs, xs[i], as, w3, env_wipe (en2.mono e3) vs, rv, qt, fun σ3 o3 en3 => ⟨?_, ?_⟩⟩
    · exact wipe_eq ((wipe_off σ vs).trans o3)
    rw [hρ] at en3
    refine ht _ _ _ ⟨F3, μ2, st2, ρ1, w3, en3, ?_⟩
    rw [g3]
    intro F4 μ4 H4 e4 w4
    obtain ⟨k1, k2, k3⟩ := e4.mine f1 f2 f3
    cases b with
    | false =>
      rw [if_neg Bool.false_ne_true] at g4
      show if false = true then _ else _
      rw [if_neg Bool.false_ne_true]
      exact ⟨F4, μ4, s3, acc, pacc, ys, (e2.trans e3).trans e4, w4, k1, k2, k3, ⟨by omega, by omega⟩, Reps.ext e4 (Reps.ext e3 r2), g4, z2⟩
    | true =>
      rw [if_pos rfl] at g4
      obtain ⟨y, s5, g5, g6⟩ := Res.bind_ok g4
      obtain ⟨ys', s6, g7, g8⟩ := Res.bind_ok g6
      cases g8
      show if true = true then _ else _
      rw [if_pos rfl]
      refine he _ _ _ ⟨F4, μ4, s3, ρ1, w4, en3.mono e4, ?_⟩
      rw [g5]
      intro F5 μ5 H5 e5 w5 u ru
      obtain ⟨l1, l2, l3⟩ := e5.mine k1 k2 k3
      refine ⟨acc, l3, by omega, F5, μ5, s5, acc ++ [u], pacc ++ [y], ys', (((e2.trans e3).trans e4).trans e5).put _ hD, w5.put _ l1 l2, l1, l2, upd_same, ⟨by rw [List.length_append]; simp; omega, by omega⟩, ?_, g7, by rw [z2]; simp⟩
      exact (Reps.ext e5 (Reps.ext e4 (Reps.ext e3 r2))).append (.cons ru .nil)
  · have hn : xs[i]? = none := List.getElem?_eq_none (by omega)
    rw [List.drop_eq_nil_of_le (by omega)] at g2
    unfold compGo at g2
    cases g2
    rw [List.append_nil] at z2
    subst z2
    refine .inl ⟨hstop hn, ?_⟩
    exact h1 F2 μ2 H2 e2 w2 D acc (e1.keep hD) d1 d2 d3 (by omega) r2
theorem sl_lc {elt tg iter : Expr} {ifs : List Expr} {scope : Scope} {own : List (Str × Nat)} {pos : Pos} {it : AM} {t : GM} {c : BM} {m : EM} (hc : X.calm = true) (hN : X.N.Nodup) (hi : PI X tg iter (tI g W it)) (ok : BlkOk X.N X.env.scope scope own)
    (hg : ∀ (s : Shared) (H : Hp) (C : Addr) (cl : List (Str × Addr)) (fp : List Addr), PG (X.blk s H scope (compEnvC scope cl C X.env) fp) tg (tG g (own.map (·.2)) t))
    (ht : ∀ (s : Shared) (H : Hp) (C : Addr) (cl : List (Str × Addr)) (fp : List Addr), PTs (X.blk s H scope (compEnvC scope cl C X.env) fp) ifs (tT g W0 c))
    (he : ∀ (s : Shared) (H : Hp) (C : Addr) (cl : List (Str × Addr)) (fp : List Addr), PE (X.blk s H scope (compEnvC scope cl C X.env) fp) elt (tE g W0 m)) (hs : ∀ x, foldedSetIterable iter X.env x = pure x) :
    PE X (.ListComp elt [⟨tg, iter, ifs, 0⟩] scope pos) (tL g W (aLc it (own.map (·.2)) t c m)) :=
  PE.mono (pe_lc hc hN hi ok hg ht he hs) fun _ _ _ h => tLc_of (fun _ _ _ h => h) (fun _ _ _ h => h) (fun _ _ _ h => h) h
theorem sts_nil : PTs X [] (tT g W bYes) := ⟨fun pins s σ H Q I hw => pts_nil.run pins s σ H Q I (by
  obtain ⟨F, μ, st, ρ, w, en, h⟩ := hw
  exact h F μ H (Ext.refl ..) w)⟩
end
end BK

/-! BkQ: comprehensions of two and three clauses -/
namespace BK
open PySem PySem.Spec PyProof.Rows L2 RZ

def outG (t i : Expr) (ifs : List Expr) (i1 : Expr) (start : Value → Code) (loop : Code) (it : Value) (env : PySem.Env) : Sem Fin := do
  standAt i.pos
  match ← pyNext it with
  | none => pure (.done .next)
  | some v =>
    letOwnedTupleGo t it v
    assign t env v
    let mut ok := true
    for c in ifs do
      if ok then ok ← isTrue c env (eval c env)
    if ok then
      let x ← eval i1 env
      standAt i1.pos
      let x ← foldedSetIterable i1 env x
      let _ ← runOwn (start (← holding [x] (pyIter x))) env
    again loop
def inG (t i : Expr) (ifs : List Expr) (elt : Expr) (acc : Value) (loop : Code) (it : Value) (env : PySem.Env) : Sem Fin := do
  standAt i.pos
  match ← pyNext it with
  | none => pure (.done .next)
  | some v =>
    letOwnedTupleGo t it v
    assign t env v
    let mut ok := true
    for c in ifs do
      if ok then ok ← isTrue c env (eval c env)
    if ok then
      (do let _ ← call (.builtin "list.append") [acc, ← eval elt env])
    again loop
def startG (i : Expr) (loop : Value → Code) (it : Value) : Sem Fin := do
  if (← ask).params.followText "comprehension-iter-twice" then return ← again (loop it)
  rule "comprehension.iter-twice"
  standAt i.pos
  again (loop (← pyIter it))
section
variable (elt t0 i0 t1 i1 t2 i2 : Expr) (f0 f1 f2 : List Expr) (scope : Scope) (pos : Pos) (it acc : Value) (env : PySem.Env)
theorem turn2_0 : compTurn (.ListComp elt [⟨t0, i0, f0, 0⟩, ⟨t1, i1, f1, 0⟩] scope pos) 0 it acc env = outG t0 i0 f0 i1 (fun j => .compStart (.ListComp elt [⟨t0, i0, f0, 0⟩, ⟨t1, i1, f1, 0⟩] scope pos) 1 j acc env) (.compLoop (.ListComp elt [⟨t0, i0, f0, 0⟩, ⟨t1, i1, f1, 0⟩] scope pos) 0 it acc env) it env := by rfl
theorem turn2_1 : compTurn (.ListComp elt [⟨t0, i0, f0, 0⟩, ⟨t1, i1, f1, 0⟩] scope pos) 1 it acc env = inG t1 i1 f1 elt acc (.compLoop (.ListComp elt [⟨t0, i0, f0, 0⟩, ⟨t1, i1, f1, 0⟩] scope pos) 1 it acc env) it env := by rfl
theorem turn3_0 : compTurn (.ListComp elt [⟨t0, i0, f0, 0⟩, ⟨t1, i1, f1, 0⟩, ⟨t2, i2, f2, 0⟩] scope pos) 0 it acc env = outG t0 i0 f0 i1 (fun j => .compStart (.ListComp elt [⟨t0, i0, f0, 0⟩, ⟨t1, i1, f1, 0⟩, ⟨t2, i2, f2, 0⟩] scope pos) 1 j acc env) (.compLoop (.ListComp elt [⟨t0, i0, f0, 0⟩, ⟨t1, i1, f1, 0⟩, ⟨t2, i2, f2, 0⟩] scope pos) 0 it acc env) it env := by rfl
theorem turn3_1 : compTurn (.ListComp elt [⟨t0, i0, f0, 0⟩, ⟨t1, i1, f1, 0⟩, ⟨t2, i2, f2, 0⟩] scope pos) 1 it acc env = outG t1 i1 f1 i2 (fun j => .compStart (.ListComp elt [⟨t0, i0, f0, 0⟩, ⟨t1, i1, f1, 0⟩, ⟨t2, i2, f2, 0⟩] scope pos) 2 j acc env) (.compLoop (.ListComp elt [⟨t0, i0, f0, 0⟩, ⟨t1, i1, f1, 0⟩, ⟨t2, i2, f2, 0⟩] scope pos) 1 it acc env) it env := by rfl
theorem turn3_2 : compTurn (.ListComp elt [⟨t0, i0, f0, 0⟩, ⟨t1, i1, f1, 0⟩, ⟨t2, i2, f2, 0⟩] scope pos) 2 it acc env = inG t2 i2 f2 elt acc (.compLoop (.ListComp elt [⟨t0, i0, f0, 0⟩, ⟨t1, i1, f1, 0⟩, ⟨t2, i2, f2, 0⟩] scope pos) 2 it acc env) it env := by rfl
theorem start2_1 : compStart (.ListComp elt [⟨t0, i0, f0, 0⟩, ⟨t1, i1, f1, 0⟩] scope pos) 1 it acc env = startG i1 (fun j => .compLoop (.ListComp elt [⟨t0, i0, f0, 0⟩, ⟨t1, i1, f1, 0⟩] scope pos) 1 j acc env) it := by rfl
theorem start3_1 : compStart (.ListComp elt [⟨t0, i0, f0, 0⟩, ⟨t1, i1, f1, 0⟩, ⟨t2, i2, f2, 0⟩] scope pos) 1 it acc env = startG i1 (fun j => .compLoop (.ListComp elt [⟨t0, i0, f0, 0⟩, ⟨t1, i1, f1, 0⟩, ⟨t2, i2, f2, 0⟩] scope pos) 1 j acc env) it := by rfl
theorem start3_2 : compStart (.ListComp elt [⟨t0, i0, f0, 0⟩, ⟨t1, i1, f1, 0⟩, ⟨t2, i2, f2, 0⟩] scope pos) 2 it acc env = startG i2 (fun j => .compLoop (.ListComp elt [⟨t0, i0, f0, 0⟩, ⟨t1, i1, f1, 0⟩, ⟨t2, i2, f2, 0⟩] scope pos) 2 j acc env) it := by rfl
end
/-- what a turn's body runs -/
def NX := Sem Unit → Prop
section
variable {prog : Program} {w : World} {A : Around} {R : Result → Shared → Prop} {s : Shared} {e elt t i i1 : Expr} {ifs : List Expr} {d d1 : Nat} {gs : List Comprehension} {scope : Scope} {pos : Pos} {it acc : Value} {env : PySem.Env}
abbrev TestsG (prog : Program) (w : World) (A : Around) (env : PySem.Env) (ifs : List Expr) (Q : Bool → Shared → Prop) (s : Shared) : Prop :=
  wpAny (model prog w) A (forIn ifs true fun c r => if r = true then do let ok ← isTrue c env (eval c env); pure (ForInStep.yield ok) else pure (ForInStep.yield r)) Q (fun _ _ => False) s
abbrev NextG (prog : Program) (w : World) (A : Around) (env : PySem.Env) (t : Expr) (ifs : List Expr) (it : Value) (B : Shared → (Shared → Prop) → Prop) (Dn : Shared → Prop) (Nx : Shared → Prop) (s : Shared) : Prop :=
  wpAny (model prog w) A (pyNext it) (fun r s₁ => match r with
      | none => Dn s₁
      | some v => wpAny (model prog w) A (letOwnedTupleGo t it v) (fun _ s₁' => wpAny (model prog w) A (assign t env v) (fun _ s₂ =>
          TestsG prog w A env ifs (fun ok s₃ => if ok = true then B s₃ Nx else Nx s₃) s₂) (fun _ _ => False) s₁') (fun _ _ => False) s₁) (fun _ _ => False) s
/-- the elt's part -/
def emitB (prog : Program) (w : World) (A : Around) (env : PySem.Env) (elt : Expr) (acc : Value) (s : Shared) (Nx : Shared → Prop) : Prop :=
  wpAny (model prog w) A (eval elt env) (fun x s₄ => wpAny (model prog w) A (call (.builtin "list.append") [acc, x]) (fun _ s₅ => Nx s₅) (fun _ _ => False) s₄) (fun _ _ => False) s
/-- the next clause's part -/
def nestB (prog : Program) (w : World) (A : Around) (env : PySem.Env) (i1 : Expr) (start : Value → Code) (s : Shared) (Nx : Shared → Prop) : Prop :=
  wpAny (model prog w) A (eval i1 env) (fun x s₄ => wpAny (model prog w) A (pyIter x) (fun j s₅ => codeAny (model prog w) A (start j) (fun r s' => match r with
    | .ok _ => Nx s'
    | .error _ => False) s₅) (fun _ _ => False) s₄) (fun _ _ => False) s
theorem monoF {α : Type} {p : Sem α} {Q Q' : α → Shared → Prop} {M : Model} {E : Value → Shared → Prop} (h : wpAny M A p Q (fun _ _ => False) s) (hQ : ∀ a s, Q a s → Q' a s) : wpAny M A p Q' E s := wpAny_mono h hQ fun _ _ z => z.elim
theorem loop_out (hE : e = .ListComp elt gs scope pos) (he : compTurn e d it acc env = outG t i ifs i1 (fun j => .compStart e d1 j acc env) (.compLoop e d it acc env) it env) (hs : ∀ x, foldedSetIterable i1 env x = pure x) (I : Nat → Shared → Prop)
    (turn : ∀ n s, I n s → NextG prog w A env t ifs it (nestB prog w A env i1 fun j => .compStart e d1 j acc env) (fun s₁ => R (.ok .next) s₁) (fun s₁ => ∃ m, m < n ∧ I m s₁) s) (n : Nat) (h : I n s) : codeAny (model prog w) A (.compLoop e d it acc env) R s := by
  subst hE
  refine codeAny_loop rfl I (fun n s hI => ?_) n h
  show wpAny _ A ((compTurn (.ListComp elt gs scope pos) d it acc env).onRaise (fun x => do noteFrame x env; theTreesLotGoes x)) _ _ s
  refine wpAny_noted ?_
  rw [he]
  refine wpAny_bind (wpAny_standAt (wpAny_bind (monoF (turn n s hI) fun r s₁ h₁ => ?_)))
  cases r with
  | none => exact wpAny_pure h₁
  | some v =>
    refine wpAny_bind (monoF h₁ fun _ s₁' h₁' => wpAny_bind (monoF h₁' fun _ s₂ h₂ => wpAny_bind (monoF h₂ fun ok s₃ h₃ => ?_)))
    cases ok with
    | false => exact wpAny_pure ⟨rfl, h₃⟩
    | true =>
      refine wpAny_bind (monoF h₃ fun x s₄ h₄ => wpAny_bind (wpAny_standAt (wpAny_bind (wpAny_of_eq (hs x) (wpAny_bind (wpAny_holding (monoF h₄ fun it1 s₅ h₅ => ?_)))))))
      refine wpAny_bind (wpAny_runOwn ?_)
      rw [Around.mark_none]
      refine codeAny_mono h₅ fun r s' hr => ?_
      cases r with
      | ok f =>
        first
          | exact wpAny_pure ⟨rfl, hr⟩
          | exact wpAny_bind (wpAny_pure (wpAny_pure ⟨rfl, hr⟩))
      | error e => exact hr.elim
theorem loop_in (hE : e = .ListComp elt gs scope pos) (he : compTurn e d it acc env = inG t i ifs elt acc (.compLoop e d it acc env) it env) (I : Nat → Shared → Prop)
    (turn : ∀ n s, I n s → NextG prog w A env t ifs it (emitB prog w A env elt acc) (fun s₁ => R (.ok .next) s₁) (fun s₁ => ∃ m, m < n ∧ I m s₁) s) (n : Nat) (h : I n s) : codeAny (model prog w) A (.compLoop e d it acc env) R s := by
  subst hE
  refine codeAny_loop rfl I (fun n s hI => ?_) n h
  show wpAny _ A ((compTurn (.ListComp elt gs scope pos) d it acc env).onRaise (fun x => do noteFrame x env; theTreesLotGoes x)) _ _ s
  refine wpAny_noted ?_
  rw [he]
  refine wpAny_bind (wpAny_standAt (wpAny_bind (monoF (turn n s hI) fun r s₁ h₁ => ?_)))
  cases r with
  | none => exact wpAny_pure h₁
  | some v =>
    refine wpAny_bind (monoF h₁ fun _ s₁' h₁' => wpAny_bind (monoF h₁' fun _ s₂ h₂ => wpAny_bind (monoF h₂ fun ok s₃ h₃ => ?_)))
    cases ok with
    | false => exact wpAny_pure ⟨rfl, h₃⟩
    | true => exact wpAny_bind (wpAny_bind (monoF h₃ fun x s₄ h₄ => wpAny_bind (monoF h₄ fun _ s₅ h₅ => wpAny_pure (wpAny_pure ⟨rfl, h₅⟩))))
theorem start_ok (hE : e = .ListComp elt gs scope pos) (hst : compStart e d it acc env = startG i (fun j => .compLoop e d j acc env) it) (h0 : codeAny (model prog w) A (.compLoop e d it acc env) R s)
    (h : wpAny (model prog w) A (pyIter it) (fun it' s' => codeAny (model prog w) A (.compLoop e d it' acc env) R s') (notedBy (model prog w) A env fun x s' => R (.error x) s') s) : codeAny (model prog w) A (.compStart e d it acc env) R s := by
  subst hE
  refine codeAny_of_tree ?_
  show wpAny _ _ ((compStart (.ListComp elt gs scope pos) d it acc env).onRaise (fun x => do noteFrame x env; standAt theWindowsPlace)) _ _ s
  refine wpAny_notedAt ?_
  rw [hst]
  unfold startG
  show wpAny _ _ (ask >>= _) _ _ s
  refine wpAny_bind (wpAny_askSetting (wpAny_ite ?_))
  split
  · first
      | exact wpAny_bind (wpAny_pure (wpAny_pure (And.intro rfl h0)))
      | exact wpAny_pure (And.intro rfl h0)
  · refine wpAny_bind (wpAny_rule ?_)
    first
      | exact wpAny_bind (wpAny_standAt (wpAny_bind (wpAny_mono h (fun it' s' h' => wpAny_pure (And.intro rfl h')) fun _ _ x => x)))
      | (show wpAny _ _ (standAt i.pos >>= _) _ _ s; exact wpAny_bind (wpAny_standAt (wpAny_bind (wpAny_mono h (fun it' s' h' => wpAny_pure (And.intro rfl h')) fun _ _ x => x))))
end
end BK

/-! BkR: comprehensions of more clauses: the walk -/
namespace BK
open PySem PySem.Spec PyProof.Rows L2 RZ

abbrev BodyT := PySem.Env → Addr → Shared → (Shared → Prop) → Prop
abbrev TN := Addr → L2.St → Hp → (Hp → Prop) → Prop
/-- the inner part of a turn -/
def PN (Y : Cx) (vs : List Nat) (B : BodyT) (t : TN) : Prop := ∀ (D : Addr) (pins : List (Addr × Obj)) (s : Shared) (σ : L2.St) (H : Hp) (Q : Hp → Prop), Inv Y pins σ H s → t D σ H Q →
  B Y.env D s fun s' => ∃ (σ' : L2.St) (H' : Hp), Inv Y pins σ' H' s' ∧ σ'.length = σ.length ∧ (∀ (j : Nat) (v : V), (wipe σ vs)[j]? = some (some v) → σ'[j]? = some (some v)) ∧ Q H'
def tEmit (te : TE) : TN := fun D σ H Q => te σ H fun y H4 => ∃ acc, H4 D = some (.lst acc) ∧ acc.length < sizeLine ∧ Q (upd H4 D (.lst (acc ++ [y])))
def tNest (wi : TI) (g : TG) (tt : TT) (t2 : TN) (vs : List Nat) : TN := fun D σ H Q => wi σ H fun J H1 => ∃ W : Nat → Nat → Hp → Prop, (∃ m, W 0 m H1) ∧ ∀ i m H, W i m H →
  (J.stop i H ∧ Q H) ∨ (J.go i H ∧ ∃ Nx : Hp → Prop, (∀ H', Nx H' → ∃ m', m' < m ∧ W (i + 1) m' H') ∧ ∀ x H', J.yld i H x H' → g x (wipe σ vs) H' fun σ2 H2 => wipe σ2 vs = wipe σ vs ∧ tt σ2 H2 fun b H3 => if b = true then t2 D σ2 H3 Nx else Nx H3)
def tLcN (wi : TI) (g : TG) (tt : TT) (t2 : TN) (vs : List Nat) : TE := fun σ H Q => wi σ H fun J H1 => ∀ D, H1 D = none → ∃ W : Nat → Nat → Hp → Prop, (∃ m, W 0 m (upd H1 D (.lst []))) ∧ ∀ i m H, W i m H →
  (J.stop i H ∧ Q (.ref D) H) ∨ (J.go i H ∧ ∃ Nx : Hp → Prop, (∀ H', Nx H' → ∃ m', m' < m ∧ W (i + 1) m' H') ∧ ∀ x H', J.yld i H x H' → g x (wipe σ vs) H' fun σ2 H2 => wipe σ2 vs = wipe σ vs ∧ tt σ2 H2 fun b H3 => if b = true then t2 D σ2 H3 Nx else Nx H3)
/-- what a loop of clause d is served by -/
def LoopAt (P : Program) (w : World) (A : Around) (e : Expr) (d : Nat) (t : Expr) (ifs : List Expr) (B : BodyT) : Prop := ∀ (env : PySem.Env) (D : Addr) (it : Value) (R : Result → Shared → Prop) (s : Shared) (I : Nat → Shared → Prop),
  (∀ n s, I n s → NextG P w A env t ifs it (B env D) (fun s₁ => R (.ok .next) s₁) (fun s₁ => ∃ m, m < n ∧ I m s₁) s) → ∀ n, I n s → codeAny (model P w) A (.compLoop e d it (.ref D) env) R s
def MonoB (B : BodyT) : Prop := ∀ (env : PySem.Env) (D : Addr) (s : Shared) (Q Q' : Shared → Prop), B env D s Q → (∀ s', Q s' → Q' s') → B env D s Q'
section
variable {Y : Cx} {elt : Expr}
theorem mono_emit {P : Program} {w : World} {A : Around} : MonoB fun env D => emitB P w A env elt (.ref D) := fun env D s Q Q' h hq => monoF h fun x s4 h4 => monoF h4 fun _ s5 h5 => hq _ h5
theorem mono_nest {P : Program} {w : World} {A : Around} {i1 : Expr} {st : PySem.Env → Addr → Value → Code} : MonoB fun env D => nestB P w A env i1 (st env D) := fun env D s Q Q' h hq => monoF h fun x s4 h4 => monoF h4 fun j s5 h5 => codeAny_mono h5 fun r s' hr => by
  cases r with
  | ok f => exact hq _ hr
  | error e => exact hr
theorem pn_emit {te : TE} {vs : List Nat} (hx : Y.xe = fun _ _ => False) (h : PE Y elt te) : PN Y vs (fun env D => emitB Y.prog Y.w Y.A env elt (.ref D)) (tEmit te) := fun D pins s σ H Q I q => by
  have h1 := h.run pins s σ H _ I q
  rw [hx] at h1
  refine monoF h1 fun z s1 ⟨y, H1, I1, r1, acc, hD, hz, nx⟩ => ?_
  exact app_ok (X := Y) I1 hD hz r1 fun s2 I2 => ⟨σ, _, I2, rfl, fun j v e => (wipe_some e).1, nx⟩
theorem pn_nest {e tg i1 : Expr} {ifs : List Expr} {d : Nat} {wi : TI} {g : TG} {tt : TT} {t2 : TN} {B : BodyT} {vs vs2 : List Nat} {gs : List Comprehension} {scope : Scope} {pos : Pos} (hx : Y.xe = fun _ _ => False) (hc : Y.calm = true) (hE : e = .ListComp elt gs scope pos) (hst : ∀ env D it, compStart e d it (.ref D) env = startG i1 (fun j => .compLoop e d j (.ref D) env) it)
    (lp : LoopAt Y.prog Y.w Y.A e d tg ifs B) (hB : MonoB B) (pi : PI Y tg i1 wi) (pg : PG Y tg g) (pt : PTs Y ifs tt) (pn : PN Y vs2 B t2) (sub : ∀ i ∈ vs2, i ∈ vs) :
    PN Y vs (fun env D => nestB Y.prog Y.w Y.A env i1 fun j => .compStart e d j (.ref D) env) (tNest wi g tt t2 vs) := fun D pins s σ H Q I q => by
  have h1 := pi.run pins s σ H _ I q
  rw [hx] at h1
  refine monoF h1 fun xv s1 h1 => monoF h1 fun itv s2 h2 => ?_
  obtain ⟨it, fp, tn, J, H2, e2, I2, T, at2, f2, W, ⟨m0, w0⟩, turn⟩ := h2
  subst e2
  have stat : ∀ {Hz : Hp}, (∀ b ∈ fp, Hz b = none) → ∀ b ∈ fp, FpOk Y pins Hz b := fun hn b hb => ⟨hn b hb, (f2 b hb).2⟩
  have loop : codeAny (model Y.prog Y.w) Y.A (.compLoop e d (.ref it) (.ref D) Y.env) (fun r s' => match r with
      | .ok _ => ∃ (σ' : L2.St) (H' : Hp), Inv Y pins σ' H' s' ∧ σ'.length = σ.length ∧ (∀ (j : Nat) (v : V), (wipe σ vs)[j]? = some (some v) → σ'[j]? = some (some v)) ∧ Q H'
      | .error _ => False) s2 := by
    refine lp Y.env D _ _ _ (fun k sz => ∃ j Hz, Inv Y pins (wipe σ vs) Hz sz ∧ tn j sz.heap ∧ (∀ b ∈ fp, Hz b = none) ∧ W j k Hz) ?_ m0 ⟨0, H2, I2.weak (wipe_length _ _) (fun j v z => (wipe_some z).1), at2, fun b hb => (f2 b hb).1, w0⟩
    rintro k s3 ⟨j, H3, I3, at3, n3, w3⟩
    rcases turn j k H3 w3 with ⟨stop, qq⟩ | ⟨go, Nx, hNx, step⟩
    · refine monoF (T.done Y rfl rfl rfl hc j _ s3 (wipe σ vs) H3 (fun _ _ => False) I3 (stat n3) at3 stop) fun r s4 ⟨hr, I4⟩ => ?_
      subst hr
      exact ⟨_, H3, I4, wipe_length _ _, fun j v z => z, qq⟩
    · refine monoF (T.item Y rfl rfl rfl hc j _ s3 (wipe σ vs) H3 (fun _ _ => False) I3 (stat n3) at3 go) fun r s4 ⟨u, hr, h4⟩ => ?_
      subst hr
      refine monoF h4 fun _ s5 ⟨x, H5, I5, r5, y5, at5, n5⟩ => ?_
      have I5' := I5.pinned (stat n5) (T.obj _ _ at5)
      have hg := pg.run _ s5 (wipe σ vs) H5 x u _ I5' r5 (step x H5 y5)
      rw [hx] at hg
      refine monoF hg fun _ s6 ⟨σ6, H6, I6, hw6, q6⟩ => ?_
      have ht := pt.run _ s6 σ6 H6 _ I6 q6
      rw [hx] at ht
      refine monoF ht fun b s7 ⟨H7, I7, q7⟩ => ?_
      have fin : ∀ {σ9 : L2.St} {sz : Shared} {Hz : Hp}, Inv Y (pins ++ pinsAt fp s5.heap) σ9 Hz sz → (wipe σ vs).length = σ9.length → (∀ (j : Nat) v, (wipe σ vs)[j]? = some (some v) → σ9[j]? = some (some v)) → Nx Hz →
          ∃ m, m < k ∧ ∃ i Hy, Inv Y pins (wipe σ vs) Hy sz ∧ tn i sz.heap ∧ (∀ b ∈ fp, Hy b = none) ∧ W i m Hy := fun {σ9 sz Hz} Iz hl hk nx => by
        obtain ⟨m', hm, w'⟩ := hNx Hz nx
        have hp : ∀ b ∈ fp, ∀ o, s5.heap.get? b = some o → sz.heap.get? b = some o ∧ Hz b = none := fun b hb o z =>
          ⟨(Iz.pin (b, o) (List.mem_append_right _ (List.mem_append_right _ (mem_pinsAt hb z)))).1, (Iz.pin (b, o) (List.mem_append_right _ (List.mem_append_right _ (mem_pinsAt hb z)))).2.1⟩
        refine ⟨m', hm, j + 1, Hz, Iz.unpinned.weak hl hk, T.keep _ _ _ at5 fun b hb o z => (hp b hb o z).1, fun b hb => ?_, w'⟩
        obtain ⟨o, z, _⟩ := T.obj _ _ at5 b hb
        exact (hp b hb o z).2
      have hl6 : (wipe σ vs).length = σ6.length := by rw [← hw6, wipe_length]
      cases b with
      | false =>
        simp only [Bool.false_eq_true, if_false] at q7 ⊢
        exact fin I7 hl6 (fun j v z => by rw [← hw6] at z; exact (wipe_some z).1) q7
      | true =>
        simp only [if_true] at q7 ⊢
        refine hB _ _ _ _ _ (pn D _ s7 σ6 H7 _ I7 q7) fun s8 ⟨σ9, H9, I9, l9, k9, nx⟩ => fin I9 (hl6.trans l9.symm) (fun j v z => ?_) nx
        rw [← hw6] at z
        obtain ⟨e1, e2⟩ := wipe_some z
        exact k9 j v (by rw [wipe_out fun z => e2 (sub j z)]; exact e1)
  exact start_ok hE (hst _ _ _) loop (T.self Y.A 0 _ _ _ at2 loop)
end
section
variable {X : Cx}
theorem lcN_core {pins : List (Addr × Obj)} {s : Shared} {σ : L2.St} {H : Hp} {Q : VK} {elt tg iter : Expr} {ifs : List Expr} {rest : List Comprehension} {scope : Scope} {own : List (Str × Nat)} {vs2 : List Nat} {pos pos' : Pos} {wi : TI} {g : TG} {tt : TT} {t2 : TN} {B : BodyT} {use : Option (Value → Sem Unit)} {Qf : Value → Shared → Prop}
    (hc : X.calm = true) (hN : X.N.Nodup) (I : Inv X pins σ H s) (hi : PI X tg iter wi) (ok : BlkOk X.N X.env.scope scope own) (hv : ∀ i ∈ vs2, i ∈ own.map (·.2)) (hB : MonoB B)
    (lp : ∀ e, e = Expr.ListComp elt (⟨tg, iter, ifs, 0⟩ :: rest) scope pos → LoopAt X.prog X.w X.A e 0 tg ifs B)
    (hg : ∀ (s : Shared) (H : Hp) (C : Addr) (cl : List (Str × Addr)) (fp : List Addr), PG (X.blk s H scope (compEnvC scope cl C X.env) fp) tg g) (ht : ∀ (s : Shared) (H : Hp) (C : Addr) (cl : List (Str × Addr)) (fp : List Addr), PTs (X.blk s H scope (compEnvC scope cl C X.env) fp) ifs tt)
    (hn3 : ∀ (s : Shared) (H : Hp) (C : Addr) (cl : List (Str × Addr)) (fp : List Addr), PN (X.blk s H scope (compEnvC scope cl C X.env) fp) vs2 B t2) (hs : ∀ x, foldedSetIterable iter X.env x = pure x)
    (h : tLcN wi g tt t2 (own.map (·.2)) σ H Q)
    (hRR : ∀ D C s' m H', Inv X pins σ H' s' → Q (.ref D) H' → s'.heap.Ns C m → FpOk X pins H' C → compPost (model X.prog X.w) X.A X.xe use Qf (.ref D) C (.ok .next) s') :
    wpAny (model X.prog X.w) X.A (comprehension (.ListComp elt (⟨tg, iter, ifs, 0⟩ :: rest) scope pos) scope X.env pos' (newList []) false (eval iter X.env) use) Qf X.xe s := by
  have hfree : ∀ y ∈ scope.names, y.2 = .free → ∃ c, X.env.cells.lookup y.1 = some c := fun y hy e => by
    rcases ok.free y hy e with k | k
    · exact I.ok.has _ (.inl k)
    · exact I.ok.has _ (.inr k)
  refine wpAny_comprehension_free (use := use) rfl hs (closure_ok hfree) ok.kind (fun y hy e => by rw [ok.uniq y hy, e])
    (thn (hi.run pins s σ H _ I h) fun xv sh1 hx => thn hx fun itv sh2 h2 => ?_)
  obtain ⟨it, fp, tn, J, Hw2, e, Iv2, T, at2, fq2, q⟩ := h2
  subst e
  refine wpAny_newObj_type (newEnv_comp ?_) (by show 0 ≤ sizeLine; decide)
  generalize hD : sh2.heap.objs.size = D
  have hDn : Hw2 D = none := Iv2.hok.fresh (Nat.le_of_eq hD)
  obtain ⟨W, ⟨m0, w0⟩, turn⟩ := q D hDn
  -- the new list
  generalize hz3 : ({ sh2 with heap := sh2.heap.push { cls := .type "list", data := .seq ([] : List Value).toArray } } : Shared) = sh3
  have Iv3 : Inv X pins σ (upd Hw2 D (.lst [])) sh3 := by
    rw [← hz3]
    refine Iv2.laid (t' := sh2.toks) (fun b o e => Heap.get?_push_of_some _ e) (Nat.le_of_eq hD) ⟨Nat.zero_le _, [], 0, .nil, ?_⟩
    rw [← hD]
    exact Heap.get?_push_size _ rfl
  have h3 : sh3.heap = sh2.heap.push { cls := .type "list", data := .seq ([] : List Value).toArray } := by rw [← hz3]
  have sz : ∀ b ∈ fp, b < sh2.heap.objs.size := fun b hb => by
    obtain ⟨o, e, _⟩ := T.obj _ _ at2 b hb
    exact Heap.lt_size e
  have fq3 : ∀ b ∈ fp, FpOk X pins (upd Hw2 D (.lst [])) b ∧ b < sh3.heap.objs.size := fun b hb => by
    have hlt := sz b hb
    refine ⟨⟨?_, (fq2 b hb).2⟩, by rw [h3, Heap.size_push]; exact Nat.lt_succ_of_lt hlt⟩
    rw [upd_ne (by rw [← hD]; exact Nat.ne_of_lt hlt)]
    exact (fq2 b hb).1
  have at3 : tn 0 sh3.heap := T.keep _ _ _ at2 fun b _ o e => by rw [h3]; exact Heap.get?_push_of_some _ e
  have Iv4 := block_start Iv3 ok hN fq3
  have pg := hg sh3 (upd Hw2 D (.lst [])) sh3.heap.objs.size (cellsFrom (sh3.heap.objs.size + 1) scope.names (cloFrom X.env.cells scope.names [])) fp
  have pt := ht sh3 (upd Hw2 D (.lst [])) sh3.heap.objs.size (cellsFrom (sh3.heap.objs.size + 1) scope.names (cloFrom X.env.cells scope.names [])) fp
  have pn := hn3 sh3 (upd Hw2 D (.lst [])) sh3.heap.objs.size (cellsFrom (sh3.heap.objs.size + 1) scope.names (cloFrom X.env.cells scope.names [])) fp
  show codeAny _ _ (.compStart (.ListComp elt (⟨tg, iter, ifs, 0⟩ :: rest) scope pos) 0 (.ref it) (.ref D) (compEnvC scope (cellsFrom (sh3.heap.objs.size + 1) scope.names (cloFrom X.env.cells scope.names [])) sh3.heap.objs.size X.env)) (compPost (model X.prog X.w) X.A X.xe use Qf (.ref D) sh3.heap.objs.size) { sh3 with heap := pushCells (sh3.heap.push { cls := .type "dict", data := .dict #[] }) scope.names }
  have nfp : ∀ b ∈ fp, (upd Hw2 D (.lst [])) b = none := fun b hb => (fq3 b hb).1.1
  generalize hce : compEnvC scope (cellsFrom (sh3.heap.objs.size + 1) scope.names (cloFrom X.env.cells scope.names [])) sh3.heap.objs.size X.env = ce at Iv4 pg pt pn ⊢
  have cL : ce.locals = sh3.heap.objs.size := by subst hce; rfl
  generalize hH3 : upd Hw2 D (.lst []) = Hw3 at Iv3 Iv4 pg pt pn w0 nfp fq3
  generalize hz4 : ({ sh3 with heap := pushCells (sh3.heap.push { cls := .type "dict", data := .dict #[] }) scope.names } : Shared) = sh4 at Iv4 ⊢
  have at4 : tn 0 sh4.heap := T.keep _ _ _ at3 fun b _ o e => by rw [← hz4]; exact pushCells_keeps _ _ _ _ (Heap.get?_push_of_some _ e)
  have stat : ∀ {σ' : L2.St} {H' : Hp} {s' : Shared}, Inv (X.blk sh3 Hw3 scope ce fp) [] σ' H' s' → (∀ b ∈ fp, H' b = none) → ∀ b ∈ fp, FpOk (X.blk sh3 Hw3 scope ce fp) [] H' b := fun {σ' H' s'} I' hn b hb =>
    ⟨hn b hb, (I'.ok.exf b hb).1, I'.ok.exfs b hb, .inl hb, fun x c e => (I'.ok.exf b hb).2 x c e, fun p hp => absurd (show p ∈ ([] : List (Addr × Obj)) ++ [] from hp) (by simp)⟩
  have loop : codeAny (model X.prog X.w) X.A (.compLoop (.ListComp elt (⟨tg, iter, ifs, 0⟩ :: rest) scope pos) 0 (.ref it) (.ref D) ce) (compPost (model X.prog X.w) X.A X.xe use Qf (.ref D) sh3.heap.objs.size) sh4 := by
    refine lp _ rfl ce D _ _ _ (fun n s' => ∃ i H', Inv (X.blk sh3 Hw3 scope ce fp) [] (wipe σ (own.map (·.2))) H' s' ∧ tn i s'.heap ∧ (∀ b ∈ fp, H' b = none) ∧ W i n H') ?_ m0 ⟨0, Hw3, Iv4, at4, nfp, w0⟩
    rintro n sh5 ⟨i, Hw5, Iv5, at5, n5, w5⟩
    rcases turn i n Hw5 w5 with ⟨stop, qq⟩ | ⟨go, Nx, hNx, step⟩
    · have td := T.done (X.blk sh3 Hw3 scope ce fp) rfl rfl rfl hc i [] sh5 _ Hw5 (fun _ _ => False) Iv5 (stat Iv5 n5) at5 stop
      refine thnF td fun r sh6 ⟨hr, Iv6⟩ => ?_
      subst hr
      -- back in the def's context
      have Iv7 : Inv X pins σ Hw5 sh6 := Iv3.call' (ch := fp) Iv6.os Iv6.base Iv6.hok Iv6.bare fun b hb => ⟨(fq3 b hb).1.2.2.2.1, (fq3 b hb).1.2.1, (fq3 b hb).1.2.2.2.2.1, (fq3 b hb).1.2.2.2.2.2⟩
      have nC : Hw5 sh3.heap.objs.size = none := by
        have z : Hw5 ce.locals = none := Iv6.free
        rw [cL] at z
        exact z
      obtain ⟨m, hn, _⟩ := Iv6.loc
      have hn : sh6.heap.Ns ce.locals m := hn
      rw [cL] at hn
      exact hRR D sh3.heap.objs.size sh6 m Hw5 Iv7 qq hn (Iv3.fpOk (Nat.le_refl _) nC)
    · have ti := T.item (X.blk sh3 Hw3 scope ce fp) rfl rfl rfl hc i [] sh5 _ Hw5 (fun _ _ => False) Iv5 (stat Iv5 n5) at5 go
      refine thnF ti fun r sh6 ⟨u, hr, h6⟩ => ?_
      subst hr
      refine thnF h6 fun _ sh7 ⟨x, Hw7, Iv7, r7, y7, at7, n7⟩ => ?_
      have Iv7' := Iv7.pinned (stat Iv7 n7) (T.obj _ _ at7)
      refine thnF (pg.run _ sh7 _ Hw7 x u _ Iv7' r7 (step x Hw7 y7)) fun _ sh8 ⟨σ8, Hw8, Iv8, hw8, q8⟩ => ?_
      refine thnF (pt.run _ sh8 σ8 Hw8 _ Iv8 q8) fun b sh9 ⟨Hw9, Iv9, q9⟩ => ?_
      -- the turn's end
      have hl8 : (wipe σ (own.map (·.2))).length = σ8.length := by rw [← hw8, wipe_length]
      have fin : ∀ {σ9 : L2.St} {sz : Shared} {Hz : Hp}, Inv (X.blk sh3 Hw3 scope ce fp) ([] ++ pinsAt fp sh7.heap) σ9 Hz sz → (wipe σ (own.map (·.2))).length = σ9.length → (∀ (j : Nat) v, (wipe σ (own.map (·.2)))[j]? = some (some v) → σ9[j]? = some (some v)) → Nx Hz →
          ∃ m, m < n ∧ ∃ i Hy, Inv (X.blk sh3 Hw3 scope ce fp) [] (wipe σ (own.map (·.2))) Hy sz ∧ tn i sz.heap ∧ (∀ b ∈ fp, Hy b = none) ∧ W i m Hy := fun {σ9 sz Hz} Iz hl hk nx => by
        obtain ⟨m', hm, w'⟩ := hNx Hz nx
        have hp : ∀ b ∈ fp, ∀ o, sh7.heap.get? b = some o → sz.heap.get? b = some o ∧ Hz b = none := fun b hb o e =>
          ⟨(Iz.pin (b, o) (List.mem_append_right _ (List.mem_append_right _ (mem_pinsAt hb e)))).1, (Iz.pin (b, o) (List.mem_append_right _ (List.mem_append_right _ (mem_pinsAt hb e)))).2.1⟩
        refine ⟨m', hm, i + 1, Hz, (Iz.unpinned (pins := [])).weak hl hk, T.keep _ _ _ at7 fun b hb o e => (hp b hb o e).1, fun b hb => ?_, w'⟩
        obtain ⟨o, e, _⟩ := T.obj _ _ at7 b hb
        exact (hp b hb o e).2
      have hk8 : ∀ (j : Nat) v, (wipe σ (own.map (·.2)))[j]? = some (some v) → σ8[j]? = some (some v) := fun j v e => by
        rw [← hw8] at e
        exact (wipe_some e).1
      cases b with
      | false =>
        simp only [Bool.false_eq_true, if_false] at q9 ⊢
        exact fin Iv9 hl8 hk8 q9
      | true =>
        simp only [if_true] at q9 ⊢
        refine hB ce D _ _ _ (pn D _ sh9 σ8 Hw9 _ Iv9 q9) fun sh10 ⟨σ9, Hw10, Iv10, l10, k10, nx⟩ => ?_
        refine fin Iv10 (l10.trans hl8.symm).symm (fun j v e => ?_) nx
        have e0 : (wipe σ (own.map (·.2)))[j]? = some (some v) := e
        rw [← hw8] at e
        obtain ⟨e1, e2⟩ := wipe_some e
        exact k10 j v (by rw [wipe_out fun z => e2 (hv j z)]; exact e1)
  exact codeAny_compStart_list loop (T.self X.A 0 _ _ _ at4 loop)
end
end BK

/-! BkS: comprehensions of more clauses: what they compute -/
namespace BK
open PySem PySem.Spec PyProof.Rows L2 RZ

/-- all the items that the turns hand on, in order -/
def nGo (t : GM) (c : BM) (n : AM) (ρ : PEnv) : List PV → Sto → Res (List PV)
  | [], st => .ok [] st
  | x :: xs, st => match (t x).map (setP ρ) with
    | none => .bad
    | some ρ1 => (c ρ1 st).bind fun b st1 => if b = true then (n ρ1 st1).bind fun ys st2 => (nGo t c n ρ xs st2).bind fun zs st3 => .ok (ys ++ zs) st3 else nGo t c n ρ xs st1
def aNest (it : AM) (vs : List Nat) (t : GM) (c : BM) (n : AM) : AM := fun ρ st => (it ρ st).bind fun xs st1 => nGo t c n (wipeP ρ vs) xs st1
def aOne (m : EM) : AM := fun ρ st => (m ρ st).bind fun y st1 => .ok [y] st1
def fits (r : Res (List PV)) : Res (List PV) := match r with
  | .ok zs st => if zs.length ≤ sizeLine then .ok zs st else .bad
  | _ => .bad
def aLcN (it : AM) (vs : List Nat) (t : GM) (c : BM) (n : AM) : AM := fun ρ st => (it ρ st).bind fun xs st1 => fits (nGo t c n (wipeP ρ vs) xs st1)
theorem fits_ok {r : Res (List PV)} {zs : List PV} {st : Sto} (h : fits r = .ok zs st) : r = .ok zs st ∧ zs.length ≤ sizeLine := by
  cases r with
  | ok a s =>
    unfold fits at h
    simp only at h
    split at h
    · cases h; exact ⟨rfl, by assumption⟩
    · cases h
  | exn c fs s => cases h
  | bad => cases h
/-- an environment whose own lists and dicts stood before a list was begun -/
structure EnvB (g : Gx) (F1 : Hp) (μ1 : List Addr) (H1 F : Hp) (μ : List Addr) (σ : L2.St) (ρ : PEnv) : Prop where
  len : σ.length = ρ.length
  val : ∀ (i : Nat) (x : PV), ρ[i]? = some (.val x) → ∃ v, σ[i]? = some (some v) ∧ Rep g.K g.fa F μ v x
  own : ∀ (i : Nat) (b : Ob), ρ[i]? = some (.own b) → ∃ (a : Addr) (o : HO), σ[i]? = some (some (.ref a)) ∧ F1 a = none ∧ a ∉ μ1 ∧ H1 a = some o ∧ ObRep g F1 μ1 o b
section
variable {g : Gx} {F1 F F3 : Hp} {μ1 μ μ3 : List Addr} {H1 H H3 : Hp} {σ : L2.St} {ρ : PEnv}
theorem EnvB.env (en : EnvB g F1 μ1 H1 F μ σ ρ) (e : Ext F1 μ1 H1 F3 μ3 H3) (s : Same F F3) (m : ∃ t, μ3 = μ ++ t) : Env g F3 μ3 H3 σ ρ := ⟨en.len, fun i x h =>
  let ⟨v, h1, h2⟩ := en.val i x h
  ⟨v, h1, Rep.mono s m _ _ h2⟩, fun i b h =>
  let ⟨a, o, h1, h2, h3, h4, h5⟩ := en.own i b h
  let ⟨k1, k2, k3⟩ := e.mine h2 h3 h4
  ⟨a, o, h1, k1, k2, k3, h5.mono e.fs e.ms⟩⟩
theorem Env.toB (en : Env g F1 μ1 H1 σ ρ) : EnvB g F1 μ1 H1 F1 μ1 σ ρ := ⟨en.len, en.val, en.own⟩
theorem EnvB.mono (en : EnvB g F1 μ1 H1 F μ σ ρ) (s : Same F F3) (m : ∃ t, μ3 = μ ++ t) : EnvB g F1 μ1 H1 F3 μ3 σ ρ := ⟨en.len, fun i x h =>
  let ⟨v, h1, h2⟩ := en.val i x h
  ⟨v, h1, Rep.mono s m _ _ h2⟩, en.own⟩
theorem setP_own : ∀ {as : List (Nat × PV)} {ρ : PEnv} {j : Nat} {b : Ob}, (setP ρ as)[j]? = some (.own b) → ρ[j]? = some (.own b)
  | [], _, _, _, h => h
  | (i, x) :: as, ρ, j, b, h => by
    have h := setP_own (as := as) h
    rcases set_at h with ⟨_, _, z⟩ | ⟨_, h⟩
    · cases z
    · exact h
theorem EnvB.turn {vs vt : List Nat} {as : List (Nat × PV)} {σ4 : L2.St} (hv : ∀ i ∈ vt, i ∈ vs) (en : EnvB g F1 μ1 H1 F μ σ ρ) (off : Off vt (wipe σ vs) σ4) (en4 : Env g F3 μ3 H3 σ4 (setP (wipeP ρ vs) as)) : EnvB g F1 μ1 H1 F3 μ3 σ4 (setP (wipeP ρ vs) as) :=
  ⟨en4.len, en4.val, fun i b h => by
    obtain ⟨h1, h2⟩ := wipeP_some (by simp) (setP_own h)
    obtain ⟨a, o, k1, k2⟩ := en.own i b h1
    refine ⟨a, o, ?_, k2⟩
    rw [off.2 i (fun z => h2 (hv i z)), wipe_out h2]
    exact k1⟩
end
def tN (g : Gx) (n : AM) : TN := fun D σ H Q => ∃ F1 μ1 H1 F μ st ρ acc pacc ys st', Ext F1 μ1 H1 F μ H ∧ Wok g.K g.fa F μ H st ∧ EnvB g F1 μ1 H1 F μ σ ρ ∧ H1 D = none ∧ F D = none ∧ D ∉ μ ∧ H D = some (.lst acc) ∧ Reps g.K g.fa F μ acc pacc ∧
  n ρ st = .ok ys st' ∧ pacc.length + ys.length ≤ sizeLine ∧ ∀ F' μ' H' acc', Ext F1 μ1 H1 F' μ' H' → Same F F' → (∃ t, μ' = μ ++ t) → Wok g.K g.fa F' μ' H' st' → F' D = none → D ∉ μ' → H' D = some (.lst acc') → Reps g.K g.fa F' μ' acc' (pacc ++ ys) → Q H'
section
variable {g : Gx}
theorem tEmit_of {m : EM} {D : Addr} {σ : L2.St} {H : Hp} {Q : Hp → Prop} (h : tN g (aOne m) D σ H Q) : tEmit (tE g W0 m) D σ H Q := by
  obtain ⟨F1, μ1, H1, F, μ, st, ρ, acc, pacc, ys, st', e, w, en, b1, d1, d2, d3, r, hm, hl, k⟩ := h
  obtain ⟨y, s1, m1, m2⟩ := Res.bind_ok hm
  cases m2
  refine ⟨F, μ, st, ρ, w, en.env e (Same.refl _) ⟨[], by simp⟩, ?_⟩
  rw [m1]
  intro F5 μ5 H5 e5 w5 u ru
  obtain ⟨l1, l2, l3⟩ := e5.mine d1 d2 d3
  have hr := r.length
  simp only [List.length_cons, List.length_nil] at hl
  refine ⟨acc, l3, by omega, k F5 μ5 _ (acc ++ [u]) ((e.trans e5).put _ b1) e5.fs e5.ms (w5.put _ l1 l2) l1 l2 upd_same ((Reps.ext e5 r).append (.cons ru .nil))⟩
theorem nest_turns {it : AM} {vs vt : List Nat} {t : GM} {c : BM} {n : AM} {D : Addr} {σ : L2.St} {Q : Hp → Prop} {J : It} {F1 F2 : Hp} {μ1 μ2 : List Addr} {H1 : Hp} {ρ : PEnv} {xs all : List PV} {stE : Sto} (hv : ∀ i ∈ vt, i ∈ vs) (b1 : H1 D = none) (en : EnvB g F1 μ1 H1 F2 μ2 σ ρ) (hxl : xs.length ≤ sizeLine)
    (hJ : ∀ (F' : Hp) (μ' : List Addr) (H' : Hp) (st' : Sto), Same F2 F' → (∃ t, μ' = μ2 ++ t) → Wok g.K g.fa F' μ' H' st' → ∀ i : Nat,
      (∀ x, xs[i]? = some x → J.go i H' ∧ ∀ v H'', J.yld i H' v H'' → ∃ F'', Ext F' μ' H' F'' μ' H'' ∧ Wok g.K g.fa F'' μ' H'' st' ∧ Rep g.K g.fa F'' μ' v x) ∧ (xs[i]? = none → J.stop i H')) (hl : all.length ≤ sizeLine)
    (fin : ∀ F' μ' H' acc', Ext F1 μ1 H1 F' μ' H' → Same F2 F' → (∃ t, μ' = μ2 ++ t) → Wok g.K g.fa F' μ' H' stE → F' D = none → D ∉ μ' → H' D = some (.lst acc') → Reps g.K g.fa F' μ' acc' all → Q H') :
    ∀ i k H, (k = xs.length - i ∧ ∃ F3 μ3 st3 acc3 pacc3 ys3, Ext F1 μ1 H1 F3 μ3 H ∧ Same F2 F3 ∧ (∃ t, μ3 = μ2 ++ t) ∧ Wok g.K g.fa F3 μ3 H st3 ∧ F3 D = none ∧ D ∉ μ3 ∧ H D = some (.lst acc3) ∧ i ≤ xs.length ∧ Reps g.K g.fa F3 μ3 acc3 pacc3 ∧ nGo t c n (wipeP ρ vs) (xs.drop i) st3 = .ok ys3 stE ∧ all = pacc3 ++ ys3) →
      (J.stop i H ∧ Q H) ∨ (J.go i H ∧ ∃ Nx : Hp → Prop, (∀ H', Nx H' → ∃ m', m' < k ∧ (m' = xs.length - (i + 1) ∧ ∃ F3 μ3 st3 acc3 pacc3 ys3, Ext F1 μ1 H1 F3 μ3 H' ∧ Same F2 F3 ∧ (∃ t, μ3 = μ2 ++ t) ∧ Wok g.K g.fa F3 μ3 H' st3 ∧ F3 D = none ∧ D ∉ μ3 ∧ H' D = some (.lst acc3) ∧ (i + 1) ≤ xs.length ∧ Reps g.K g.fa F3 μ3 acc3 pacc3 ∧ nGo t c n (wipeP ρ vs) (xs.drop (i + 1)) st3 = .ok ys3 stE ∧ all = pacc3 ++ ys3)) ∧
        ∀ x H', J.yld i H x H' → tG g vt t x (wipe σ vs) H' fun σ2 H2 => wipe σ2 vs = wipe σ vs ∧ tT g W0 c σ2 H2 fun b H3 => if b = true then tN g n D σ2 H3 Nx else Nx H3) := by
  rintro i k H ⟨rfl, F3, μ3, st3, acc3, pacc3, ys3, e3, sF, sM, w3, d1, d2, d3, hil, r3, g3, z3⟩
  obtain ⟨hgo, hstop⟩ := hJ F3 μ3 H st3 sF sM w3 i
  by_cases hlt : i < xs.length
  · have hx : xs[i]? = some xs[i] := List.getElem?_eq_getElem hlt
    obtain ⟨go, yld⟩ := hgo _ hx
    rw [List.drop_eq_getElem_cons hlt] at g3
    unfold nGo at g3
    cases qt : t xs[i] with
    | none => rw [qt] at g3; cases g3
    | some as =>
    rw [qt, Option.map_some] at g3
    simp only at g3
    generalize hρ : setP (wipeP ρ vs) as = ρ1 at g3
    obtain ⟨b, s4, g4, g5⟩ := Res.bind_ok g3
    refine .inr ⟨go, fun H' => ∃ F3 μ3 st3 acc3 pacc3 ys3, Ext F1 μ1 H1 F3 μ3 H' ∧ Same F2 F3 ∧ (∃ t, μ3 = μ2 ++ t) ∧ Wok g.K g.fa F3 μ3 H' st3 ∧ F3 D = none ∧ D ∉ μ3 ∧ H' D = some (.lst acc3) ∧ (i + 1) ≤ xs.length ∧ Reps g.K g.fa F3 μ3 acc3 pacc3 ∧ nGo t c n (wipeP ρ vs) (xs.drop (i + 1)) st3 = .ok ys3 stE ∧ all = pacc3 ++ ys3,
      fun H' h' => ⟨xs.length - (i + 1), by omega, rfl, h'⟩, fun v H4 y => ?_⟩
    obtain ⟨F4, e4, w4, rv⟩ := yld v H4 y
    obtain ⟨f1, f2, f3⟩ := e4.mine d1 d2 d3
    have en3 : Env g F3 μ3 H σ ρ := en.env e3 sF sM
    refine ⟨F4, μ3, st3, wipeP ρ vs, xs[i], as, w4, env_wipe (en3.mono e4) vs, rv, qt, fun σ4 o4 en4 => ⟨wipe_eq ((wipe_off σ vs).trans (o4.mono hv)), ?_⟩⟩
    have enB := (en.turn hv o4 en4)
    rw [hρ] at en4 enB
    refine ⟨F4, μ3, st3, ρ1, w4, en4, ?_⟩
    rw [g4]
    intro F5 μ5 H5 e5 w5
    obtain ⟨k1, k2, k3⟩ := e5.mine f1 f2 f3
    have sF5 : Same F2 F5 := (sF.trans e4.fs).trans e5.fs
    have sM5 : ∃ t, μ5 = μ2 ++ t := by
      obtain ⟨t1, h1⟩ := sM
      obtain ⟨t2, h2⟩ := e5.ms
      exact ⟨t1 ++ t2, by rw [h2, h1]; simp⟩
    cases b with
    | false =>
      rw [if_neg Bool.false_ne_true] at g5
      show if false = true then _ else _
      rw [if_neg Bool.false_ne_true]
      exact ⟨F5, μ5, s4, acc3, pacc3, ys3, (e3.trans e4).trans e5, sF5, sM5, w5, k1, k2, k3, by omega, Reps.ext e5 (Reps.ext e4 r3), g5, z3⟩
    | true =>
      rw [if_pos rfl] at g5
      obtain ⟨ys, s6, g6, g7⟩ := Res.bind_ok g5
      obtain ⟨zs, s7, g8, g9⟩ := Res.bind_ok g7
      cases g9
      show if true = true then _ else _
      rw [if_pos rfl]
      refine ⟨F1, μ1, H1, F5, μ5, s4, ρ1, acc3, pacc3, ys, s6, (e3.trans e4).trans e5, w5, enB.mono e5.fs e5.ms, b1, k1, k2, k3, Reps.ext e5 (Reps.ext e4 r3), g6, ?_, fun F' μ' H' acc' q1 q2 q3 q4 q5 q6 q7 q8 => ?_⟩
      · rw [z3] at hl
        simp only [List.length_append] at hl
        omega
      · refine ⟨F', μ', s6, acc', pacc3 ++ ys, zs, q1, sF5.trans q2, ?_, q4, q5, q6, q7, by omega, q8, g8, by rw [z3]; simp⟩
        obtain ⟨t1, h1⟩ := sM5
        obtain ⟨t2, h2⟩ := q3
        exact ⟨t1 ++ t2, by rw [h2, h1]; simp⟩
  · have hn : xs[i]? = none := List.getElem?_eq_none (by omega)
    rw [List.drop_eq_nil_of_le (by omega)] at g3
    unfold nGo at g3
    cases g3
    rw [List.append_nil] at z3
    subst z3
    exact .inl ⟨hstop hn, fin F3 μ3 H acc3 e3 sF sM w3 d1 d2 d3 r3⟩
theorem tNest_of {it : AM} {vs vt : List Nat} {t : GM} {c : BM} {n : AM} (hv : ∀ i ∈ vt, i ∈ vs) {D : Addr} {σ : L2.St} {H : Hp} {Q : Hp → Prop} (h : tN g (aNest it vs t c n) D σ H Q) : tNest (tI g W0 it) (tG g vt t) (tT g W0 c) (tN g n) vs D σ H Q := by
  obtain ⟨F1, μ1, H1, F, μ, st, ρ, acc, pacc, ys, st', e, w, en, b1, d1, d2, d3, r, hm, hl, k⟩ := h
  obtain ⟨xs, s1, m1, m2⟩ := Res.bind_ok hm
  refine ⟨F, μ, st, ρ, w, en.env e (Same.refl _) ⟨[], by simp⟩, ?_⟩
  rw [m1]
  intro F2 μ2 H2 e2 w2 J hJ
  obtain ⟨hxl, hJ⟩ := hJ
  obtain ⟨l1, l2, l3⟩ := e2.mine d1 d2 d3
  refine ⟨fun i k H => k = xs.length - i ∧ ∃ F3 μ3 st3 acc3 pacc3 ys3, Ext F1 μ1 H1 F3 μ3 H ∧ Same F2 F3 ∧ (∃ t, μ3 = μ2 ++ t) ∧ Wok g.K g.fa F3 μ3 H st3 ∧ F3 D = none ∧ D ∉ μ3 ∧ H D = some (.lst acc3) ∧ i ≤ xs.length ∧ Reps g.K g.fa F3 μ3 acc3 pacc3 ∧ nGo t c n (wipeP ρ vs) (xs.drop i) st3 = .ok ys3 st' ∧ pacc ++ ys = pacc3 ++ ys3, ?_, ?_⟩
  · exact ⟨_, rfl, F2, μ2, s1, acc, pacc, ys, e.trans e2, Same.refl _, ⟨[], by simp⟩, w2, l1, l2, l3, Nat.zero_le _, Reps.ext e2 r, m2, rfl⟩
  refine nest_turns (it := it) hv b1 (en.mono e2.fs e2.ms) hxl hJ (by rw [List.length_append]; exact hl) fun F' μ' H' acc' q1 q2 q3 q4 q5 q6 q7 q8 => k F' μ' H' acc' q1 (e2.fs.trans q2) ?_ q4 q5 q6 q7 q8
  obtain ⟨t1, h1⟩ := e2.ms
  obtain ⟨t2, h2⟩ := q3
  exact ⟨t1 ++ t2, by rw [h2, h1]; simp⟩
theorem tLcN_of {W : WX} {it : AM} {vs vt : List Nat} {t : GM} {c : BM} {n : AM} (hv : ∀ i ∈ vt, i ∈ vs) {σ : L2.St} {H : Hp} {Q : VK} (h : tL g W (aLcN it vs t c n) σ H Q) : tLcN (tI g W it) (tG g vt t) (tT g W0 c) (tN g n) vs σ H Q := by
  obtain ⟨F, μ, st, ρ, w, en, h⟩ := h
  refine ⟨F, μ, st, ρ, w, en, (Post.bind h).imp fun xs st1 F1 μ1 H1 e1 w1 h1 J hJ D hD => ?_⟩
  obtain ⟨hxl, hJ⟩ := hJ
  cases q : fits (nGo t c n (wipeP ρ vs) xs st1) with
  | bad => rw [q] at h1; exact h1.elim
  | exn cn fs s2 => cases q2 : nGo t c n (wipeP ρ vs) xs st1 <;> rw [q2] at q <;> unfold fits at q <;> simp only at q <;> (try split at q) <;> cases q
  | ok zs stE =>
  rw [q] at h1
  obtain ⟨q, hz⟩ := fits_ok q
  obtain ⟨e2, w2, q1, q2⟩ := w1.own hD (.lst [])
  refine ⟨fun i k H => k = xs.length - i ∧ ∃ F3 μ3 st3 acc3 pacc3 ys3, Ext F1 μ1 H1 F3 μ3 H ∧ Same F1 F3 ∧ (∃ t, μ3 = μ1 ++ t) ∧ Wok g.K g.fa F3 μ3 H st3 ∧ F3 D = none ∧ D ∉ μ3 ∧ H D = some (.lst acc3) ∧ i ≤ xs.length ∧ Reps g.K g.fa F3 μ3 acc3 pacc3 ∧ nGo t c n (wipeP ρ vs) (xs.drop i) st3 = .ok ys3 stE ∧ zs = pacc3 ++ ys3, ?_, ?_⟩
  · exact ⟨_, rfl, F1, μ1, st1, [], [], zs, e2, Same.refl _, ⟨[], by simp⟩, w2, q1, q2, upd_same, Nat.zero_le _, .nil, q, rfl⟩
  refine nest_turns (it := it) (Q := fun H => Q (.ref D) H) hv hD (en.mono e1).toB hxl hJ hz fun F' μ' H' acc' q1 q2 q3 q4 q5 q6 q7 q8 => ?_
  exact h1 F' μ' H' q1 q4 D acc' (e1.keep hD) q5 q6 q7 (by rw [q8.length]; exact hz) q8
end
section
variable {X : Cx} {g : Gx} {W : WX}
theorem pe_lcN {elt tg iter : Expr} {ifs : List Expr} {rest : List Comprehension} {scope : Scope} {own : List (Str × Nat)} {vs2 : List Nat} {pos : Pos} {wi : TI} {gt : TG} {tt : TT} {t2 : TN} {B : BodyT} (hc : X.calm = true) (hN : X.N.Nodup) (hi : PI X tg iter wi) (ok : BlkOk X.N X.env.scope scope own) (hv : ∀ i ∈ vs2, i ∈ own.map (·.2)) (hB : MonoB B)
    (lp : ∀ e, e = Expr.ListComp elt (⟨tg, iter, ifs, 0⟩ :: rest) scope pos → LoopAt X.prog X.w X.A e 0 tg ifs B)
    (hg : ∀ (s : Shared) (H : Hp) (C : Addr) (cl : List (Str × Addr)) (fp : List Addr), PG (X.blk s H scope (compEnvC scope cl C X.env) fp) tg gt) (ht : ∀ (s : Shared) (H : Hp) (C : Addr) (cl : List (Str × Addr)) (fp : List Addr), PTs (X.blk s H scope (compEnvC scope cl C X.env) fp) ifs tt)
    (hn3 : ∀ (s : Shared) (H : Hp) (C : Addr) (cl : List (Str × Addr)) (fp : List Addr), PN (X.blk s H scope (compEnvC scope cl C X.env) fp) vs2 B t2) (hs : ∀ x, foldedSetIterable iter X.env x = pure x) :
    PE X (.ListComp elt (⟨tg, iter, ifs, 0⟩ :: rest) scope pos) (tLcN wi gt tt t2 (own.map (·.2))) := ⟨fun pins s σ H Q I h => by
  rw [eval_ListComp]
  refine lcN_core hc hN I hi ok hv hB lp hg ht hn3 hs h fun D C s' m Hz Iz q hn fz => ⟨m, hn, fun hh sb => ?_⟩
  exact ⟨.ref D, Hz, Iz.turned (t' := s'.toks) (fun b o hb e => (sb.2 b hb).trans e) fz.1 fz.2.1 fz.2.2.2.1 fz.2.2.2.2.1 fz.2.2.2.2.2, rfl, q⟩⟩
theorem pn_mono {Y : Cx} {vs : List Nat} {B : BodyT} {t t' : TN} (h : PN Y vs B t) (i : ∀ D σ H Q, t' D σ H Q → t D σ H Q) : PN Y vs B t' := fun D pins s σ H Q I q => h D pins s σ H Q I (i _ _ _ _ q)
/-- two clauses -/
theorem sl_lc2 {elt tg iter tg1 iter1 : Expr} {ifs ifs1 : List Expr} {scope : Scope} {own : List (Str × Nat)} {v0 v1 : List Nat} {pos : Pos} {it it1 : AM} {t t1 : GM} {c c1 : BM} {m : EM} (hc : X.calm = true) (hN : X.N.Nodup) (hi : PI X tg iter (tI g W it)) (ok : BlkOk X.N X.env.scope scope own)
    (hv0 : ∀ i ∈ v0, i ∈ own.map (·.2)) (hv1 : ∀ i ∈ v1, i ∈ own.map (·.2))
    (hg : ∀ (s : Shared) (H : Hp) (C : Addr) (cl : List (Str × Addr)) (fp : List Addr), PG (X.blk s H scope (compEnvC scope cl C X.env) fp) tg (tG g v0 t) ∧ PTs (X.blk s H scope (compEnvC scope cl C X.env) fp) ifs (tT g W0 c) ∧
      PI (X.blk s H scope (compEnvC scope cl C X.env) fp) tg1 iter1 (tI g W0 it1) ∧ PG (X.blk s H scope (compEnvC scope cl C X.env) fp) tg1 (tG g v1 t1) ∧ PTs (X.blk s H scope (compEnvC scope cl C X.env) fp) ifs1 (tT g W0 c1) ∧
      PE (X.blk s H scope (compEnvC scope cl C X.env) fp) elt (tE g W0 m)) (hs : ∀ x, foldedSetIterable iter X.env x = pure x) (hs1 : ∀ env x, foldedSetIterable iter1 env x = pure x) :
    PE X (.ListComp elt [⟨tg, iter, ifs, 0⟩, ⟨tg1, iter1, ifs1, 0⟩] scope pos) (tL g W (aLcN it (own.map (·.2)) t c (aNest it1 v1 t1 c1 (aOne m)))) := by
  refine PE.mono (pe_lcN (vs2 := v1) (t2 := tN g (aNest it1 v1 t1 c1 (aOne m))) (B := fun env D => nestB X.prog X.w X.A env iter1 fun j => .compStart (.ListComp elt [⟨tg, iter, ifs, 0⟩, ⟨tg1, iter1, ifs1, 0⟩] scope pos) 1 j (.ref D) env) hc hN hi ok hv1 mono_nest ?_
    (fun s H C cl fp => (hg s H C cl fp).1) (fun s H C cl fp => (hg s H C cl fp).2.1) ?_ hs) fun _ _ _ h => tLcN_of hv0 h
  · intro e he env D j R s I turn n h
    subst he
    exact loop_out rfl (turn2_0 ..) (hs1 env) I turn n h
  · intro s H C cl fp
    obtain ⟨h1, h2, h3, h4, h5, h6⟩ := hg s H C cl fp
    refine pn_mono (pn_nest (B := fun env D => emitB X.prog X.w X.A env elt (.ref D)) (vs2 := []) rfl hc rfl (fun env D j => start2_1 ..) ?_ mono_emit h3 h4 h5 (pn_mono (pn_emit rfl h6) fun D σ H Q h => tEmit_of h) (by simp)) fun D σ H Q h => tNest_of (fun i hi => hi) h
    intro env D j R s I turn n h
    exact loop_in rfl (turn2_1 ..) I turn n h
/-- three clauses -/
theorem sl_lc3 {elt tg iter tg1 iter1 tg2 iter2 : Expr} {ifs ifs1 ifs2 : List Expr} {scope : Scope} {own : List (Str × Nat)} {v0 v1 w1 v2 : List Nat} {pos : Pos} {it it1 it2 : AM} {t t1 t2 : GM} {c c1 c2 : BM} {m : EM} (hc : X.calm = true) (hN : X.N.Nodup) (hi : PI X tg iter (tI g W it)) (ok : BlkOk X.N X.env.scope scope own)
    (hv0 : ∀ i ∈ v0, i ∈ own.map (·.2)) (hv1 : ∀ i ∈ v1, i ∈ own.map (·.2)) (hw1 : ∀ i ∈ w1, i ∈ v1) (hv2 : ∀ i ∈ v2, i ∈ v1)
    (hg : ∀ (s : Shared) (H : Hp) (C : Addr) (cl : List (Str × Addr)) (fp : List Addr), PG (X.blk s H scope (compEnvC scope cl C X.env) fp) tg (tG g v0 t) ∧ PTs (X.blk s H scope (compEnvC scope cl C X.env) fp) ifs (tT g W0 c) ∧
      PI (X.blk s H scope (compEnvC scope cl C X.env) fp) tg1 iter1 (tI g W0 it1) ∧ PG (X.blk s H scope (compEnvC scope cl C X.env) fp) tg1 (tG g w1 t1) ∧ PTs (X.blk s H scope (compEnvC scope cl C X.env) fp) ifs1 (tT g W0 c1) ∧
      PI (X.blk s H scope (compEnvC scope cl C X.env) fp) tg2 iter2 (tI g W0 it2) ∧ PG (X.blk s H scope (compEnvC scope cl C X.env) fp) tg2 (tG g v2 t2) ∧ PTs (X.blk s H scope (compEnvC scope cl C X.env) fp) ifs2 (tT g W0 c2) ∧
      PE (X.blk s H scope (compEnvC scope cl C X.env) fp) elt (tE g W0 m)) (hs : ∀ x, foldedSetIterable iter X.env x = pure x) (hs1 : ∀ env x, foldedSetIterable iter1 env x = pure x) (hs2 : ∀ env x, foldedSetIterable iter2 env x = pure x) :
    PE X (.ListComp elt [⟨tg, iter, ifs, 0⟩, ⟨tg1, iter1, ifs1, 0⟩, ⟨tg2, iter2, ifs2, 0⟩] scope pos) (tL g W (aLcN it (own.map (·.2)) t c (aNest it1 v1 t1 c1 (aNest it2 v2 t2 c2 (aOne m))))) := by
  refine PE.mono (pe_lcN (vs2 := v1) (t2 := tN g (aNest it1 v1 t1 c1 (aNest it2 v2 t2 c2 (aOne m)))) (B := fun env D => nestB X.prog X.w X.A env iter1 fun j => .compStart (.ListComp elt [⟨tg, iter, ifs, 0⟩, ⟨tg1, iter1, ifs1, 0⟩, ⟨tg2, iter2, ifs2, 0⟩] scope pos) 1 j (.ref D) env) hc hN hi ok hv1 mono_nest ?_
    (fun s H C cl fp => (hg s H C cl fp).1) (fun s H C cl fp => (hg s H C cl fp).2.1) ?_ hs) fun _ _ _ h => tLcN_of hv0 h
  · intro e he env D j R s I turn n h
    subst he
    exact loop_out rfl (turn3_0 ..) (hs1 env) I turn n h
  · intro s H C cl fp
    obtain ⟨h1, h2, h3, h4, h5, h6, h7, h8, h9⟩ := hg s H C cl fp
    refine pn_mono (pn_nest (B := fun env D => nestB X.prog X.w X.A env iter2 fun j => .compStart (.ListComp elt [⟨tg, iter, ifs, 0⟩, ⟨tg1, iter1, ifs1, 0⟩, ⟨tg2, iter2, ifs2, 0⟩] scope pos) 2 j (.ref D) env) (vs2 := v2) rfl hc rfl (fun env D j => start3_1 ..) ?_ mono_nest h3 h4 h5
      (pn_mono (pn_nest (B := fun env D => emitB X.prog X.w X.A env elt (.ref D)) (vs2 := []) rfl hc rfl (fun env D j => start3_2 ..) ?_ mono_emit h6 h7 h8 (pn_mono (pn_emit rfl h9) fun D σ H Q h => tEmit_of h) (by simp)) fun D σ H Q h => tNest_of (fun i hi => hi) h) hv2) fun D σ H Q h => tNest_of hw1 h
    · intro env D j R s I turn n h
      exact loop_out rfl (turn3_1 ..) (hs2 env) I turn n h
    · intro env D j R s I turn n h
      exact loop_in rfl (turn3_2 ..) I turn n h
end
end BK

/-! BkH: statements -/
namespace BK
open PySem PySem.Spec PyProof.Rows L2 RZ

def Slot.r : Slot → Slot
  | .own b => .val b.pv
  | s => s
def viewH (ρ : SEnv) : PEnv := ρ
def viewR (ρ : SEnv) : PEnv := ρ.map Slot.r
inductive SR where
  | nx (ρ : SEnv) (st : Sto)
  | ret (x : PV) (st : Sto)
  | brk (ρ : SEnv) (st : Sto)
  | ct (ρ : SEnv) (st : Sto)
  | exn (c : Nat) (fs : List PV) (st : Sto)
  | bad
abbrev SM := SEnv → Sto → SR
def SR.of {α : Type} (r : Res α) (k : α → Sto → SR) : SR := match r with
  | .ok a st => k a st
  | .exn c fs st => .exn c fs st
  | .bad => .bad
structure SEnvOk (g : Gx) (H0 F : Hp) (μ : List Addr) (H : Hp) (σ : L2.St) (ρ : SEnv) : Prop where
  len : σ.length = ρ.length
  val : ∀ (i : Nat) (x : PV), ρ[i]? = some (.val x) → ∃ v, σ[i]? = some (some v) ∧ Rep g.K g.fa F μ v x
  own : ∀ (i : Nat) (b : Ob), ρ[i]? = some (.own b) → ∃ (a : Addr) (o : HO), σ[i]? = some (some (.ref a)) ∧ H0 a = none ∧ F a = none ∧ a ∉ μ ∧ H a = some o ∧ ObRep g F μ o b
  dis : ∀ (i j : Nat) (a : Addr) (xs ys : Ob), ρ[i]? = some (.own xs) → ρ[j]? = some (.own ys) → σ[i]? = some (some (.ref a)) → σ[j]? = some (some (.ref a)) → i = j
/-- a state within a def's body: entered at F0 μ0 H0; B stays frozen -/
structure SOk (g : Gx) (F0 : Hp) (μ0 : List Addr) (H0 : Hp) (B : Hp × List Addr) (F : Hp) (μ : List Addr) (H : Hp) (σ : L2.St) (ρ : SEnv) (st : Sto) : Prop where
  w : Wok g.K g.fa F μ H st
  e : Ext F0 μ0 H0 F μ H
  b : Same B.1 F ∧ ∃ t, μ = B.2 ++ t
  en : SEnvOk g H0 F μ H σ ρ
def SPost (g : Gx) (W : WX) (fr : Bool) (F0 : Hp) (μ0 : List Addr) (H0 : Hp) (B : Hp × List Addr) (r : SR) (D : Ends) : Prop := match r with
  | .nx ρ st => ∀ σ' F' μ' H', SOk g F0 μ0 H0 B F' μ' H' σ' ρ st → D.nx σ' H'
  | .brk ρ st => ∀ σ' F' μ' H', SOk g F0 μ0 H0 B F' μ' H' σ' ρ st → D.bk σ' H'
  | .ct ρ st => ∀ σ' F' μ' H', SOk g F0 μ0 H0 B F' μ' H' σ' ρ st → D.ct σ' H'
  | .ret x st => ∀ v F' μ' H', Wok g.K g.fa F' μ' H' st → Ext F0 μ0 H0 F' μ' H' → RepR g fr H0 F' μ' H' v x → D.rt v H'
  | .exn c fs st => ∀ cls d σ' F' μ' H', Wok g.K g.fa F' μ' H' st → Ext F0 μ0 H0 F' μ' H' → XRep g F' μ' H' c fs cls d → W cls d σ' H'
  | .bad => False
def tS (g : Gx) (W : WX) (fr : Bool) (m : SM) : TS := fun D σ H => ∃ F0 μ0 H0 B F μ ρ st, SOk g F0 μ0 H0 B F μ H σ ρ st ∧ SPost g W fr F0 μ0 H0 B (m ρ st) D
section
variable {X : Cx} {s : Stmt} {ss : List Stmt}
theorem PS.mono {t t' : TS} (h : PS X s t) (i : ∀ D σ H, t' D σ H → t D σ H) : PS X s t' := ⟨fun pins s σ H D I q => h.run pins s σ H D I (i _ _ _ q)⟩
theorem PSs.mono {t t' : TS} (h : PSs X ss t) (i : ∀ D σ H, t' D σ H → t D σ H) : PSs X ss t' := ⟨fun pins s σ H D I q => h.run pins s σ H D I (i _ _ _ q)⟩
end
section
variable {g : Gx} {F0 : Hp} {μ0 : List Addr} {H0 F F' : Hp} {B : Hp × List Addr} {μ μ' : List Addr} {H H' : Hp} {σ : L2.St} {ρ : SEnv} {st st' : Sto}
theorem SOk.ext (o : SOk g F0 μ0 H0 B F μ H σ ρ st) (e : Ext F μ H F' μ' H') (w : Wok g.K g.fa F' μ' H' st') : SOk g F0 μ0 H0 B F' μ' H' σ ρ st' where
  w := w
  e := o.e.trans e
  b := ⟨o.b.1.trans e.fs, by
    obtain ⟨t, h⟩ := o.b.2
    obtain ⟨u, k⟩ := e.ms
    exact ⟨t ++ u, by rw [k, h]; simp⟩⟩
  en := ⟨o.en.len, fun i x h => let ⟨v, h1, h2⟩ := o.en.val i x h; ⟨v, h1, Rep.ext e h2⟩, fun i xs h => by
    obtain ⟨a, u, h1, h2, h3, h4, h5, h6⟩ := o.en.own i xs h
    obtain ⟨k1, k2, k3⟩ := e.mine h3 h4 h5
    exact ⟨a, u, h1, h2, k1, k2, k3, h6.mono e.fs e.ms⟩, o.en.dis⟩
theorem viewR_get {i : Nat} {x : PV} (h : (viewR ρ)[i]? = some (.val x)) : ρ[i]? = some (.val x) ∨ ∃ b, ρ[i]? = some (.own b) ∧ x = b.pv := by
  unfold viewR at h
  rw [List.getElem?_map, Option.map_eq_some_iff] at h
  obtain ⟨s, h1, h2⟩ := h
  cases s <;> simp [Slot.r] at h2
  · exact .inl (by rw [h1, h2])
  · exact .inr ⟨_, h1, h2.symm⟩
theorem viewR_own {i : Nat} {b : Ob} (h : (viewR ρ)[i]? = some (.own b)) : False := by
  unfold viewR at h
  rw [List.getElem?_map, Option.map_eq_some_iff] at h
  obtain ⟨s, h1, h2⟩ := h
  cases s <;> simp [Slot.r] at h2
theorem SEnvOk.viewH (o : SEnvOk g H0 F μ H σ ρ) : Env g F μ H σ (viewH ρ) := ⟨o.len, o.val, fun i b h =>
  let ⟨a, u, h1, _, h3, h4, h5, h6⟩ := o.own i b h
  ⟨a, u, h1, h3, h4, h5, h6⟩⟩
/-- a slot is set to a value -/
theorem SOk.set (o : SOk g F0 μ0 H0 B F μ H σ ρ st) {i : Nat} {v : V} {x : PV} (r : Rep g.K g.fa F μ v x) : SOk g F0 μ0 H0 B F μ H (σ.set i (some v)) (ρ.set i (.val x)) st where
  w := o.w
  e := o.e
  b := o.b
  en := by
    have hl := o.en.len
    refine ⟨by simpa using hl, fun j y h => ?_, fun j xs h => ?_, fun j k a xs ys h1 h2 h3 h4 => ?_⟩
    · by_cases e : i = j
      · subst e
        by_cases hi : i < ρ.length
        · rw [List.getElem?_set_self hi] at h
          cases h
          exact ⟨v, by rw [List.getElem?_set_self (by omega)], r⟩
        · rw [List.getElem?_eq_none (by simpa using hi)] at h
          cases h
      · rw [List.getElem?_set_ne e] at h ⊢
        exact o.en.val j y h
    · by_cases e : i = j
      · subst e
        by_cases hi : i < ρ.length
        · rw [List.getElem?_set_self hi] at h
          cases h
        · rw [List.getElem?_eq_none (by simpa using hi)] at h
          cases h
      · rw [List.getElem?_set_ne e] at h ⊢
        exact o.en.own j xs h
    · have ne : ∀ {m : Nat} {zs : Ob}, (ρ.set i (.val x))[m]? = some (.own zs) → i ≠ m := fun {m zs} h e => by
        subst e
        by_cases hi : i < ρ.length
        · rw [List.getElem?_set_self hi] at h
          cases h
        · rw [List.getElem?_eq_none (by simpa using hi)] at h
          cases h
      have e1 := ne h1
      have e2 := ne h2
      rw [List.getElem?_set_ne e1] at h1 h3
      rw [List.getElem?_set_ne e2] at h2 h4
      exact o.en.dis j k a xs ys h1 h2 h3 h4
/-- a slot gets a new list that nobody else has -/
theorem SOk.setOwn (o : SOk g F0 μ0 H0 B F μ H σ ρ st) {i : Nat} {a : Addr} {u : HO} {xs : Ob} (h0 : H0 a = none) (hF : F a = none) (hm : a ∉ μ) (hH : H a = some u) (r : ObRep g F μ u xs)
    (hd : ∀ j ys, ρ[j]? = some (.own ys) → j ≠ i → σ[j]? ≠ some (some (.ref a))) : SOk g F0 μ0 H0 B F μ H (σ.set i (some (.ref a))) (ρ.set i (.own xs)) st where
  w := o.w
  e := o.e
  b := o.b
  en := by
    have hl' := o.en.len
    have at_i : ∀ {m : Nat} {s : Slot}, (ρ.set i (.own xs))[m]? = some s → (m = i ∧ i < ρ.length ∧ s = .own xs) ∨ (i ≠ m ∧ ρ[m]? = some s) := fun {m s} h => by
      by_cases e : i = m
      · subst e
        by_cases hi : i < ρ.length
        · rw [List.getElem?_set_self hi] at h
          cases h
          exact .inl ⟨rfl, hi, rfl⟩
        · rw [List.getElem?_eq_none (by simpa using hi)] at h
          cases h
      · rw [List.getElem?_set_ne e] at h
        exact .inr ⟨e, h⟩
    refine ⟨by simpa using hl', fun j y h => ?_, fun j ys h => ?_, fun j k b ys zs h1 h2 h3 h4 => ?_⟩
    · rcases at_i h with ⟨_, _, z⟩ | ⟨e, h⟩
      · cases z
      · rw [List.getElem?_set_ne e]
        exact o.en.val j y h
    · rcases at_i h with ⟨e, hi, z⟩ | ⟨e, h⟩
      · subst e
        cases z
        exact ⟨a, u, by rw [List.getElem?_set_self (by omega)], h0, hF, hm, hH, r⟩
      · rw [List.getElem?_set_ne e]
        exact o.en.own j ys h
    · rcases at_i h1 with ⟨e1, hi, z1⟩ | ⟨e1, y1⟩ <;> rcases at_i h2 with ⟨e2, hi2, z2⟩ | ⟨e2, y2⟩
      · rw [e1, e2]
      · subst e1
        rw [List.getElem?_set_self (by omega)] at h3
        rw [List.getElem?_set_ne e2] at h4
        cases h3
        exact absurd h4 (hd k zs y2 (Ne.symm e2))
      · subst e2
        rw [List.getElem?_set_self (by omega)] at h4
        rw [List.getElem?_set_ne e1] at h3
        cases h4
        exact absurd h3 (hd j ys y1 (Ne.symm e1))
      · rw [List.getElem?_set_ne e1] at h3
        rw [List.getElem?_set_ne e2] at h4
        exact o.en.dis j k b ys zs y1 y2 h3 h4
/-- a slot's own list is written -/
theorem SOk.write (o : SOk g F0 μ0 H0 B F μ H σ ρ st) {i : Nat} {a : Addr} {xs ys : Ob} {u : HO} (hi : ρ[i]? = some (.own xs)) (ha : σ[i]? = some (some (.ref a))) (r : ObRep g F μ u ys) :
    SOk g F0 μ0 H0 B F μ (upd H a u) σ (ρ.set i (.own ys)) st := by
  obtain ⟨a', u', h1, h2, h3, h4, h5, h6⟩ := o.en.own i xs hi
  rw [ha] at h1
  cases h1
  have hil : i < ρ.length := (List.getElem?_eq_some_iff.mp hi).1
  have at_i : ∀ {m : Nat} {s : Slot}, (ρ.set i (.own ys))[m]? = some s → (m = i ∧ s = .own ys) ∨ (i ≠ m ∧ ρ[m]? = some s) := fun {m s} h => by
    by_cases e : i = m
    · subst e
      rw [List.getElem?_set_self hil] at h
      cases h
      exact .inl ⟨rfl, rfl⟩
    · rw [List.getElem?_set_ne e] at h
      exact .inr ⟨e, h⟩
  refine ⟨o.w.put _ h3 h4, o.e.put _ h2, o.b, by simpa using o.en.len, fun j y h => ?_, fun j zs h => ?_, fun j k b zs qs k1 k2 k3 k4 => ?_⟩
  · rcases at_i h with ⟨_, z⟩ | ⟨e, h⟩
    · cases z
    · exact o.en.val j y h
  · rcases at_i h with ⟨e, z⟩ | ⟨e, h⟩
    · subst e
      cases z
      exact ⟨a, u, ha, h2, h3, h4, upd_same, r⟩
    · obtain ⟨b, ws, q1, q2, q3, q4, q5, q6⟩ := o.en.own j zs h
      have ne : b ≠ a := fun z => by
        subst z
        exact e (o.en.dis i j b xs zs hi h ha q1)
      exact ⟨b, ws, q1, q2, q3, q4, by rw [upd_ne ne]; exact q5, q6⟩
  · rcases at_i k1 with ⟨e1, z1⟩ | ⟨e1, y1⟩ <;> rcases at_i k2 with ⟨e2, z2⟩ | ⟨e2, y2⟩
    · rw [e1, e2]
    · subst e1
      exact o.en.dis _ k b xs qs hi y2 k3 k4
    · subst e2
      exact o.en.dis j _ b zs xs y1 hi k3 k4
    · exact o.en.dis j k b zs qs y1 y2 k3 k4
open Classical in
/-- all own lists frozen -/
noncomputable def plus (F H : Hp) (σ : L2.St) (ρ : SEnv) : Hp := fun b => if (∃ (i : Nat) (xs : Ob), ρ[i]? = some (.own xs) ∧ σ[i]? = some (some (.ref b))) then H b else F b
theorem plus_cases (F H : Hp) (σ : L2.St) (ρ : SEnv) (b : Addr) : ((∃ (i : Nat) (xs : Ob), ρ[i]? = some (.own xs) ∧ σ[i]? = some (some (.ref b))) ∧ plus F H σ ρ b = H b) ∨ (¬ (∃ (i : Nat) (xs : Ob), ρ[i]? = some (.own xs) ∧ σ[i]? = some (some (.ref b))) ∧ plus F H σ ρ b = F b) := by
  unfold plus
  by_cases h : ∃ (i : Nat) (xs : Ob), ρ[i]? = some (.own xs) ∧ σ[i]? = some (some (.ref b))
  · exact .inl ⟨h, by rw [if_pos h]⟩
  · exact .inr ⟨h, by rw [if_neg h]⟩
theorem plus_same (o : SEnvOk g H0 F μ H σ ρ) : Same F (plus F H σ ρ) := fun b u h => by
  rcases plus_cases F H σ ρ b with ⟨⟨i, xs, h1, h2⟩, e⟩ | ⟨_, e⟩
  · obtain ⟨a, vs, k1, k2, k3, _⟩ := o.own i xs h1
    rw [h2] at k1
    cases k1
    rw [k3] at h
    cases h
  · rw [e]; exact h
theorem SOk.freeze (o : SOk g F0 μ0 H0 B F μ H σ ρ st) : Wok g.K g.fa (plus F H σ ρ) μ H st ∧ Ext F0 μ0 H0 (plus F H σ ρ) μ H ∧ Env g (plus F H σ ρ) μ H σ (viewR ρ) := by
  have sP := plus_same o.en
  refine ⟨⟨fun b u h => ?_, o.w.len, o.w.nd, fun a m => ?_, fun n a hn => ?_⟩, ⟨o.e.fs.trans sP, o.e.ms, o.e.hs, o.e.hm, fun a h k => ?_, o.e.mn⟩, by rw [o.en.len]; simp [viewR], fun i x h => ?_, fun i b h => (viewR_own h).elim⟩
  · rcases plus_cases F H σ ρ b with ⟨_, e⟩ | ⟨_, e⟩
    · rw [e] at h; exact h
    · rw [e] at h; exact o.w.sub b u h
  · rcases plus_cases F H σ ρ a with ⟨⟨i, xs, h1, h2⟩, e⟩ | ⟨_, e⟩
    · obtain ⟨b, vs, k1, k2, k3, k4, _⟩ := o.en.own i xs h1
      rw [h2] at k1
      cases k1
      exact absurd m k4
    · rw [e]; exact o.w.off a m
  · obtain ⟨xs, vs, h1, h2, h3⟩ := o.w.obj n a hn
    exact ⟨xs, vs, h1, h2, h3.mono sP ⟨[], by simp⟩⟩
  · rcases plus_cases F H σ ρ a with ⟨⟨i, xs, h1, h2⟩, e⟩ | ⟨_, e⟩
    · obtain ⟨b, vs, k1, k2, _⟩ := o.en.own i xs h1
      rw [h2] at k1
      cases k1
      exact k2
    · rw [e] at k
      exact o.e.fn a h k
  · rcases viewR_get h with y | ⟨xs, y, rfl⟩
    · obtain ⟨v, h1, h2⟩ := o.en.val i x y
      exact ⟨v, h1, Rep.mono sP ⟨[], by simp⟩ _ _ h2⟩
    · obtain ⟨a, u, k1, k2, k3, k4, k5, k6⟩ := o.en.own i xs y
      refine ⟨_, k1, (k6.mono sP ⟨[], by simp⟩).rep ?_⟩
      rcases plus_cases F H σ ρ a with ⟨_, e⟩ | ⟨n, _⟩
      · rw [e]; exact k5
      · exact absurd ⟨i, xs, y, k1⟩ n
/-- one own list is frozen for good -/
theorem SOk.frz (o : SOk g F0 μ0 H0 B F μ H σ ρ st) {i : Nat} {xs : Ob} (hi : ρ[i]? = some (.own xs)) : ∃ F', SOk g F0 μ0 H0 B F' μ H σ (ρ.set i (.val xs.pv)) st := by
  obtain ⟨a, u, h1, h2, h3, h4, h5, h6⟩ := o.en.own i xs hi
  obtain ⟨e, w, q, sF⟩ := Wok.freeze o.e o.w h2 h3 h4 h5
  have hil : i < ρ.length := (List.getElem?_eq_some_iff.mp hi).1
  have at_i : ∀ {m : Nat} {s : Slot}, (ρ.set i (.val xs.pv))[m]? = some s → (m = i ∧ s = .val xs.pv) ∨ (i ≠ m ∧ ρ[m]? = some s) := fun {m s} h => by
    by_cases e : i = m
    · subst e
      rw [List.getElem?_set_self hil] at h
      cases h
      exact .inl ⟨rfl, rfl⟩
    · rw [List.getElem?_set_ne e] at h
      exact .inr ⟨e, h⟩
  refine ⟨_, w, e, ⟨o.b.1.trans sF, o.b.2⟩, by simpa using o.en.len, fun j y h => ?_, fun j zs h => ?_, fun j k b zs qs k1 k2 k3 k4 => ?_⟩
  · rcases at_i h with ⟨e, z⟩ | ⟨e, h⟩
    · subst e
      cases z
      exact ⟨_, h1, (h6.mono sF ⟨[], by simp⟩).rep q⟩
    · obtain ⟨v, k1, k2⟩ := o.en.val j y h
      exact ⟨v, k1, Rep.mono sF ⟨[], by simp⟩ _ _ k2⟩
  · rcases at_i h with ⟨_, z⟩ | ⟨ne0, y⟩
    · cases z
    · obtain ⟨b, ws, q1, q2, q3, q4, q5, q6⟩ := o.en.own j zs y
      have ne : b ≠ a := fun z => by
        subst z
        exact ne0 (o.en.dis i j b xs zs hi y h1 q1)
      exact ⟨b, ws, q1, q2, by rw [upd_ne ne]; exact q3, q4, q5, q6.mono sF ⟨[], by simp⟩⟩
  · rcases at_i k1 with ⟨e1, z1⟩ | ⟨e1, y1⟩
    · cases z1
    · rcases at_i k2 with ⟨e2, z2⟩ | ⟨e2, y2⟩
      · cases z2
      · exact o.en.dis j k b zs qs y1 y2 k3 k4
end
end BK

/-! BkI: rules for statements -/
namespace BK
open PySem PySem.Spec PyProof.Rows L2 RZ

def setS (ρ : SEnv) : List (Nat × PV) → SEnv
  | [] => ρ
  | (i, x) :: r => setS (ρ.set i (.val x)) r
theorem viewH_setS : ∀ (as : List (Nat × PV)) (ρ : SEnv), viewH (setS ρ as) = setP (viewH ρ) as
  | [], _ => rfl
  | (i, x) :: r, ρ => viewH_setS r (ρ.set i (.val x))
theorem setS_own : ∀ (as : List (Nat × PV)) (ρ : SEnv) {j : Nat} {xs : Ob}, (setS ρ as)[j]? = some (.own xs) → ρ[j]? = some (.own xs) ∧ j ∉ as.map (·.1)
  | [], _, _, _, h => ⟨h, by simp⟩
  | (i, x) :: r, ρ, j, xs, h => by
    simp only [setS] at h
    obtain ⟨h1, h2⟩ := setS_own r _ h
    by_cases e : i = j
    · subst e
      by_cases hi : i < ρ.length
      · rw [List.getElem?_set_self hi] at h1
        cases h1
      · rw [List.getElem?_eq_none (by simpa using hi)] at h1
        cases h1
    · rw [List.getElem?_set_ne e] at h1
      exact ⟨h1, by simp only [List.map_cons, List.mem_cons, not_or]; exact ⟨fun z => e z.symm, h2⟩⟩
theorem setS_length : ∀ (as : List (Nat × PV)) (ρ : SEnv), (setS ρ as).length = ρ.length
  | [], _ => rfl
  | (i, x) :: r, ρ => by simp only [setS, setS_length r, List.length_set]
/-- what a target's slots are -/
def Keys (t : GM) (vs : List Nat) : Prop := ∀ x as, t x = some as → as.map (·.1) = vs
section
variable {g : Gx} {F0 : Hp} {μ0 : List Addr} {H0 F : Hp} {B B' : Hp × List Addr} {μ : List Addr} {H : Hp} {σ σ' : L2.St} {ρ : SEnv} {st : Sto}
theorem SOk.assign (o : SOk g F0 μ0 H0 B F μ H σ ρ st) {as : List (Nat × PV)} {vs : List Nat} (off : Off vs σ σ') (en : Env g F μ H σ' (setP (viewH ρ) as)) (hk : as.map (·.1) = vs) : SOk g F0 μ0 H0 B F μ H σ' (setS ρ as) st where
  w := o.w
  e := o.e
  b := o.b
  en := by
    rw [← viewH_setS] at en
    refine ⟨by rw [off.1, o.en.len, setS_length], fun i x h => en.val i x h, fun i xs h => ?_, fun i j a xs ys h1 h2 h3 h4 => ?_⟩
    · obtain ⟨k1, k2⟩ := setS_own as ρ h
      obtain ⟨a, us, q1, q⟩ := o.en.own i xs k1
      exact ⟨a, us, by rw [off.2 i (by rw [← hk]; exact k2)]; exact q1, q⟩
    · obtain ⟨k1, k2⟩ := setS_own as ρ h1
      obtain ⟨m1, m2⟩ := setS_own as ρ h2
      rw [off.2 i (by rw [← hk]; exact k2)] at h3
      rw [off.2 j (by rw [← hk]; exact m2)] at h4
      exact o.en.dis i j a xs ys k1 m1 h3 h4
theorem SOk.base (o : SOk g F0 μ0 H0 B' F μ H σ ρ st) (h : Same B.1 B'.1 ∧ ∃ t, B'.2 = B.2 ++ t) : SOk g F0 μ0 H0 B F μ H σ ρ st := ⟨o.w, o.e, ⟨h.1.trans o.b.1, by
  obtain ⟨t, h⟩ := h.2
  obtain ⟨u, k⟩ := o.b.2
  exact ⟨t ++ u, by rw [k, h]; simp⟩⟩, o.en⟩
theorem SOk.now (o : SOk g F0 μ0 H0 B F μ H σ ρ st) : SOk g F0 μ0 H0 (F, μ) F μ H σ ρ st := ⟨o.w, o.e, ⟨Same.refl _, [], by simp⟩, o.en⟩
end
/-- the step from an expression's result to a statement's -/
theorem SPost.of {g : Gx} {W : WX} {fr : Bool} {F0 : Hp} {μ0 : List Addr} {H0 F : Hp} {B : Hp × List Addr} {μ : List Addr} {H : Hp} {σ : L2.St} {ρ : SEnv} {st : Sto} {D : Ends} {α : Type} {r : Res α} {k : α → Sto → SR} (o : SOk g F0 μ0 H0 B F μ H σ ρ st) (h : SPost g W fr F0 μ0 H0 B (SR.of r k) D) :
    Post g F μ H W σ r fun a st' F' μ' H' => SOk g F0 μ0 H0 B F' μ' H' σ ρ st' ∧ SPost g W fr F0 μ0 H0 B (k a st') D := by
  cases r with
  | ok a st' => exact fun F' μ' H' e w => ⟨o.ext e w, h⟩
  | exn c fs st' => exact fun F' μ' H' cls d e w x => h cls d σ F' μ' H' w (o.e.trans e) x
  | bad => exact h

def sNil : SM := fun ρ st => .nx ρ st
def sSeq (a b : SM) : SM := fun ρ st => match a ρ st with
  | .nx ρ1 st1 => b ρ1 st1
  | r => r
def sBrk : SM := fun ρ st => .brk ρ st
def sCt : SM := fun ρ st => .ct ρ st
def sIf (c : BM) (a b : SM) : SM := fun ρ st => SR.of (c (viewH ρ) st) fun d st1 => if d = true then a ρ st1 else b ρ st1
def sSet (i : Nat) (m : EM) : SM := fun ρ st => SR.of (m (viewH ρ) st) fun x st1 => .nx (ρ.set i (.val x)) st1
def sOwn (i : Nat) (n : AM) : SM := fun ρ st => SR.of (n (viewH ρ) st) fun xs st1 => .nx (ρ.set i (.own (.lst xs))) st1
def sAsg (t : GM) (m : EM) : SM := fun ρ st => SR.of (m (viewH ρ) st) fun x st1 => match t x with
  | some as => .nx (setS ρ as) st1
  | none => .bad
def sDrop (m : EM) : SM := fun ρ st => SR.of (m (viewH ρ) st) fun _ st1 => .nx ρ st1
def sRet (m : EM) : SM := fun ρ st => SR.of (m (viewR ρ) st) fun x st1 => .ret x st1
def sRetN : SM := fun _ st => .ret .non st
def sRetL (n : AM) : SM := fun ρ st => SR.of (n (viewR ρ) st) fun xs st1 => .ret (.lst xs) st1
def sRetOwn (i : Nat) : SM := fun ρ st => match ρ[i]? with
  | some (.own (.lst xs)) => .ret (.lst xs) st
  | _ => .bad
def sApp (i : Nat) (m : EM) : SM := fun ρ st => match ρ[i]? with
  | some (.own (.lst _)) => SR.of (m (viewH ρ) st) fun x st1 => match ρ[i]? with
    | some (.own (.lst xs)) => if xs.length < sizeLine then .nx (ρ.set i (.own (.lst (xs ++ [x])))) st1 else .bad
    | _ => .bad
  | _ => .bad
def sExt (i : Nat) (m : EM) : SM := fun ρ st => match ρ[i]? with
  | some (.own (.lst xs)) => SR.of (m (viewH ρ) st) fun x st1 => match x with
    | .lst ys => if xs.length + ys.length ≤ sizeLine then .nx (ρ.set i (.own (.lst (xs ++ ys)))) st1 else .bad
    | _ => .bad
  | _ => .bad
def sPop (i : Nat) (t : GM) : SM := fun ρ st => match ρ[i]? with
  | some (.own (.lst xs)) => match xs[xs.length - 1]? with
    | some x => match t x with
      | some as => .nx (setS (ρ.set i (.own (.lst xs.dropLast))) as) st
      | none => .bad
    | none => .bad
  | _ => .bad
def sFrz (i : Nat) : SM := fun ρ st => match ρ[i]? with
  | some (.own b) => .nx (ρ.set i (.val b.pv)) st
  | _ => .nx ρ st
def forGo (t : GM) (body : SM) : List PV → SEnv → Sto → SR
  | [], ρ, st => .nx ρ st
  | x :: xs, ρ, st => match t x with
    | none => .bad
    | some as => match body (setS ρ as) st with
      | .nx ρ1 st1 => forGo t body xs ρ1 st1
      | .ct ρ1 st1 => forGo t body xs ρ1 st1
      | .brk ρ1 st1 => .nx ρ1 st1
      | r => r
def sFor (t : GM) (it : AM) (body : SM) : SM := fun ρ st => SR.of (it (viewH ρ) st) fun xs st1 => forGo t body xs ρ st1
def whileGo (c : BM) (body : SM) : Nat → SEnv → Sto → SR
  | 0, _, _ => .bad
  | n + 1, ρ, st => SR.of (c (viewH ρ) st) fun b st1 => if b = true then match body ρ st1 with
      | .nx ρ1 st2 => whileGo c body n ρ1 st2
      | .ct ρ1 st2 => whileGo c body n ρ1 st2
      | .brk ρ1 st2 => .nx ρ1 st2
      | r => r
    else .nx ρ st1
/-- how many rounds a while is given -/
def wfuel : Nat := 1000000
def sWhile (c : BM) (body : SM) : SM := fun ρ st => whileGo c body wfuel ρ st
section
variable {X : Cx} {g : Gx} {W : WX} {fr : Bool} {s : Stmt} {ss : List Stmt} {a b : SM} {e e2 : Expr} {m : EM} {n : AM} {c : BM} {pos pos' p : Pos}
theorem ss_nil : PSs X [] (tS g W fr sNil) := PSs.mono pss_nil fun D σ H h => by
  obtain ⟨F0, μ0, H0, B, F, μ, ρ, st, o, h⟩ := h
  exact h σ F μ H o
theorem ss_cons (h1 : PS X s (tS g W fr a)) (h2 : PSs X ss (tS g W fr b)) : PSs X (s :: ss) (tS g W fr (sSeq a b)) := PSs.mono (pss_cons h1 h2) fun D σ H h => by
  obtain ⟨F0, μ0, H0, B, F, μ, ρ, st, o, h⟩ := h
  refine ⟨F0, μ0, H0, B, F, μ, ρ, st, o, ?_⟩
  unfold sSeq at h
  cases q : a ρ st with
  | nx ρ1 st1 =>
    rw [q] at h
    exact fun σ' F' μ' H' o' => ⟨F0, μ0, H0, B, F', μ', ρ1, st1, o', h⟩
  | ret x st1 => rw [q] at h; exact h
  | brk ρ1 st1 => rw [q] at h; exact h
  | ct ρ1 st1 => rw [q] at h; exact h
  | exn cn fs st1 => rw [q] at h; exact h
  | bad => rw [q] at h; exact h
/-- a step of ours that is none of Python's -/
theorem ss_pre {f : SM} (hf : ∀ F0 μ0 H0 B F μ H σ ρ st D, SOk g F0 μ0 H0 B F μ H σ ρ st → SPost g W fr F0 μ0 H0 B (sSeq f a ρ st) D → ∃ F' ρ', SOk g F0 μ0 H0 B F' μ H σ ρ' st ∧ SPost g W fr F0 μ0 H0 B (a ρ' st) D) (h : PSs X ss (tS g W fr a)) : PSs X ss (tS g W fr (sSeq f a)) := PSs.mono h fun D σ H h => by
  obtain ⟨F0, μ0, H0, B, F, μ, ρ, st, o, h⟩ := h
  obtain ⟨F', ρ', o', h'⟩ := hf _ _ _ _ _ _ _ _ _ _ _ o h
  exact ⟨F0, μ0, H0, B, F', μ, ρ', st, o', h'⟩
theorem ss_frz (i : Nat) (h : PSs X ss (tS g W fr a)) : PSs X ss (tS g W fr (sSeq (sFrz i) a)) := ss_pre (fun F0 μ0 H0 B F μ H σ ρ st D o h => by
  unfold sSeq sFrz at h
  cases q : ρ[i]? with
  | none => rw [q] at h; exact ⟨F, ρ, o, h⟩
  | some sl =>
    rw [q] at h
    cases sl with
    | no => exact ⟨F, ρ, o, h⟩
    | val x => exact ⟨F, ρ, o, h⟩
    | own xs =>
      obtain ⟨F', o'⟩ := o.frz q
      exact ⟨F', _, o', h⟩) h
theorem s_pass : PS X (.Pass pos) (tS g W fr sNil) := PS.mono ps_pass fun D σ H h => by
  obtain ⟨F0, μ0, H0, B, F, μ, ρ, st, o, h⟩ := h
  exact h σ F μ H o
theorem s_break : PS X (.Break pos) (tS g W fr sBrk) := PS.mono ps_break fun D σ H h => by
  obtain ⟨F0, μ0, H0, B, F, μ, ρ, st, o, h⟩ := h
  exact h σ F μ H o
theorem s_cont : PS X (.Continue pos) (tS g W fr sCt) := PS.mono ps_continue fun D σ H h => by
  obtain ⟨F0, μ0, H0, B, F, μ, ρ, st, o, h⟩ := h
  exact h σ F μ H o
theorem s_if {cond : Expr} {th el : List Stmt} (hc : PT X cond (tT g W c)) (ha : PSs X th (tS g W fr a)) (hb : PSs X el (tS g W fr b)) : PS X (.If cond th el pos) (tS g W fr (sIf c a b)) := PS.mono (ps_if hc ha hb) fun D σ H h => by
  obtain ⟨F0, μ0, H0, B, F, μ, ρ, st, o, h⟩ := h
  refine ⟨F, μ, st, viewH ρ, o.w, o.en.viewH, (SPost.of o h).imp fun d st1 F1 μ1 H1 e1 w1 ⟨o1, h1⟩ => ?_⟩
  cases d with
  | true =>
    rw [if_pos rfl] at h1 ⊢
    exact ⟨F0, μ0, H0, B, F1, μ1, ρ, st1, o1, h1⟩
  | false =>
    rw [if_neg Bool.false_ne_true] at h1 ⊢
    exact ⟨F0, μ0, H0, B, F1, μ1, ρ, st1, o1, h1⟩
theorem tSet_of {i : Nat} {D : Ends} {σ : L2.St} {H : Hp} (h : tS g W fr (sSet i m) D σ H) : tAsg (tE g W m) (gName i) D σ H := by
  obtain ⟨F0, μ0, H0, B, F, μ, ρ, st, o, h⟩ := h
  refine ⟨F, μ, st, viewH ρ, o.w, o.en.viewH, (SPost.of o h).imp fun x st1 F1 μ1 H1 e1 w1 ⟨o1, h1⟩ v rv => ?_⟩
  exact h1 _ F1 μ1 H1 (o1.set rv)
theorem s_set {i : Nat} {x : Str} (hN : X.N.Nodup) (hi : X.N[i]? = some x) (hx : Loc X.env.scope x) (he : PE X e (tE g W m)) (hs : swapsWith e (some (.Name x pos')) pos.line X.env = pure false) (hf : X.fn x = true ∨ X.env.scope.names.lookup x = some .local) :
    PS X (.Assign [.Name x pos'] e pos) (tS g W fr (sSet i m)) := PS.mono (ps_set hN hi hx he hs hf) fun _ _ _ h => tSet_of h
theorem tOwn_of {i : Nat} {D : Ends} {σ : L2.St} {H : Hp} (h : tS g W fr (sOwn i n) D σ H) : tAsg (tL g W n) (gName i) D σ H := by
  obtain ⟨F0, μ0, H0, B, F, μ, ρ, st, o, h⟩ := h
  refine ⟨F, μ, st, viewH ρ, o.w, o.en.viewH, (SPost.of o h).imp fun xs st1 F1 μ1 H1 e1 w1 ⟨o1, h1⟩ a vs k1 k2 k3 k4 k5 k6 => ?_⟩
  refine h1 _ F1 μ1 H1 (o1.setOwn (o.e.keep k1) k2 k3 k4 ⟨k5, k6⟩ fun j ys hj _ hc => ?_)
  obtain ⟨b, us, q1, q2, q3, q4, q5, _⟩ := o.en.own j ys hj
  rw [hc] at q1
  cases q1
  rw [k1] at q5
  cases q5
def sOwnD (i : Nat) (n : DM) : SM := fun ρ st => SR.of (n (viewH ρ) st) fun d st1 => .nx (ρ.set i (.own (.dct d.1 d.2))) st1
theorem tOwnD_of {i : Nat} {n : DM} {D : Ends} {σ : L2.St} {H : Hp} (h : tS g W fr (sOwnD i n) D σ H) : tAsg (tD g W n) (gName i) D σ H := by
  obtain ⟨F0, μ0, H0, B, F, μ, ρ, st, o, h⟩ := h
  refine ⟨F, μ, st, viewH ρ, o.w, o.en.viewH, (SPost.of o h).imp fun d st1 F1 μ1 H1 e1 w1 ⟨o1, h1⟩ a kvs k1 k2 k3 k4 k5 k6 k7 => ?_⟩
  refine h1 _ F1 μ1 H1 (o1.setOwn (u := .dK kvs) (o.e.keep k1) k2 k3 k4 ⟨k5, k6, k7⟩ fun j ys hj _ hc => ?_)
  obtain ⟨b, us, q1, q2, q3, q4, q5, _⟩ := o.en.own j ys hj
  rw [hc] at q1
  cases q1
  rw [k1] at q5
  cases q5
theorem s_ownD {i : Nat} {x : Str} {n : DM} (hN : X.N.Nodup) (hi : X.N[i]? = some x) (hx : Loc X.env.scope x) (he : PE X e (tD g W n)) (hs : swapsWith e (some (.Name x pos')) pos.line X.env = pure false) (hf : X.fn x = true ∨ X.env.scope.names.lookup x = some .local) :
    PS X (.Assign [.Name x pos'] e pos) (tS g W fr (sOwnD i n)) := PS.mono (ps_set hN hi hx he hs hf) fun _ _ _ h => tOwnD_of h
theorem s_own {i : Nat} {x : Str} (hN : X.N.Nodup) (hi : X.N[i]? = some x) (hx : Loc X.env.scope x) (he : PE X e (tL g W n)) (hs : swapsWith e (some (.Name x pos')) pos.line X.env = pure false) (hf : X.fn x = true ∨ X.env.scope.names.lookup x = some .local) :
    PS X (.Assign [.Name x pos'] e pos) (tS g W fr (sOwn i n)) := PS.mono (ps_set hN hi hx he hs hf) fun _ _ _ h => tOwn_of h
theorem tAsg_of {t : GM} {vs : List Nat} (hk : Keys t vs) {D : Ends} {σ : L2.St} {H : Hp} (h : tS g W fr (sAsg t m) D σ H) : tAsg (tE g W m) (tG g vs t) D σ H := by
  obtain ⟨F0, μ0, H0, B, F, μ, ρ, st, o, h⟩ := h
  refine ⟨F, μ, st, viewH ρ, o.w, o.en.viewH, (SPost.of o h).imp fun x st1 F1 μ1 H1 e1 w1 ⟨o1, h1⟩ v rv => ?_⟩
  cases q : t x with
  | none => rw [q] at h1; exact h1.elim
  | some as =>
    rw [q] at h1
    exact ⟨F1, μ1, st1, viewH ρ, x, as, w1, o1.en.viewH, rv, q, fun σ' off en => h1 _ F1 μ1 H1 (o1.assign off en (hk x as q))⟩
theorem s_asg {tg : Expr} {t : GM} {vs : List Nat} (hk : Keys t vs) (he : PE X e (tE g W m)) (hg : PG X tg (tG g vs t)) (hs : swapsWithSole [tg] e pos.line X.env = pure false) (hw : swappedStores [tg] e X.env = pure none) (h1 : (assignEach [tg] X.env).map (·.2) = [assign tg X.env]) :
    PS X (.Assign [tg] e pos) (tS g W fr (sAsg t m)) := PS.mono (ps_asg he hg hs hw h1) fun _ _ _ h => tAsg_of hk h
theorem s_drop (he : PE X e (tE g W m)) (hs : swapsWith e none pos.line X.env = pure false) : PS X (.Expr e pos) (tS g W fr (sDrop m)) := PS.mono (ps_expr he hs) fun D σ H h => by
  obtain ⟨F0, μ0, H0, B, F, μ, ρ, st, o, h⟩ := h
  refine ⟨F, μ, st, viewH ρ, o.w, o.en.viewH, (SPost.of o h).imp fun x st1 F1 μ1 H1 e1 w1 ⟨o1, h1⟩ v rv => ?_⟩
  exact h1 _ F1 μ1 H1 o1
theorem s_doc {x j} {pos pos' : Pos} : PS X (.Expr (.Constant (.str x) j pos) pos') (tS g W fr sNil) := PS.mono ps_doc fun D σ H h => by
  obtain ⟨F0, μ0, H0, B, F, μ, ρ, st, o, h⟩ := h
  exact h σ F μ H o
/-! ### return -/
theorem SPost.ofR {F0 : Hp} {μ0 : List Addr} {H0 F : Hp} {B : Hp × List Addr} {μ : List Addr} {H : Hp} {σ : L2.St} {ρ : SEnv} {st : Sto} {D : Ends} {α : Type} {r : Res α} {k : α → Sto → SR} (o : SOk g F0 μ0 H0 B F μ H σ ρ st) (h : SPost g W fr F0 μ0 H0 B (SR.of r k) D) :
    Post g (plus F H σ ρ) μ H W σ r fun a st' F' μ' H' => Ext F0 μ0 H0 F' μ' H' ∧ SPost g W fr F0 μ0 H0 B (k a st') D := by
  obtain ⟨w, e, en⟩ := o.freeze
  cases r with
  | ok a st' => exact fun F' μ' H' e' w' => ⟨e.trans e', h⟩
  | exn c fs st' => exact fun F' μ' H' cls d e' w' x => h cls d σ F' μ' H' w' (e.trans e') x
  | bad => exact h
theorem s_ret (he : PE X e (tE g W m)) : PS X (.Return (some e) pos) (tS g W false (sRet m)) := PS.mono (ps_ret he) fun D σ H h => by
  obtain ⟨F0, μ0, H0, B, F, μ, ρ, st, o, h⟩ := h
  obtain ⟨w, _, en⟩ := o.freeze
  exact ⟨_, μ, st, viewR ρ, w, en, (SPost.ofR o h).imp fun x st1 F1 μ1 H1 e1 w1 ⟨e2, h1⟩ v rv => h1 v F1 μ1 H1 w1 e2 rv⟩
theorem s_retN : PS X (.Return none pos) (tS g W false sRetN) := PS.mono ps_retN fun D σ H h => by
  obtain ⟨F0, μ0, H0, B, F, μ, ρ, st, o, h⟩ := h
  exact h .non F μ H o.w o.e (.non)
theorem s_retL (he : PE X e (tL g W n)) : PS X (.Return (some e) pos) (tS g W true (sRetL n)) := PS.mono (ps_ret he) fun D σ H h => by
  obtain ⟨F0, μ0, H0, B, F, μ, ρ, st, o, h⟩ := h
  obtain ⟨w, _, en⟩ := o.freeze
  refine ⟨_, μ, st, viewR ρ, w, en, (SPost.ofR o h).imp fun xs st1 F1 μ1 H1 e1 w1 ⟨e2, h1⟩ a vs k1 k2 k3 k4 k5 k6 => ?_⟩
  exact h1 _ F1 μ1 H1 w1 e2 ⟨a, vs, xs, rfl, rfl, o.e.keep k1, k2, k3, k4, k5, k6⟩
theorem s_retOwn {i : Nat} {x : Str} (hN : X.N[i]? = some x) (hv : Vis X.env.scope x) (hd : (x == ("__debug__" : Str)) = false) (hcd : (x == ("__classdict__" : Str)) = false) : PS X (.Return (some (.Name x p)) pos) (tS g W true (sRetOwn i)) := PS.mono (ps_ret (pe_var hN hv hd hcd)) fun D σ H h => by
  obtain ⟨F0, μ0, H0, B, F, μ, ρ, st, o, h⟩ := h
  unfold sRetOwn at h
  cases q : ρ[i]? with
  | none => rw [q] at h; exact h.elim
  | some sl =>
    rw [q] at h
    cases sl with
    | no => exact h.elim
    | val x => exact h.elim
    | own b =>
      cases b with
      | dct _ _ => exact h.elim
      | lst xs =>
        obtain ⟨a, u, k1, k2, k3, k4, k5, k6⟩ := o.en.own i _ q
        obtain ⟨vs, rfl, k6, k7⟩ := k6.lst
        exact ⟨_, k1, h _ F μ H o.w o.e ⟨a, vs, xs, rfl, rfl, k2, k3, k4, k5, k6, k7⟩⟩
end
end BK

/-! BkJ: lists that grow, store objects, loops -/
namespace BK
open PySem PySem.Spec PyProof.Rows L2 RZ
section
variable {g : Gx} {F0 : Hp} {μ0 : List Addr} {H0 F : Hp} {B : Hp × List Addr} {μ : List Addr} {H : Hp} {σ : L2.St} {ρ : SEnv} {st : Sto}
/-- a store object is written -/
theorem SOk.store (o : SOk g F0 μ0 H0 B F μ H σ ρ st) {n : Nat} {a : Addr} {u0 : HO} {y0 : SO} (ha : μ[n]? = some a) (r : SRep g.K g.fa F μ y0 u0) :
    SOk g F0 μ0 H0 B F μ (upd H a u0) σ ρ (st.set n y0) := by
  have ham : a ∈ μ := List.mem_iff_getElem?.mpr ⟨n, ha⟩
  have hF : F a = none := o.w.off a ham
  have hnl : n < μ.length := (List.getElem?_eq_some_iff.mp ha).1
  refine ⟨⟨fun b u h => by rw [upd_ne (ne_of_none h hF)]; exact o.w.sub b u h, by rw [List.length_set]; exact o.w.len, o.w.nd, o.w.off, fun m b hb => ?_⟩, ⟨o.e.fs, o.e.ms, fun b u h hm => ?_, fun b m h => ?_, o.e.fn, o.e.mn⟩, o.b, o.en.len, o.en.val, fun i xs h => ?_, o.en.dis⟩
  · by_cases e : n = m
    · subst e
      rw [ha] at hb
      cases hb
      exact ⟨y0, u0, by rw [List.getElem?_set_self (by rw [← o.w.len]; exact hnl)], upd_same, r⟩
    · obtain ⟨xs, vs, h1, h2, h3⟩ := o.w.obj m b hb
      have nb : b ≠ a := fun z => by
        subst z
        obtain ⟨p1, e1⟩ := List.getElem?_eq_some_iff.mp ha
        obtain ⟨p2, e2⟩ := List.getElem?_eq_some_iff.mp hb
        exact e ((List.getElem_inj o.w.nd).mp (e1.trans e2.symm))
      exact ⟨xs, vs, by rw [List.getElem?_set_ne e]; exact h1, by rw [upd_ne nb]; exact h2, h3⟩
  · have nb : b ≠ a := fun z => by
      subst z
      have := o.e.mn b ham hm
      rw [h] at this
      cases this
    rw [upd_ne nb]
    exact o.e.hs b u h hm
  · by_cases z : b = a
    · rw [z, upd_same]; simp
    · rw [upd_ne z]; exact o.e.hm b m h
  · obtain ⟨b, vs, h1, h2, h3, h4, h5, h6⟩ := o.en.own i xs h
    have nb : b ≠ a := fun z => h4 (by rw [z]; exact ham)
    exact ⟨b, vs, h1, h2, h3, h4, by rw [upd_ne nb]; exact h5, h6⟩
end
theorem length_putK_le {κ : Type} [DecidableEq κ] (kvs : List (κ × V)) (k : κ) (v : V) : (putK kvs k v).length ≤ kvs.length + 1 := by
  unfold putK
  split <;> simp
def sPut (o i v : EM) : SM := fun ρ st => SR.of (v (viewH ρ) st) fun x st1 => SR.of (o (viewH ρ) st1) fun a st2 => SR.of (i (viewH ρ) st2) fun k st3 => match a, k with
  | .ref n, .int j => match st3[n]? with
    | some (.lst xs) => match ixN xs.length j with
      | some m => if x.noR = true then .nx ρ (st3.set n (.lst (xs.set m x))) else .bad
      | none => .bad
    | _ => .bad
  | _, _ => .bad
def sNew (i : Nat) (n : AM) : SM := fun ρ st => SR.of (n (viewH ρ) st) fun xs st1 => if PV.noRs xs = true then .nx (ρ.set i (.val (.ref st1.length))) (st1 ++ [SO.lst xs]) else .bad
def sAug (i : Nat) (f : PV → PV → Option PV) (m : EM) : SM := fun ρ st => match ρ[i]? with
  | some (.val x) => SR.of (m (viewH ρ) st) fun y st1 => match f x y with
    | some z => .nx (ρ.set i (.val z)) st1
    | none => .bad
  | _ => .bad
def augAdd : PV → PV → Option PV
  | .int i, .int j => some (.int (i + j))
  | _, _ => none
def augSub : PV → PV → Option PV
  | .int i, .int j => some (.int (i - j))
  | _, _ => none
theorem noRs_set : ∀ (xs : List PV) (m : Nat) (x : PV), PV.noRs xs = true → x.noR = true → PV.noRs (xs.set m x) = true
  | [], _, _, h, _ => h
  | y :: ys, 0, x, h, k => by
    simp only [PV.noRs, Bool.and_eq_true, List.set_cons_zero] at h ⊢
    exact ⟨k, h.2⟩
  | y :: ys, m + 1, x, h, k => by
    simp only [PV.noRs, Bool.and_eq_true, List.set_cons_succ] at h ⊢
    exact ⟨h.1, noRs_set ys m x h.2 k⟩
section
variable {X : Cx} {g : Gx} {W : WX} {fr : Bool} {s : Stmt} {ss : List Stmt} {a b : SM} {e e2 : Expr} {m mo mi mv : EM} {n : AM} {c : BM} {pos pos' p apos cpos : Pos}
theorem tyV_lst {a : Addr} {vs : List V} {H : Hp} (h : H a = some (HO.lst vs)) : tyV X.K "list" (.ref a) H := Or.inl ⟨rfl, _, Or.inl (Or.inl h)⟩
theorem own_inv {F0 : Hp} {μ0 : List Addr} {H0 : Hp} {B : Hp × List Addr} {ρ : SEnv} {i : Nat} {D : Ends} {f : List PV → SR} (h : SPost g W fr F0 μ0 H0 B (match ρ[i]? with
  | some (.own (.lst xs)) => f xs
  | _ => .bad) D) : ∃ xs, ρ[i]? = some (.own (.lst xs)) ∧ SPost g W fr F0 μ0 H0 B (f xs) D := by
  cases q : ρ[i]? with
  | none => rw [q] at h; exact h.elim
  | some sl =>
    rw [q] at h
    cases sl with
    | no => exact h.elim
    | val x => exact h.elim
    | own b =>
      cases b with
      | lst xs => exact ⟨xs, rfl, h⟩
      | dct _ _ => exact h.elim
theorem s_app {i : Nat} {x : Str} (hN : X.N[i]? = some x) (hv : Vis X.env.scope x) (hd : (x == ("__debug__" : Str)) = false) (hcd : (x == ("__classdict__" : Str)) = false) (he : PE X e (tE g W m)) (hs : isStar e = false) (hln : (apos.endLine == cpos.line) = true) :
    PS X (.Expr (.Call (.Attribute (.Name x p) "append" apos) [e] [] cpos) pos) (tS g W fr (sApp i m)) := by
  refine PS.mono (ps_expr (pe_bm PySem.F.plainAttrs_list PySem.F.slot_list_append PySem.F.type_list_append mt_append (pe_var hN hv hd hcd) (pa_cons he pa_nil (starEach_cons hs)) rfl (fewArgs (by simp [hs]) (by simp)) hln (starEach_cons hs) rfl)) fun D σ H h => ?_
  obtain ⟨F0, μ0, H0, B, F, μ, ρ, st, o, h⟩ := h
  obtain ⟨xs, hx, h⟩ := own_inv h
  obtain ⟨a, u, k1, k2, k3, k4, k5, k6⟩ := o.en.own i _ hx
  obtain ⟨vs, rfl, k6, k7⟩ := k6.lst
  refine ⟨_, k1, tyV_lst k5, F, μ, st, viewH ρ, o.w, o.en.viewH, (SPost.of o h).imp fun y st1 F1 μ1 H1 e1 w1 ⟨o1, h1⟩ v rv => ?_⟩
  rw [hx] at h1
  simp only at h1
  split at h1
  · rename_i c
    obtain ⟨f1, f2, f3⟩ := e1.mine k3 k4 k5
    have hl := k7.length
    refine ⟨a, vs, v, rfl, rfl, f3, by omega, h1 _ _ _ _ (o1.write hx k1 (u := .lst _) (ys := .lst _) ⟨by rw [List.length_append]; simp; omega, (Reps.ext e1 k7).append (.cons rv .nil)⟩)⟩
  · exact h1.elim
theorem s_ext {i : Nat} {x : Str} (hN : X.N[i]? = some x) (hv : Vis X.env.scope x) (hd : (x == ("__debug__" : Str)) = false) (hcd : (x == ("__classdict__" : Str)) = false) (he : PE X e (tE g W m)) (hs : isStar e = false) (hln : (apos.endLine == cpos.line) = true) :
    PS X (.Expr (.Call (.Attribute (.Name x p) "extend" apos) [e] [] cpos) pos) (tS g W fr (sExt i m)) := by
  refine PS.mono (ps_expr (pe_bm PySem.F.plainAttrs_list PySem.F.slot_list_extend PySem.F.type_list_extend mt_extend (pe_var hN hv hd hcd) (pa_cons he pa_nil (starEach_cons hs)) rfl (fewArgs (by simp [hs]) (by simp)) hln (starEach_cons hs) rfl)) fun D σ H h => ?_
  obtain ⟨F0, μ0, H0, B, F, μ, ρ, st, o, h⟩ := h
  obtain ⟨xs, hx, h⟩ := own_inv h
  obtain ⟨a, u, k1, k2, k3, k4, k5, k6⟩ := o.en.own i _ hx
  obtain ⟨vs, rfl, k6, k7⟩ := k6.lst
  refine ⟨_, k1, tyV_lst k5, F, μ, st, viewH ρ, o.w, o.en.viewH, (SPost.of o h).imp fun y st1 F1 μ1 H1 e1 w1 ⟨o1, h1⟩ v rv => ?_⟩
  cases rv with
  | @lst b us ys q1 q2 q3 =>
    simp only at h1
    split at h1
    · rename_i c
      obtain ⟨f1, f2, f3⟩ := e1.mine k3 k4 k5
      have hl := k7.length
      have hl2 := q3.length
      have hz : vs.length + us.length ≤ sizeLine := by omega
      refine ⟨a, b, vs, us, rfl, rfl, f3, w1.sub _ _ q1, hz, h1 _ _ _ _ (o1.write hx k1 (u := .lst _) (ys := .lst _) ⟨by rw [List.length_append]; exact hz, (Reps.ext e1 k7).append q3⟩)⟩
    · exact h1.elim
  | _ => exact h1.elim
theorem s_pop {i : Nat} {x : Str} {tg : Expr} {t : GM} {vs : List Nat} (hk : Keys t vs) (hN : X.N[i]? = some x) (hv : Vis X.env.scope x) (hd : (x == ("__debug__" : Str)) = false) (hcd : (x == ("__classdict__" : Str)) = false) (hg : PG X tg (tG g vs t)) (hln : (apos.endLine == cpos.line) = true)
    (h1 : (assignEach [tg] X.env).map (·.2) = [assign tg X.env]) (hs : swapsWithSole [tg] (.Call (.Attribute (.Name x p) "pop" apos) [] [] cpos) pos.line X.env = pure false) (hw : swappedStores [tg] (.Call (.Attribute (.Name x p) "pop" apos) [] [] cpos) X.env = pure none) :
    PS X (.Assign [tg] (.Call (.Attribute (.Name x p) "pop" apos) [] [] cpos) pos) (tS g W fr (sPop i t)) := by
  refine PS.mono (ps_asg (pe_bm0 PySem.F.plainAttrs_list PySem.F.slot_list_pop PySem.F.type_list_pop mt_pop (pe_var hN hv hd hcd) rfl hln) hg hs hw h1) fun D σ H h => ?_
  obtain ⟨F0, μ0, H0, B, F, μ, ρ, st, o, h⟩ := h
  obtain ⟨xs, hx, h⟩ := own_inv h
  obtain ⟨a, u, k1, k2, k3, k4, k5, k6⟩ := o.en.own i _ hx
  obtain ⟨us, rfl, k6, k7⟩ := k6.lst
  cases q : xs[xs.length - 1]? with
  | none => rw [q] at h; exact h.elim
  | some y =>
    rw [q] at h
    simp only at h
    cases q2 : t y with
    | none => rw [q2] at h; exact h.elim
    | some as =>
      rw [q2] at h
      obtain ⟨v, hv', rv⟩ := k7.get q
      have o2 := o.write (ys := .lst xs.dropLast) hx k1 (u := .lst us.dropLast) ⟨by rw [List.length_dropLast]; omega, k7.dropLast⟩
      refine ⟨_, k1, tyV_lst k5, a, us, v, rfl, rfl, k5, by rw [k7.length]; exact hv', F, μ, st, viewH (ρ.set i (.own (.lst xs.dropLast))), y, as, o2.w, o2.en.viewH, rv, q2, fun σ' off en => h σ' F μ _ (o2.assign off en (hk y as q2))⟩
theorem s_put {o i : Expr} {tpos : Pos} (ho : PE X o (tE g W mo)) (hi : PE X i (tE g W mi)) (he : PE X e (tE g W mv))
    (ha : ∀ v, assign (.Subscript o i tpos) X.env v = (do
      let ov ← holding [v] (eval o X.env)
      let iv ← holding [v, ov] (eval i X.env)
      standAt tpos
      holding [v, ov, iv] (setItem ov iv v)
      release [v, ov, iv] [])) (hs : swapsWithSole [.Subscript o i tpos] e pos.line X.env = pure false) (hw : swappedStores [.Subscript o i tpos] e X.env = pure none) :
    PS X (.Assign [.Subscript o i tpos] e pos) (tS g W fr (sPut mo mi mv)) := by
  refine PS.mono (ps_asg he (pg_sub ho hi set_list ha) hs hw) fun D σ H h => ?_
  obtain ⟨F0, μ0, H0, B, F, μ, ρ, st, ok, h⟩ := h
  refine ⟨F, μ, st, viewH ρ, ok.w, ok.en.viewH, (SPost.of ok h).imp fun x st1 F1 μ1 H1 e1 w1 ⟨o1, h1⟩ v rv => ?_⟩
  refine ⟨F1, μ1, st1, viewH ρ, o1.w, o1.en.viewH, (SPost.of o1 h1).imp fun a st2 F2 μ2 H2 e2 w2 ⟨o2, h2⟩ va ra => ?_⟩
  refine ⟨F2, μ2, st2, viewH ρ, o2.w, o2.en.viewH, (SPost.of o2 h2).imp fun k st3 F3 μ3 H3 e3 w3 ⟨o3, h3⟩ vk rk => ?_⟩
  have ra := Rep.ext e3 ra
  have hb : ∃ nn j, a = PV.ref nn ∧ k = PV.int j := by
    cases a <;> cases k <;> first | exact ⟨_, _, rfl, rfl⟩ | exact h3.elim
  obtain ⟨nn, j, rfl, rfl⟩ := hb
  cases rk
  cases ra with
  | @ref _ ad q =>
    obtain ⟨so, ho, q1, q2, q3⟩ := w3.obj nn ad q
    simp only [q1] at h3
    cases so <;> try (exact h3.elim)
    rename_i xs
    obtain ⟨us, rfl, q4, q3⟩ := q3.lst
    simp only at h3
    cases q6 : ixN xs.length j with
    | none => rw [q6] at h3; exact h3.elim
    | some mm =>
      rw [q6] at h3
      simp only at h3
      split at h3
      · rename_i c
        refine ⟨ad, us, j, mm, rfl, rfl, q2, by rw [q3.length]; exact q6, ?_⟩
        exact h3 _ _ _ _ (o3.store (y0 := .lst (xs.set mm x)) (u0 := .lst (us.set mm v)) q ⟨by rw [List.length_set]; exact q4, q3.set mm (Rep.ext e3 (Rep.ext e2 rv))⟩)
      · exact h3.elim
theorem tNew_of {i : Nat} {D : Ends} {σ : L2.St} {H : Hp} (h : tS g W fr (sNew i n) D σ H) : tAsg (tL g W n) (gName i) D σ H := by
  obtain ⟨F0, μ0, H0, B, F, μ, ρ, st, o, h⟩ := h
  refine ⟨F, μ, st, viewH ρ, o.w, o.en.viewH, (SPost.of o h).imp fun xs st1 F1 μ1 H1 e1 w1 ⟨o1, h1⟩ a vs k1 k2 k3 k4 k5 k6 => ?_⟩
  split at h1
  · rename_i c
    have mm : ∃ t, μ1 ++ [a] = μ1 ++ t := ⟨_, rfl⟩
    have h0 : H0 a = none := o.e.keep k1
    have o2 : SOk g F0 μ0 H0 B F1 (μ1 ++ [a]) H1 σ ρ (st1 ++ [SO.lst xs]) := by
      refine ⟨⟨w1.sub, by simp [w1.len], ?_, fun b hb => ?_, fun k b hb => ?_⟩, ⟨o1.e.fs, ?_, o1.e.hs, o1.e.hm, o1.e.fn, fun b hb hm => ?_⟩, ⟨o1.b.1, ?_⟩, o1.en.len, fun j y hy => ?_, fun j ys hy => ?_, o1.en.dis⟩
      · rw [List.nodup_append]
        refine ⟨w1.nd, by simp, fun x hx y hy => ?_⟩
        have : y = a := by simpa using hy
        subst this
        exact fun z => k3 (by rw [← z]; exact hx)
      · rcases List.mem_append.mp hb with hb | hb
        · exact w1.off b hb
        · have : b = a := by simpa using hb
          rw [this]; exact k2
      · by_cases hk : k < μ1.length
        · rw [List.getElem?_append_left hk] at hb
          obtain ⟨zs, us, q1, q2, q3⟩ := w1.obj k b hb
          exact ⟨zs, us, by rw [List.getElem?_append_left (by rw [← w1.len]; exact hk)]; exact q1, q2, q3.mono (Same.refl _) mm⟩
        · have hk2 : k = μ1.length := by
            have := (List.getElem?_eq_some_iff.mp hb).1
            simp at this
            omega
          subst hk2
          have e : b = a := by simpa using hb.symm
          subst e
          exact ⟨.lst xs, .lst vs, by rw [w1.len]; simp, k4, k5, Reps.mono (Same.refl _) mm _ _ k6⟩
      · obtain ⟨t, ht⟩ := o1.e.ms
        exact ⟨t ++ [a], by rw [ht]; simp⟩
      · rcases List.mem_append.mp hb with hb | hb
        · exact o1.e.mn b hb hm
        · have : b = a := by simpa using hb
          rw [this]; exact h0
      · obtain ⟨t, ht⟩ := o1.b.2
        exact ⟨t ++ [a], by rw [ht]; simp⟩
      · obtain ⟨v, q1, q2⟩ := o1.en.val j y hy
        exact ⟨v, q1, Rep.mono (Same.refl _) mm _ _ q2⟩
      · obtain ⟨b, us, q1, q2, q3, q4, q5, q6⟩ := o1.en.own j ys hy
        refine ⟨b, us, q1, q2, q3, fun z => ?_, q5, q6.mono (Same.refl _) mm⟩
        rcases List.mem_append.mp z with z | z
        · exact q4 z
        · have e : b = a := by simpa using z
          obtain ⟨b', us', r1, r2, r3, r4, r5, r6⟩ := o.en.own j ys hy
          rw [q1] at r1
          cases r1
          rw [e, k1] at r5
          cases r5
    refine h1 _ F1 _ H1 (o2.set (.ref ?_))
    rw [← w1.len]
    simp
  · exact h1.elim
theorem s_new {i : Nat} {x : Str} (hN : X.N.Nodup) (hi : X.N[i]? = some x) (hx : Loc X.env.scope x) (he : PE X e (tL g W n)) (hs : swapsWith e (some (.Name x pos')) pos.line X.env = pure false) (hf : X.fn x = true ∨ X.env.scope.names.lookup x = some .local) :
    PS X (.Assign [.Name x pos'] e pos) (tS g W fr (sNew i n)) := PS.mono (ps_set hN hi hx he hs hf) fun _ _ _ h => tNew_of h
theorem s_aug {i : Nat} {x : Str} {op : Operator} {f : PV → PV → Option PV} {k : Int → Int → Int} (hN : X.N.Nodup) (hi : X.N[i]? = some x) (hx : Loc X.env.scope x) (he : PE X e (tE g W m)) (ho : PIp X op (ipI k)) (hf : X.fn x = true ∨ X.env.scope.names.lookup x = some .local)
    (hk : ∀ a b z, f a b = some z → ∃ i j, a = .int i ∧ b = .int j ∧ z = .int (k i j)) : PS X (.AugAssign (.Name x pos') op e pos) (tS g W fr (sAug i f m)) := PS.mono (ps_aug hN hi hx he ho hf) fun D σ H h => by
  obtain ⟨F0, μ0, H0, B, F, μ, ρ, st, o, h⟩ := h
  unfold sAug at h
  cases q : ρ[i]? with
  | none => rw [q] at h; exact h.elim
  | some sl =>
    rw [q] at h
    cases sl with
    | no => exact h.elim
    | own xs => exact h.elim
    | val y =>
      obtain ⟨v, hv, rv⟩ := o.en.val i y q
      refine ⟨v, hv, F, μ, st, viewH ρ, o.w, o.en.viewH, (SPost.of o h).imp fun z st1 F1 μ1 H1 e1 w1 ⟨o1, h1⟩ u ru => ?_⟩
      cases q2 : f y z with
      | none => rw [q2] at h1; exact h1.elim
      | some r =>
        rw [q2] at h1
        obtain ⟨i1, j1, rfl, rfl, rfl⟩ := hk _ _ _ q2
        cases rv
        cases ru
        exact ⟨i1, j1, rfl, rfl, h1 _ F1 μ1 H1 (o1.set (.int _))⟩
/-! ### loops -/
theorem s_for {tg iter : Expr} {body : List Stmt} {t : GM} {vs : List Nat} {it : AM} (hk : Keys t vs) (hp : PassesOwn (model X.prog X.w) X.A X.env X.xe) (hc : X.calm = true) (hi : PI X tg iter (tI g W it)) (hg : PG X tg (tG g vs t)) (hb : PSs X body (tS g W fr a))
    (hs : ∀ x, foldedSetIterable iter X.env x = pure x) : PS X (.For tg iter body [] pos) (tS g W fr (sFor t it a)) := by
  refine PS.mono (ps_for hp hc hi hg hb hs) fun D σ H h => ?_
  obtain ⟨F0, μ0, H0, B, F, μ, ρ, st, o, h⟩ := h
  refine ⟨F, μ, st, viewH ρ, o.w, o.en.viewH, (SPost.of o h).imp fun xs st1 F1 μ1 H1 e1 w1 ⟨o1, h1⟩ J hJ => ?_⟩
  obtain ⟨hxl, hJ⟩ := hJ
  have bF : Same B.1 (F1, μ1).1 ∧ ∃ t, (F1, μ1).2 = B.2 ++ t := o1.b
  refine ⟨fun i n σ2 H2 => n = xs.length - i ∧ i ≤ xs.length ∧ ∃ F2 μ2 ρ2 st2, SOk g F0 μ0 H0 (F1, μ1) F2 μ2 H2 σ2 ρ2 st2 ∧ SPost g W fr F0 μ0 H0 B (forGo t a (xs.drop i) ρ2 st2) D, ⟨_, rfl, Nat.zero_le _, F1, μ1, ρ, st1, o1.now, h1⟩, ?_⟩
  rintro i n σ2 H2 ⟨rfl, hil, F2, μ2, ρ2, st2, o2, h2⟩
  obtain ⟨hgo, hstop⟩ := hJ F2 μ2 H2 st2 o2.b.1 o2.b.2 o2.w i
  by_cases hlt : i < xs.length
  · have hx : xs[i]? = some xs[i] := List.getElem?_eq_getElem hlt
    obtain ⟨go, yld⟩ := hgo _ hx
    rw [List.drop_eq_getElem_cons hlt] at h2
    unfold forGo at h2
    cases qt : t xs[i] with
    | none => rw [qt] at h2; exact h2.elim
    | some as =>
    rw [qt] at h2
    simp only at h2
    refine .inr ⟨go, fun σ' H' => ∃ F2 μ2 ρ2 st2, SOk g F0 μ0 H0 (F1, μ1) F2 μ2 H' σ' ρ2 st2 ∧ SPost g W fr F0 μ0 H0 B (forGo t a (xs.drop (i + 1)) ρ2 st2) D, fun σ' H' h' => ⟨xs.length - (i + 1), by omega, rfl, hlt, h'⟩, fun v H3 y => ?_⟩
    obtain ⟨F3, e3, w3, rv⟩ := yld v H3 y
    have o3 := o2.ext e3 w3
    refine ⟨F3, μ2, st2, viewH ρ2, xs[i], as, w3, o3.en.viewH, rv, qt, fun σ4 off en => ?_⟩
    have o4 := o3.assign off en (hk _ _ qt)
    refine ⟨F0, μ0, H0, (F1, μ1), F3, μ2, setS ρ2 as, st2, o4, ?_⟩
    cases q : a (setS ρ2 as) st2 with
    | nx ρ1 st3 =>
      rw [q] at h2
      exact fun σ' F' μ' H' oo => ⟨F', μ', ρ1, st3, oo, h2⟩
    | ct ρ1 st3 =>
      rw [q] at h2
      exact fun σ' F' μ' H' oo => ⟨F', μ', ρ1, st3, oo, h2⟩
    | brk ρ1 st3 =>
      rw [q] at h2
      exact fun σ' F' μ' H' oo => h2 σ' F' μ' H' (oo.base bF)
    | ret x st3 => rw [q] at h2; exact h2
    | exn cn fs st3 => rw [q] at h2; exact h2
    | bad => rw [q] at h2; exact h2
  · have hn : xs[i]? = none := List.getElem?_eq_none (by omega)
    rw [List.drop_eq_nil_of_le (by omega)] at h2
    exact .inl ⟨hstop hn, h2 σ2 F2 μ2 H2 (o2.base bF)⟩
/-- x[k] = v, the dict at x nobody else's -/
def sPutO (i : Nat) (mk mv : EM) : SM := fun ρ st => match ρ[i]? with
  | some (.own (.dct ks vs)) => SR.of (mv (viewH ρ) st) fun v st1 => SR.of (mk (viewH ρ) st1) fun k st2 => if keyOk k = true ∧ ks.length < sizeLine then .nx (ρ.set i (.own (.dct (dPutK k ks) (dPutV k v ks vs)))) st2 else .bad
  | _ => .bad
theorem s_putO {i : Nat} {x : Str} {ke : Expr} {mk : EM} {tpos : Pos} (hu : X.A.units + 64 < cLine) (hN : X.N[i]? = some x) (hv : Vis X.env.scope x) (hd : (x == ("__debug__" : Str)) = false) (hcd : (x == ("__classdict__" : Str)) = false) (hk : PE X ke (tE g W mk)) (he : PE X e (tE g W mv))
    (hs : swapsWith e (some (.Subscript (.Name x p) ke tpos)) pos.line X.env = pure false) : PS X (.Assign [.Subscript (.Name x p) ke tpos] e pos) (tS g W fr (sPutO i mk mv)) := by
  refine PS.mono (ps_dput (by omega) (pe_var hN hv hd hcd) hk he hs) fun D σ H h => ?_
  obtain ⟨F0, μ0, H0, B, F, μ, ρ, st, o, h⟩ := h
  unfold sPutO at h
  cases q : ρ[i]? with
  | none => rw [q] at h; exact h.elim
  | some sl =>
    rw [q] at h
    cases sl with
    | no => exact h.elim
    | val x => exact h.elim
    | own b =>
      cases b with
      | lst _ => exact h.elim
      | dct ks vs =>
        refine ⟨F, μ, st, viewH ρ, o.w, o.en.viewH, (SPost.of o h).imp fun y st1 F1 μ1 H1 e1 w1 ⟨o1, h1⟩ v rv => ?_⟩
        obtain ⟨a, u, k1, k2, k3, k4, k5, k6⟩ := o1.en.own i _ q
        refine ⟨_, k1, F1, μ1, st1, viewH ρ, o1.w, o1.en.viewH, (SPost.of o1 h1).imp fun k st2 F2 μ2 H2 e2 w2 ⟨o2, h2⟩ vk rk => ?_⟩
        obtain ⟨kvs, rfl, j1, j2, j3⟩ := k6.dct
        obtain ⟨l1, l2, l3⟩ := e2.mine k3 k4 k5
        split at h2
        · rename_i c
          obtain ⟨key, rfl, rfl⟩ := rep_key rk c.1
          have dr : DRep g F2 μ2 kvs ks vs := ⟨j2.ext e2, j3.ext e2⟩
          have hl : kvs.length = ks.length := by rw [dr.keys]; simp
          have dp := dr.put rk (rv.ext e2)
          refine ⟨a, _, rfl, DPut.k l3 (by omega), ?_⟩
          refine h2 _ F2 μ2 _ (o2.write q k1 (u := .dK _) (ys := .dct _ _) ⟨?_, dp.k, dp.v⟩)
          have := length_putK_le kvs key v
          omega
        · exact h2.elim
end
end BK

/-! BkX7: own exception classes: made, raised, caught -/
namespace BK
open PySem PySem.Spec PyProof.Rows L2 RZ
/-! ### B.__init__(self, ..) -/
/-- what the written part says of the base class at CB: its __init__ is ValueError's -/
structure BaseAt (K : PySem.W.Frag) (CB : Addr) : Prop where
  ga : PySem.W.specialIn K (.ref CB) "__getattribute__" = some (some (.builtin "type.__getattribute__"))
  rd : PySem.W.readsIn K CB (.type "type") = true
  fc : PySem.W.findCls K (.ref CB) (.type "type") "__init__" = some (.val (.builtin "ValueError.__init__"))
theorem meth_eq {o : Expr} {name : Str} {apos pos : Pos} {args : List Expr} {env : PySem.Env} (hbase : attributeBase o name env (eval o env) = eval o env) (hfew : FewArgs args env pos) (hline : (apos.endLine == pos.line) = true) :
    eval (.Call (.Attribute o name apos) args [] pos) env = (do
      let ov ← eval o env
      standAt apos.atName
      let (f, first) ← holding [ov] (getMethod ov name (do return (← importBound o env).getD true))
      callWith pos f first (backTo pos (starEach args env)) (backToKw pos (keywordEach [] env))) := by
  have hform : methodCallForm (args.length + ([] : List Keyword).length) (backTo pos (starEach args env)) (backToKw pos (keywordEach [] env)) = true := hfew
  have hpos : methodCallPos true o env apos pos = pure pos := by unfold methodCallPos; simp [hline]
  rw [arm_eval_Call, hbase]
  unfold methodCall
  rw [hform, hpos]
  rfl
section
variable {X : Cx} {e : Expr} {es : List Expr} {ta : TA} {B : Str} {CB : Addr} {p1 p2 pos : Pos}
theorem pe_cinit (T : BaseAt X.K CB) (hg : Gl X B) (hm : X.mg B = some (.ref CB)) (hdb : (B == ("__debug__" : Str)) = false) (ha : PA X (e :: es) ta)
    (he : (e :: es).any isStar = false) (hfew : (e :: es).length < 30) (hline : (p2.endLine == pos.line) = true) :
    PE X (.Call (.Attribute (.Name B p1) "__init__" p2) (e :: es) [] pos) (tVeI X.K ta) := by
  refine ⟨fun pins s σ H Q I h => ?_⟩
  have hc := meth_eq (o := .Name B p1) (name := "__init__") (env := X.env) rfl (fewArgs he hfew) hline
  rw [List.any_cons, Bool.or_eq_false_iff] at he
  refine PySem.W.methodCall_KW (ld_glob I hg hm ?_ hdb) hc
  refine PySem.W.method_cls I.kIn T.ga (PySem.W.cls_value I.kIn T.rd T.fc (by decide +kernel) ?_)
  show wpAny _ _ (callWith pos (Value.builtin "ValueError.__init__") [] (backTo pos (starEach (e :: es) X.env)) []) _ _ _
  refine PyProof.Rows.callWith_method1 (thn (ha.run pos pins _ σ H _ (I.tok _) h) fun us s1 ⟨vs, H1, I1, r1, a, C, ws, ev, hl, T, ea, q⟩ => ?_) (starEach_cons he.1) (backTo_any he.2)
  subst ev
  cases r1 with
  | @cons _ u0 _ ur ra rw' =>
    obtain rfl : u0 = Value.ref a := ra
    have hlen : ur.length ≤ sizeLine := by
      rw [← Paired.length rw', sizeLine_eq]
      omega
    exact oinit_ok T I1 ea hlen fun s' J => ⟨.non, H1, J, rfl, q⟩
end
/-! ### the __init__ of a class with one field, with two -/
def isInit1 (B f : Str) : List Stmt → Bool
  | [.Expr (.Call (.Attribute (.Name b _) m p2) [.Name s1 _, .Name a1 _] [] p5) _, .Assign [.Attribute (.Name s2 _) g _] (.Name a2 _) _] => p2.endLine == p5.line && (b == B && (m == ("__init__" : Str) && (s1 == ("self" : Str) && (a1 == f && (s2 == ("self" : Str) && (g == f && a2 == f))))))
  | _ => false
def isInit2 (B f g : Str) : List Stmt → Bool
  | [.Expr (.Call (.Attribute (.Name b _) m p2) [.Name s1 _, .Name a1 _, .Name a2 _] [] p6) _, .Assign [.Attribute (.Name s2 _) f1 _] (.Name a3 _) _, .Assign [.Attribute (.Name s3 _) g1 _] (.Name a4 _) _] =>
    p2.endLine == p6.line && (b == B && (m == ("__init__" : Str) && (s1 == ("self" : Str) && (a1 == f && (a2 == g && (s2 == ("self" : Str) && (f1 == f && (a3 == f && (s3 == ("self" : Str) && (g1 == g && a4 == g))))))))))
  | _ => false
theorem isInit1_eq {B f : Str} {ss : List Stmt} (h : isInit1 B f ss = true) : ∃ (p1 p2 p3 p4 p5 p6 p7 p8 p9 p10 : Pos), (p2.endLine == p5.line) = true ∧ ss = [.Expr (.Call (.Attribute (.Name B p1) "__init__" p2) [.Name "self" p3, .Name f p4] [] p5) p6, .Assign [.Attribute (.Name "self" p7) f p8] (.Name f p9) p10] := by
  unfold isInit1 at h
  split at h
  · simp only [Bool.and_eq_true, beq_iff_eq (α := Str)] at h
    obtain ⟨hl, rfl, rfl, rfl, rfl, rfl, rfl, rfl⟩ := h
    exact ⟨_, _, _, _, _, _, _, _, _, _, hl, rfl⟩
  · cases h
theorem isInit2_eq {B f g : Str} {ss : List Stmt} (h : isInit2 B f g ss = true) : ∃ (p1 p2 p3 p4 p5 p6 p7 p8 p9 p10 p11 p12 p13 p14 p15 : Pos), (p2.endLine == p6.line) = true ∧ ss = [.Expr (.Call (.Attribute (.Name B p1) "__init__" p2) [.Name "self" p3, .Name f p4, .Name g p5] [] p6) p7,
    .Assign [.Attribute (.Name "self" p8) f p9] (.Name f p10) p11, .Assign [.Attribute (.Name "self" p12) g p13] (.Name g p14) p15] := by
  unfold isInit2 at h
  split at h
  · simp only [Bool.and_eq_true, beq_iff_eq (α := Str)] at h
    obtain ⟨hl, rfl, rfl, rfl, rfl, rfl, rfl, rfl, rfl, rfl, rfl, rfl⟩ := h
    exact ⟨_, _, _, _, _, _, _, _, _, _, _, _, _, _, _, hl, rfl⟩
  · cases h
/-- what such an __init__ promises -/
def spI (C : Addr) (ns : List Str) : Sp := fun vs H Q _ => ∃ a ws, vs = .ref a :: ws ∧ ws.length = ns.length ∧ H a = some (exo a C none) ∧
  ∀ dx H2, H dx = none → dx ≠ a → H2 a = some (exo a C (some dx)) → H2 dx = some (exd dx (ns.zip ws).reverse) → (∀ b, b ≠ a → b ≠ dx → H2 b = H b) → Q .non H2
section
variable {P : Program} {w : World} {K : PySem.W.Frag} {mg : Str → Option Value} {base : Heap} {nm qn B f g : Str} {args : Arguments} {body : List Stmt} {sc : Scope} {fI C CB : Addr} {fd : FuncData} {dvs : List V} {kws : List (Str × V)}
theorem init1_ok (k : Nat) (D : FunD K nm qn args body sc dvs kws fI fd) (S : FnScope ["self", f] ["self", f] sc) (hb : isInit1 B f body = true) (T : BaseAt K CB) (hm : mg B = some (.ref CB)) (hg : sc.names.lookup B = some .globalImplicit)
    (hdb : (B == ("__debug__" : Str)) = false) (hd : (f == ("__debug__" : Str)) = false) (hcd : (f == ("__classdict__" : Str)) = false) (ox : OexC K C) (hf : PySem.W.findIn K (.ref C) f = some none) :
    FnOk P w K mg base (L2.CX P w) (k + 1) fI fd ["self", f] (spI C [f]) := by
  refine FunD.ok D S (fun vs H Q E h => by obtain ⟨a, ws, rfl, hl, _⟩ := h; simpa using hl) fun cdv A outer s H vs Q E hr h => ?_
  obtain ⟨a, ws, rfl, hl, ha, hq⟩ := h
  obtain ⟨v, rfl⟩ : ∃ v, ws = [v] := by
    match ws, hl with
    | [v], _ => exact ⟨v, rfl⟩
  obtain ⟨p1, p2, p3, p4, p5, p6, p7, p8, p9, p10, hln, rfl⟩ := isInit1_eq hb
  have v0 : Vis sc "self" := (S.par "self" (by simp)).elim .inl fun z => .inr (.inl z)
  have v1 : Vis sc f := (S.par f (by simp)).elim .inl fun z => .inr (.inl z)
  refine ⟨_, pss_cons (ps_expr (pe_cinit (CB := CB) T hg hm hdb (pa_cons (pe_var (i := 0) rfl v0) (pa_cons (pe_var (i := 1) rfl v1 hd hcd) pa_nil)) rfl (by simp) hln)) (pss_cons (ps_ost (pe_var (i := 0) rfl v0) (pe_var (i := 1) rfl v1 hd hcd)) pss_nil), ?_⟩
  refine ⟨_, rfl, _, rfl, a, C, _, rfl, by simp, ox, ha, ?_⟩
  refine ⟨_, rfl, _, rfl, a, C, rfl, ox, hf, .inl ⟨ha, fun dx h1 h2 => ?_⟩⟩
  refine hq dx _ h1 h2 upd_same ?_ fun b h3 h4 => ?_
  · rw [upd_ne h2, upd_same]
    rfl
  · rw [upd_ne h3, upd_ne h4]
theorem init2_ok (k : Nat) (D : FunD K nm qn args body sc dvs kws fI fd) (S : FnScope ["self", f, g] ["self", f, g] sc) (hb : isInit2 B f g body = true) (T : BaseAt K CB) (hm : mg B = some (.ref CB)) (hg : sc.names.lookup B = some .globalImplicit)
    (hdb : (B == ("__debug__" : Str)) = false) (hd : (f == ("__debug__" : Str)) = false) (hcd : (f == ("__classdict__" : Str)) = false) (hd2 : (g == ("__debug__" : Str)) = false) (hcd2 : (g == ("__classdict__" : Str)) = false)
    (ox : OexC K C) (hf : PySem.W.findIn K (.ref C) f = some none) (hf2 : PySem.W.findIn K (.ref C) g = some none) :
    FnOk P w K mg base (L2.CX P w) (k + 1) fI fd ["self", f, g] (spI C [f, g]) := by
  refine FunD.ok D S (fun vs H Q E h => by obtain ⟨a, ws, rfl, hl, _⟩ := h; simpa using hl) fun cdv A outer s H vs Q E hr h => ?_
  obtain ⟨a, ws, rfl, hl, ha, hq⟩ := h
  obtain ⟨v, u, rfl⟩ : ∃ v u, ws = [v, u] := by
    match ws, hl with
    | [v, u], _ => exact ⟨v, u, rfl⟩
  obtain ⟨p1, p2, p3, p4, p5, p6, p7, p8, p9, p10, p11, p12, p13, p14, p15, hln, rfl⟩ := isInit2_eq hb
  have v0 : Vis sc "self" := (S.par "self" (by simp)).elim .inl fun z => .inr (.inl z)
  have v1 : Vis sc f := (S.par f (by simp)).elim .inl fun z => .inr (.inl z)
  have v2 : Vis sc g := (S.par g (by simp)).elim .inl fun z => .inr (.inl z)
  refine ⟨_, pss_cons (ps_expr (pe_cinit (CB := CB) T hg hm hdb (pa_cons (pe_var (i := 0) rfl v0) (pa_cons (pe_var (i := 1) rfl v1 hd hcd) (pa_cons (pe_var (i := 2) rfl v2 hd2 hcd2) pa_nil))) rfl (by simp) hln))
    (pss_cons (ps_ost (pe_var (i := 0) rfl v0) (pe_var (i := 1) rfl v1 hd hcd)) (pss_cons (ps_ost (pe_var (i := 0) rfl v0) (pe_var (i := 2) rfl v2 hd2 hcd2)) pss_nil)), ?_⟩
  refine ⟨_, rfl, _, rfl, _, rfl, a, C, _, rfl, by simp, ox, ha, ?_⟩
  refine ⟨_, rfl, _, rfl, a, C, rfl, ox, hf, .inl ⟨ha, fun dx h1 h2 => ?_⟩⟩
  refine ⟨_, rfl, _, rfl, a, C, rfl, ox, hf2, .inr ⟨dx, _, upd_same, (upd_ne h2).trans upd_same, by simp, ?_⟩⟩
  refine hq dx _ h1 h2 ((upd_ne (Ne.symm h2)).trans upd_same) upd_same fun b h3 h4 => ?_
  rw [upd_ne h4, upd_ne h3, upd_ne h4]
end
end BK

/-! BkX8: raise, try -/
namespace BK
open PySem PySem.Spec PyProof.Rows L2 RZ
/-! ### raise C(..) -/
/-- the class at C has its own __init__, which keeps its arguments under the names ns -/
structure XInit (P : Program) (w : World) (K : PySem.W.Frag) (mg : Str → Option Value) (base : Heap) (k : Nat) (C : Addr) (ns : List Str) : Prop where
  ox : OexC K C
  fn : ∃ fI fd ps, PySem.W.findIn K (.ref C) "__init__" = some (some (.ref fI)) ∧ PySem.W.typeIn K (.ref fI) = some (.type "function") ∧ FnOk P w K mg base (L2.CX P w) k fI fd ps (spI C ns) ∧ Binds K fd ps []
/-- .. none of its own -/
structure XPlain (K : PySem.W.Frag) (C : Addr) : Prop where
  ex : PySem.W.excIn K C [.type "ValueError", .type "Exception", .type "BaseException", .type "object"] "ValueError.__new__" = true
  kp : PySem.W.keepIn K (.ref C) = true
  h1 : PySem.W.subIn K (.ref C) (.type "BaseException") = some true
  h2 : PySem.W.typeIn K (.ref C) = some (.type "type")
def sRaise (c k : Nat) (n : AM) : SM := fun ρ st => SR.of (n (viewH ρ) st) fun xs st1 => if xs.length = k ∧ k ≤ 1000 then .exn c xs st1 else .bad
def sRaise0 (c : Nat) (n : AM) : SM := fun ρ st => SR.of (n (viewH ρ) st) fun xs st1 => if xs.length ≤ 1000 then .exn c [] st1 else .bad
theorem passes_false {P : Program} {w : World} {X : Cx} : Passes (L2.CX P w) X (fun _ _ _ => False) := fun _ _ _ _ _ _ _ h => by
  obtain ⟨_, _, _, _, _, _, _, _, _, _, _, _, h⟩ := h
  exact h.elim
section
variable {X : Cx} {g : Gx} {W : WX} {fr : Bool} {e : Expr} {es : List Expr} {n : AM} {x : Str} {p pos pos' : Pos} {C : Addr} {c k : Nat} {ns : List Str}
theorem s_raise (hc : X.calm = true) (tk : Takes X W) (hgc : g.fc c = some C) (hxn : g.xn c = ns) (I : XInit X.prog X.w X.K X.mg X.base k C ns) (hr : Room (k + 1) X.A) (hg : Gl X x) (hm : X.mg x = some (.ref C)) (hdb : (x == ("__debug__" : Str)) = false)
    (ha : PA X (e :: es) (tA g W n)) (hs : (e :: es).any isStar = false) : PS X (.Raise (some (.Call (.Name x p) (e :: es) [] pos)) none pos') (tS g W fr (sRaise c ns.length n)) := by
  obtain ⟨fI, fd, ps, h1, h2, F, hb⟩ := I.fn
  have hs' := hs
  rw [List.any_cons, Bool.or_eq_false_iff] at hs'
  refine PS.mono (ps_raise hc tk (pmk_oex (dvs := []) (ds := []) I.ox h1 h2 F hr hb .nil passes_false hg hm ha hdb (starEach_cons hs'.1) (backTo_any hs'.2))) fun D σ H h => ?_
  obtain ⟨F0, μ0, H0, B, F, μ, ρ, st, o, h⟩ := h
  refine ⟨F, μ, st, viewH ρ, o.w, o.en.viewH, (SPost.of o h).imp fun xs st1 F1 μ1 H1 e1 w1 ⟨o1, h1⟩ vs rv => ?_⟩
  split at h1
  · rename_i hk
    have hl := rv.length
    refine ⟨by omega, fun a ha => ⟨a, vs, by rw [List.append_nil], by omega, upd_same, fun dx H2 h2 h3 h4 h5 h6 => ⟨rfl, dx, _, h4, h5, ?_, ?_⟩⟩⟩
    · rw [upd_ne h3] at h2
      exact h2
    · rw [upd_ne h3] at h2
      have eH : upd (del H2 a) dx (.xd (ns.zip vs).reverse) = upd H1 dx (.xd (ns.zip vs).reverse) := by
        funext b
        by_cases q : b = dx
        · subst q
          rw [upd_same, upd_same]
        · rw [upd_ne q, upd_ne q]
          by_cases q2 : b = a
          · subst q2
            rw [del_same, ha]
          · rw [del_ne q2, h6 b q2 q, upd_ne q2]
      rw [eH]
      obtain ⟨e2, w2, q2, q3⟩ := w1.own h2 (.xd (ns.zip vs).reverse)
      exact h1 _ _ σ _ _ _ w2 (o1.e.trans e2) ⟨C, hgc, rfl, .inr ⟨dx, vs, rfl, by rw [hxn]; exact upd_same, by rw [hxn]; omega, rv⟩⟩
  · exact h1.elim
theorem s_raise0 (hc : X.calm = true) (tk : Takes X W) (hgc : g.fc c = some C) (I : XPlain X.K C) (hg : Gl X x) (hm : X.mg x = some (.ref C)) (hdb : (x == ("__debug__" : Str)) = false)
    (ha : PA X (e :: es) (tA g W n)) (hs : (e :: es).any isStar = false) : PS X (.Raise (some (.Call (.Name x p) (e :: es) [] pos)) none pos') (tS g W fr (sRaise0 c n)) := by
  have hs' := hs
  rw [List.any_cons, Bool.or_eq_false_iff] at hs'
  refine PS.mono (ps_raise hc tk (pmk_ownA PySem.F.excBase_ValueError I.ex hm I.kp (raises_own I.h1 I.h2) hg ha hdb (starEach_cons hs'.1) (backTo_any hs'.2))) fun D σ H h => ?_
  obtain ⟨F0, μ0, H0, B, F, μ, ρ, st, o, h⟩ := h
  refine ⟨F, μ, st, viewH ρ, o.w, o.en.viewH, (SPost.of o h).imp fun xs st1 F1 μ1 H1 e1 w1 ⟨o1, h1⟩ vs rv => ?_⟩
  split at h1
  · rename_i hk
    have hl := rv.length
    refine ⟨by rw [sizeLine_eq]; omega, ?_⟩
    exact h1 _ _ σ _ _ _ w1 o1.e ⟨C, hgc, rfl, .inl ⟨rfl, rfl⟩⟩
  · exact h1.elim
end
/-! ### what a suite hands back -/
abbrev SuM := Nat → List PV → Option PV
abbrev SusM := Nat → List PV → Option (List PV)
def suC (x : PV) : SuM := fun _ _ => some x
/-- the field f -/
def suF (xn : Nat → List Str) (f : Str) : SuM := fun c fs => if (xn c)[(xn c).idxOf f]? = some f then fs[(xn c).idxOf f]? else none
def suI (s : Nat → Option Bool) : SuM := fun c _ => (s c).map .bl
def susNil : SusM := fun _ _ => some []
def susCons (a : SuM) (b : SusM) : SusM := fun c fs => (a c fs).bind fun x => (b c fs).map fun xs => x :: xs
def suT (b : SusM) : SuM := fun c fs => (b c fs).map .tup
def suIf (s : SuM) (a b : SuM) : SuM := fun c fs => match s c fs with
  | some (.bl t) => if t = true then a c fs else b c fs
  | _ => none
def suAnd (a b : SuM) : SuM := fun c fs => match a c fs with
  | some (.bl t) => if t = true then b c fs else some (.bl false)
  | _ => none
/-- what a class must say, so that isinstance asks its instances rightly -/
structure KitC (K : PySem.W.Frag) (D : Addr) : Prop where
  hg : PySem.W.findIn K (.ref D) "__getattribute__" = some (some (.builtin "BaseException.__getattribute__"))
  hk : PySem.W.findIn K (.ref D) "__getattr__" = some none
  hs : PySem.W.subIn K (.ref D) (.type "BaseException") = some true
  ha : PySem.W.findIn K (.ref D) "__class__" = some (some (.builtin "object.__class__"))
  hn : PySem.W.specialIn K (.builtin "object.__class__") "__get__" = some (some (.builtin "getset_descriptor.__get__"))
  ht : PySem.W.takesIn K (.builtin "object.__class__") = some true
  hm : PySem.W.mroIn K D (.type "object") = some true
  hcl : (PySem.W.clsIn K D).isSome = true
/-- what the classes must say -/
structure XcOk (g : Gx) (K : PySem.W.Frag) : Prop where
  xf : ∀ c C, g.fc c = some C → XfC K C
  nf : ∀ c C, g.fc c = some C → ∀ f ∈ g.xn c, PySem.W.findIn K (.ref C) f = some none
  nd : ∀ c, (g.xn c).Nodup
  kit : ∀ c C, g.fc c = some C → KitC K C
def tSu (g : Gx) (i : Nat) (a : Addr) (cls : Value) (d : Option Addr) (su : SuM) : TE := fun σ H Q => ∃ F μ st c fs v, (i < σ.length → σ[i]? = some (some (.ref a))) ∧ Wok g.K g.fa F μ H st ∧ XRep g F μ H c fs cls d ∧ su c fs = some v ∧
  ∀ F' μ' H', Ext F μ H F' μ' H' → Wok g.K g.fa F' μ' H' st → ∀ u, Rep g.K g.fa F' μ' u v → Q u H'
def tSus (g : Gx) (i : Nat) (a : Addr) (cls : Value) (d : Option Addr) (su : SusM) : TA := fun σ H Q => ∃ F μ st c fs v, (i < σ.length → σ[i]? = some (some (.ref a))) ∧ Wok g.K g.fa F μ H st ∧ XRep g F μ H c fs cls d ∧ su c fs = some v ∧
  ∀ F' μ' H', Ext F μ H F' μ' H' → Wok g.K g.fa F' μ' H' st → ∀ u, Reps g.K g.fa F' μ' u v → Q u H'
theorem XRep.ext {g : Gx} {F F' : Hp} {μ μ' : List Addr} {H H' : Hp} {st : Sto} {c : Nat} {fs : List PV} {cls : Value} {d : Option Addr} (x : XRep g F μ H c fs cls d) (w : Wok g.K g.fa F μ H st) (e : Ext F μ H F' μ' H') : XRep g F' μ' H' c fs cls d := by
  obtain ⟨C, h1, h2, h | ⟨da, vs, h3, h4, h5, h6⟩⟩ := x
  · exact ⟨C, h1, h2, .inl h⟩
  · refine ⟨C, h1, h2, .inr ⟨da, vs, h3, e.hs _ _ h4 fun m => ?_, h5, h6.ext e⟩⟩
    obtain ⟨n, hn⟩ := List.mem_iff_getElem?.mp m
    obtain ⟨so, ho, _, h, r⟩ := w.obj n da hn
    rw [h4] at h
    cases h
    cases so <;> exact r.elim
section
variable {X : Cx} {g : Gx} {i : Nat} {a : Addr} {oe : Obj} {cls : Value} {d : Option Addr} {pn : List (Addr × Obj)} {e e1 e2 : Expr} {es : List Expr} {su s1 s2 s3 : SuM} {sus : SusM} {p p1 p2 pos : Pos} {y n : Str} {v : V} {x : PV}
theorem su_const {X' : Cx} (h : PE X' e (tC v)) (r : ∀ F μ, Rep g.K g.fa F μ v x) : PE X' e (tSu g i a cls d (suC x)) := by
  refine PE.mono h fun σ H Q h => ?_
  obtain ⟨F, μ, st, c, fs, v', _, w, _, q, h⟩ := h
  cases q
  exact h F μ H (Ext.refl ..) w v (r F μ)
theorem su_nil {X' : Cx} : PA X' [] (tSus g i a cls d susNil) := by
  refine PA.mono pa_nil fun σ H Q h => ?_
  obtain ⟨F, μ, st, c, fs, v', _, w, _, q, h⟩ := h
  cases q
  exact h F μ H (Ext.refl ..) w [] .nil
theorem su_cons {X' : Cx} (h1 : PE X' e (tSu g i a cls d su)) (h2 : PA X' es (tSus g i a cls d sus)) (hs : isStar e = false) : PA X' (e :: es) (tSus g i a cls d (susCons su sus)) := by
  refine PA.mono (pa_cons h1 h2 (starEach_cons hs)) fun σ H Q h => ?_
  obtain ⟨F, μ, st, c, fs, v', k, w, x, q, h⟩ := h
  unfold susCons at q
  rw [Option.bind_eq_some_iff] at q
  obtain ⟨u, q1, q2⟩ := q
  rw [Option.map_eq_some_iff] at q2
  obtain ⟨us, q3, rfl⟩ := q2
  refine ⟨F, μ, st, c, fs, u, k, w, x, q1, fun F1 μ1 H1 e1 w1 v1 r1 => ?_⟩
  refine ⟨F1, μ1, st, c, fs, us, k, w1, x.ext w e1, q3, fun F2 μ2 H2 e2 w2 v2 r2 => ?_⟩
  exact h F2 μ2 H2 (e1.trans e2) w2 _ (.cons (r1.ext e2) r2)
theorem su_tup {X' : Cx} {k : Nat} (h : PA X' es (tSus g i a cls d sus)) (hl : ∀ c fs xs, sus c fs = some xs → xs.length ≤ 1000) : PE X' (.Tuple es k pos) (tSu g i a cls d (suT sus)) := by
  refine PE.mono (L2.pe_tup h) fun σ H Q h => ?_
  obtain ⟨F, μ, st, c, fs, v', k, w, x, q, h⟩ := h
  unfold suT at q
  rw [Option.map_eq_some_iff] at q
  obtain ⟨us, q3, rfl⟩ := q
  refine ⟨F, μ, st, c, fs, us, k, w, x, q3, fun F1 μ1 H1 e1 w1 v1 r1 => ?_⟩
  have h2 := hl _ _ _ q3
  have h3 := r1.length
  have hz : v1.length ≤ sizeLine := by rw [sizeLine_eq]; omega
  refine ⟨hz, fun p hp => ?_⟩
  obtain ⟨e2, w2, q2⟩ := w1.alloc hp (.tup v1)
  exact h _ _ _ (e1.trans e2) w2 _ (.tup (.inl (.inl q2)) hz (r1.ext e2))
/-- the caught one's name -/
theorem pe_su (hN : X.N[i]? = some n) (hv : Vis X.env.scope n) (hd : (n == ("__debug__" : Str)) = false) (hcd : (n == ("__classdict__" : Str)) = false) :
    PE X (.Name n p) (fun σ H Q => (i < σ.length → σ[i]? = some (some (.ref a))) ∧ Q (.ref a) H) :=
  ⟨fun pins s σ H Q I h => (pe_var hN hv hd hcd).run pins s σ H Q I ⟨_, h.1 (by rw [I.len]; exact (List.getElem?_eq_some_iff.mp hN).1), h.2⟩⟩
theorem pe_given {X' : Cx} {t : TE} {P : Prop} (h : P → PE X' e t) (hp : ∀ σ H Q, t σ H Q → P) : PE X' e t := ⟨fun pins s σ H Q I q => (h (hp _ _ _ q)).run pins s σ H Q I q⟩
theorem zip_look : ∀ {ns : List Str} {vs : List V} {k : Nat} {f : Str}, ns.Nodup → vs.length = ns.length → ns[k]? = some f → ∃ v, vs[k]? = some v ∧ ((ns.zip vs).reverse).lookup f = some v
  | [], _, _, _, _, _, h => by simp at h
  | n :: ns, [], _, _, _, hl, _ => by simp at hl
  | n :: ns, v :: vs, 0, f, nd, hl, h => by
    simp only [List.getElem?_cons_zero, Option.some.injEq] at h
    subst h
    refine ⟨v, rfl, ?_⟩
    rw [List.zip_cons_cons, List.reverse_cons, List.lookup_append]
    have : ((ns.zip vs).reverse).lookup n = none := by
      rw [List.lookup_eq_none_iff]
      intro q hq
      rw [List.mem_reverse] at hq
      have := List.of_mem_zip hq
      simp only [bne_iff_ne, ne_eq, beq_eq_false_iff_ne]
      intro e
      rw [← e] at this
      exact (List.nodup_cons.mp nd).1 this.1
    rw [this]
    simp
  | n :: ns, v :: vs, k + 1, f, nd, hl, h => by
    simp only [List.getElem?_cons_succ] at h
    obtain ⟨u, h1, h2⟩ := zip_look (List.nodup_cons.mp nd).2 (by simpa using hl) h
    refine ⟨u, by simpa using h1, ?_⟩
    rw [List.zip_cons_cons, List.reverse_cons, List.lookup_append, h2]
    rfl
theorem su_fld (xc : XcOk g X.K) (hz : Zc cls d oe) (hf : ∃ vs, oe.data = .fields vs) (hN : X.N[i]? = some n) (hv : Vis X.env.scope n) (hd : (n == ("__debug__" : Str)) = false) (hcd : (n == ("__classdict__" : Str)) = false) :
    PE (X.suite a ((a, oe) :: pn)) (.Attribute (.Name n p) y pos) (tSu g i a cls d (suF g.xn y)) := by
  refine pe_given (P := ∃ c C, g.fc c = some C ∧ cls = .ref C ∧ y ∈ g.xn c) (fun ⟨c, C, h1, h2, h3⟩ => ?_) fun σ H Q h => ?_
  · refine PE.mono (pe_xf (xc.xf c C h1) (xc.nf c C h1 y h3) hz hf (pe_su (X := X.suite a ((a, oe) :: pn)) (a := a) (i := i) hN hv hd hcd) rfl) fun σ H Q h => ?_
    obtain ⟨F, μ, st, c', fs, v', k, w, x, q, h⟩ := h
    unfold suF at q
    split at q
    · rename_i hi
      obtain ⟨C', g1, g2, ⟨rfl, rfl⟩ | ⟨da, vs, rfl, g4, g5, g6⟩⟩ := x
      · simp at q
      · obtain ⟨u, z1, z2⟩ := zip_look (xc.nd c') g5 hi
        obtain ⟨x', z3, z4⟩ := g6.get' z1
        rw [q] at z3
        cases z3
        exact ⟨k, rfl, h2, da, _, u, rfl, g4, z2, h F μ H (Ext.refl ..) w u z4⟩
    · cases q
  · obtain ⟨F, μ, st, c', fs, v', k, w, ⟨C', g1, g2, _⟩, q, h⟩ := h
    unfold suF at q
    split at q
    · rename_i hi
      exact ⟨c', C', g1, g2, List.mem_of_getElem? hi⟩
    · cases q
theorem call_isX {D : Addr} (C : KitC X.K D) {od : Option Obj} {pins : List (Addr × Obj)} {s : Shared} {σ : L2.St} {H : Hp} {Q : VK} {cv : Value} {b : Bool} (I : Inv X pins σ H s) (J : PySem.W.InstAt s.heap a oe D od)
    (e : PySem.W.kitOne X.K (.ref D) cv = some b) (q : Q (.bl b) H) : wpAny (model X.prog X.w) X.A (call (.builtin "isinstance") [.ref a, cv]) (EP X pins σ Q) X.xe s :=
  PySem.W.kia_one (PySem.W.kitx_exc C.hcl C.hg C.hk C.hs C.ha C.hn C.ht C.hm) I.kIn J e (fun z => nomatch z) fun tk => ⟨.bl b, H, I.kept (t' := tk) fun _ _ z => z, rfl, q⟩
/-- isinstance(n, D) -/
theorem su_isi (xc : XcOk g X.K) (hz : Zc cls d oe) (hf : ∃ vs, oe.data = .fields vs) (hN : X.N[i]? = some n) (hv : Vis X.env.scope n) (hd : (n == ("__debug__" : Str)) = false) (hcd : (n == ("__classdict__" : Str)) = false)
    (hgi : Gl X "isinstance") (hmi : X.mg "isinstance" = none) {cv : Value} {vc : V} (hy : ∀ X' : Cx, X'.mg = X.mg → X'.env = X.env → PE X' (.Name y p2) (tC vc)) (hcv : ∀ u, RelV vc u → u = cv) {sub : Nat → Option Bool}
    (hsub : ∀ c C b, g.fc c = some C → sub c = some b → PySem.W.kitOne X.K (.ref C) cv = some b) :
    PE (X.suite a ((a, oe) :: pn)) (.Call (.Name "isinstance" p) [.Name n p1, .Name y p2] [] pos) (tSu g i a cls d (suI sub)) := by
  refine pe_given (P := ∃ c C b, g.fc c = some C ∧ cls = .ref C ∧ sub c = some b) (fun ⟨c, C, b, h1, h2, h3⟩ => ?_) fun σ H Q h => ?_
  · have kc := xc.kit c C h1
    have hr : CallR (X.suite a ((a, oe) :: pn)) (.builtin "isinstance") (fun xs H Q => xs = [.ref a, vc] ∧ (d = none ∨ ∃ da fs, d = some da ∧ H da = some (.xd fs)) ∧ Q (.bl b) H) := by
      intro pins s σ H xs us Q I r h
      obtain ⟨rfl, hx, q⟩ := h
      cases r with
      | cons rx rr =>
        cases rr with
        | cons rt rr =>
          cases rr
          cases rx
          have ec := hcv _ rt
          subst ec
          obtain ⟨hget, _⟩ := I.pin (a, oe) (List.mem_append.mpr (.inl List.mem_cons_self))
          obtain ⟨vs, hv⟩ := hf
          rcases hx with rfl | ⟨da, fs, rfl, hda⟩
          · have J : PySem.W.InstAt s.heap a oe C none := ⟨hget, by rw [hz.1, h2], by unfold PySem.W.notCls; rw [hv] <;> rfl, by rw [hz.2]; exact trivial⟩
            exact call_isX (X := X.suite a ((a, oe) :: pn)) kc I J (hsub c C b h1 h3) q
          · have hxd : ObjOk X.prog X.w H s.heap da (.xd fs) := I.hok da _ hda
            obtain ⟨mA, hns, hr⟩ := hxd
            obtain ⟨od, ho, hl⟩ := lookIn_ns hns
            have J : PySem.W.InstAt s.heap a oe C (some od) := ⟨hget, by rw [hz.1, h2], by unfold PySem.W.notCls; rw [hv] <;> rfl, by rw [hz.2]; exact ho⟩
            exact call_isX (X := X.suite a ((a, oe) :: pn)) kc I J (hsub c C b h1 h3) q
    refine PE.mono (pe_callB hr hgi hmi PyProof.Rows.boot_isinstance (pa_cons (pe_su (X := X.suite a ((a, oe) :: pn)) (a := a) (i := i) hN hv hd hcd) (pa_cons (hy _ rfl rfl) pa_nil)) (by decide) (by decide)) fun σ H Q h => ?_
    obtain ⟨F, μ, st, c', fs, v', k, w, x, q, h⟩ := h
    refine ⟨k, rfl, ?_, ?_⟩
    · obtain ⟨C', g1, g2, ⟨rfl, rfl⟩ | ⟨da, vs, rfl, g4, g5, g6⟩⟩ := x
      · exact .inl rfl
      · exact .inr ⟨da, _, rfl, g4⟩
    · obtain ⟨C', g1, g2, _⟩ := x
      rw [h2] at g2
      cases g2
      unfold suI at q
      rw [Option.map_eq_some_iff] at q
      obtain ⟨b', q1, rfl⟩ := q
      have e1 := hsub c' C b' g1 q1
      have e2 := hsub c C b h1 h3
      rw [e1] at e2
      cases e2
      exact h F μ H (Ext.refl ..) w _ (.bl b)
  · obtain ⟨F, μ, st, c', fs, v', k, w, ⟨C', g1, g2, _⟩, q, h⟩ := h
    unfold suI at q
    rw [Option.map_eq_some_iff] at q
    obtain ⟨b', q1, _⟩ := q
    exact ⟨c', C', b', g1, g2, q1⟩
theorem su_test {X' : Cx} (h : PE X' e (tSu g i a cls d su)) (he : ∀ whole, isTrue e X'.env whole = (do let v ← whole; standAt e.pos; holding [v] (truthy v))) :
    PT X' e (fun σ H Q => ∃ F μ st c fs b, (i < σ.length → σ[i]? = some (some (.ref a))) ∧ Wok g.K g.fa F μ H st ∧ XRep g F μ H c fs cls d ∧ su c fs = some (.bl b) ∧ ∀ F' μ' H', Ext F μ H F' μ' H' → Wok g.K g.fa F' μ' H' st → Q b H') := by
  refine PT.mono (pt_val h he) fun σ H Q h => ?_
  obtain ⟨F, μ, st, c, fs, b, k, w, x, q, h⟩ := h
  refine ⟨F, μ, st, c, fs, _, k, w, x, q, fun F1 μ1 H1 e1 w1 u r => ?_⟩
  cases r
  exact ⟨b, rfl, h F1 μ1 H1 e1 w1⟩
theorem su_if {X' : Cx} (h1 : PE X' e (tSu g i a cls d s1)) (he : ∀ whole, isTrue e X'.env whole = (do let v ← whole; standAt e.pos; holding [v] (truthy v))) (h2 : PE X' e1 (tSu g i a cls d s2)) (h3 : PE X' e2 (tSu g i a cls d s3)) :
    PE X' (.IfExp e e1 e2 pos) (tSu g i a cls d (suIf s1 s2 s3)) := by
  refine PE.mono (pe_ifExp (su_test h1 he) h2 h3) fun σ H Q h => ?_
  obtain ⟨F, μ, st, c, fs, v, k, w, x, q, h⟩ := h
  unfold suIf at q
  split at q
  · rename_i t ht
    refine ⟨F, μ, st, c, fs, t, k, w, x, ht, fun F1 μ1 H1 e1 w1 => ?_⟩
    split at q
    · rename_i ht
      rw [if_pos ht]
      exact ⟨F1, μ1, st, c, fs, v, k, w1, x.ext w e1, q, fun F2 μ2 H2 e2 w2 => h F2 μ2 H2 (e1.trans e2) w2⟩
    · rename_i ht
      rw [if_neg ht]
      exact ⟨F1, μ1, st, c, fs, v, k, w1, x.ext w e1, q, fun F2 μ2 H2 e2 w2 => h F2 μ2 H2 (e1.trans e2) w2⟩
  · cases q
theorem su_and {X' : Cx} {rest : List Expr} (h1 : PE X' e (tSu g i a cls d s1)) (h2 : PE X' (.BoolOp .And (e1 :: rest) pos) (tSu g i a cls d s2)) : PE X' (.BoolOp .And (e :: e1 :: rest) pos) (tSu g i a cls d (suAnd s1 s2)) := by
  refine PE.mono (pe_and h1 h2) fun σ H Q h => ?_
  obtain ⟨F, μ, st, c, fs, v, k, w, x, q, h⟩ := h
  unfold suAnd at q
  split at q
  · rename_i t ht
    refine ⟨F, μ, st, c, fs, .bl t, k, w, x, ht, fun F1 μ1 H1 e1 w1 u r => ?_⟩
    cases r
    refine ⟨t, rfl, ?_⟩
    split at q
    · rename_i ht
      rw [if_pos ht]
      exact ⟨F1, μ1, st, c, fs, v, k, w1, x.ext w e1, q, fun F2 μ2 H2 e2 w2 => h F2 μ2 H2 (e1.trans e2) w2⟩
    · rename_i ht
      rw [if_neg ht]
      cases q
      exact h F1 μ1 H1 e1 w1 _ (.bl false)
  · cases q
end
end BK

/-! BkX9: try -/
namespace BK
open PySem PySem.Spec PyProof.Rows L2 RZ
def sTry (body : SM) (sub : Nat → Option Bool) (su : SuM) : SM := fun ρ st => match body ρ st with
  | .exn c fs st1 => match sub c with
    | some true => match su c fs with
      | some v => .ret v st1
      | none => .bad
    | some false => .exn c fs st1
    | none => .bad
  | r => r
section
variable {X : Cx} {g : Gx} {W : WX} {x n : Str} {i : Nat} {c : Value} {body : List Stmt} {e : Expr} {np pos pos' p3 : Pos} {m : SM} {su : SuM} {sub : Nat → Option Bool}
theorem s_tryAs (hs : X.stack = X.env :: X.outer) (hf : X.env.frame = some X.env.locals) (hN : X.N.Nodup) (hi : X.N[i]? = some n) (hln : X.env.kindOf n = some .local) (hc : Names X x c) (tk : Takes X W)
    (hsub : ∀ k C b, g.fc k = some C → sub k = some b → PySem.W.exmOne X.K (.ref C) c = some b)
    (hb : ∀ (W' : WX) (pn : List (Addr × Obj)) (xe : Value → Shared → Prop), Takes (X.tr pn xe) W' → PassesOwn (model X.prog X.w) X.A X.env xe → PSs (X.tr pn xe) body (tS g W' false m))
    (hsu : ∀ (a : Addr) (oe : Obj) (cls : Value) (d : Option Addr) (pn : List (Addr × Obj)), Zc cls d oe → (∃ vs, oe.data = .fields vs) → PE (X.suite a ((a, oe) :: pn)) e (tSu g i a cls d su)) :
    PS X (.Try body [.ExceptHandler (some (.Name x np)) (some n) [.Return (some e) p3] pos'] [] [] pos) (tS g W false (sTry m sub su)) := by
  refine PS.mono (ps_try_as (Wout := W) hs hf hN hi hln hc tk hb fun a oe cls d pn hz hv => pss_one (ps_ret (hsu a oe cls d pn hz hv))) fun D σ H h => ?_
  obtain ⟨F0, μ0, H0, B, F, μ, ρ, st, o, h⟩ := h
  refine ⟨F0, μ0, H0, B, F, μ, ρ, st, o, ?_⟩
  unfold sTry at h
  cases q : m ρ st with
  | nx ρ1 st1 => rw [q] at h; exact h
  | ret y st1 => rw [q] at h; exact h
  | brk ρ1 st1 => rw [q] at h; exact h
  | ct ρ1 st1 => rw [q] at h; exact h
  | bad => rw [q] at h; exact h.elim
  | exn k fs st1 =>
    rw [q] at h
    simp only at h
    intro cls d σ1 F1 μ1 H1 w1 e1 xr
    obtain ⟨C, g1, g2, g3⟩ := id xr
    cases qs : sub k with
    | none => rw [qs] at h; exact h.elim
    | some b =>
      rw [qs] at h
      refine ⟨b, by rw [g2]; exact hsub k C b g1 qs, fun hb a na => ?_, fun hb => ?_⟩
      · subst hb
        simp only at h
        cases qv : su k fs with
        | none => rw [qv] at h; exact h.elim
        | some v =>
          rw [qv] at h
          refine ⟨F1, μ1, st1, k, fs, v, fun hl => ?_, w1, xr, qv, fun F2 μ2 H2 e2 w2 u ru => ?_⟩
          · rw [List.length_set] at hl
            rw [List.getElem?_set_self hl]
          · exact h u F2 μ2 H2 w2 (e1.trans e2) ru
      · subst hb
        exact h cls d σ1 F1 μ1 H1 w1 e1 xr
theorem s_tryOnly (hs : X.stack = X.env :: X.outer) (hf : X.env.frame = some X.env.locals) (hc : Names X x c) (tk : Takes X W)
    (hsub : ∀ k C b, g.fc k = some C → sub k = some b → PySem.W.exmOne X.K (.ref C) c = some b)
    (hb : ∀ (W' : WX) (pn : List (Addr × Obj)) (xe : Value → Shared → Prop), Takes (X.tr pn xe) W' → PassesOwn (model X.prog X.w) X.A X.env xe → PSs (X.tr pn xe) body (tS g W' false m))
    {v : V} {y : PV} (hsu : ∀ X' : Cx, PE X' e (tC v)) (r : ∀ F μ, Rep g.K g.fa F μ v y) :
    PS X (.Try body [.ExceptHandler (some (.Name x np)) none [.Return (some e) p3] pos'] [] [] pos) (tS g W false (sTry m sub (suC y))) := by
  refine PS.mono (ps_try_only (Wout := W) hs hf hc tk hb fun a oe cls d pn hz hv => pss_one (ps_ret (hsu _))) fun D σ H h => ?_
  obtain ⟨F0, μ0, H0, B, F, μ, ρ, st, o, h⟩ := h
  refine ⟨F0, μ0, H0, B, F, μ, ρ, st, o, ?_⟩
  unfold sTry at h
  cases q : m ρ st with
  | nx ρ1 st1 => rw [q] at h; exact h
  | ret y st1 => rw [q] at h; exact h
  | brk ρ1 st1 => rw [q] at h; exact h
  | ct ρ1 st1 => rw [q] at h; exact h
  | bad => rw [q] at h; exact h.elim
  | exn k fs st1 =>
    rw [q] at h
    simp only at h
    intro cls d σ1 F1 μ1 H1 w1 e1 xr
    obtain ⟨C, g1, g2, g3⟩ := id xr
    cases qs : sub k with
    | none => rw [qs] at h; exact h.elim
    | some b =>
      rw [qs] at h
      refine ⟨b, by rw [g2]; exact hsub k C b g1 qs, fun hb a na => ?_, fun hb => ?_⟩
      · subst hb
        exact h v F1 μ1 H1 w1 e1 (r F1 μ1)
      · subst hb
        exact h cls d σ1 F1 μ1 H1 w1 e1 xr
end
end BK

/-! BkXA: store objects: lists that grow, instances, their fields and methods -/
namespace BK
open PySem PySem.Spec PyProof.Rows L2 RZ
/-! ### lists in the store -/
theorem rep_ref {K : PySem.W.Frag} {fa : Fx} {F : Hp} {μ : List Addr} {v : V} {n : Nat} (r : Rep K fa F μ v (.ref n)) : ∃ ad, μ[n]? = some ad ∧ v = .ref ad := by
  cases r with
  | ref q => exact ⟨_, q, rfl⟩
theorem mem_later {μ μ' : List Addr} {n : Nat} {a : Addr} (h : μ[n]? = some a) (m : ∃ t, μ' = μ ++ t) : μ'[n]? = some a := by
  obtain ⟨t, rfl⟩ := m
  rw [List.getElem?_append_left (List.getElem?_eq_some_iff.mp h).1]
  exact h
def sAppR (mo m : EM) : SM := fun ρ st => SR.of (mo (viewH ρ) st) fun a st1 => match a with
  | .ref n => match st1[n]? with
    | some (.lst _) => SR.of (m (viewH ρ) st1) fun x st2 => match st2[n]? with
      | some (.lst xs) => if xs.length < sizeLine then .nx ρ (st2.set n (.lst (xs ++ [x]))) else .bad
      | _ => .bad
    | _ => .bad
  | _ => .bad
def sPopR (mo : EM) (t : GM) : SM := fun ρ st => SR.of (mo (viewH ρ) st) fun a st1 => match a with
  | .ref n => match st1[n]? with
    | some (.lst xs) => match xs[xs.length - 1]? with
      | some x => match t x with
        | some as => .nx (setS ρ as) (st1.set n (.lst xs.dropLast))
        | none => .bad
      | none => .bad
    | _ => .bad
  | _ => .bad
section
variable {X : Cx} {g : Gx} {W : WX} {fr : Bool} {o e : Expr} {mo m : EM} {pos apos cpos : Pos}
theorem s_appR (ho : PE X o (tE g W mo)) (he : PE X e (tE g W m)) (hb : isCall0 o = false) (hs : isStar e = false) (hln : (apos.endLine == cpos.line) = true) :
    PS X (.Expr (.Call (.Attribute o "append" apos) [e] [] cpos) pos) (tS g W fr (sAppR mo m)) := by
  refine PS.mono (ps_expr (pe_bm PySem.F.plainAttrs_list PySem.F.slot_list_append PySem.F.type_list_append mt_append ho (pa_cons he pa_nil (starEach_cons hs)) (base_of hb) (fewArgs (by simp [hs]) (by simp)) hln (starEach_cons hs) rfl)) fun D σ H h => ?_
  obtain ⟨F0, μ0, H0, B, F, μ, ρ, st, ok, h⟩ := h
  refine ⟨F, μ, st, viewH ρ, ok.w, ok.en.viewH, (SPost.of ok h).imp fun a st1 F1 μ1 H1 e1 w1 ⟨o1, h1⟩ va ra => ?_⟩
  obtain ⟨n, rfl⟩ : ∃ n, a = PV.ref n := by
    cases a <;> first | exact ⟨_, rfl⟩ | exact h1.elim
  obtain ⟨ad, q, rfl⟩ := rep_ref ra
  obtain ⟨so, ho', q1, q2, q3⟩ := w1.obj n ad q
  simp only [q1] at h1
  cases so <;> try (exact h1.elim)
  obtain ⟨us, rfl, q4, q5⟩ := q3.lst
  refine ⟨tyV_lst q2, F1, μ1, st1, viewH ρ, o1.w, o1.en.viewH, (SPost.of o1 h1).imp fun x st2 F2 μ2 H2 e2 w2 ⟨o2, h2⟩ v rv => ?_⟩
  have q' : μ2[n]? = some ad := by
    obtain ⟨t, ht⟩ := e2.ms
    rw [ht, List.getElem?_append_left (List.getElem?_eq_some_iff.mp q).1]
    exact q
  obtain ⟨so, ho', p1, p2, p3⟩ := w2.obj n ad q'
  simp only [p1] at h2
  cases so <;> try (exact h2.elim)
  rename_i xs
  obtain ⟨ws, rfl, p4, p5⟩ := p3.lst
  simp only at h2
  split at h2
  · rename_i c
    have hl := p5.length
    exact ⟨ad, ws, v, rfl, rfl, p2, by omega, h2 _ _ _ _ (o2.store (y0 := .lst (xs ++ [x])) (u0 := .lst (ws ++ [v])) q' ⟨by rw [List.length_append]; simp; omega, p5.append (.cons rv .nil)⟩)⟩
  · exact h2.elim
theorem s_popR {tg : Expr} {t : GM} {vs : List Nat} (hk : Keys t vs) (ho : PE X o (tE g W mo)) (hg : PG X tg (tG g vs t)) (hb : isCall0 o = false) (hln : (apos.endLine == cpos.line) = true)
    (h1 : (assignEach [tg] X.env).map (·.2) = [assign tg X.env]) (hs : swapsWithSole [tg] (.Call (.Attribute o "pop" apos) [] [] cpos) pos.line X.env = pure false) (hw : swappedStores [tg] (.Call (.Attribute o "pop" apos) [] [] cpos) X.env = pure none) :
    PS X (.Assign [tg] (.Call (.Attribute o "pop" apos) [] [] cpos) pos) (tS g W fr (sPopR mo t)) := by
  refine PS.mono (ps_asg (pe_bm0 PySem.F.plainAttrs_list PySem.F.slot_list_pop PySem.F.type_list_pop mt_pop ho (base_of hb) hln) hg hs hw h1) fun D σ H h => ?_
  obtain ⟨F0, μ0, H0, B, F, μ, ρ, st, ok, h⟩ := h
  refine ⟨F, μ, st, viewH ρ, ok.w, ok.en.viewH, (SPost.of ok h).imp fun a st1 F1 μ1 H1 e1 w1 ⟨o1, h1⟩ va ra => ?_⟩
  obtain ⟨n, rfl⟩ : ∃ n, a = PV.ref n := by
    cases a <;> first | exact ⟨_, rfl⟩ | exact h1.elim
  obtain ⟨ad, q, rfl⟩ := rep_ref ra
  obtain ⟨so, ho', q1, q2, q3⟩ := w1.obj n ad q
  simp only [q1] at h1
  cases so <;> try (exact h1.elim)
  rename_i xs
  obtain ⟨us, rfl, q4, q5⟩ := q3.lst
  simp only at h1
  cases qx : xs[xs.length - 1]? with
  | none => rw [qx] at h1; exact h1.elim
  | some y =>
    rw [qx] at h1
    simp only at h1
    cases q2' : t y with
    | none => rw [q2'] at h1; exact h1.elim
    | some as =>
      rw [q2'] at h1
      obtain ⟨v, hv', rv⟩ := q5.get qx
      have o2 := o1.store (y0 := .lst xs.dropLast) (u0 := .lst us.dropLast) q ⟨by rw [List.length_dropLast]; omega, q5.dropLast⟩
      refine ⟨tyV_lst q2, ad, us, v, rfl, rfl, q2, by rw [q5.length]; exact hv', F1, μ1, _, viewH ρ, y, as, o2.w, o2.en.viewH, rv, q2', fun σ' off en => h1 σ' F1 μ1 _ (o2.assign off en (hk y as q2'))⟩
end
end BK

/-! BkK: from the row's syntax to functions on plain values -/
namespace BK
open PySem PySem.Spec PyProof.Rows L2 RZ

/-- what a module's name stands for: a def (its number, how many parameters, whether it hands back a new list, its defaults), or a constant -/
inductive GI where
  | fn (k np : Nat) (fr : Bool) (dfl : List PV)
  | const (x : PV)
  /-- an own exception class: its number, its fields' names, whether it has its own __init__ -/
  | exc (c : Nat) (ns : List Str) (own : Bool)
structure Cs where
  N : List Str
  sc : Scope
  fnc : Str → Bool
  glob : List (Str × GI)
  blt : List Str
  call : Nat → List PV → Sto → Res PV
  mts : List Nat
  sto : List Nat
  fr : Bool
  /-- the exceptions' fields by their classes' numbers; whether one class is below another -/
  xn : Nat → List Str
  xsub : Nat → Nat → Option Bool
def visB (sc : Scope) (x : Str) : Bool := match sc.names.lookup x with
  | some .local => true
  | some .cell => true
  | some .free => true
  | _ => false
def glB (sc : Scope) (x : Str) : Bool := match sc.names.lookup x with
  | some .globalImplicit => true
  | _ => false
def locB (sc : Scope) (x : Str) : Bool := match sc.names.lookup x with
  | some .local => true
  | some .cell => true
  | _ => false
def dbg (x : Str) : Bool := x == ("__debug__" : Str)
def cdct (x : Str) : Bool := x == ("__classdict__" : Str)
def ixOf (N : List Str) (x : Str) : Option Nat := if N[N.idxOf x]? = some x then some (N.idxOf x) else none
def slotOf (c : Cs) (x : Str) : Option Nat := if visB c.sc x = true ∧ dbg x = false ∧ cdct x = false then ixOf c.N x else none
/-- the same for a target -/
def tgtOf (c : Cs) (x : Str) : Option Nat := if locB c.sc x = true ∧ (c.fnc x = true ∨ c.sc.names.lookup x = some .local) then ixOf c.N x else none
theorem ixOf_some {N : List Str} {x : Str} {i : Nat} (h : ixOf N x = some i) : N[i]? = some x := by
  unfold ixOf at h
  split at h
  · rename_i q
    cases h
    exact q
  · cases h
theorem vis_of {sc : Scope} {x : Str} (h : visB sc x = true) : Vis sc x := by
  unfold visB at h
  split at h <;> first | exact .inl (by assumption) | exact .inr (.inl (by assumption)) | exact .inr (.inr (by assumption)) | cases h
theorem loc_of {sc : Scope} {x : Str} (h : locB sc x = true) : Loc sc x := by
  unfold locB at h
  split at h <;> first | exact .inl (by assumption) | exact .inr (by assumption) | cases h
theorem gl_of {sc : Scope} {x : Str} (h : glB sc x = true) : sc.names.lookup x = some .globalImplicit := by
  unfold glB at h
  split at h <;> first | assumption | cases h
structure GlobOk (c : Cs) (g : Gx) (X : Cx) : Prop where
  const : ∀ x v, c.glob.lookup x = some (.const v) → ∃ u w, X.mg x = some u ∧ RelV w u ∧ ∀ F μ, Rep g.K g.fa F μ w v
  fn : ∀ x k np fr dfl, c.glob.lookup x = some (.fn k np fr dfl) → ∃ (n : Nat) (f : Addr) (fd : FuncData) (ps : List Str), Room n X.A ∧ X.mg x = some (.ref f) ∧ PySem.W.keepIn X.K (.ref f) = true ∧
    FnOk X.prog X.w X.K X.mg X.base (L2.CX X.prog X.w) n f fd ps (spM g (c.call k) fr np) ∧ ∀ j, j ≤ dfl.length → ∃ dvs ds, Vals dvs ds ∧ Binds X.K fd ps ds ∧ ∀ F μ, Reps g.K g.fa F μ dvs (dfl.drop j)
  blt : ∀ x ∈ c.blt, X.mg x = none
  kd : KdOk g.K X.w g.fa
  fns : FnsOk g X c.call
  fnv : ∀ x k np dfl, c.glob.lookup x = some (.fn k np false dfl) → ∃ f, g.fa.fn k = some f ∧ X.mg x = some (.ref f)
  exc : ∀ x k ns own, c.glob.lookup x = some (.exc k ns own) → ∃ C, g.fc k = some C ∧ g.xn k = ns ∧ X.mg x = some (.ref C) ∧ (own = true → ∃ j, Room (j + 1) X.A ∧ XInit X.prog X.w X.K X.mg X.base j C ns) ∧ (own = false → XPlain X.K C) ∧
    ∀ j D b, g.fc j = some D → c.xsub j k = some b → PySem.W.exmOne X.K (.ref D) (.ref C) = some b ∧ PySem.W.kitOne X.K (.ref D) (.ref C) = some b
  xok : XcOk g X.K
  xn : g.xn = c.xn
structure CxOk (c : Cs) (g : Gx) (W : WX) (X : Cx) : Prop where
  K : g.K = X.K
  N : X.N = c.N
  nd : X.N.Nodup
  sc : X.env.scope = c.sc
  kind : c.sc.kind = .function
  calm : X.calm = true
  units : X.A.units + 64 < cLine
  tk : Takes X W
  own : PassesOwn (model X.prog X.w) X.A X.env X.xe
  fnc : ∀ x, X.fn x = c.fnc x
  glob : GlobOk c g X
/-! ### names and constants -/
def tyNames : List Str := ["tuple", "list", "str", "int", "bool"]
def cTy (x : Str) : Option String := if x = ("tuple" : Str) then some "tuple" else if x = ("list" : Str) then some "list" else if x = ("str" : Str) then some "str" else if x = ("int" : Str) then some "int" else if x = ("bool" : Str) then some "bool" else none
def isG (c : Cs) (x : Str) : Bool := glB c.sc x && !dbg x
def isBl (c : Cs) (x : Str) : Bool := isG c x && c.blt.contains x && !(x == ("__name__" : Str))
def cName (c : Cs) (x : Str) : Option EM := match slotOf c x with
  | some i => some (mVar i)
  | none => if isG c x = true then match c.glob.lookup x with
      | some (.const v) => some (mC v)
      | some (.fn k _ false _) => some (mC (.fn k))
      | some _ => none
      | none => if isBl c x = true then (cTy x).map fun T => mC (.ty T) else none
    else none
def cConst : Const → Option EM
  | .none => some (mC .non)
  | .bool b => some (mC (.bl b))
  | .int i => some (mC (.int i))
  | .str x => if PyData.strOk x = true ∧ x.length ≤ 1000000 then some (mC (.str x)) else none
  | _ => none
section
variable {c : Cs} {g : Gx} {W : WX} {X : Cx} {x : Str} {pos : Pos}
theorem slotOf_some (o : CxOk c g W X) {i : Nat} (h : slotOf c x = some i) : X.N[i]? = some x ∧ Vis X.env.scope x ∧ (x == ("__debug__" : Str)) = false ∧ (x == ("__classdict__" : Str)) = false := by
  unfold slotOf at h
  split at h
  · rename_i q
    exact ⟨by rw [o.N]; exact ixOf_some h, by rw [o.sc]; exact vis_of q.1, q.2.1, q.2.2⟩
  · cases h
theorem tgtOf_some (o : CxOk c g W X) {i : Nat} (h : tgtOf c x = some i) : X.N[i]? = some x ∧ Loc X.env.scope x ∧ (X.fn x = true ∨ X.env.scope.names.lookup x = some .local) := by
  unfold tgtOf at h
  split at h
  · rename_i q
    exact ⟨by rw [o.N]; exact ixOf_some h, by rw [o.sc]; exact loc_of q.1, by rw [o.sc, o.fnc]; exact q.2⟩
  · cases h
theorem isG_some (o : CxOk c g W X) (h : isG c x = true) : Gl X x ∧ (x == ("__debug__" : Str)) = false := by
  unfold isG at h
  rw [Bool.and_eq_true] at h
  refine ⟨?_, by simpa [dbg] using h.2⟩
  show X.env.scope.names.lookup x = _
  rw [o.sc]
  exact gl_of h.1
theorem isB_some (o : CxOk c g W X) (h : isBl c x = true) : Gl X x ∧ X.mg x = none ∧ x ≠ "__name__" ∧ (x == ("__debug__" : Str)) = false := by
  unfold isBl at h
  rw [Bool.and_eq_true, Bool.and_eq_true] at h
  obtain ⟨h1, h2⟩ := isG_some o h.1.1
  exact ⟨h1, o.glob.blt x (by simpa using h.1.2), by simpa using h.2, h2⟩
theorem cTy_boot {T : String} (h : cTy x = some T) : bootBuiltins x = some (.type T) := by
  unfold cTy at h
  split at h
  · rename_i e; cases h; rw [e]; decide +kernel
  · split at h
    · rename_i e; cases h; rw [e]; decide +kernel
    · split at h
      · rename_i e; cases h; rw [e]; decide +kernel
      · split at h
        · rename_i e; cases h; rw [e]; decide +kernel
        · split at h
          · rename_i e; cases h; rw [e]; decide +kernel
          · cases h
theorem cName_ok (o : CxOk c g W X) {m : EM} (h : cName c x = some m) : PE X (.Name x pos) (tE g W m) := by
  unfold cName at h
  split at h
  · rename_i i q
    cases h
    obtain ⟨h1, h2, h3, h4⟩ := slotOf_some o q
    exact se_var h1 h2 h3 h4
  · split at h
    · rename_i q
      split at h
      · rename_i v q2
        cases h
        obtain ⟨u, w, k1, k2, k3⟩ := o.glob.const x v q2
        obtain ⟨h1, h2⟩ := isG_some o q
        exact se_const (pe_glob h1 k1 k2 h2) k3
      · rename_i k np dfl q2
        cases h
        obtain ⟨f, k1, k2⟩ := o.glob.fnv x k np dfl q2
        obtain ⟨h1, h2⟩ := isG_some o q
        exact se_const (v := .ref f) (pe_glob h1 k2 rfl h2) fun _ _ => .fn k1
      · cases h
      · split at h
        · rename_i q3
          rw [Option.map_eq_some_iff] at h
          obtain ⟨T, hT, rfl⟩ := h
          obtain ⟨k1, k2, k3, k4⟩ := isB_some o q3
          exact se_const (v := .ty T) (pe_bltn k1 k2 (cTy_boot hT) rfl k3 k4) fun _ _ => .ty T
        · cases h
    · cases h
theorem cConst_ok {k : Const} {j : Nat} {m : EM} (h : cConst k = some m) : PE X (.Constant k j pos) (tE g W m) := by
  unfold cConst at h
  split at h
  · cases h; exact se_const pe_non fun _ _ => .non
  · cases h; exact se_const pe_bl fun _ _ => .bl _
  · cases h; exact se_const pe_int fun _ _ => .int _
  · split at h
    · rename_i q
      cases h
      exact se_const pe_str fun _ _ => .str _ q.1 (by rw [sizeLine_eq]; omega)
    · cases h
  · cases h
end
/-! ### operators -/
def cBin : Operator → EM → EM → Option EM
  | .Add, a, b => some (mBin opAdd a b)
  | .Sub, a, b => some (mBin opSub a b)
  | .Mult, a, b => some (mBin opMul a b)
  | .FloorDiv, a, b => some (mBin opDiv a b)
  | .Mod, a, b => some (mBin opMod a b)
  | .Pow, a, b => some (mBin opPow a b)
  | _, _, _ => none
def cCmp : CmpOp → EM → EM → EM
  | .Eq, a, b => mBin opEq a b
  | .NotEq, a, b => mBin opNe a b
  | .Lt, a, b => mBin opLt a b
  | .LtE, a, b => mBin opLe a b
  | .Gt, a, b => mBin opGt a b
  | .GtE, a, b => mBin opGe a b
  | .Is, a, b => mBin opIs a b
  | .IsNot, a, b => mBin opIsNot a b
  | .In, a, b => mBin opIn a b
  | .NotIn, a, b => mBin opNotIn a b
section
variable {c : Cs} {g : Gx} {W : WX} {X : Cx} {a b : Expr} {ma mb m : EM} {pos : Pos}
theorem cBin_ok (o : CxOk c g W X) {op : Operator} (ha : PE X a (tE g W ma)) (hb : PE X b (tE g W mb)) (h : cBin op ma mb = some m) : PE X (.BinOp a op b pos) (tE g W m) := by
  cases op <;> simp only [cBin, Option.some.injEq] at h <;> first | (cases h; done) | subst h
  · exact se_bin op_add4 (by have := vo_add (g := g); rw [o.K] at this; exact this) ha hb
  · exact se_bin op_sub vo_sub ha hb
  · exact se_bin op_mul2 (by have := vo_mul (g := g); rw [o.K] at this; exact this) ha hb
  · exact se_bin op_mod vo_mod ha hb
  · exact se_bin op_pow vo_pow ha hb
  · exact se_bin op_fdiv vo_div ha hb
theorem cmp_any (o : CxOk c g W X) (op : CmpOp) : ∃ r f, OpR X (compareOp op) r ∧ VOp g r f ∧ ∀ ma mb, cCmp op ma mb = mBin f ma mb := by
  cases op
  · exact ⟨_, opEq, op_eqM o.units, by have := vo_eq (g := g); rw [o.K] at this; exact this, fun _ _ => rfl⟩
  · exact ⟨_, opNe, op_neM o.units, by have := vo_ne (g := g); rw [o.K] at this; exact this, fun _ _ => rfl⟩
  · exact ⟨_, opLt, op_lt, vo_lt, fun _ _ => rfl⟩
  · exact ⟨_, opLe, op_le, vo_le, fun _ _ => rfl⟩
  · exact ⟨_, opGt, op_gt, vo_gt, fun _ _ => rfl⟩
  · exact ⟨_, opGe, op_ge, vo_ge, fun _ _ => rfl⟩
  · exact ⟨_, opIs, op_isN.or op_isBl, vo_is, fun _ _ => rfl⟩
  · exact ⟨_, opIsNot, op_notN.or op_notBl, vo_isNot, fun _ _ => rfl⟩
  · exact ⟨_, opIn, op_in3 o.units, by have := vo_in3 (g := g) (X := X) o.glob.kd; rw [o.K] at this; exact this, fun _ _ => rfl⟩
  · exact ⟨_, opNotIn, op_notIn3 o.units, by have := vo_notIn3 (g := g) (X := X) o.glob.kd; rw [o.K] at this; exact this, fun _ _ => rfl⟩
/-- a name whose slot may hold a list or dict that nobody else has -/
def ownSlot (c : Cs) : Expr → Option Nat
  | .Name x _ => match slotOf c x with
    | some i => if c.mts.contains i = true then some i else none
    | none => none
  | _ => none
def cCmpO (c : Cs) (op : CmpOp) (b : Expr) : Option ((PV → PV → Option PV) × Nat) := match op with
  | .In => (ownSlot c b).map fun i => (opIn, i)
  | .NotIn => (ownSlot c b).map fun i => (opNotIn, i)
  | _ => none
theorem ownSlot_some (o : CxOk c g W X) {e : Expr} {i : Nat} (h : ownSlot c e = some i) : ∃ x p, e = .Name x p ∧ X.N[i]? = some x ∧ Vis X.env.scope x ∧ (x == ("__debug__" : Str)) = false ∧ (x == ("__classdict__" : Str)) = false := by
  unfold ownSlot at h
  split at h
  · split at h
    · rename_i q
      split at h
      · cases h
        obtain ⟨h1, h2, h3, h4⟩ := slotOf_some o q
        exact ⟨_, _, rfl, h1, h2, h3, h4⟩
      · cases h
    · cases h
  · cases h
theorem cmpO_ok (o : CxOk c g W X) {op : CmpOp} {f : PV → PV → Option PV} {i : Nat} (h : cCmpO c op b = some (f, i)) : ∃ r x p, b = .Name x p ∧ OpR X (compareOp op) r ∧ SOpR g r f ∧ PE X b (tVar i) := by
  cases op <;> simp only [cCmpO] at h <;> first | (cases h; done) | skip
  · rw [Option.map_eq_some_iff] at h
    obtain ⟨j, hj, e⟩ := h
    cases e
    obtain ⟨x, p, rfl, h1, h2, h3, h4⟩ := ownSlot_some o hj
    exact ⟨_, x, p, rfl, op_in3 o.units, by have := so_in3 (g := g) (X := X) o.glob.kd; rw [o.K] at this; exact this, pe_var h1 h2 h3 h4⟩
  · rw [Option.map_eq_some_iff] at h
    obtain ⟨j, hj, e⟩ := h
    cases e
    obtain ⟨x, p, rfl, h1, h2, h3, h4⟩ := ownSlot_some o hj
    exact ⟨_, x, p, rfl, op_notIn3 o.units, by have := so_notIn3 (g := g) (X := X) o.glob.kd; rw [o.K] at this; exact this, pe_var h1 h2 h3 h4⟩
def noSet : Expr → Bool
  | .Set _ _ _ => false
  | _ => true
theorem noSet_marks {op : CmpOp} {e : Expr} (h : noSet e = true) : behindInMarks op e = false := by
  cases e <;> first | rfl | (simp [noSet] at h)
theorem noSet_folded {e : Expr} (h : noSet e = true) {env : PySem.Env} {x : Value} : foldedSetIterable e env x = pure x := by
  cases e <;> first | rfl | (simp [noSet] at h)
end
/-! ### built-ins -/
inductive Bf where
  | len | isi | tup | int | abs | all | any | sum | max
def bfOf (x : Str) : Option Bf :=
  if x = ("len" : Str) then some .len else if x = ("isinstance" : Str) then some .isi else if x = ("tuple" : Str) then some .tup else if x = ("int" : Str) then some .int else if x = ("all" : Str) then some .all
  else if x = ("any" : Str) then some .any else if x = ("sum" : Str) then some .sum else if x = ("max" : Str) then some .max else if x = ("abs" : Str) then some .abs else none
def Bf.f : Bf → Sto → List PV → Option PV
  | .len => fLenX
  | .isi => fIsi
  | .tup => fTuple
  | .int => fInt
  | .abs => fAbs
  | .all => fAll
  | .any => fAny
  | .sum => fSum
  | .max => fMax
/-- len(x), tuple(x) of such a name -/
def cCall1 (c : Cs) (x : Str) (es : List Expr) : Option EM := match es with
  | [a] => match ownSlot c a with
    | some i => if isBl c x = true then (if x = ("len" : Str) then some (mBi1 fLenX i) else if x = ("tuple" : Str) then some (mBi1 fTuple i) else none) else none
    | none => none
  | _ => none
section
variable {c : Cs} {g : Gx} {W : WX} {X : Cx} {x : Str} {e : Expr} {es : List Expr} {n : AM} {p pos : Pos}
theorem call1_ok (o : CxOk c g W X) {m : EM} (h : cCall1 c x es = some m) : PE X (.Call (.Name x p) es [] pos) (tE g W m) := by
  unfold cCall1 at h
  split at h
  · split at h
    · rename_i i hi
      obtain ⟨y, q, rfl, h1, h2, h3, h4⟩ := ownSlot_some o hi
      split at h
      · rename_i hb
        obtain ⟨k1, k2, k3, k4⟩ := isB_some o hb
        split at h
        · rename_i e; cases h
          exact se_call1B cr_lenX (by have := sc_len (g := g); rw [o.K] at this; exact this) k1 k2 (by rw [e]; decide +kernel) h1 h2 h3 h4 k3 k4
        · split at h
          · rename_i e; cases h
            exact se_call1T call_tuple_of (by have := sc_tuple (g := g); rw [o.K] at this; exact this) k1 k2 (by rw [e]; decide +kernel) h1 h2 h3 h4 k3 k4
          · cases h
      · cases h
    · cases h
  · cases h
theorem bf_ok (o : CxOk c g W X) {b : Bf} (h : bfOf x = some b) (hb : isBl c x = true) (ha : PA X (e :: es) (tA g W n)) (hs : (e :: es).any isStar = false) : PE X (.Call (.Name x p) (e :: es) [] pos) (tE g W (mBi b.f n)) := by
  obtain ⟨h1, h2, h3, h4⟩ := isB_some o hb
  unfold bfOf at h
  split at h
  · rename_i q; cases h
    exact se_callB cr_lenX (by have := vc_lenX (g := g); rw [o.K] at this; exact this) h1 h2 (by rw [q]; decide +kernel) ha h3 h4 hs
  split at h
  · rename_i q; cases h
    exact se_callB call_isi (by have := vc_isi (g := g); rw [o.K] at this; exact this) h1 h2 (by rw [q]; decide +kernel) ha h3 h4 hs
  split at h
  · rename_i q; cases h
    exact se_callT call_tuple_of (by have := vc_tuple (g := g); rw [o.K] at this; exact this) h1 h2 (by rw [q]; decide +kernel) ha h3 h4 hs
  split at h
  · rename_i q; cases h
    exact se_callT call_int1 vc_int h1 h2 (by rw [q]; decide +kernel) ha h3 h4 hs
  split at h
  · rename_i q; cases h
    exact se_callB (cr_all o.calm) (by have := vc_all (g := g); rw [o.K] at this; exact this) h1 h2 (by rw [q]; decide +kernel) ha h3 h4 hs
  split at h
  · rename_i q; cases h
    exact se_callB (cr_any o.calm) (by have := vc_any (g := g); rw [o.K] at this; exact this) h1 h2 (by rw [q]; decide +kernel) ha h3 h4 hs
  split at h
  · rename_i q; cases h
    exact se_callB (cr_sum o.calm) (by have := vc_sum (g := g); rw [o.K] at this; exact this) h1 h2 (by rw [q]; decide +kernel) ha h3 h4 hs
  split at h
  · rename_i q; cases h
    exact se_callB (cr_max o.calm) (by have := vc_max (g := g); rw [o.K] at this; exact this) h1 h2 (by rw [q]; decide +kernel) ha h3 h4 hs
  split at h
  · rename_i q; cases h
    exact se_callB call_abs vc_abs h1 h2 (by rw [q]; decide +kernel) ha h3 h4 hs
  · cases h
end
end BK

/-! BkL: expressions from the row's syntax -/
namespace BK
open PySem PySem.Spec PyProof.Rows L2 RZ

/-! ### targets -/
def cGs (rec : Expr → Option (GM × List Nat)) : List Expr → Option (GsM × List Nat)
  | [] => some (gsNil, [])
  | e :: es => (rec e).bind fun p => (cGs rec es).map fun q => (gsCons p.1 q.1, p.2 ++ q.2)
def cG : Nat → Cs → Expr → Option (GM × List Nat)
  | 0, _, _ => none
  | n + 1, c, e => match e with
    | .Name x _ => (tgtOf c x).map fun i => (gNm i, [i])
    | .Tuple es _ _ => if es.any isStar = false then (cGs (cG n c) es).map fun p => (gTp p.1, p.2) else none
    | _ => none
theorem keys_nm (i : Nat) : Keys (gNm i) [i] := fun x as h => by
  simp only [gNm, Option.some.injEq] at h
  rw [← h]
  rfl
section
variable {c : Cs} {g : Gx} {W : WX} {X : Cx}
theorem cGs_ok {rec : Expr → Option (GM × List Nat)} (hr : ∀ e t vs, rec e = some (t, vs) → PG X e (tG g vs t) ∧ Keys t vs) : ∀ (es : List Expr) (t : GsM) (vs : List Nat), es.any isStar = false → cGs rec es = some (t, vs) →
    PGs X es (tGs g vs t) ∧ (∀ xs as, t xs = some as → as.map (·.1) = vs) ∧ ∀ xs as, t xs = some as → xs.length = es.length
  | [], t, vs, _, h => by
    simp only [cGs, Option.some.injEq, Prod.mk.injEq] at h
    obtain ⟨rfl, rfl⟩ := h
    refine ⟨sgs_nil, fun xs as h => ?_, fun xs as h => ?_⟩ <;> cases xs <;> simp [gsNil] at h
    · rw [h]; rfl
    · rfl
  | e :: es, t, vs, hs, h => by
    rw [List.any_cons, Bool.or_eq_false_iff] at hs
    simp only [cGs, Option.bind_eq_some_iff, Option.map_eq_some_iff] at h
    obtain ⟨⟨t1, v1⟩, h1, ⟨t2, v2⟩, h2, h3⟩ := h
    simp only [Prod.mk.injEq] at h3
    obtain ⟨rfl, rfl⟩ := h3
    obtain ⟨p1, k1⟩ := hr e t1 v1 h1
    obtain ⟨p2, k2, l2⟩ := cGs_ok hr es t2 v2 hs.2 h2
    refine ⟨sgs_cons p1 p2 hs.1, fun xs as h => ?_, fun xs as h => ?_⟩
    · cases xs with
      | nil => simp [gsCons] at h
      | cons x xs =>
        simp only [gsCons, Option.bind_eq_some_iff, Option.map_eq_some_iff] at h
        obtain ⟨a1, q1, a2, q2, rfl⟩ := h
        rw [List.map_append, k1 x a1 q1, k2 xs a2 q2]
    · cases xs with
      | nil => simp [gsCons] at h
      | cons x xs =>
        simp only [gsCons, Option.bind_eq_some_iff, Option.map_eq_some_iff] at h
        obtain ⟨a1, q1, a2, q2, rfl⟩ := h
        simp only [List.length_cons, l2 xs a2 q2]
theorem cG_ok (o : CxOk c g W X) : ∀ (n : Nat) (e : Expr) (t : GM) (vs : List Nat), cG n c e = some (t, vs) → PG X e (tG g vs t) ∧ Keys t vs
  | 0, _, _, _, h => by simp [cG] at h
  | n + 1, e, t, vs, h => by
    unfold cG at h
    split at h
    · rename_i x p
      simp only [Option.map_eq_some_iff, Prod.mk.injEq] at h
      obtain ⟨i, hi, rfl, rfl⟩ := h
      obtain ⟨h1, h2, h3⟩ := tgtOf_some o hi
      exact ⟨sg_name o.nd h1 h2 h3, keys_nm i⟩
    · rename_i es k p
      split at h
      · rename_i hs
        simp only [Option.map_eq_some_iff, Prod.mk.injEq] at h
        obtain ⟨⟨t2, v2⟩, h1, rfl, rfl⟩ := h
        obtain ⟨p1, k1, l1⟩ := cGs_ok (fun e t vs h => cG_ok o n e t vs h) es t2 v2 hs h1
        refine ⟨sg_tup o.calm o.K p1 hs l1, fun x as h => ?_⟩
        cases x <;> simp only [gTp] at h <;> try (cases h; done)
        exact k1 _ _ h
      · cases h
    · cases h
end

/-! ### expressions -/
def cAs (rec : Expr → Option EM) : List Expr → Option AM
  | [] => some aNil
  | e :: es => (rec e).bind fun m => (cAs rec es).map fun n => aCons m n
def cBs (f : BM → BM → BM) (rec : Expr → Option BM) : List Expr → Option BM
  | [] => none
  | e :: es => match es with
    | [] => rec e
    | _ :: _ => (rec e).bind fun a => (cBs f rec es).map fun b => f a b
def cVs (f : EM → EM → EM) (rec : Expr → Option EM) : List Expr → Option EM
  | [] => none
  | e :: es => match es with
    | [] => rec e
    | _ :: _ => (rec e).bind fun a => (cVs f rec es).map fun b => f a b
def noSlice : Expr → Bool
  | .Slice _ _ _ _ => false
  | _ => true
def plainT : Expr → Bool
  | .Name _ _ => true
  | .Call _ _ _ _ => true
  | .Subscript _ _ _ => true
  | .Constant _ _ _ => true
  | _ => false
def cO (rec : Expr → Option EM) : Option Expr → Option OM
  | none => some oNo
  | some e => (rec e).map oInt
/-- how a def's number, its parameters and its defaults fit a call -/
def dflFor (k np : Nat) (dfl : List PV) : Option (List PV) := if k ≤ np ∧ np ≤ k + dfl.length then some (dfl.drop (k + dfl.length - np)) else none
def cCall (c : Cs) (x : Str) (k : Nat) (na : Option AM) : Option EM := match bfOf x with
  | some b => if isBl c x = true ∧ c.glob.lookup x = none then na.map (mBi b.f) else none
  | none => match c.glob.lookup x with
    | some (.fn f np false dfl) => if isG c x = true then (dflFor k np dfl).bind fun d => na.map fun n => mCall (c.call f) n d else none
    | _ => none
def cCallL (c : Cs) (x : Str) (k : Nat) (na : Option AM) : Option AM := match c.glob.lookup x with
  | some (.fn f np true dfl) => if isG c x = true then (dflFor k np dfl).bind fun d => na.map fun n => aCall (c.call f) n d else none
  | some _ => none
  | none => if x = ("list" : Str) ∧ isBl c x = true ∧ k = 1 then na.map aList else none
def blkCs (c : Cs) (scope : Scope) : Cs := { c with sc := relS scope c.sc, fnc := fun x => scope.names.lookup x == some .cell }
def ownFor (c : Cs) (vs : List Nat) : List (Str × Nat) := vs.map fun i => (c.N.getD i ⟨#[]⟩, i)
def isTupT : Expr → Bool
  | .Tuple _ _ _ => true
  | _ => false
def cIt (c : Cs) (tg : Expr) (rec : Expr → Option EM) (e : Expr) : Option AM := match e with
  | .Call (.Name x _) [a] [] _ => if x = ("range" : Str) ∧ isBl c x = true ∧ isStar a = false then (cAs rec [a]).map aRange1
    else if x = ("enumerate" : Str) ∧ isBl c x = true ∧ isStar a = false ∧ isTupT tg = true then (cAs rec [a]).map aEnum else (rec e).map aSeq
  | .Call (.Name x _) [a, b] [] _ => if x = ("range" : Str) ∧ isBl c x = true ∧ isStar a = false ∧ isStar b = false then (cAs rec [a, b]).map aRange2
    else if x = ("zip" : Str) ∧ isBl c x = true ∧ isStar a = false ∧ isStar b = false ∧ isTupT tg = true then (cAs rec [a, b]).map aZipM else (rec e).map aSeq
  | .Call (.Name x _) [a, b, d] [] _ => if x = ("zip" : Str) ∧ isBl c x = true ∧ isStar a = false ∧ isStar b = false ∧ isStar d = false ∧ isTupT tg = true then (cAs rec [a, b, d]).map aZip3 else (rec e).map aSeq
  | _ => (rec e).map aSeq
/-- another name of a def -/
def isFnC (c : Cs) (x : Str) : Bool := match c.glob.lookup x with
  | some (.const (.fn _)) => true
  | _ => false
/-- the pairs of a display -/
def cPs (rec : Expr → Option EM) : List (Option Expr) → List Expr → Option (List (EM × EM))
  | [], [] => some []
  | some k :: ks, v :: vs => (rec k).bind fun a => (rec v).bind fun b => (cPs rec ks vs).map fun r => (a, b) :: r
  | _, _ => none
def cIfs (rec : Expr → Option BM) : List Expr → Option BM
  | [] => some bYes
  | [e] => rec e
  | _ => none
mutual
def cE : Nat → Cs → Expr → Option EM
  | 0, _, _ => none
  | n + 1, c, e => match e with
    | .Name x _ => cName c x
    | .Constant k _ _ => cConst k
    | .Tuple es _ _ => if es.length ≤ 1000 ∧ es.any isStar = false then (cAs (cE n c) es).map mTup else none
    | .BinOp a op b _ => (cE n c a).bind fun ma => (cE n c b).bind fun mb => cBin op ma mb
    | .UnaryOp .USub a _ => (cE n c a).map (mUn opNeg)
    | .UnaryOp .Not a _ => (cE n c a).map mNotV
    | .Compare a [op] [b] _ => if noSet b = true then match cCmpO c op b with
        | some q => (cE n c a).map fun ma => mOpR q.1 ma q.2
        | none => (cE n c a).bind fun ma => (cE n c b).map fun mb => cCmp op ma mb
      else none
    | .BoolOp .And es _ => cVs mAndV (cE n c) es
    | .BoolOp .Or es _ => cVs mOrV (cE n c) es
    | .IfExp t a b _ => (cB n c t).bind fun bt => (cE n c a).bind fun ma => (cE n c b).map fun mb => mIf bt ma mb
    | .Subscript a (.Slice lo hi none _) _ => (cE n c a).bind fun ma => (cO (cE n c) lo).bind fun l => (cO (cE n c) hi).map fun u => mSl ma l u
    | .Subscript a (.Slice none none (some s) p1) p => (cL n c (.Subscript a (.Slice none none (some s) p1) p)).map mFz
    | .Subscript a b _ => if noSlice b = true then match ownSlot c a with
        | some i => (cE n c b).map fun mb => mOpL opIx i mb
        | none => (cE n c a).bind fun ma => (cE n c b).map fun mb => mBinS opIx ma mb
      else none
    | .Call (.Subscript f i p) (a :: es) [] _ => if (a :: es).any isStar = false ∧ noSlice i = true then (cE n c (.Subscript f i p)).bind fun mf => (cAs (cE n c) (a :: es)).map fun na => mCallV mf na c.call else none
    | .Call (.Name x p) (a :: es) [] q => if ((slotOf c x).isSome = true ∨ isFnC c x = true) ∧ (a :: es).any isStar = false then (cName c x).bind fun mf => (cAs (cE n c) (a :: es)).map fun na => mCallV mf na c.call
      else if (a :: es).any isStar = false then match cCall1 c x (a :: es) with
        | some m => some m
        | none => match cCall c x (a :: es).length (cAs (cE n c) (a :: es)) with
          | some m => some m
          | none => match cL n c (.Call (.Name x p) (a :: es) [] q) with
            | some m => some (mFz m)
            | none => (cD n c (.Call (.Name x p) (a :: es) [] q)).map mFzD
      else none
    | .List es p => (cL n c (.List es p)).map mFz
    | .ListComp elt gs sc p => (cL n c (.ListComp elt gs sc p)).map mFz
    | .Dict ks vs p => (cD n c (.Dict ks vs p)).map mFzD
    | .Call (.Attribute a y ap) (b :: es) [] cp => if y = ("get" : Str) ∧ (b :: es).any isStar = false ∧ es.length ≤ 2 ∧ isCall0 a = false ∧ (ap.endLine == cp.line) = true then (cE n c a).bind fun ma => (cAs (cE n c) (b :: es)).map fun na => mDm fGetM ma na else none
    | _ => none
def cD : Nat → Cs → Expr → Option DM
  | 0, _, _ => none
  | n + 1, c, e => match e with
    | .Dict [] [] _ => some dNil
    | .Dict ks vs _ => if ks ≠ [] ∧ ks.length ≤ 15 then (cPs (cE n c) ks vs).map dDisp else none
    | .Call (.Name x _) [a] [] _ => if x = ("dict" : Str) ∧ isBl c x = true ∧ isStar a = false then (cAs (cE n c) [a]).map dCopy else none
    | _ => none
def cB : Nat → Cs → Expr → Option BM
  | 0, _, _ => none
  | n + 1, c, e => match e with
    | .Compare a [op] [b] _ => if noSet b = true then match cCmpO c op b with
        | some q => (cE n c a).map fun ma => bVal (mOpR q.1 ma q.2)
        | none => (cE n c a).bind fun ma => (cE n c b).map fun mb => bVal (cCmp op ma mb)
      else none
    | .UnaryOp .Not a _ => (cB n c a).map bNot
    | .BoolOp .And es _ => cBs bAnd (cB n c) es
    | .BoolOp .Or es _ => cBs bOr (cB n c) es
    | _ => if plainT e = true then (cE n c e).map bVal else none
def cL : Nat → Cs → Expr → Option AM
  | 0, _, _ => none
  | n + 1, c, e => match e with
    | .List es _ => if es.length ≤ 1000 ∧ es.any isStar = false then cAs (cE n c) es else none
    | .Subscript a (.Slice none none (some (.UnaryOp .USub (.Constant (.int 1) _ _) _)) _) _ => (cE n c a).map mRev
    | .Call (.Name x _) (a :: es) [] _ => if (a :: es).any isStar = false then cCallL c x (a :: es).length (cAs (cE n c) (a :: es)) else none
    | .ListComp elt [⟨tg, iter, ifs, 0⟩] scope _ => if noSet iter = true then (cG n (blkCs c scope) tg).bind fun p => if blkC c.N c.sc scope (ownFor c p.2) = true ∧ scope.kind = .function then
        (cIt c tg (cE n c) iter).bind fun it => (cIfs (cB n (blkCs c scope)) ifs).bind fun t => (cE n (blkCs c scope) elt).map fun m => aLc it p.2 p.1 t m else none else none
    | .ListComp elt [⟨tg, iter, ifs, 0⟩, ⟨tg1, iter1, ifs1, 0⟩] scope _ => if noSet iter = true ∧ noSet iter1 = true then (cG n (blkCs c scope) tg).bind fun p => (cG n (blkCs c scope) tg1).bind fun p1 => if blkC c.N c.sc scope (ownFor c (p.2 ++ p1.2)) = true ∧ scope.kind = .function then
        (cIt c tg (cE n c) iter).bind fun it => (cIfs (cB n (blkCs c scope)) ifs).bind fun t => (cIt (blkCs c scope) tg1 (cE n (blkCs c scope)) iter1).bind fun it1 => (cIfs (cB n (blkCs c scope)) ifs1).bind fun t1 =>
          (cE n (blkCs c scope) elt).map fun m => aLcN it (p.2 ++ p1.2) p.1 t (aNest it1 p1.2 p1.1 t1 (aOne m)) else none else none
    | .ListComp elt [⟨tg, iter, ifs, 0⟩, ⟨tg1, iter1, ifs1, 0⟩, ⟨tg2, iter2, ifs2, 0⟩] scope _ => if noSet iter = true ∧ noSet iter1 = true ∧ noSet iter2 = true then (cG n (blkCs c scope) tg).bind fun p => (cG n (blkCs c scope) tg1).bind fun p1 => (cG n (blkCs c scope) tg2).bind fun p2 => if blkC c.N c.sc scope (ownFor c (p.2 ++ (p1.2 ++ p2.2))) = true ∧ scope.kind = .function then
        (cIt c tg (cE n c) iter).bind fun it => (cIfs (cB n (blkCs c scope)) ifs).bind fun t => (cIt (blkCs c scope) tg1 (cE n (blkCs c scope)) iter1).bind fun it1 => (cIfs (cB n (blkCs c scope)) ifs1).bind fun t1 =>
        (cIt (blkCs c scope) tg2 (cE n (blkCs c scope)) iter2).bind fun it2 => (cIfs (cB n (blkCs c scope)) ifs2).bind fun t2 =>
          (cE n (blkCs c scope) elt).map fun m => aLcN it (p.2 ++ (p1.2 ++ p2.2)) p.1 t (aNest it1 (p1.2 ++ p2.2) p1.1 t1 (aNest it2 p2.2 p2.1 t2 (aOne m))) else none else none
    | _ => none
end
end BK

/-! BkM: expressions: the functions are what the program does -/
namespace BK
open PySem PySem.Spec PyProof.Rows L2 RZ
section
variable {c : Cs} {g : Gx} {W : WX} {X : Cx}
def LenA (n : AM) (k : Nat) : Prop := ∀ ρ st xs st', n ρ st = .ok xs st' → xs.length = k
theorem lenA_few {n : AM} {k : Nat} (h : LenA n k) : Few n k := fun ρ st xs st' q => Nat.le_of_eq (h ρ st xs st' q)
theorem cAs_ok {rec : Expr → Option EM} (hr : ∀ e m, rec e = some m → PE X e (tE g W m)) : ∀ (es : List Expr) (n : AM), es.any isStar = false → cAs rec es = some n → PA X es (tA g W n) ∧ LenA n es.length
  | [], n, _, h => by
    simp only [cAs, Option.some.injEq] at h
    subst h
    exact ⟨sa_nil, fun ρ st xs st' h => by cases h; rfl⟩
  | e :: es, n, hs, h => by
    rw [List.any_cons, Bool.or_eq_false_iff] at hs
    simp only [cAs, Option.bind_eq_some_iff, Option.map_eq_some_iff] at h
    obtain ⟨m, hm, n', hn, rfl⟩ := h
    obtain ⟨p, l⟩ := cAs_ok hr es n' hs.2 hn
    refine ⟨sa_cons (hr e m hm) p (starEach_cons hs.1), fun ρ st xs st' h => ?_⟩
    obtain ⟨x, s1, h1, h2⟩ := Res.bind_ok h
    obtain ⟨ys, s2, h3, h4⟩ := Res.bind_ok h2
    cases h4
    simp only [List.length_cons, l _ _ _ _ h3]
theorem cBs_and {rec : Expr → Option BM} (hr : ∀ e m, rec e = some m → PT X e (tT g W m)) {pos : Pos} : ∀ (es : List Expr) (m : BM), cBs bAnd rec es = some m → PW X (.BoolOp .And es pos) (tT g W m)
  | [], m, h => by simp [cBs] at h
  | [e], m, h => sw_and1 (hr e m h)
  | e :: e2 :: es, m, h => by
    rw [cBs] at h
    simp only [Option.bind_eq_some_iff, Option.map_eq_some_iff] at h
    obtain ⟨a, ha, b, hb, rfl⟩ := h
    exact sw_and (hr e a ha) (cBs_and hr (e2 :: es) b hb)
theorem cBs_or {rec : Expr → Option BM} (hr : ∀ e m, rec e = some m → PT X e (tT g W m)) {pos : Pos} : ∀ (es : List Expr) (m : BM), cBs bOr rec es = some m → PW X (.BoolOp .Or es pos) (tT g W m)
  | [], m, h => by simp [cBs] at h
  | [e], m, h => sw_or1 (hr e m h)
  | e :: e2 :: es, m, h => by
    rw [cBs] at h
    simp only [Option.bind_eq_some_iff, Option.map_eq_some_iff] at h
    obtain ⟨a, ha, b, hb, rfl⟩ := h
    exact sw_or (hr e a ha) (cBs_or hr (e2 :: es) b hb)
theorem cVs_and {rec : Expr → Option EM} (hr : ∀ e m, rec e = some m → PE X e (tE g W m)) {pos : Pos} : ∀ (es : List Expr) (m : EM), cVs mAndV rec es = some m → PE X (.BoolOp .And es pos) (tE g W m)
  | [], m, h => by simp [cVs] at h
  | [e], m, h => se_one (hr e m h)
  | e :: e2 :: es, m, h => by
    rw [cVs] at h
    simp only [Option.bind_eq_some_iff, Option.map_eq_some_iff] at h
    obtain ⟨a, ha, b, hb, rfl⟩ := h
    exact se_and (hr e a ha) (cVs_and hr (e2 :: es) b hb)
theorem cVs_or {rec : Expr → Option EM} (hr : ∀ e m, rec e = some m → PE X e (tE g W m)) {pos : Pos} : ∀ (es : List Expr) (m : EM), cVs mOrV rec es = some m → PE X (.BoolOp .Or es pos) (tE g W m)
  | [], m, h => by simp [cVs] at h
  | [e], m, h => se_one (hr e m h)
  | e :: e2 :: es, m, h => by
    rw [cVs] at h
    simp only [Option.bind_eq_some_iff, Option.map_eq_some_iff] at h
    obtain ⟨a, ha, b, hb, rfl⟩ := h
    exact se_or (hr e a ha) (cVs_or hr (e2 :: es) b hb)
theorem cO_ok {rec : Expr → Option EM} (hr : ∀ e m, rec e = some m → PE X e (tE g W m)) {e : Option Expr} {m : OM} (h : cO rec e = some m) : PO X e (tOx g W m) := by
  cases e with
  | none =>
    simp only [cO, Option.some.injEq] at h
    subst h
    exact so_none
  | some e =>
    simp only [cO, Option.map_eq_some_iff] at h
    obtain ⟨m, hm, rfl⟩ := h
    exact so_some (hr e m hm)
theorem dfl_ok {k np : Nat} {dfl d : List PV} (h : dflFor k np dfl = some d) : ∃ j, j ≤ dfl.length ∧ d = dfl.drop j ∧ k + d.length = np := by
  unfold dflFor at h
  split at h
  · rename_i q
    cases h
    exact ⟨_, by omega, rfl, by rw [List.length_drop]; omega⟩
  · cases h
theorem cCall_ok (o : CxOk c g W X) {x : Str} {e : Expr} {es : List Expr} {na : Option AM} {m : EM} {p pos : Pos} (hs : (e :: es).any isStar = false) (ha : ∀ n, na = some n → PA X (e :: es) (tA g W n) ∧ LenA n (e :: es).length)
    (h : cCall c x (e :: es).length na = some m) : PE X (.Call (.Name x p) (e :: es) [] pos) (tE g W m) := by
  unfold cCall at h
  split at h
  · rename_i b hb
    split at h
    · rename_i q
      rw [Option.map_eq_some_iff] at h
      obtain ⟨n, hn, rfl⟩ := h
      exact bf_ok o hb q.1 (ha n hn).1 hs
    · cases h
  · split at h
    · rename_i f np dfl hf
      split at h
      · rename_i q
        simp only [Option.bind_eq_some_iff, Option.map_eq_some_iff] at h
        obtain ⟨d, hd, n, hn, rfl⟩ := h
        obtain ⟨j, hj, rfl, hl⟩ := dfl_ok hd
        obtain ⟨lv, fad, fd, ps, k1, k2, k3, k4, k5⟩ := o.glob.fn _ _ _ _ _ hf
        obtain ⟨dvs, ds, d1, d2, d3⟩ := k5 j hj
        obtain ⟨g1, g2⟩ := isG_some o q
        obtain ⟨pa, la⟩ := ha n hn
        exact se_call k4 k1 g1 k2 k3 d2 d1 o.tk pa g2 hs d3 fun ρ st xs st' e => by rw [la _ _ _ _ e]; exact hl
      · cases h
    · cases h
theorem cCallL_ok (o : CxOk c g W X) {x : Str} {e : Expr} {es : List Expr} {na : Option AM} {m : AM} {p pos : Pos} (hs : (e :: es).any isStar = false) (ha : ∀ n, na = some n → PA X (e :: es) (tA g W n) ∧ LenA n (e :: es).length)
    (h : cCallL c x (e :: es).length na = some m) : PE X (.Call (.Name x p) (e :: es) [] pos) (tL g W m) := by
  unfold cCallL at h
  split at h
  · rename_i f np dfl hf
    split at h
    · rename_i q
      simp only [Option.bind_eq_some_iff, Option.map_eq_some_iff] at h
      obtain ⟨d, hd, n, hn, rfl⟩ := h
      obtain ⟨j, hj, rfl, hl⟩ := dfl_ok hd
      obtain ⟨lv, fad, fd, ps, k1, k2, k3, k4, k5⟩ := o.glob.fn _ _ _ _ _ hf
      obtain ⟨dvs, ds, d1, d2, d3⟩ := k5 j hj
      obtain ⟨g1, g2⟩ := isG_some o q
      obtain ⟨pa, la⟩ := ha n hn
      exact sl_call k4 k1 g1 k2 k3 d2 d1 o.tk pa g2 hs d3 fun ρ st xs st' e => by rw [la _ _ _ _ e]; exact hl
    · cases h
  · cases h
  · split at h
    · rename_i q
      obtain ⟨q1, q2, q3⟩ := q
      rw [Option.map_eq_some_iff] at h
      obtain ⟨n, hn, rfl⟩ := h
      obtain ⟨pa, la⟩ := ha n hn
      cases es with
      | cons e2 es => simp at q3
      | nil =>
        subst q1
        obtain ⟨h1, h2, h3, h4⟩ := isB_some o q2
        exact sl_list o.K h1 h2 pa (by simpa using hs)
    · cases h
theorem noSlice_plain {b : Expr} (h : noSlice b = true) : PlainIx b := by
  intro o i
  cases b <;> first | rfl | (simp [noSlice] at h)
theorem plainT_true {e : Expr} (h : plainT e = true) {env : PySem.Env} : ∀ whole, isTrue e env whole = (do let v ← whole; standAt e.pos; holding [v] (truthy v)) := by
  intro w
  cases e <;> first | rfl | (simp [plainT] at h)
/-- a comprehension's block is a context like others -/
theorem blk_ok (o : CxOk c g W X) {scope : Scope} (hk : scope.kind = .function) (s : Shared) (H : Hp) (C : Addr) (cl : List (Str × Addr)) (fp : List Addr) : CxOk (blkCs c scope) g W0 (X.blk s H scope (compEnvC scope cl C X.env) fp) where
  K := o.K
  N := o.N
  nd := o.nd
  sc := by show relS scope X.env.scope = relS scope c.sc; rw [o.sc]
  kind := hk
  calm := o.calm
  units := o.units
  tk := takes0
  own := PassesOwn.never
  fnc := fun x => rfl
  glob := ⟨o.glob.const, o.glob.fn, o.glob.blt, o.glob.kd, o.glob.fns, o.glob.fnv, o.glob.exc, o.glob.xok, o.glob.xn⟩
theorem cIt_ok (o : CxOk c g W X) {rec : Expr → Option EM} (hr : ∀ e m, rec e = some m → PE X e (tE g W m)) {tg e : Expr} {it : AM} (h : cIt c tg rec e = some it) : PI X tg e (tI g W it) := by
  have fin : ∀ {e : Expr} {it : AM}, (rec e).map aSeq = some it → PI X tg e (tI g W it) := fun {e it} h => by
    rw [Option.map_eq_some_iff] at h
    obtain ⟨m, hm, rfl⟩ := h
    exact si_seq o.K (hr e m hm)
  unfold cIt at h
  split at h
  · rename_i x p a q
    split at h
    · rename_i k
      obtain ⟨rfl, k2, k3⟩ := k
      rw [Option.map_eq_some_iff] at h
      obtain ⟨n, hn, rfl⟩ := h
      obtain ⟨h1, h2, h3, h4⟩ := isB_some o k2
      exact si_range1 h1 h2 (cAs_ok hr [a] n (by simp [k3]) hn).1 k3
    · split at h
      · rename_i k
        obtain ⟨rfl, k2, k3, k4⟩ := k
        rw [Option.map_eq_some_iff] at h
        obtain ⟨n, hn, rfl⟩ := h
        obtain ⟨h1, h2, h3, h4⟩ := isB_some o k2
        cases tg <;> first | (simp [isTupT] at k4; done) | exact si_enum o.K h1 h2 (cAs_ok hr [a] n (by simp [k3]) hn).1 k3
      · exact fin h
  · rename_i x p a b q
    split at h
    · rename_i k
      obtain ⟨rfl, k2, k3, k4⟩ := k
      rw [Option.map_eq_some_iff] at h
      obtain ⟨n, hn, rfl⟩ := h
      obtain ⟨h1, h2, h3, h4⟩ := isB_some o k2
      exact si_range2 h1 h2 (cAs_ok hr [a, b] n (by simp [k3, k4]) hn).1 k3 k4
    · split at h
      · rename_i k
        obtain ⟨rfl, k2, k3, k4, k5⟩ := k
        rw [Option.map_eq_some_iff] at h
        obtain ⟨n, hn, rfl⟩ := h
        obtain ⟨h1, h2, h3, h4⟩ := isB_some o k2
        cases tg <;> first | (simp [isTupT] at k5; done) | exact si_zipM o.K h1 h2 (cAs_ok hr [a, b] n (by simp [k3, k4]) hn).1 k3 k4
      · exact fin h
  · rename_i x p a b d q
    split at h
    · rename_i k
      obtain ⟨rfl, k2, k3, k4, k5, k6⟩ := k
      rw [Option.map_eq_some_iff] at h
      obtain ⟨n, hn, rfl⟩ := h
      obtain ⟨h1, h2, h3, h4⟩ := isB_some o k2
      cases tg <;> first | (simp [isTupT] at k6; done) | exact si_zip3 o.K h1 h2 (cAs_ok hr [a, b, d] n (by simp [k3, k4, k5]) hn).1 k3 k4 k5
    · exact fin h
  · exact fin h
theorem cPs_ok {rec : Expr → Option EM} (hr : ∀ e m, rec e = some m → PE X e (tE g W m)) {pos : Pos} : ∀ (ks : List (Option Expr)) (vs : List Expr) (ps : List (EM × EM)), cPs rec ks vs = some ps →
    PPs X pos ks vs (ps.map fun p => (tE g W p.1, tE g W p.2)) ∧ ks.all (·.isSome) = true ∧ ks.length = vs.length ∧ ks.length = ps.length
  | [], [], ps, h => by
    cases h
    exact ⟨pps_nil, rfl, rfl, rfl⟩
  | [], _ :: _, ps, h => by cases h
  | none :: _, _, ps, h => by cases h
  | some _ :: _, [], ps, h => by cases h
  | some k :: ks, v :: vs, ps, h => by
    simp only [cPs, Option.bind_eq_some_iff, Option.map_eq_some_iff] at h
    obtain ⟨a, ha, b, hb, r, h3, rfl⟩ := h
    obtain ⟨p1, p2, p3, p4⟩ := cPs_ok hr ks vs r h3
    exact ⟨pps_cons (hr _ _ ha) (hr _ _ hb) p1, by simp only [List.all_cons, Option.isSome_some, Bool.true_and]; exact p2, by simp [p3], by simp [p4]⟩
theorem cIfs_ok {rec : Expr → Option BM} (hr : ∀ e m, rec e = some m → PT X e (tT g W0 m)) {ifs : List Expr} {t : BM} (h : cIfs rec ifs = some t) : PTs X ifs (tT g W0 t) := by
  unfold cIfs at h
  split at h
  · cases h; exact sts_nil
  · exact pts_one (hr _ _ h)
  · cases h
theorem own_map (c : Cs) (vs : List Nat) : (ownFor c vs).map (·.2) = vs := by
  unfold ownFor
  rw [List.map_map]
  exact List.map_id' vs
end
theorem expr_ok : ∀ n : Nat, (∀ (c : Cs) (g : Gx) (W : WX) (X : Cx) (e : Expr) (m : EM), CxOk c g W X → cE n c e = some m → PE X e (tE g W m)) ∧
    (∀ (c : Cs) (g : Gx) (W : WX) (X : Cx) (e : Expr) (m : BM), CxOk c g W X → cB n c e = some m → PT X e (tT g W m)) ∧
    (∀ (c : Cs) (g : Gx) (W : WX) (X : Cx) (e : Expr) (m : AM), CxOk c g W X → cL n c e = some m → PE X e (tL g W m)) ∧
    (∀ (c : Cs) (g : Gx) (W : WX) (X : Cx) (e : Expr) (m : DM), CxOk c g W X → cD n c e = some m → PE X e (tD g W m))
  | 0 => ⟨fun _ _ _ _ _ _ _ h => by simp [cE] at h, fun _ _ _ _ _ _ _ h => by simp [cB] at h, fun _ _ _ _ _ _ _ h => by simp [cL] at h, fun _ _ _ _ _ _ _ h => by simp [cD] at h⟩
  | n + 1 => by
    obtain ⟨ihE, ihB, ihL, ihD⟩ := expr_ok n
    refine ⟨fun c g W X e m o h => ?_, fun c g W X e m o h => ?_, fun c g W X e m o h => ?_, fun c g W X e m o h => ?_⟩
    · have rE := fun e m h => ihE c g W X e m o h
      have rB := fun e m h => ihB c g W X e m o h
      have rL := fun e m h => ihL c g W X e m o h
      have rD := fun e m h => ihD c g W X e m o h
      unfold cE at h
      split at h
      · exact cName_ok o h
      · exact cConst_ok h
      · split at h
        · rename_i q
          rw [Option.map_eq_some_iff] at h
          obtain ⟨na, hn, rfl⟩ := h
          obtain ⟨pa, la⟩ := cAs_ok rE _ na q.2 hn
          exact se_tup pa (lenA_few la) (by rw [sizeLine_eq]; omega)
        · cases h
      · simp only [Option.bind_eq_some_iff] at h
        obtain ⟨ma, ha, mb, hb, h⟩ := h
        exact cBin_ok o (rE _ _ ha) (rE _ _ hb) h
      · rw [Option.map_eq_some_iff] at h
        obtain ⟨ma, ha, rfl⟩ := h
        exact se_neg (rE _ _ ha)
      · rw [Option.map_eq_some_iff] at h
        obtain ⟨ma, ha, rfl⟩ := h
        exact se_not (rE _ _ ha)
      · split at h
        · rename_i q
          rename_i a op b p
          split at h
          · rename_i fi hq
            obtain ⟨f, i⟩ := fi
            rw [Option.map_eq_some_iff] at h
            obtain ⟨ma, ha, rfl⟩ := h
            obtain ⟨r, x, pp, rfl, h1, h2, h3⟩ := cmpO_ok (g := g) o hq
            exact PE.mono (pe_cmpR h1 (rE _ _ ha) h3 (noSet_marks q)) fun σ H Q h => tOpR_of h2 h
          · simp only [Option.bind_eq_some_iff, Option.map_eq_some_iff] at h
            obtain ⟨ma, ha, mb, hb, rfl⟩ := h
            obtain ⟨r, f, h1, h2, h3⟩ := cmp_any o op
            rw [h3]
            exact se_cmp h1 h2 (rE _ _ ha) (rE _ _ hb) (noSet_marks q)
        · cases h
      · exact cVs_and rE _ _ h
      · exact cVs_or rE _ _ h
      · simp only [Option.bind_eq_some_iff, Option.map_eq_some_iff] at h
        obtain ⟨bt, hbt, ma, ha, mb, hb, rfl⟩ := h
        exact se_if (rB _ _ hbt) (rE _ _ ha) (rE _ _ hb)
      · simp only [Option.bind_eq_some_iff, Option.map_eq_some_iff] at h
        obtain ⟨ma, ha, l, hl, u, hu, rfl⟩ := h
        exact se_sl (rE _ _ ha) (cO_ok rE hl) (cO_ok rE hu) o.K
      · rw [Option.map_eq_some_iff] at h
        obtain ⟨na, hn, rfl⟩ := h
        exact se_fz (rL _ _ hn)
      · split at h
        · rename_i q
          split at h
          · rename_i i hi
            rw [Option.map_eq_some_iff] at h
            obtain ⟨mb, hb, rfl⟩ := h
            obtain ⟨x, pp, rfl, h1, h2, h3, h4⟩ := ownSlot_some o hi
            exact se_ixO h1 h2 h3 h4 (rE _ _ hb) o.K o.glob.kd o.units (noSlice_plain q)
          · simp only [Option.bind_eq_some_iff, Option.map_eq_some_iff] at h
            obtain ⟨ma, ha, mb, hb, rfl⟩ := h
            exact se_ixD (rE _ _ ha) (rE _ _ hb) o.K o.glob.kd o.units (noSlice_plain q)
        · cases h
      · split at h
        · rename_i q
          simp only [Option.bind_eq_some_iff, Option.map_eq_some_iff] at h
          obtain ⟨mf, hf, na, hn, rfl⟩ := h
          exact se_callV o.glob.fns o.tk (rE _ _ hf) (cAs_ok rE _ na q.1 hn).1 q.1 rfl
        · cases h
      · split at h
        · rename_i q
          simp only [Option.bind_eq_some_iff, Option.map_eq_some_iff] at h
          obtain ⟨mf, hf, na, hn, rfl⟩ := h
          exact se_callV o.glob.fns o.tk (cName_ok o hf) (cAs_ok rE _ na q.2 hn).1 q.2 rfl
        · split at h
          · rename_i q
            split at h
            · rename_i m' hm
              cases h
              exact call1_ok o hm
            · split at h
              · rename_i m' hm
                cases h
                exact cCall_ok o q (fun n hn => cAs_ok rE _ n q hn) hm
              · split at h
                · rename_i na hn
                  cases h
                  exact se_fz (rL _ _ hn)
                · rw [Option.map_eq_some_iff] at h
                  obtain ⟨na, hn, rfl⟩ := h
                  exact se_fzD (rD _ _ hn)
          · cases h
      · rw [Option.map_eq_some_iff] at h
        obtain ⟨na, hn, rfl⟩ := h
        exact se_fz (rL _ _ hn)
      · rw [Option.map_eq_some_iff] at h
        obtain ⟨na, hn, rfl⟩ := h
        exact se_fz (rL _ _ hn)
      · rw [Option.map_eq_some_iff] at h
        obtain ⟨na, hn, rfl⟩ := h
        exact se_fzD (rD _ _ hn)
      · split at h
        · rename_i q
          obtain ⟨rfl, q2, q3, q4, q5⟩ := q
          simp only [Option.bind_eq_some_iff, Option.map_eq_some_iff] at h
          obtain ⟨ma, ha, na, hb, rfl⟩ := h
          exact se_get o.K o.glob.kd o.units (rE _ _ ha) (cAs_ok rE _ na q2 hb).1 q4 q2 (fewArgs q2 (by simp only [List.length_cons]; omega)) q5
        · cases h
      · cases h
    · have rE := fun e m h => ihE c g W X e m o h
      have rB := fun e m h => ihB c g W X e m o h
      unfold cB at h
      split at h
      · split at h
        · rename_i q
          rename_i a op b p
          split at h
          · rename_i fi hq
            obtain ⟨f, i⟩ := fi
            rw [Option.map_eq_some_iff] at h
            obtain ⟨ma, ha, rfl⟩ := h
            obtain ⟨r, x, pp, rfl, h1, h2, h3⟩ := cmpO_ok (g := g) o hq
            exact PT.mono (pt_cmpR h1 (rE _ _ ha) h3 (noSet_marks q)) fun _ _ _ h => tTest_of (fun _ _ _ h => tOpR_of h2 h) h
          · simp only [Option.bind_eq_some_iff, Option.map_eq_some_iff] at h
            obtain ⟨ma, ha, mb, hb, rfl⟩ := h
            obtain ⟨r, f, h1, h2, h3⟩ := cmp_any o op
            rw [h3]
            exact st_cmp h1 h2 (rE _ _ ha) (rE _ _ hb) (noSet_marks q)
        · cases h
      · rw [Option.map_eq_some_iff] at h
        obtain ⟨ma, ha, rfl⟩ := h
        exact st_not (rB _ _ ha)
      · exact (cBs_and rB _ _ h).pt
      · exact (cBs_or rB _ _ h).pt
      · split at h
        · rename_i q
          rw [Option.map_eq_some_iff] at h
          obtain ⟨ma, ha, rfl⟩ := h
          exact st_val (rE _ _ ha) (plainT_true q)
        · cases h
    · have rE := fun e m h => ihE c g W X e m o h
      unfold cL at h
      split at h
      · split at h
        · rename_i q
          obtain ⟨pa, la⟩ := cAs_ok rE _ m q.2 h
          exact sl_lst pa (lenA_few la) (by rw [sizeLine_eq]; omega)
        · cases h
      · rw [Option.map_eq_some_iff] at h
        obtain ⟨ma, ha, rfl⟩ := h
        exact sl_rev o.K (rE _ _ ha)
      · split at h
        · rename_i q
          exact cCallL_ok o q (fun n hn => cAs_ok rE _ n q hn) h
        · cases h
      · rename_i elt tg iter ifs scope p
        split at h
        · rename_i qs
          rw [Option.bind_eq_some_iff] at h
          obtain ⟨⟨t, vs⟩, ht, h⟩ := h
          split at h
          · rename_i q
            simp only [Option.bind_eq_some_iff, Option.map_eq_some_iff] at h
            obtain ⟨it, hit, tt, htt, m', hm, rfl⟩ := h
            have hb := blkOk_by q.1
            have ho := own_map c vs
            have := sl_lc (W := W) (g := g) (elt := elt) (ifs := ifs) (pos := p) (it := it) (t := t) (c := tt) (m := m') (own := ownFor c vs) (X := X) (tg := tg) (iter := iter) (scope := scope) o.calm o.nd (cIt_ok o rE hit) (by rw [o.N, o.sc]; exact hb)
              (fun s H C cl fp => by rw [ho]; exact (cG_ok (blk_ok o q.2 s H C cl fp) n tg t vs ht).1)
              (fun s H C cl fp => cIfs_ok (fun e m h => ihB _ g W0 _ e m (blk_ok o q.2 s H C cl fp) h) htt)
              (fun s H C cl fp => ihE _ g W0 _ elt m' (blk_ok o q.2 s H C cl fp) hm) (fun x => noSet_folded qs)
            rw [ho] at this
            exact this
          · cases h
        · cases h
      · rename_i elt tg iter ifs tg1 iter1 ifs1 scope p
        split at h
        · rename_i qs
          simp only [Option.bind_eq_some_iff] at h
          obtain ⟨⟨t, vs⟩, ht, ⟨t1, vs1⟩, ht1, h⟩ := h
          split at h
          · rename_i q
            simp only [Option.bind_eq_some_iff, Option.map_eq_some_iff] at h
            obtain ⟨it, hit, tt, htt, it1, hit1, tt1, htt1, m', hm, rfl⟩ := h
            have hb := blkOk_by q.1
            have ho := own_map c (vs ++ vs1)
            have bk := fun s H C cl fp => blk_ok o q.2 s H C cl fp
            have := sl_lc2 (W := W) (g := g) (elt := elt) (ifs := ifs) (pos := p) (it := it) (t := t) (c := tt) (m := m') (own := ownFor c (vs ++ vs1)) (X := X) (tg := tg) (iter := iter) (scope := scope) (v0 := vs) (v1 := vs1) (tg1 := tg1) (iter1 := iter1) (ifs1 := ifs1) (it1 := it1) (t1 := t1) (c1 := tt1)
              o.calm o.nd (cIt_ok o rE hit) (by rw [o.N, o.sc]; exact hb) (by rw [ho]; simp +contextual) (by rw [ho]; simp +contextual)
              (fun s H C cl fp => ⟨(cG_ok (bk s H C cl fp) n tg t vs ht).1, cIfs_ok (fun e m h => ihB _ g W0 _ e m (bk s H C cl fp) h) htt, cIt_ok (bk s H C cl fp) (fun e m h => ihE _ g W0 _ e m (bk s H C cl fp) h) hit1,
                (cG_ok (bk s H C cl fp) n tg1 t1 vs1 ht1).1, cIfs_ok (fun e m h => ihB _ g W0 _ e m (bk s H C cl fp) h) htt1, ihE _ g W0 _ elt m' (bk s H C cl fp) hm⟩) (fun x => noSet_folded qs.1) (fun env x => noSet_folded qs.2)
            rw [ho] at this
            exact this
          · cases h
        · cases h
      · rename_i elt tg iter ifs tg1 iter1 ifs1 tg2 iter2 ifs2 scope p
        split at h
        · rename_i qs
          simp only [Option.bind_eq_some_iff] at h
          obtain ⟨⟨t, vs⟩, ht, ⟨t1, vs1⟩, ht1, ⟨t2, vs2⟩, ht2, h⟩ := h
          split at h
          · rename_i q
            simp only [Option.bind_eq_some_iff, Option.map_eq_some_iff] at h
            obtain ⟨it, hit, tt, htt, it1, hit1, tt1, htt1, it2, hit2, tt2, htt2, m', hm, rfl⟩ := h
            have hb := blkOk_by q.1
            have ho := own_map c (vs ++ (vs1 ++ vs2))
            have bk := fun s H C cl fp => blk_ok o q.2 s H C cl fp
            have := sl_lc3 (W := W) (g := g) (elt := elt) (ifs := ifs) (pos := p) (it := it) (t := t) (c := tt) (m := m') (own := ownFor c (vs ++ (vs1 ++ vs2))) (X := X) (tg := tg) (iter := iter) (scope := scope) (v0 := vs) (v1 := vs1 ++ vs2) (w1 := vs1) (v2 := vs2) (tg1 := tg1) (iter1 := iter1) (ifs1 := ifs1) (it1 := it1) (t1 := t1) (c1 := tt1) (tg2 := tg2) (iter2 := iter2) (ifs2 := ifs2) (it2 := it2) (t2 := t2) (c2 := tt2)
              o.calm o.nd (cIt_ok o rE hit) (by rw [o.N, o.sc]; exact hb) (by rw [ho]; simp +contextual) (by rw [ho]; simp +contextual) (by simp +contextual) (by simp +contextual)
              (fun s H C cl fp => ⟨(cG_ok (bk s H C cl fp) n tg t vs ht).1, cIfs_ok (fun e m h => ihB _ g W0 _ e m (bk s H C cl fp) h) htt, cIt_ok (bk s H C cl fp) (fun e m h => ihE _ g W0 _ e m (bk s H C cl fp) h) hit1,
                (cG_ok (bk s H C cl fp) n tg1 t1 vs1 ht1).1, cIfs_ok (fun e m h => ihB _ g W0 _ e m (bk s H C cl fp) h) htt1, cIt_ok (bk s H C cl fp) (fun e m h => ihE _ g W0 _ e m (bk s H C cl fp) h) hit2,
                (cG_ok (bk s H C cl fp) n tg2 t2 vs2 ht2).1, cIfs_ok (fun e m h => ihB _ g W0 _ e m (bk s H C cl fp) h) htt2, ihE _ g W0 _ elt m' (bk s H C cl fp) hm⟩) (fun x => noSet_folded qs.1) (fun env x => noSet_folded qs.2.1) (fun env x => noSet_folded qs.2.2)
            rw [ho] at this
            exact this
          · cases h
        · cases h
      · cases h
    · have rE := fun e m h => ihE c g W X e m o h
      unfold cD at h
      split at h
      · cases h
        exact sd_nil
      · split at h
        · rename_i q
          rw [Option.map_eq_some_iff] at h
          obtain ⟨ps, hp, rfl⟩ := h
          obtain ⟨p1, p2, p3, p4⟩ := cPs_ok (g := g) (W := W) rE _ _ ps hp
          exact sd_disp p1 p2 p3 q.1 (by omega) p4
        · cases h
      · split at h
        · rename_i q
          obtain ⟨rfl, q2, q3⟩ := q
          rw [Option.map_eq_some_iff] at h
          obtain ⟨na, hn, rfl⟩ := h
          obtain ⟨h1, h2, h3, h4⟩ := isB_some o q2
          exact se_dcopy h1 h2 (by decide +kernel) (cAs_ok rE _ na (by simp [q3]) hn).1 h3 h4 q3
        · cases h
      · cases h
end BK

/-! BkN: statements and defs from the row's syntax -/
namespace BK
open PySem PySem.Spec PyProof.Rows L2 RZ

def noComp : Expr → Bool
  | .ListComp _ _ _ _ => false
  | .SetComp _ _ _ _ => false
  | .DictComp _ _ _ _ _ => false
  | _ => true
def noTup : Expr → Bool
  | .Tuple _ _ _ => false
  | _ => true
theorem noComp_swaps {e : Expr} (h : noComp e = true) {t : Option Expr} {l : Nat} {env : PySem.Env} : swapsWith e t l env = pure false := by
  cases e <;> first | rfl | (simp [noComp] at h)
theorem noTup_stores {e : Expr} (h : noTup e = true) {ts : List Expr} {env : PySem.Env} : swappedStores ts e env = pure none := by
  cases e <;> first | (simp [noTup] at h; done) | (cases ts with
    | nil => rfl
    | cons t r => cases r <;> cases t <;> rfl)
theorem one_store {tg : Expr} (h : isStar tg = false) {env : PySem.Env} : (assignEach [tg] env).map (·.2) = [assign tg env] := by
  cases tg <;> first | rfl | (simp [isStar] at h)
/-! ### a, b = x, y -/
/-- whether the stores are swapped: the names -/
def swN (sc : Scope) (ts vs : List Expr) : Option (Option (List Str)) :=
  if !(ts.length == 2 || ts.length == 3) || vs.length != ts.length then some none
  else if (vs.any fun | .Starred .. => true | _ => false) = true then some none
  else
    let line := (ts.head?.map (·.pos.line)).getD 0
    let names := ts.filterMap fun
      | .Name id pos => if sc.names.lookup id == some .local && pos.line == line then some id else none
      | _ => none
    if (names.length != ts.length || names.eraseDups.length != names.length) = true then some none
    else if vs.all (foldedForSure 8) = true then some none
    else if vs.all (constantsAlone 8) = true then none
    else some (some names)
theorem swN_ok {sc : Scope} {ts vs : List Expr} {r : Option (List Str)} (h : swN sc ts vs = some r) {env : PySem.Env} (hs : env.scope = sc) (hk : sc.kind = .function) {k k2 : Nat} {p p2 : Pos} : swappedStores [.Tuple ts k p] (.Tuple vs k2 p2) env = pure r := by
  have hb : env.blockKind = .function := by
    unfold PySem.Env.blockKind
    rw [hs, hk]
    rfl
  subst hs
  unfold swN at h
  unfold swappedStores
  show (if (!(ts.length == 2 || ts.length == 3) || vs.length != ts.length || env.blockKind != .function) = true then (pure none : Sem (Option (List Str))) else _) = _
  rw [hb]
  have e0 : ((ScopeKind.function != ScopeKind.function) : Bool) = false := by decide
  rw [e0, Bool.or_false]
  split at h
  · rename_i q
    cases h
    exact if_pos q
  · rename_i q
    rw [if_neg q]
    split at h
    · rename_i q2
      cases h
      exact if_pos q2
    · rename_i q2
      refine (if_neg q2).trans ?_
      dsimp only at h
      split at h
      · rename_i q3
        cases h
        exact if_pos q3
      · rename_i q3
        refine (if_neg q3).trans ?_
        split at h
        · rename_i q4
          cases h
          exact if_pos q4
        · rename_i q4
          refine (if_neg q4).trans ?_
          split at h
          · cases h
          · rename_i q5
            cases h
            exact if_neg q5
end BK

/-! BkO: statements from the row's syntax -/
namespace BK
open PySem PySem.Spec PyProof.Rows L2 RZ

section
variable {c : Cs} {g : Gx} {W : WX} {X : Cx} {fr : Bool}
/-! ### stores of two and three names at once -/
theorem tPar_of {n : AM} {i j : Nat} {D : Ends} {σ : L2.St} {H : Hp} (h : tS g W fr (sAsg (gTp (gsCons (gNm i) (gsCons (gNm j) gsNil))) (mTup n)) D σ H) : tPar i j (tA g W n) D σ H := by
  obtain ⟨F0, μ0, H0, B, F, μ, ρ, st, o, h⟩ := h
  refine ⟨F, μ, st, viewH ρ, o.w, o.en.viewH, ?_⟩
  unfold sAsg mTup at h
  cases q : n (viewH ρ) st with
  | bad => rw [q] at h; exact h.elim
  | exn cn fs s1 => rw [q] at h; exact fun F' μ' H' cls d e w x => h cls d σ F' μ' H' w (o.e.trans e) x
  | ok xs st1 =>
    rw [q] at h
    intro F1 μ1 H1 e1 w1 vs rvs
    have o1 := o.ext e1 w1
    match xs, rvs with
    | [], _ => exact h.elim
    | [_], _ => exact h.elim
    | _ :: _ :: _ :: _, _ => exact h.elim
    | [x, y], .cons rx (.cons ry .nil) => exact ⟨_, _, rfl, h _ F1 μ1 H1 ((o1.set rx).set ry)⟩
theorem tPar3_of {n : AM} {i j l : Nat} {D : Ends} {σ : L2.St} {H : Hp} (h : tS g W fr (sAsg (gTp (gsCons (gNm i) (gsCons (gNm j) (gsCons (gNm l) gsNil)))) (mTup n)) D σ H) : tPar3 i j l (tA g W n) D σ H := by
  obtain ⟨F0, μ0, H0, B, F, μ, ρ, st, o, h⟩ := h
  refine ⟨F, μ, st, viewH ρ, o.w, o.en.viewH, ?_⟩
  unfold sAsg mTup at h
  cases q : n (viewH ρ) st with
  | bad => rw [q] at h; exact h.elim
  | exn cn fs s1 => rw [q] at h; exact fun F' μ' H' cls d e w x => h cls d σ F' μ' H' w (o.e.trans e) x
  | ok xs st1 =>
    rw [q] at h
    intro F1 μ1 H1 e1 w1 vs rvs
    have o1 := o.ext e1 w1
    match xs, rvs with
    | [], _ => exact h.elim
    | [_], _ => exact h.elim
    | [_, _], _ => exact h.elim
    | _ :: _ :: _ :: _ :: _, _ => exact h.elim
    | [x, y, z], .cons rx (.cons ry (.cons rz .nil)) => exact ⟨_, _, _, rfl, h _ F1 μ1 H1 (((o1.set rx).set ry).set rz)⟩
theorem sw_names {X : Cx} {sc : Scope} {ts vs : List Expr} {ns : List Str} (h : swN sc ts vs = some (some ns)) : (∀ x ∈ ns, sc.names.lookup x = some .local) ∧ (ts.filterMap fun
      | .Name id pos => if sc.names.lookup id == some .local && pos.line == (ts.head?.map (·.pos.line)).getD 0 then some id else none
      | _ => none) = ns ∧ ns.length = ts.length ∧ ns.eraseDups.length = ns.length ∧ vs.length = ts.length ∧ vs.any isStar = false := by
  unfold swN at h
  split at h
  · cases h
  rename_i q1
  split at h
  · cases h
  rename_i q2
  dsimp only at h
  split at h
  · cases h
  rename_i q3
  split at h
  · cases h
  split at h
  · cases h
  simp only [Option.some.injEq] at h
  rw [h] at q3
  simp only [Bool.or_eq_true, bne_iff_ne, ne_eq, not_or, Decidable.not_not] at q3
  refine ⟨fun x hx => ?_, h, q3.1, q3.2, ?_, ?_⟩
  · rw [← h, List.mem_filterMap] at hx
    obtain ⟨e, _, he⟩ := hx
    cases e <;> simp only at he <;> try (cases he; done)
    split at he
    · rename_i k
      cases he
      simp only [Bool.and_eq_true, beq_iff_eq] at k
      exact k.1
    · cases he
  · simp only [Bool.or_eq_true, bne_iff_ne, ne_eq, not_or, Decidable.not_not] at q1
    exact q1.2
  · rw [List.any_eq_false]
    intro e he
    have q2' := (List.any_eq_false.mp (Bool.eq_false_iff.mpr q2)) e he
    cases e <;> first | exact q2' | (intro hh; exact absurd hh (by decide)) | (intro hh; cases hh)
/-! ### a comprehension's parts -/
theorem lc_parts (o : CxOk c g W X) {n : Nat} {elt tg iter : Expr} {ifs : List Expr} {scope : Scope} {p : Pos} {m : AM} (h : cL (n + 1) c (.ListComp elt [⟨tg, iter, ifs, 0⟩] scope p) = some m) :
    ∃ it vs t tt m', m = aLc it vs t tt m' ∧ PI X tg iter (tI g W it) ∧ BlkOk X.N X.env.scope scope (ownFor c vs) ∧
      (∀ (s : Shared) (H : Hp) (C : Addr) (cl : List (Str × Addr)) (fp : List Addr), PG (X.blk s H scope (compEnvC scope cl C X.env) fp) tg (tG g vs t)) ∧
      (∀ (s : Shared) (H : Hp) (C : Addr) (cl : List (Str × Addr)) (fp : List Addr), PTs (X.blk s H scope (compEnvC scope cl C X.env) fp) ifs (tT g W0 tt)) ∧
      (∀ (s : Shared) (H : Hp) (C : Addr) (cl : List (Str × Addr)) (fp : List Addr), PE (X.blk s H scope (compEnvC scope cl C X.env) fp) elt (tE g W0 m')) ∧ ∀ x, foldedSetIterable iter X.env x = pure x := by
  obtain ⟨ihE, ihB, ihL, ihD⟩ := expr_ok n
  have rE := fun e m h => ihE c g W X e m o h
  unfold cL at h
  simp only at h
  split at h
  · rename_i qs
    rw [Option.bind_eq_some_iff] at h
    obtain ⟨⟨t, vs⟩, ht, h⟩ := h
    split at h
    · rename_i q
      simp only [Option.bind_eq_some_iff, Option.map_eq_some_iff] at h
      obtain ⟨it, hit, tt, htt, m', hm, rfl⟩ := h
      have hb := blkOk_by q.1
      exact ⟨it, vs, t, tt, m', rfl, cIt_ok o rE hit, by rw [o.N, o.sc]; exact hb, fun s H C cl fp => (cG_ok (blk_ok o q.2 s H C cl fp) n tg t vs ht).1,
        fun s H C cl fp => cIfs_ok (fun e m h => ihB _ g W0 _ e m (blk_ok o q.2 s H C cl fp) h) htt, fun s H C cl fp => ihE _ g W0 _ elt m' (blk_ok o q.2 s H C cl fp) hm, fun x => noSet_folded qs⟩
    · cases h
  · cases h
theorem tFz_of {n : AM} {σ : L2.St} {H : Hp} {Q : VK} (h : tE g W (mFz n) σ H Q) : tL g W n σ H Q := by
  obtain ⟨F, μ, st, ρ, w, en, h⟩ := h
  unfold mFz at h
  refine ⟨F, μ, st, ρ, w, en, ?_⟩
  cases q : n ρ st with
  | bad => rw [q] at h; exact h.elim
  | exn c fs s1 => rw [q] at h; exact h
  | ok xs st1 =>
    rw [q] at h
    intro F1 μ1 H1 e1 w1 a vs h0 hF hm hH hl r
    obtain ⟨e2, w2, q2, s2⟩ := Wok.freeze e1 w1 h0 hF hm hH
    exact h _ _ _ e2 w2 _ (.lst q2 hl (Reps.mono s2 ⟨[], by simp⟩ _ _ r))
/-- name = [..] on one line, the name a local one -/
theorem lc_set (o : CxOk c g W X) {n i : Nat} {y : Str} {py spos : Pos} {elt tg iter : Expr} {ifs : List Expr} {scope : Scope} {p : Pos} {m : AM} (h : cL (n + 1) c (.ListComp elt [⟨tg, iter, ifs, 0⟩] scope p) = some m) (hy : X.N[i]? = some y) (hyl : X.env.scope.names.lookup y = some .local)
    (hsw : swapsWith (.ListComp elt [⟨tg, iter, ifs, 0⟩] scope p) (some (.Name y py)) spos.line X.env = pure true) :
    PS X (.Assign [.Name y py] (.ListComp elt [⟨tg, iter, ifs, 0⟩] scope p) spos) (tAsg (tL g W m) (gName i)) := by
  obtain ⟨it, vs, t, tt, m', rfl, h1, h2, h3, h4, h5, h6⟩ := lc_parts o h
  have hv := own_map c vs
  refine PS.mono (ps_setLc (i := i) (g := tG g vs t) (tt := tT g W0 tt) (te := tE g W0 m') (own := ownFor c vs) o.calm o.nd hy hyl hsw h1 h2 h3 h4 h5 h6) fun D σ H h => ?_
  rw [hv]
  exact tLc_of (fun _ _ _ h => h) (fun _ _ _ h => h) (fun _ _ _ h => h) h
end
/-- name = a comprehension: none (not served), or whether the store is a part of it -/
def swC (c : Cs) (x : Str) (px : Pos) : Expr → Option Bool
  | .ListComp _ [_] scope pos => if c.sc.names.lookup x = some .local ∧ (px.line == pos.line) = true ∧ (scope.names.any fun (n, k) => n == x && (k == .local || k == .cell)) = false then some true
    else if (c.sc.names.lookup x == some .local && px.line == pos.line && !(scope.names.any fun (n, k) => n == x && (k == .local || k == .cell))) = false then some false else none
  | e => if noComp e = true then some false else none
def cAsgN (n : Nat) (c : Cs) (x : Str) (px : Pos) (e : Expr) : Option SM := (tgtOf c x).bind fun i => (swC c x px e).bind fun _ =>
  if c.sto.contains i = true then (if noComp e = true then (cL n c e).map (sNew i) else none)
  else if c.mts.contains i = true then match cL n c e with
    | some m => some (sOwn i m)
    | none => if noComp e = true then match cD n c e with
        | some d => some (sOwnD i d)
        | none => (cE n c e).map (sSet i)
      else none
  else if noComp e = true then (cE n c e).map (sSet i) else (cL n c e).map fun m => sSet i (mFz m)
def isNm : Expr → Bool
  | .Name _ _ => true
  | _ => false
/-- the slots of names that may hold what nobody else has, where an expression takes them as they are -/
def escE : Nat → Cs → Expr → List Nat
  | 0, _, _ => []
  | n + 1, c, e => match e with
    | .Name x _ => ((slotOf c x).filter c.mts.contains).toList
    | .Tuple es _ _ => (es.map (escE n c)).flatten
    | .List es _ => (es.map (escE n c)).flatten
    | .BinOp a _ b _ => escE n c a ++ escE n c b
    | .UnaryOp _ a _ => escE n c a
    | .Compare a ops bs _ => escE n c a ++ (match ops with
      | [.In] => []
      | [.NotIn] => []
      | _ => (bs.map (escE n c)).flatten)
    | .BoolOp _ es _ => (es.map (escE n c)).flatten
    | .IfExp t a b _ => escE n c t ++ escE n c a ++ escE n c b
    | .Subscript a (.Slice lo hi _ _) _ => escE n c a ++ (lo.map (escE n c)).getD [] ++ (hi.map (escE n c)).getD []
    | .Subscript a b _ => (if isNm a = true then [] else escE n c a) ++ escE n c b
    | .Call (.Name x _) es _ _ => if (x = ("len" : Str) ∨ x = ("tuple" : Str)) ∧ es.all isNm = true then [] else (es.map (escE n c)).flatten
    | .Call (.Attribute a _ _) es _ _ => (if isNm a = true then [] else escE n c a) ++ (es.map (escE n c)).flatten
    | .Dict _ vs _ => (vs.map (escE n c)).flatten
    | .ListComp elt gs _ _ => (gs.map fun g => match g with | ⟨_, it, ifs, _⟩ => escE n c it ++ (ifs.map (escE n c)).flatten).flatten ++ escE n c elt
    | _ => []
def escS (c : Cs) : Stmt → List Nat
  | .Assign [.Name _ _] (.Name y _) _ => ((slotOf c y).filter c.mts.contains).toList
  | .For _ (.Name y _) _ _ _ => ((slotOf c y).filter c.mts.contains).toList
  | .Assign _ e _ => if c.fr = true then [] else escE 20 c e
  | .For _ e _ _ _ => if c.fr = true then [] else escE 20 c e
  | .Expr e _ => if c.fr = true then [] else escE 20 c e
  | .If e _ _ _ => if c.fr = true then [] else escE 20 c e
  | .AugAssign _ _ e _ => if c.fr = true then [] else escE 20 c e
  | _ => []
def frzOf (c : Cs) (s : Stmt) : List Nat := (escS c s).eraseDups
section
variable {c : Cs} {g : Gx} {W : WX} {X : Cx} {fr : Bool}
theorem swC_ok (o : CxOk c g W X) {x : Str} {px : Pos} {e : Expr} {b : Bool} (h : swC c x px e = some b) {l : Nat} : swapsWith e (some (.Name x px)) l X.env = pure b ∧ (b = true → X.env.scope.names.lookup x = some .local ∧ ∃ elt tg iter ifs z scope p, e = .ListComp elt [⟨tg, iter, ifs, z⟩] scope p) := by
  unfold swC at h
  split at h
  · rename_i elt gn scope pos
    split at h
    · rename_i q
      cases h
      have hl : X.env.scope.names.lookup x = some .local := by rw [o.sc]; exact q.1
      refine ⟨sw_true (by rw [o.sc]; exact o.kind) hl q.2.1 q.2.2, fun _ => ⟨hl, ?_⟩⟩
      obtain ⟨tg, iter, ifs, z⟩ := gn
      exact ⟨_, _, _, _, _, _, _, rfl⟩
    · split at h
      · rename_i q
        cases h
        refine ⟨?_, fun z => by cases z⟩
        have e1 : swapsWith (.ListComp elt [gn] scope pos) (some (.Name x px)) l X.env = pure (X.env.blockKind == .function && X.env.kindOf x == some .local && px.line == pos.line && !(scope.names.any fun (n, k) => n == x && (k == .local || k == .cell))) := by rfl
        rw [e1]
        have hb : X.env.blockKind = .function := by
          unfold PySem.Env.blockKind
          rw [o.sc, o.kind]
          rfl
        have hk : X.env.kindOf x = c.sc.names.lookup x := by
          show X.env.scope.names.lookup x = _
          rw [o.sc]
        rw [hb, hk]
        have e2 : ((ScopeKind.function == ScopeKind.function) : Bool) = true := by decide
        rw [e2, Bool.true_and, q]
      · cases h
  · split at h
    · rename_i q
      cases h
      exact ⟨noComp_swaps q, fun z => by cases z⟩
    · cases h
theorem cAsgN_ok (o : CxOk c g W X) {n : Nat} {x : Str} {px pos : Pos} {e : Expr} {m : SM} (h : cAsgN n c x px e = some m) : PS X (.Assign [.Name x px] e pos) (tS g W fr m) := by
  obtain ⟨ihE, ihB, ihL, ihD⟩ := expr_ok n
  unfold cAsgN at h
  simp only [Option.bind_eq_some_iff] at h
  obtain ⟨i, hi, b, hb, h⟩ := h
  obtain ⟨h1, h2, h3⟩ := tgtOf_some o hi
  obtain ⟨s1, s2⟩ := swC_ok o hb (l := pos.line)
  have viaL : ∀ {f : AM → SM}, (∀ m D σ H, tS g W fr (f m) D σ H → tAsg (tL g W m) (gName i) D σ H) → ∀ m, cL n c e = some m → PS X (.Assign [.Name x px] e pos) (tS g W fr (f m)) := by
    intro f hf m hm
    cases b with
    | false => exact PS.mono (ps_set o.nd h1 h2 (ihL c g W X e m o hm) s1 h3) fun _ _ _ h => hf m _ _ _ h
    | true =>
      obtain ⟨hl, elt, tg, iter, ifs, z, scope, p, rfl⟩ := s2 rfl
      cases n with
      | zero => simp [cL] at hm
      | succ n =>
        by_cases hz : z = 0
        · subst hz
          exact PS.mono (lc_set o hm h1 hl s1) fun _ _ _ h => hf m _ _ _ h
        · exfalso
          unfold cL at hm
          split at hm
          all_goals first | (cases hm; done) | (rename_i q; cases q; done) | (rename_i q; cases q; exact hz rfl)
  have plain : ∀ {m}, noComp e = true → (cE n c e).map (sSet i) = some m → PS X (.Assign [.Name x px] e pos) (tS g W fr m) := by
    intro m hc hm
    rw [Option.map_eq_some_iff] at hm
    obtain ⟨m', hm, rfl⟩ := hm
    exact s_set o.nd h1 h2 (ihE c g W X e m' o hm) (noComp_swaps hc) h3
  split at h
  · split at h
    · rw [Option.map_eq_some_iff] at h
      obtain ⟨m', hm, rfl⟩ := h
      exact viaL (f := sNew i) (fun _ _ _ _ h => tNew_of h) m' hm
    · cases h
  · split at h
    · split at h
      · rename_i m' hm
        cases h
        exact viaL (f := sOwn i) (fun _ _ _ _ h => tOwn_of h) m' hm
      · split at h
        · rename_i q
          split at h
          · rename_i d hd
            cases h
            exact s_ownD o.nd h1 h2 (ihD c g W X e d o hd) (noComp_swaps q) h3
          · exact plain q h
        · cases h
    · split at h
      · rename_i q
        exact plain q h
      · rw [Option.map_eq_some_iff] at h
        obtain ⟨m', hm, rfl⟩ := h
        exact viaL (f := fun m => sSet i (mFz m)) (fun m D σ H h => tFz_of (tSet_of h)) m' hm
end
end BK

/-! BkP: suites from the row's syntax -/
namespace BK
open PySem PySem.Spec PyProof.Rows L2 RZ

section
variable {X : Cx} {g : Gx} {W : WX} {fr : Bool} {a : SM} {m : BM} {pos : Pos}
theorem s_while {t : Expr} {body : List Stmt} (hp : PassesOwn (model X.prog X.w) X.A X.env X.xe) (hc : PT X t (tT g W m)) (hb : PSs X body (tS g W fr a)) : PS X (.While t body [] pos) (tS g W fr (sWhile m a)) := by
  refine PS.mono (ps_while hp hc hb) fun D σ H h => ?_
  obtain ⟨F0, μ0, H0, B, F, μ, ρ, st, o, h⟩ := h
  refine ⟨fun k σ2 H2 => ∃ F2 μ2 ρ2 st2, SOk g F0 μ0 H0 B F2 μ2 H2 σ2 ρ2 st2 ∧ SPost g W fr F0 μ0 H0 B (whileGo m a k ρ2 st2) D, ⟨wfuel, F, μ, ρ, st, o, h⟩, ?_⟩
  rintro k σ2 H2 ⟨F2, μ2, ρ2, st2, o2, h2⟩
  cases k with
  | zero => exact h2.elim
  | succ k =>
    refine ⟨F2, μ2, st2, viewH ρ2, o2.w, o2.en.viewH, (SPost.of o2 h2).imp fun d st3 F3 μ3 H3 e3 w3 ⟨o3, h3⟩ => ?_⟩
    cases d with
    | false =>
      rw [if_neg Bool.false_ne_true] at h3 ⊢
      exact h3 _ _ _ _ o3
    | true =>
      rw [if_pos rfl] at h3 ⊢
      refine ⟨fun σ' H' => ∃ F2 μ2 ρ2 st2, SOk g F0 μ0 H0 B F2 μ2 H' σ' ρ2 st2 ∧ SPost g W fr F0 μ0 H0 B (whileGo m a k ρ2 st2) D, fun σ' H' h' => ⟨k, Nat.lt_succ_self k, h'⟩, F0, μ0, H0, B, F3, μ3, ρ2, st3, o3, ?_⟩
      cases q : a ρ2 st3 with
      | nx ρ1 st4 =>
        rw [q] at h3
        exact fun σ' F' μ' H' oo => ⟨F', μ', ρ1, st4, oo, h3⟩
      | ct ρ1 st4 =>
        rw [q] at h3
        exact fun σ' F' μ' H' oo => ⟨F', μ', ρ1, st4, oo, h3⟩
      | brk ρ1 st4 => rw [q] at h3; exact h3
      | ret x st4 => rw [q] at h3; exact h3
      | exn cn fs st4 => rw [q] at h3; exact h3
      | bad => rw [q] at h3; exact h3
end
/-! ### statements -/
def augOf : Operator → Option (PV → PV → Option PV)
  | .Add => some augAdd
  | .Sub => some augSub
  | _ => none
def frzs : List Nat → SM → SM
  | [], m => m
  | i :: r, m => sSeq (sFrz i) (frzs r m)
/-- a statement that is not served: nothing is told of it -/
def sBad : SM := fun _ _ => .bad
def cSsW (rec : Stmt → Option SM) (c : Cs) : List Stmt → Option SM
  | [] => some sNil
  | s :: r => (cSsW rec c r).map fun b => frzs (frzOf c s) (sSeq ((rec s).getD sBad) b)
/-! ### what an except suite hands back -/
def cK : Const → Option PV
  | .none => some .non
  | .bool b => some (.bl b)
  | .int i => some (.int i)
  | .str x => if PyData.strOk x = true ∧ x.length ≤ 1000000 then some (.str x) else none
  | _ => none
def cSus (rec : Expr → Option SuM) : List Expr → Option SusM
  | [] => some susNil
  | e :: es => (rec e).bind fun a => (cSus rec es).map fun b => susCons a b
def cSu : Nat → Cs → Str → Expr → Option SuM
  | 0, _, _, _ => none
  | n + 1, c, y, e => match e with
    | .Constant k _ _ => (cK k).map suC
    | .Attribute (.Name x _) f _ => if x = y then some (suF c.xn f) else none
    | .Call (.Name x _) [.Name z _, .Name k _] [] _ => if x = ("isinstance" : Str) ∧ z = y ∧ isBl c x = true ∧ isG c k = true then match c.glob.lookup k with
        | some (.exc j _ _) => some (suI fun i => c.xsub i j)
        | _ => none
      else none
    | .Tuple es _ _ => if es.length ≤ 1000 ∧ es.any isStar = false then (cSus (cSu n c y) es).map suT else none
    | .IfExp t a b _ => if plainT t = true then (cSu n c y t).bind fun s => (cSu n c y a).bind fun s1 => (cSu n c y b).map fun s2 => suIf s s1 s2 else none
    | .BoolOp .And [a, b] _ => (cSu n c y a).bind fun s => (cSu n c y b).map fun s1 => suAnd s s1
    | _ => none
section
variable {c : Cs} {g : Gx} {W : WX} {X : Cx} {i : Nat} {y : Str} {a : Addr} {oe : Obj} {cls : Value} {d : Option Addr} {pn : List (Addr × Obj)}
theorem cK_ok {X' : Cx} {k : Const} {x : PV} {j : Nat} {pos : Pos} (h : cK k = some x) : ∃ v, (∀ X' : Cx, PE X' (.Constant k j pos) (tC v)) ∧ ∀ F μ, Rep g.K g.fa F μ v x := by
  unfold cK at h
  split at h
  · cases h; exact ⟨_, fun _ => pe_non, fun _ _ => .non⟩
  · cases h; exact ⟨_, fun _ => pe_bl, fun _ _ => .bl _⟩
  · cases h; exact ⟨_, fun _ => pe_int, fun _ _ => .int _⟩
  · split at h
    · rename_i q
      cases h
      exact ⟨_, fun _ => pe_str, fun _ _ => .str _ q.1 (by rw [sizeLine_eq]; omega)⟩
    · cases h
  · cases h
theorem cSus_ok {X' : Cx} {rec : Expr → Option SuM} (hr : ∀ e m, rec e = some m → PE X' e (tSu g i a cls d m)) : ∀ (es : List Expr) (m : SusM), es.any isStar = false → cSus rec es = some m → PA X' es (tSus g i a cls d m) ∧ ∀ c fs xs, m c fs = some xs → xs.length = es.length
  | [], m, _, h => by
    simp only [cSus, Option.some.injEq] at h
    subst h
    exact ⟨su_nil, fun c fs xs h => by cases h; rfl⟩
  | e :: es, m, hs, h => by
    rw [List.any_cons, Bool.or_eq_false_iff] at hs
    simp only [cSus, Option.bind_eq_some_iff, Option.map_eq_some_iff] at h
    obtain ⟨m1, h1, m2, h2, rfl⟩ := h
    obtain ⟨k1, k2⟩ := cSus_ok hr es m2 hs.2 h2
    refine ⟨su_cons (hr e m1 h1) k1 hs.1, fun c fs xs h => ?_⟩
    unfold susCons at h
    simp only [Option.bind_eq_some_iff, Option.map_eq_some_iff] at h
    obtain ⟨x, _, ys, h4, rfl⟩ := h
    simp [k2 _ _ _ h4]
theorem cSu_ok (o : CxOk c g W X) (hN : X.N[i]? = some y) (hv : Vis X.env.scope y) (hd : (y == ("__debug__" : Str)) = false) (hcd : (y == ("__classdict__" : Str)) = false) (hz : Zc cls d oe) (hf : ∃ vs, oe.data = .fields vs) :
    ∀ (n : Nat) (e : Expr) (m : SuM), cSu n c y e = some m → PE (X.suite a ((a, oe) :: pn)) e (tSu g i a cls d m)
  | 0, e, m, h => by simp [cSu] at h
  | n + 1, e, m, h => by
    have ih := cSu_ok o hN hv hd hcd hz hf n
    unfold cSu at h
    split at h
    · rw [Option.map_eq_some_iff] at h
      obtain ⟨x, hx, rfl⟩ := h
      obtain ⟨v, h1, h2⟩ := cK_ok (X' := X) (g := g) hx
      exact su_const (h1 _) h2
    · split at h
      · rename_i q
        cases h
        subst q
        rw [← o.glob.xn]
        exact su_fld o.glob.xok hz hf hN hv hd hcd
      · cases h
    · split at h
      · rename_i q
        obtain ⟨rfl, rfl, q3, q4⟩ := q
        split at h
        · rename_i j ns own q5
          cases h
          obtain ⟨C, k1, k2, k3, _, _, k6⟩ := o.glob.exc _ _ _ _ q5
          obtain ⟨b1, b2, _, _⟩ := isB_some o q3
          obtain ⟨g1, g2⟩ := isG_some o q4
          refine su_isi (vc := .ref C) (cv := .ref C) o.glob.xok hz hf hN hv hd hcd b1 b2 (fun X' e1 e2 => pe_glob ?_ ?_ rfl g2) (fun u r => r) fun c' D b h1 h2 => (k6 c' D b h1 h2).2
          · unfold Gl at g1 ⊢
            rw [e2]
            exact g1
          · rw [e1]
            exact k3
        · cases h
      · cases h
    · split at h
      · rename_i q
        rw [Option.map_eq_some_iff] at h
        obtain ⟨s, hs, rfl⟩ := h
        obtain ⟨k1, k2⟩ := cSus_ok ih _ s q.2 hs
        exact su_tup k1 fun c fs xs h => by rw [k2 _ _ _ h]; exact q.1
      · cases h
    · split at h
      · rename_i q
        simp only [Option.bind_eq_some_iff, Option.map_eq_some_iff] at h
        obtain ⟨s, h1, s1, h2, s2, h3, rfl⟩ := h
        exact su_if (ih _ _ h1) (plainT_true q) (ih _ _ h2) (ih _ _ h3)
      · cases h
    · simp only [Option.bind_eq_some_iff, Option.map_eq_some_iff] at h
      obtain ⟨s, h1, s1, h2, rfl⟩ := h
      exact su_and (ih _ _ h1) (pe_one (ih _ _ h2))
    · cases h
end
/-- a, b = x, y -/
def cTup (n : Nat) (c : Cs) (ts vs : List Expr) (k : Nat) (p : Pos) (k2 : Nat) (p2 : Pos) : Option SM := match swN c.sc ts vs with
  | none => none
  | some none => (cG n c (.Tuple ts k p)).bind fun t => (cE n c (.Tuple vs k2 p2)).map fun m => sAsg t.1 m
  | some (some _) => match ts, vs with
    | [.Name x _, .Name y _], [a, b] => (tgtOf c x).bind fun i => (tgtOf c y).bind fun j => if i ≠ j ∧ [a, b].any isStar = false then (cAs (cE n c) [a, b]).map fun m => sAsg (gTp (gsCons (gNm i) (gsCons (gNm j) gsNil))) (mTup m) else none
    | [.Name x _, .Name y _, .Name z _], [a, b, d] => (tgtOf c x).bind fun i => (tgtOf c y).bind fun j => (tgtOf c z).bind fun l => if i ≠ j ∧ i ≠ l ∧ j ≠ l ∧ [a, b, d].any isStar = false then
      (cAs (cE n c) [a, b, d]).map fun m => sAsg (gTp (gsCons (gNm i) (gsCons (gNm j) (gsCons (gNm l) gsNil)))) (mTup m) else none
    | _, _ => none
def isTup : Expr → Bool
  | .Tuple _ _ _ => true
  | _ => false
/-- a store: name, tuple, part of a store object, pop -/
def cAsg (n : Nat) (c : Cs) (tg e : Expr) (pos : Pos) : Option SM := match e with
  | .Call (.Attribute (.Name x _) y apos) [] [] cpos => if y = ("pop" : Str) ∧ (apos.endLine == cpos.line) = true ∧ isStar tg = false then (slotOf c x).bind fun i => (cG n c tg).map fun t => sPop i t.1 else none
  | e => match tg with
    | .Name x px => cAsgN n c x px e
    | .Tuple ts k p => match e with
      | .Tuple vs k2 p2 => cTup n c ts vs k p k2 p2
      | e => if noComp e = true ∧ noTup e = true then (cG n c (.Tuple ts k p)).bind fun t => (cE n c e).map fun m => sAsg t.1 m else none
    | .Subscript o i _ => if noComp e = true ∧ noSlice i = true then match ownSlot c o with
        | some j => (cE n c e).bind fun mv => (cE n c i).map fun mi => sPutO j mi mv
        | none => (cE n c e).bind fun mv => (cE n c o).bind fun mo => (cE n c i).map fun mi => sPut mo mi mv
      else none
    | _ => none
def cS : Nat → Cs → Stmt → Option SM
  | 0, _, _ => none
  | n + 1, c, s => match s with
    | .Pass _ => some sNil
    | .Break _ => some sBrk
    | .Continue _ => some sCt
    | .Expr e _ => match e with
      | .Constant (.str _) _ _ => some sNil
      | .Call (.Attribute (.Name x _) y apos) [e] [] cpos => if (apos.endLine == cpos.line) = true ∧ isStar e = false then (slotOf c x).bind fun i =>
          if y = ("append" : Str) then (if c.mts.contains i = true then (cE n c e).map (sApp i) else (cE n c e).map (sAppR (mVar i))) else if y = ("extend" : Str) then (cE n c e).map (sExt i) else none else none
      | e => if noComp e = true then (cE n c e).map sDrop else none
    | .Return none _ => if c.fr = false then some sRetN else none
    | .Return (some e) _ => if c.fr = true then (match e with
        | .Name x _ => (slotOf c x).map sRetOwn
        | e => (cL n c e).map sRetL) else (cE n c e).map sRet
    | .If t a b _ => (cB n c t).bind fun mt => (cSsW (cS n c) c a).bind fun ma => (cSsW (cS n c) c b).map fun mb => sIf mt ma mb
    | .Assign [tg] e pos => cAsg n c tg e pos
    | .AugAssign (.Name x _) op e _ => (tgtOf c x).bind fun i => (augOf op).bind fun f => (cE n c e).map fun m => sAug i f m
    | .For tg iter body [] _ => if noSet iter = true then (cG n c tg).bind fun t => (cIt c tg (cE n c) iter).bind fun it => (cSsW (cS n c) c body).map fun a => sFor t.1 it a else none
    | .Raise (some (.Call (.Name x _) (a :: es) [] _)) none _ => if isG c x = true ∧ (a :: es).any isStar = false then match c.glob.lookup x with
        | some (.exc k ns true) => (cAs (cE n c) (a :: es)).map (sRaise k ns.length)
        | some (.exc k _ false) => (cAs (cE n c) (a :: es)).map (sRaise0 k)
        | _ => none
      else none
    | .Try body [.ExceptHandler (some (.Name x _)) nm [.Return (some e) _] _] [] [] _ => if isG c x = true ∧ c.fr = false then match c.glob.lookup x with
        | some (.exc k _ _) => (cSsW (cS n c) c body).bind fun m => match nm with
          | some y => (slotOf c y).bind fun i => if c.sc.names.lookup y = some .local then (cSu n c y e).map fun su => sTry m (fun j => c.xsub j k) su else none
          | none => match e with
            | .Constant q _ _ => (cK q).map fun x => sTry m (fun j => c.xsub j k) (suC x)
            | _ => none
        | _ => none
      else none
    | .While t body [] _ => (cB n c t).bind fun m => (cSsW (cS n c) c body).map fun a => sWhile m a
    | _ => none
def cSs (n : Nat) (c : Cs) (ss : List Stmt) : Option SM := cSsW (cS n c) c ss
section
variable {c : Cs} {g : Gx} {W : WX} {X : Cx} {fr : Bool}
theorem frzs_ok : ∀ (l : List Nat) {ss : List Stmt} {m : SM}, PSs X ss (tS g W fr m) → PSs X ss (tS g W fr (frzs l m))
  | [], _, _, h => h
  | i :: r, _, _, h => ss_frz i (frzs_ok r h)
theorem s_bad {s : Stmt} : PS X s (tS g W fr sBad) := ⟨fun pins s σ H D I q => by
    obtain ⟨_, _, _, _, _, _, _, _, _, h⟩ := q
    exact h.elim⟩
theorem cSsW_ok {rec : Stmt → Option SM} (hr : ∀ s m, rec s = some m → PS X s (tS g W fr m)) : ∀ (ss : List Stmt) (m : SM), cSsW rec c ss = some m → PSs X ss (tS g W fr m)
  | [], m, h => by
    simp only [cSsW, Option.some.injEq] at h
    rw [← h]
    exact ss_nil
  | s :: r, m, h => by
    simp only [cSsW, Option.map_eq_some_iff] at h
    obtain ⟨b, hb, rfl⟩ := h
    refine frzs_ok _ (ss_cons ?_ (cSsW_ok hr r b hb))
    cases q : rec s with
    | some a => exact hr s a q
    | none => exact s_bad
theorem cTup_ok (o : CxOk c g W X) {n : Nat} {ts vs : List Expr} {k k2 : Nat} {p p2 pos : Pos} {m : SM} (h : cTup n c ts vs k p k2 p2 = some m) : PS X (.Assign [.Tuple ts k p] (.Tuple vs k2 p2) pos) (tS g W fr m) := by
  obtain ⟨ihE, ihB, ihL, ihD⟩ := expr_ok n
  unfold cTup at h
  split at h
  · cases h
  · rename_i q
    simp only [Option.bind_eq_some_iff, Option.map_eq_some_iff] at h
    obtain ⟨⟨t, ws⟩, ht, m', hm, rfl⟩ := h
    obtain ⟨g1, g2⟩ := cG_ok o n _ t ws ht
    exact s_asg g2 (ihE c g W X _ m' o hm) g1 rfl (swN_ok q o.sc o.kind) rfl
  · rename_i ns q
    have hw : swappedStores [.Tuple ts k p] (.Tuple vs k2 p2) X.env = pure (some ns) := swN_ok q o.sc o.kind
    obtain ⟨n1, n2, n3, n4, n5, n6⟩ := sw_names (X := X) q
    split at h
    · rename_i x px y py a b
      simp only [Option.bind_eq_some_iff] at h
      obtain ⟨i, hi, j, hj, h⟩ := h
      split at h
      · rename_i hij
        rw [Option.map_eq_some_iff] at h
        obtain ⟨m', hm, rfl⟩ := h
        obtain ⟨i1, _, _⟩ := tgtOf_some o hi
        obtain ⟨j1, _, _⟩ := tgtOf_some o hj
        have hns : ns = [x, y] := by
          have hle := List.length_filterMap_le (fun (e : Expr) => match e with
            | .Name id pos => if c.sc.names.lookup id == some .local && pos.line == (([Expr.Name x px, Expr.Name y py] : List Expr).head?.map (·.pos.line)).getD 0 then some id else none
            | _ => none) [Expr.Name x px, Expr.Name y py]
          rw [← n2]
          rw [← n2] at n3
          simp only [List.filterMap_cons, List.filterMap_nil] at n3 ⊢
          split at n3 <;> split at n3 <;> simp_all
        subst hns
        exact PS.mono (ps_par o.calm o.nd i1 j1 hij.1 (by rw [o.sc]; exact n1 x (by simp)) (by rw [o.sc]; exact n1 y (by simp)) (cAs_ok (fun e m h => ihE c g W X e m o h) [a, b] m' hij.2 hm).1 hw) fun D σ H h => tPar_of h
      · cases h
    · rename_i x px y py z pz a b d
      simp only [Option.bind_eq_some_iff] at h
      obtain ⟨i, hi, j, hj, l, hl, h⟩ := h
      split at h
      · rename_i hij
        rw [Option.map_eq_some_iff] at h
        obtain ⟨m', hm, rfl⟩ := h
        obtain ⟨i1, _, _⟩ := tgtOf_some o hi
        obtain ⟨j1, _, _⟩ := tgtOf_some o hj
        obtain ⟨l1, _, _⟩ := tgtOf_some o hl
        have hns : ns = [x, y, z] := by
          rw [← n2]
          rw [← n2] at n3
          simp only [List.filterMap_cons, List.filterMap_nil] at n3 ⊢
          split at n3 <;> split at n3 <;> split at n3 <;> simp_all
        subst hns
        exact PS.mono (ps_par3 o.calm o.nd i1 j1 l1 hij.1 hij.2.1 hij.2.2.1 (by rw [o.sc]; exact n1 x (by simp)) (by rw [o.sc]; exact n1 y (by simp)) (by rw [o.sc]; exact n1 z (by simp)) (cAs_ok (fun e m h => ihE c g W X e m o h) [a, b, d] m' hij.2.2.2 hm).1 hw) fun D σ H h => tPar3_of h
      · cases h
    · cases h
theorem sub_stores {o i e : Expr} {p : Pos} {env : PySem.Env} : swappedStores [.Subscript o i p] e env = pure none := by
  unfold swappedStores
  cases e <;> rfl
theorem cAsg_ok (o : CxOk c g W X) {n : Nat} {tg e : Expr} {pos : Pos} {m : SM} (h : cAsg n c tg e pos = some m) : PS X (.Assign [tg] e pos) (tS g W fr m) := by
  obtain ⟨ihE, ihB, ihL, ihD⟩ := expr_ok n
  unfold cAsg at h
  split at h
  · rename_i x xp y apos cpos
    split at h
    · rename_i q
      obtain ⟨rfl, q2, q3⟩ := q
      simp only [Option.bind_eq_some_iff, Option.map_eq_some_iff] at h
      obtain ⟨i, hi, ⟨t, ws⟩, ht, rfl⟩ := h
      obtain ⟨h1, h2, h3, h4⟩ := slotOf_some o hi
      obtain ⟨g1, g2⟩ := cG_ok o n _ t ws ht
      exact s_pop g2 h1 h2 h3 h4 g1 q2 (one_store q3) rfl (noTup_stores rfl)
    · cases h
  · split at h
    · exact cAsgN_ok o h
    · split at h
      · exact cTup_ok o h
      · split at h
        · rename_i q
          simp only [Option.bind_eq_some_iff, Option.map_eq_some_iff] at h
          obtain ⟨⟨t, ws⟩, ht, m', hm, rfl⟩ := h
          obtain ⟨g1, g2⟩ := cG_ok o n _ t ws ht
          exact s_asg g2 (ihE c g W X _ m' o hm) g1 (by unfold swapsWithSole; exact noComp_swaps q.1) (noTup_stores q.2) rfl
        · cases h
    · rename_i oo ii tpos
      split at h
      · rename_i q
        split at h
        · rename_i j hj
          simp only [Option.bind_eq_some_iff, Option.map_eq_some_iff] at h
          obtain ⟨mv, h1, mi, h3, rfl⟩ := h
          obtain ⟨x, pp, rfl, k1, k2, k3, k4⟩ := ownSlot_some o hj
          exact s_putO o.units k1 k2 k3 k4 (ihE c g W X _ mi o h3) (ihE c g W X _ mv o h1) (noComp_swaps q.1)
        simp only [Option.bind_eq_some_iff, Option.map_eq_some_iff] at h
        obtain ⟨mv, h1, mo, h2, mi, h3, rfl⟩ := h
        refine s_put (ihE c g W X _ mo o h2) (ihE c g W X _ mi o h3) (ihE c g W X _ mv o h1) ?_ (by unfold swapsWithSole; exact noComp_swaps q.1) sub_stores
        intro v
        have q3 := q.2
        cases ii <;> first | rfl | (simp [noSlice] at q3)
      · cases h
    · cases h
theorem aug_ok {op : Operator} {f : PV → PV → Option PV} (h : augOf op = some f) : ∃ k : Int → Int → Int, PIp X op (ipI k) ∧ ∀ a b z, f a b = some z → ∃ i j, a = .int i ∧ b = .int j ∧ z = .int (k i j) := by
  cases op <;> simp only [augOf, Option.some.injEq] at h <;> try (cases h; done)
  · subst h
    refine ⟨_, ip_add, fun a b z hz => ?_⟩
    unfold augAdd at hz
    split at hz
    · cases hz; exact ⟨_, _, rfl, rfl, rfl⟩
    · cases hz
  · subst h
    refine ⟨_, ip_sub, fun a b z hz => ?_⟩
    unfold augSub at hz
    split at hz
    · cases hz; exact ⟨_, _, rfl, rfl, rfl⟩
    · cases hz
/-- a def's own frame -/
structure FrOk (X : Cx) : Prop where
  st : X.stack = X.env :: X.outer
  fr : X.env.frame = some X.env.locals
theorem cS_ok : ∀ (n : Nat) (W : WX) (X : Cx) (o : CxOk c g W X) (fo : FrOk X) (s : Stmt) (m : SM), cS n c s = some m → PS X s (tS g W c.fr m)
  | 0, _, _, _, _, _, _, h => by simp [cS] at h
  | n + 1, W, X, o, fo, s, m, h => by
    obtain ⟨ihE, ihB, ihL, ihD⟩ := expr_ok n
    have rE := fun e m h => ihE c g W X e m o h
    have ihS := cSsW_ok (c := c) (cS_ok n W X o fo)
    unfold cS at h
    split at h
    · cases h; exact s_pass
    · cases h; exact s_break
    · cases h; exact s_cont
    · split at h
      · cases h; exact s_doc
      · split at h
        · rename_i q
          rw [Option.bind_eq_some_iff] at h
          obtain ⟨i, hi, h⟩ := h
          obtain ⟨h1, h2, h3, h4⟩ := slotOf_some o hi
          split at h
          · rename_i hy
            subst hy
            split at h
            · rw [Option.map_eq_some_iff] at h
              obtain ⟨m', hm, rfl⟩ := h
              exact s_app h1 h2 h3 h4 (rE _ m' hm) q.2 q.1
            · rw [Option.map_eq_some_iff] at h
              obtain ⟨m', hm, rfl⟩ := h
              exact s_appR (se_var h1 h2 h3 h4) (rE _ m' hm) rfl q.2 q.1
          · split at h
            · rename_i hy
              subst hy
              rw [Option.map_eq_some_iff] at h
              obtain ⟨m', hm, rfl⟩ := h
              exact s_ext h1 h2 h3 h4 (rE _ m' hm) q.2 q.1
            · cases h
        · cases h
      · split at h
        · rename_i q
          rw [Option.map_eq_some_iff] at h
          obtain ⟨m', hm, rfl⟩ := h
          exact s_drop (rE _ m' hm) (noComp_swaps q)
        · cases h
    · split at h
      · rename_i q
        cases h
        rw [q]
        exact s_retN
      · cases h
    · split at h
      · rename_i q
        rw [q]
        split at h
        · rw [Option.map_eq_some_iff] at h
          obtain ⟨i, hi, rfl⟩ := h
          obtain ⟨h1, h2, h3, h4⟩ := slotOf_some o hi
          exact s_retOwn h1 h2 h3 h4
        · rw [Option.map_eq_some_iff] at h
          obtain ⟨m', hm, rfl⟩ := h
          exact s_retL (ihL c g W X _ m' o hm)
      · rename_i q
        rw [Bool.not_eq_true] at q
        rw [q]
        rw [Option.map_eq_some_iff] at h
        obtain ⟨m', hm, rfl⟩ := h
        exact s_ret (rE _ m' hm)
    · simp only [Option.bind_eq_some_iff, Option.map_eq_some_iff] at h
      obtain ⟨mt, h1, ma, h2, mb, h3, rfl⟩ := h
      exact s_if (ihB c g W X _ mt o h1) (ihS _ ma h2) (ihS _ mb h3)
    · exact cAsg_ok o h
    · simp only [Option.bind_eq_some_iff, Option.map_eq_some_iff] at h
      obtain ⟨i, hi, f, hf, m', hm, rfl⟩ := h
      obtain ⟨h1, h2, h3⟩ := tgtOf_some o hi
      obtain ⟨k, k1, k2⟩ := aug_ok (X := X) hf
      exact s_aug o.nd h1 h2 (rE _ m' hm) k1 h3 k2
    · split at h
      · rename_i q
        simp only [Option.bind_eq_some_iff, Option.map_eq_some_iff] at h
        obtain ⟨⟨t, ws⟩, ht, it, hit, a, ha, rfl⟩ := h
        obtain ⟨g1, g2⟩ := cG_ok o n _ t ws ht
        exact s_for g2 o.own o.calm (cIt_ok o rE hit) g1 (ihS _ a ha) fun x => noSet_folded q
      · cases h
    · split at h
      · rename_i q
        split at h
        · rename_i k ns q2
          rw [Option.map_eq_some_iff] at h
          obtain ⟨na, hn, rfl⟩ := h
          obtain ⟨C, k1, k2, k3, k4, _, _⟩ := o.glob.exc _ _ _ _ q2
          obtain ⟨j, hj, I⟩ := k4 rfl
          obtain ⟨g1, g2⟩ := isG_some o q.1
          exact s_raise o.calm o.tk k1 k2 I hj g1 k3 g2 (cAs_ok rE _ na q.2 hn).1 q.2
        · rename_i k ns q2
          rw [Option.map_eq_some_iff] at h
          obtain ⟨na, hn, rfl⟩ := h
          obtain ⟨C, k1, k2, k3, _, k5, _⟩ := o.glob.exc _ _ _ _ q2
          obtain ⟨g1, g2⟩ := isG_some o q.1
          exact s_raise0 o.calm o.tk k1 (k5 rfl) g1 k3 g2 (cAs_ok rE _ na q.2 hn).1 q.2
        · cases h
      · cases h
    · split at h
      · rename_i q
        split at h
        · rename_i k ns own q2
          rw [Option.bind_eq_some_iff] at h
          obtain ⟨mb, hb, h⟩ := h
          obtain ⟨C, k1, k2, k3, k4, _, k6⟩ := o.glob.exc _ _ _ _ q2
          obtain ⟨g1, g2⟩ := isG_some o q.1
          have hbody : ∀ (W' : WX) (pn : List (Addr × Obj)) (xe : Value → Shared → Prop), Takes (X.tr pn xe) W' → PassesOwn (model X.prog X.w) X.A X.env xe → PSs (X.tr pn xe) _ (tS g W' false mb) := fun W' pn xe tk own => by
            have o' : CxOk c g W' (X.tr pn xe) := ⟨o.K, o.N, o.nd, o.sc, o.kind, o.calm, o.units, tk, own, o.fnc, ⟨o.glob.const, o.glob.fn, o.glob.blt, o.glob.kd, o.glob.fns, o.glob.fnv, o.glob.exc, o.glob.xok, o.glob.xn⟩⟩
            have := cSsW_ok (c := c) (cS_ok n W' (X.tr pn xe) o' ⟨fo.st, fo.fr⟩) _ mb hb
            rw [q.2] at this
            exact this
          rw [q.2]
          split at h
          · rename_i y
            rw [Option.bind_eq_some_iff] at h
            obtain ⟨i, hi, h⟩ := h
            obtain ⟨h1, h2, h3, h4⟩ := slotOf_some o hi
            split at h
            · rename_i hl
              rw [Option.map_eq_some_iff] at h
              obtain ⟨su, hsu, rfl⟩ := h
              exact s_tryAs (c := .ref C) fo.st fo.fr o.nd h1 (by unfold PySem.Env.kindOf; rw [o.sc]; exact hl) ⟨g1, g2, .inl k3⟩ o.tk (fun k' D b e1 e2 => (k6 k' D b e1 e2).1) hbody fun a oe cls d pn hz hv => cSu_ok o h1 h2 h3 h4 hz hv n _ su hsu
            · cases h
          · split at h
            · rw [Option.map_eq_some_iff] at h
              obtain ⟨x, hx, rfl⟩ := h
              obtain ⟨v, e1, e2⟩ := cK_ok (X' := X) (g := g) hx
              exact s_tryOnly (c := .ref C) fo.st fo.fr ⟨g1, g2, .inl k3⟩ o.tk (fun k' D b e1 e2 => (k6 k' D b e1 e2).1) hbody e1 e2
            · cases h
        · cases h
      · cases h
    · simp only [Option.bind_eq_some_iff, Option.map_eq_some_iff] at h
      obtain ⟨mt, h1, ma, h2, rfl⟩ := h
      exact s_while o.own (ihB c g W X _ mt o h1) (ihS _ ma h2)
    · cases h
theorem cSs_ok (o : CxOk c g W X) (fo : FrOk X) {n : Nat} {ss : List Stmt} {m : SM} (h : cSs n c ss = some m) : PSs X ss (tS g W c.fr m) := cSsW_ok (cS_ok n W X o fo) ss m h
end
end BK

/-! BkT: the table of defs -/
namespace BK
open PySem PySem.Spec PyProof.Rows L2 RZ

/-- a def: its name, its text, the names of its slots, how many are parameters, whether it hands back a new list, its defaults, the slots of own lists, those of store objects -/
structure FD where
  nm : Str
  st : Stmt
  N : List Str
  np : Nat
  fr : Bool
  dfl : List PV
  mts : List Nat
  sto : List Nat
  /-- the module's names for it -/
  gns : List Str
def FD.ps (d : FD) : List Str := d.N.take d.np
def gtab (k : Nat) : List FD → List (Str × GI)
  | [] => []
  | d :: r => d.gns.map (fun x => (x, .fn k d.np d.fr d.dfl)) ++ gtab (k + 1) r
/-! the program's exception classes: TypeFault 0, BadType 1, BadTerm 2, CheckFault 3, BadText 4, Refused 5 -/
def gxn : Nat → List Str
  | 2 => ["place"]
  | 3 => ["place", "word"]
  | 4 => ["at"]
  | 5 => ["word"]
  | _ => []
theorem gxn_nodup (c : Nat) : (gxn c).Nodup := by
  unfold gxn
  split <;> decide +kernel
def gown : Nat → Bool
  | 2 => true
  | 3 => true
  | 4 => true
  | 5 => true
  | _ => false
def gsub (c k : Nat) : Option Bool := if c ≤ 5 ∧ k ≤ 5 then some (c == k || k == 0) else none
def xtab : List (Str × Nat) → List (Str × GI)
  | [] => []
  | d :: r => (d.1, .exc d.2 (gxn d.2) (gown d.2)) :: xtab r
structure Tab where
  fds : List FD
  cs : List (Str × PV)
  bl : List Str
  xs : List (Str × Nat)
def Tab.glob (T : Tab) : List (Str × GI) := gtab 0 T.fds ++ ((T.cs.map fun p => (p.1, .const p.2)) ++ xtab T.xs)
/-- the defs that are values: those that hand back no new list -/
def Tab.fnV (T : Tab) (fn : Nat → Addr) (k : Nat) : Option Addr := match T.fds[k]? with
  | some d => if d.fr = true then none else some (fn k)
  | none => none
def Tab.cs1 (T : Tab) (call : Nat → List PV → Sto → Res PV) (d : FD) : Cs := ⟨d.N, defScope d.st, fun _ => true, T.glob, T.bl, call, d.mts, d.sto, d.fr, gxn, gsub⟩
def cfuel : Nat := 60
def Tab.code (T : Tab) (call : Nat → List PV → Sto → Res PV) (d : FD) : Option SM := cSs cfuel (T.cs1 call d) (defBody d.st)
def slots (N : List Str) (xs : List PV) : SEnv := xs.map Slot.val ++ List.replicate (N.length - xs.length) Slot.no
def endOf (fr : Bool) : SR → Res PV
  | .ret x st => .ok x st
  | .nx _ st => if fr = true then .bad else .ok .non st
  | .exn c fs st => .exn c fs st
  | _ => .bad
/-- one def's body -/
def Tab.run (T : Tab) (call : Nat → List PV → Sto → Res PV) (d : FD) (xs : List PV) (st : Sto) : Res PV := match T.code call d with
  | some m => if xs.length = d.np then endOf d.fr (m (slots d.N xs) st) else .bad
  | none => .bad
/-- the call of the k-th def, n calls deep at most -/
def Tab.call (T : Tab) : Nat → Nat → List PV → Sto → Res PV
  | 0, _, _, _ => .bad
  | n + 1, k, xs, st => match T.fds[k]? with
    | some d => T.run (T.call n) d xs st
    | none => .bad
/-- what the top's heap holds of a def -/
structure FnAt (g : Gx) (mg : Str → Option Value) (d : FD) (f : Addr) (fd : FuncData) : Prop where
  ex : ∃ dvs kws, FunD g.K d.nm d.nm (defArgs d.st) (defBody d.st) (defScope d.st) dvs kws f fd
  sc : FnScope d.N d.ps (defScope d.st)
  np : d.np ≤ d.N.length
  mg : ∀ x ∈ d.gns, mg x = some (.ref f)
  kp : PySem.W.keepIn g.K (.ref f) = true
  bi : ∀ j, j ≤ d.dfl.length → ∃ dvs ds, Vals dvs ds ∧ Binds g.K fd d.ps ds ∧ ∀ F μ, Reps g.K g.fa F μ dvs (d.dfl.drop j)
structure TabAt (g : Gx) (mg : Str → Option Value) (T : Tab) (fn : Nat → Addr) (fd : Nat → FuncData) (w : World) : Prop where
  fds : ∀ k d, T.fds[k]? = some d → FnAt g mg d (fn k) (fd k)
  cs : ∀ p ∈ T.cs, ∃ u w, mg p.1 = some u ∧ RelV w u ∧ ∀ F μ, Rep g.K g.fa F μ w p.2
  bl : ∀ x ∈ T.bl, mg x = none
  kd : KdOk g.K w g.fa
  fa : g.fa.fn = T.fnV fn
  xc : ∀ d ∈ T.xs, ∃ C, g.fc d.2 = some C ∧ mg d.1 = some (.ref C) ∧ (gown d.2 = true → ∀ P base, XInit P w g.K mg base 1 C (gxn d.2)) ∧ (gown d.2 = false → XPlain g.K C)
  xsub : ∀ c c' C C' b, g.fc c = some C → g.fc c' = some C' → gsub c c' = some b → PySem.W.exmOne g.K (.ref C) (.ref C') = some b ∧ PySem.W.kitOne g.K (.ref C) (.ref C') = some b
  xok : XcOk g g.K
  xn : g.xn = gxn
theorem lookup_app {α : Type} : ∀ {l r : List (Str × α)} {x : Str} {v : α}, (l ++ r).lookup x = some v → l.lookup x = some v ∨ r.lookup x = some v
  | [], _, _, _, h => .inr h
  | (k, w) :: l, r, x, v, h => by
    rw [List.cons_append, List.lookup_cons] at h
    rw [List.lookup_cons]
    cases q : x == k with
    | true => rw [q] at h; exact .inl h
    | false => rw [q] at h; exact lookup_app h
theorem map_look {α : Type} {l : List Str} {v : α} {x : Str} {i : α} (h : (l.map fun y => (y, v)).lookup x = some i) : x ∈ l ∧ i = v := by
  induction l with
  | nil => simp at h
  | cons y l ih =>
    rw [List.map_cons, List.lookup_cons] at h
    cases q : x == y with
    | true =>
      rw [q] at h
      simp only [Option.some.injEq] at h
      have e : x = y := by simpa using q
      exact ⟨by rw [e]; exact List.mem_cons_self, h.symm⟩
    | false =>
      rw [q] at h
      obtain ⟨h1, h2⟩ := ih h
      exact ⟨List.mem_cons_of_mem _ h1, h2⟩
theorem gtab_look : ∀ (l : List FD) (k : Nat) (x : Str) (i : GI), (gtab k l).lookup x = some i → ∃ j d, l[j]? = some d ∧ x ∈ d.gns ∧ i = .fn (k + j) d.np d.fr d.dfl
  | [], _, _, _, h => by simp [gtab] at h
  | d :: r, k, x, i, h => by
    unfold gtab at h
    rcases lookup_app h with h | h
    · obtain ⟨h1, h2⟩ := map_look h
      exact ⟨0, d, rfl, h1, h2⟩
    · obtain ⟨j, d', h1, h2, h3⟩ := gtab_look r (k + 1) x i h
      exact ⟨j + 1, d', by simpa using h1, h2, by rw [h3]; congr 1; omega⟩
theorem const_look : ∀ {l : List (Str × PV)} {x : Str} {i : GI}, (l.map fun p => (p.1, GI.const p.2)).lookup x = some i → ∃ v, (x, v) ∈ l ∧ i = .const v
  | [], _, _, h => by simp at h
  | (k, w) :: l, x, i, h => by
    rw [List.map_cons, List.lookup_cons] at h
    cases q : x == k with
    | true =>
      rw [q] at h
      simp only [Option.some.injEq] at h
      have e : x = k := by simpa using q
      exact ⟨w, by rw [e]; exact List.mem_cons_self, h.symm⟩
    | false =>
      rw [q] at h
      obtain ⟨v, h1, h2⟩ := const_look h
      exact ⟨v, List.mem_cons_of_mem _ h1, h2⟩
theorem xtab_look : ∀ {l : List (Str × Nat)} {x : Str} {i : GI}, (xtab l).lookup x = some i → ∃ c, (x, c) ∈ l ∧ i = .exc c (gxn c) (gown c)
  | [], _, _, h => by simp [xtab] at h
  | (k, w) :: l, x, i, h => by
    unfold xtab at h
    rw [List.lookup_cons] at h
    cases q : x == k with
    | true =>
      rw [q] at h
      simp only [Option.some.injEq] at h
      have e : x = k := by simpa using q
      exact ⟨w, by rw [e]; exact List.mem_cons_self, h.symm⟩
    | false =>
      rw [q] at h
      obtain ⟨v, h1, h2⟩ := xtab_look h
      exact ⟨v, List.mem_cons_of_mem _ h1, h2⟩
/-- what a name of the table stands for -/
theorem glob_look {T : Tab} {x : Str} {i : GI} (h : T.glob.lookup x = some i) : (∃ j d, T.fds[j]? = some d ∧ x ∈ d.gns ∧ i = .fn j d.np d.fr d.dfl) ∨ (∃ v, (x, v) ∈ T.cs ∧ i = .const v) ∨ ∃ c, (x, c) ∈ T.xs ∧ i = .exc c (gxn c) (gown c) := by
  rcases lookup_app h with h | h
  · obtain ⟨j, d, h1, h2, h3⟩ := gtab_look _ _ _ _ h
    exact .inl ⟨j, d, h1, h2, by rw [h3, Nat.zero_add]⟩
  · rcases lookup_app h with h | h
    · obtain ⟨v, h1, h2⟩ := const_look h
      exact .inr (.inl ⟨v, h1, h2⟩)
    · exact .inr (.inr (xtab_look h))
section
variable {g : Gx} {mg : Str → Option Value} {T : Tab} {fn : Nat → Addr} {fd : Nat → FuncData} {P : Program} {w : World} {base : Heap}
theorem slots_start {K : PySem.W.Frag} {N : List Str} {F : Hp} {μ : List Addr} {vs : List V} {xs : List PV} {H0 : Hp} {H : Hp} (r : Reps g.K g.fa F μ vs xs) : SEnvOk g H0 F μ H (L2.start N vs) (slots N xs) := by
  have hl := r.length
  have hi : ∀ {i : Nat} {s : Slot}, (slots N xs)[i]? = some s → (∃ x, xs[i]? = some x ∧ s = .val x ∧ i < xs.length) ∨ s = .no := fun {i s} h => by
    unfold slots at h
    by_cases hx : i < xs.length
    · rw [List.getElem?_append_left (by simpa using hx), List.getElem?_map, Option.map_eq_some_iff] at h
      obtain ⟨x, h1, h2⟩ := h
      exact .inl ⟨x, h1, h2.symm, hx⟩
    · rw [List.getElem?_append_right (by simpa using hx), List.getElem?_replicate] at h
      split at h
      · cases h; exact .inr rfl
      · cases h
  refine ⟨by unfold L2.start slots; simp [hl], fun i x h => ?_, fun i ys h => ?_, fun i j a ys zs h => ?_⟩
  · rcases hi h with ⟨y, h1, h2, h3⟩ | h2
    · cases h2
      obtain ⟨v, h4, h5⟩ := r.get h1
      refine ⟨v, ?_, h5⟩
      unfold L2.start
      rw [List.getElem?_append_left (by simp; omega), List.getElem?_map, h4]
      rfl
    · cases h2
  · rcases hi h with ⟨y, h1, h2, h3⟩ | h2 <;> cases h2
  · rcases hi h with ⟨y, h1, h2, h3⟩ | h2 <;> cases h2
theorem tab_ok (A : TabAt g mg T fn fd w) : ∀ (n k : Nat) (d : FD), T.fds[k]? = some d → FnOk P w g.K mg base (L2.CX P w) (n + 2) (fn k) (fd k) d.ps (spM g (T.call n k) d.fr d.np)
  | 0, k, d, hk => by
    have no : ∀ vs H Q E, ¬ spM g (T.call 0 k) d.fr d.np vs H Q E := fun vs H Q E h => by
      obtain ⟨_, F, μ, st, xs, w, r, h⟩ := h
      exact h
    exact ⟨fun vs H Q E h => absurd h (no vs H Q E), fun A outer s H args us vs Q E _ _ _ _ h => absurd h (no vs H Q E)⟩
  | n + 1, k, d, hk => by
    have B := A.fds k d hk
    obtain ⟨dvs, kws, FD⟩ := B.ex
    have hps : d.ps.length = d.np := by
      unfold BK.FD.ps
      rw [List.length_take]
      exact Nat.min_eq_left B.np
    refine FD.ok B.sc (fun vs H Q E h => by rw [hps]; exact h.1) fun cdv Ar outer s H vs Q E hr h => ?_
    obtain ⟨hv, F, μ, st, xs, wk, r, h⟩ := h
    unfold Tab.call at h
    rw [hk] at h
    simp only at h
    unfold Tab.run at h
    cases q : T.code (T.call n) d with
    | none => rw [q] at h; exact h.elim
    | some m =>
    rw [q] at h
    simp only at h
    by_cases hx : xs.length = d.np
    case neg => rw [if_neg hx] at h; exact h.elim
    rw [if_pos hx] at h
    have o : CxOk (T.cs1 (T.call n) d) g (fun c e _ H' => E c e H') (cxOf (L2.CX P w) P w g.K mg base d.N d.nm (defScope d.st) (fn k) cdv Ar outer s H E) := by
      refine ⟨rfl, rfl, B.sc.nd, rfl, B.sc.kind, rfl, hr.units, takes_of rfl rfl rfl rfl, passes_of rfl, fun _ => rfl,
        ⟨fun x v hl => ?_, fun x j np fr dfl hl => ?_, fun x hx => A.bl x hx, A.kd, ⟨n + 2, hr, fun j f hf => ?_⟩, fun x j np dfl hl => ?_, fun x j ns own hl => ?_, A.xok, A.xn⟩⟩
      · rcases glob_look hl with ⟨j, d', _, _, e⟩ | ⟨v', hm, e⟩ | ⟨j, _, e⟩ <;> cases e
        exact A.cs _ hm
      · rcases glob_look hl with ⟨j, d', h1, h2, e⟩ | ⟨v', hm, e⟩ | ⟨j, _, e⟩ <;> cases e
        have C := A.fds _ d' h1
        exact ⟨n + 2, fn j, fd j, d'.ps, hr, C.mg _ h2, C.kp, tab_ok A n j d' h1, C.bi⟩
      · rw [A.fa] at hf
        unfold Tab.fnV at hf
        cases h1 : T.fds[j]? with
        | none => rw [h1] at hf; cases hf
        | some d' =>
          rw [h1] at hf
          simp only at hf
          split at hf
          · cases hf
          · rename_i hfr
            cases hf
            have C := A.fds _ d' h1
            have ok := tab_ok A n j d' h1
            rw [Bool.not_eq_true] at hfr
            rw [hfr] at ok
            obtain ⟨dvs, ds, e1, e2, e3⟩ := C.bi d'.dfl.length (Nat.le_refl _)
            have e4 := e3 (fun _ => none) []
            rw [List.drop_length] at e4
            cases e4
            cases e1
            refine ⟨fd j, d'.ps, d'.np, C.kp, ok, e2, fun xs st hb => ?_⟩
            cases n with
            | zero => exact absurd rfl hb
            | succ n =>
              show xs.length = d'.np
              have hb2 : T.call (n + 1) j xs st ≠ .bad := hb
              unfold Tab.call at hb2
              rw [h1] at hb2
              simp only at hb2
              unfold Tab.run at hb2
              cases q' : T.code (T.call n) d' with
              | none => rw [q'] at hb2; exact absurd rfl hb2
              | some m' =>
                rw [q'] at hb2
                simp only at hb2
                by_cases hx : xs.length = d'.np
                · exact hx
                · rw [if_neg hx] at hb2; exact absurd rfl hb2
      · rcases glob_look hl with ⟨j, d', h1, h2, e⟩ | ⟨v', hm, e⟩ | ⟨j, _, e⟩
        · have e1 : false = d'.fr := by injection e
          obtain rfl : _ = j := (GI.fn.injEq .. ▸ e).1
          refine ⟨fn _, ?_, (A.fds _ d' h1).mg _ h2⟩
          rw [A.fa]
          unfold Tab.fnV
          rw [h1]
          exact if_neg (by rw [← e1]; exact Bool.false_ne_true)
        · cases e
        · cases e
      · rcases glob_look hl with ⟨j, d', h1, h2, e⟩ | ⟨v', hm, e⟩ | ⟨c, h1, e⟩ <;> cases e
        obtain ⟨C, x1, x2, x3, x4⟩ := A.xc _ h1
        exact ⟨C, x1, by rw [A.xn], x2, fun ho => ⟨1, hr.mono (by omega), x3 ho P base⟩, x4, fun i D b h3 h4 => A.xsub i _ D C b h3 x1 h4⟩
    refine ⟨_, cSs_ok o ⟨rfl, rfl⟩ q, F, μ, H, (F, μ), F, μ, slots d.N xs, st, ⟨wk, Ext.refl .., ⟨Same.refl _, [], by simp⟩, slots_start (K := g.K) r⟩, ?_⟩
    show SPost g _ d.fr F μ H (F, μ) (m (slots d.N xs) st) _
    cases hm : m (slots d.N xs) st with
    | nx ρ1 st1 =>
      rw [hm] at h
      unfold endOf at h
      simp only at h
      split at h
      · exact h.elim
      · rename_i hf
        exact fun σ' F' μ' H' oo => h F' μ' H' oo.e oo.w .non (by unfold RepR; rw [if_neg hf]; exact .non)
    | ret x st1 =>
      rw [hm] at h
      exact fun v F' μ' H' wo eo ro => h F' μ' H' eo wo v ro
    | exn c fs st1 =>
      rw [hm] at h
      exact fun cls e σ' F' μ' H' wo eo xo => h F' μ' H' cls e eo wo xo
    | brk ρ1 st1 => rw [hm] at h; exact h.elim
    | ct ρ1 st1 => rw [hm] at h; exact h.elim
    | bad => rw [hm] at h; exact h.elim
/-- what law(script) promises, once the table's own answer is True -/
def spOf (K : PySem.W.Frag) : Sp := fun vs H Q _ => ∃ (a : Addr) (ns : List Int), vs = [.ref a] ∧ SqL K H a (ns.map V.int) ∧ ns.length ≤ 63 ∧ ∀ H', Q (.bl true) H'
theorem reps_ints {K : PySem.W.Frag} {fa : Fx} {F : Hp} {μ : List Addr} : ∀ ns : List Int, Reps K fa F μ (ns.map V.int) (ns.map PV.int)
  | [] => .nil
  | n :: ns => .cons (.int n) (reps_ints ns)
theorem law_ok (A : TabAt g mg T fn fd w) {n k : Nat} {d : FD} (hk : T.fds[k]? = some d) (hf : d.fr = false) (hp : d.ps = [("script" : Str)]) (hnp : d.np = 1)
    (h : ∀ ns : List Int, ns.length ≤ 63 → ∃ st, T.call n k [.scr (ns.map PV.int)] [] = .ok (.bl true) st) : FnOk P w g.K mg base (L2.CX P w) (n + 2) (fn k) (fd k) ["script"] (spOf g.K) := by
  have F := tab_ok (P := P) (w := w) (base := base) A n k d hk
  rw [hp, hf, hnp] at F
  refine F.imp fun vs H Q E hs => ?_
  obtain ⟨a, ns, rfl, hS, hl, q⟩ := hs
  refine ⟨rfl, H, [], [], [.scr (ns.map PV.int)], ⟨fun b u z => z, rfl, List.nodup_nil, fun a z => (by cases z), fun m b z => (by simp at z)⟩, .cons (.scr hS (by rw [List.length_map]; exact Nat.le_trans hl (by decide)) (reps_ints ns)) .nil, ?_⟩
  obtain ⟨st, e⟩ := h ns hl
  rw [e]
  intro F' μ' H' _ _ v rv
  unfold RepR at rv
  rw [if_neg Bool.false_ne_true] at rv
  cases rv
  exact q H'
end
/-- a written dict of the top, by its entries -/
theorem kd_mk {K : PySem.W.Frag} {w : World} {fa : Fx} {a : Addr} {es : Array DictEntry} {n : Nat} (hl : K.lookup a = some ⟨.type "dict", none, .dict es n, #[]⟩) (low : (a == sysModules) = false) (l : List (Str × Tok × Value × V × PV))
    (he : es.toList = l.map fun p => ⟨PyData.keyHash w.params p.1, .str p.1 p.2.1, p.2.2.1⟩) (hr : ∀ p ∈ l, RelV p.2.2.2.1 p.2.2.1 ∧ ∀ F μ, Rep K fa F μ p.2.2.2.1 p.2.2.2.2) :
    ∃ es n, KDict K w a es n ∧ ∀ z : Str, KdAt K fa (PySem.W.nsIn K a z) (dLook (.str z) (l.map fun p => .str p.1) (l.map fun p => p.2.2.2.2)) := by
  refine ⟨es, n, ⟨hl, ?_, low⟩, fun z => ?_⟩
  · rw [he]
    clear he hr
    induction l with
    | nil => trivial
    | cons p l ih => exact ⟨⟨p.1, p.2.1, rfl, rfl⟩, ih⟩
  · have hn : PySem.W.nsIn K a z = (match es.toList.find? (·.key.isStr z) with
        | some e => some (some e.val)
        | none => if es.toList.any (·.refKey) then none else some none) := by
      unfold PySem.W.nsIn
      rw [hl]
      rfl
    rw [hn, he]
    clear hn he hl
    have na : ∀ l : List (Str × Tok × Value × V × PV), (l.map fun p => (⟨PyData.keyHash w.params p.1, .str p.1 p.2.1, p.2.2.1⟩ : DictEntry)).any (·.refKey) = false := by
      intro l
      induction l with
      | nil => rfl
      | cons p l ih => rw [List.map_cons, List.any_cons, ih]; rfl
    rw [na, if_neg Bool.false_ne_true]
    induction l with
    | nil => rfl
    | cons p l ih =>
      cases q : p.1 == z with
      | true =>
        have e : (Value.str p.1 p.2.1).isStr z = true := q
        simp only [List.map_cons, List.find?_cons, dLook, keyEq, e, q, if_true]
        obtain ⟨r1, r2⟩ := hr p List.mem_cons_self
        exact ⟨_, _, rfl, r1, r2⟩
      | false =>
        have e : (Value.str p.1 p.2.1).isStr z = false := q
        simp only [List.map_cons, List.find?_cons, dLook, keyEq, e, q, Bool.false_eq_true, if_false]
        exact ih fun p hp => hr p (List.mem_cons_of_mem _ hp)
end BK

/-! BkU: a law's end -/
namespace BK
open PySem PySem.Spec PyProof.Rows L2 RZ

section
variable {g : Gx} {mg : Str → Option Value} {d : FD} {f : Addr} {oc kV doc pm cdv ct : Value} {od an : Option Addr} {osl : Array (Option Value)}
abbrev fdOf (d : FD) (dV kV doc pm : Value) (an : Option Addr) (cdv ct : Value) : FuncData := PySem.W.fnOf d.nm d.nm (defArgs d.st) (defBody d.st) (defScope d.st) dV kV doc pm an cdv ct
/-- how its parameters are bound -/
def Bnd0 (d : FD) : Prop := ∀ (kV doc pm : Value) (an : Option Addr) (cdv ct : Value) (us : List Value), us.length = d.ps.length → bindArgs (fdOf d .none kV doc pm an cdv ct) ⟨us, []⟩ = pure (d.ps.zip us)
theorem fnAt_mk (a : ∀ x ∈ d.gns, mg x = some (.ref f)) (l : g.K.lookup f = some ⟨oc, od, .func (fdOf d .none kV doc pm an cdv ct), osl⟩) (c : PySem.W.codeIn g.K cdv d.nm = true) (k : PySem.W.keepIn g.K (.ref f) = true)
    (S : FnScope d.N d.ps (defScope d.st)) (hn : d.np ≤ d.N.length) (hd : d.dfl = []) (b : Bnd0 d) : FnAt g mg d f (fdOf d .none kV doc pm an cdv ct) := by
  have F : FunD g.K d.nm d.nm (defArgs d.st) (defBody d.st) (defScope d.st) [] [] f (fdOf d .none kV doc pm an cdv ct) := ⟨⟨oc, od, .none, kV, doc, pm, an, cdv, ct, osl, rfl, l, c, .inl ⟨rfl, rfl⟩, .inl rfl⟩, k⟩
  refine ⟨⟨[], [], F⟩, S, hn, a, k, fun j hj => ⟨[], [], .nil, F.bindsN b, fun F μ => ?_⟩⟩
  rw [hd, List.drop_nil]
  exact .nil
/-- .. with defaults -/
def BndD (d : FD) : Prop := ∀ (T : Addr) (kV doc pm : Value) (an : Option Addr) (cdv ct : Value) (n j : Nat) (us its : List Value), n + (d.dfl.length - j) = d.ps.length → us.length = n → its.length = d.dfl.length →
      ∃ k, bindArgs (fdOf d (.ref T) kV doc pm an cdv ct) ⟨us, []⟩ = seqItems? (.ref T) >>= k ∧ k (some its.toArray) = pure (d.ps.zip (us ++ its.drop j))
theorem reps_drop {K : PySem.W.Frag} {fa : Fx} {F : Hp} {μ : List Addr} : ∀ {vs : List V} {xs : List PV} (j : Nat), Reps K fa F μ vs xs → Reps K fa F μ (vs.drop j) (xs.drop j)
  | _, _, 0, h => h
  | _, _, _ + 1, .nil => .nil
  | _, _, j + 1, .cons _ t => reps_drop j t
end
theorem binds_mk {K : PySem.W.Frag} {fd : FuncData} {ps : List Str} (h : ∀ us : List Value, us.length = ps.length → bindArgs fd ⟨us, []⟩ = pure (ps.zip us)) : Binds K fd ps [] := fun s us _ hl => by
  rw [List.append_nil] at hl ⊢
  exact .of_eq (h us hl)
theorem gn0 {mg : Str → Option Value} {v : Option Value} : ∀ y ∈ ([] : List Str), mg y = v := fun _ h => by cases h
theorem gnC {mg : Str → Option Value} {v : Option Value} {x : Str} {l : List Str} (h : mg x = v) (t : ∀ y ∈ l, mg y = v) : ∀ y ∈ x :: l, mg y = v := fun y m => by
  rcases List.mem_cons.mp m with rfl | m
  · exact h
  · exact t y m
/-- what except and isinstance ask of two own classes -/
theorem exk_of {K : PySem.W.Frag} {t : Value} {C : Addr} {b : Bool} (h1 : PySem.W.subIn K (.ref C) (.type "BaseException") = some true) (h2 : PySem.W.isClsIn K C = true) (h3 : PySem.W.typeIn K (.ref C) = some (.type "type")) (h0 : PySem.W.subIn K (.ref C) (.ref C) = some true)
    (h4 : PySem.W.subIn K t (.ref C) = some b) : PySem.W.exmOne K t (.ref C) = some b ∧ PySem.W.kitOne K t (.ref C) = some b := by
  have e1 : (PySem.W.subIn K (.ref C) (.type "BaseException") == some true) = true := by rw [h1] <;> rfl
  have e2 : ((PySem.W.clsIn K C).isSome && PySem.W.typeIn K (.ref C) == some (.type "type")) = true := by
    have h2' : (PySem.W.clsIn K C).isSome = true := h2
    rw [h2', h3] <;> rfl
  have k : PySem.W.kitCls K t (.ref C) = some b := by
    show (if ((PySem.W.clsIn K C).isSome && PySem.W.typeIn K (.ref C) == some (.type "type")) = true then PySem.W.subIn K t (.ref C) else none) = some b
    rw [if_pos e2]
    exact h4
  refine ⟨?_, ?_⟩
  · show (if (PySem.W.subIn K (.ref C) (.type "BaseException") == some true) = true then (if ((PySem.W.clsIn K C).isSome && PySem.W.typeIn K (.ref C) == some (.type "type")) = true then PySem.W.subIn K t (.ref C) else none) else none) = some b
    rw [if_pos e1, if_pos e2]
    exact h4
  · unfold PySem.W.kitOne
    split
    · rename_i q
      rw [beq_iff_eq] at q
      rw [q, h0] at h4
      exact h4
    · exact k
/-- a class's member -/
def memS (s : Stmt) (j : Nat) : Stmt := match s with
  | .ClassDef _ _ _ body _ _ _ _ _ _ _ => body.getD j (.Pass ⟨0, 0, 0, 0⟩)
  | _ => .Pass ⟨0, 0, 0, 0⟩
theorem walkT {l : PySem.W.OpenLaw} {level : Nat} {q : Program} {loose : List Str} {XP : (Str → Option Value) → Heap → Prop} {YP : World → Heap → Prop} {d : DefRec} {K : Params → PySem.W.Frag} (hn : l.most = some 63) (hdf : d.params.defaults = []) (hr : Room level callerA)
    (hY : ∀ (w : World) (h : Heap), YP w h → (K w.params).In h)
    (F : ∀ (w : World) (mg : Str → Option Value) (fa : Addr) (h : Heap), (K w.params).In h → h.Ns mainGlobals mg → mg d.name = some (.ref fa) →
      ∃ fd : FuncData, (∀ (s : Shared) (u : Value), BindsTo s fd ⟨[u], []⟩ [("script", u)]) ∧ ∀ base : Heap, (K w.params).In base → base.Ns mainGlobals mg → FnOk l.prog w (K w.params) mg base (L2.CX l.prog w) level fa fd ["script"] (spOf (K w.params))) :
    PySem.W.WalkO q loose XP YP l.row.toRowW d [] (fun f vs => PySem.call f vs) :=
  L2.walk_of (n := 63) (k := level) (x := "script") (CX := fun w => L2.CX l.prog w) (sp := fun w => spOf (K w.params)) hn (by decide) hdf hr hY F (fun _ _ a ns hl _ hS => ⟨a, ns, rfl, hS, hl, fun _ => rfl⟩)
    fun w H s e s' z => by
      obtain ⟨_, _, _, _, _, _, _, _, _, _, _, _, z⟩ := z
      exact z
/-- the law's own def -/
theorem law_end {g : Gx} {mg : Str → Option Value} {T : Tab} {fn : Nat → Addr} {fd : Nat → FuncData} {P : Program} {w : World} {d : FD} {fa : Addr} {n k : Nat} (hfa : mg "law" = some (.ref fa)) (A : TabAt g mg T fn fd w) (hk : T.fds[k]? = some d) (hnm : ("law" : Str) ∈ d.gns) (hf : d.fr = false) (hp : d.ps = [("script" : Str)]) (hnp : d.np = 1) (hd : d.dfl = [])
    (hb : ∀ (s : Shared) (u : Value), BindsTo s (fd k) ⟨[u], []⟩ [("script", u)])
    (h : ∀ ns : List Int, ns.length ≤ 63 → ∃ st, T.call n k [.scr (ns.map PV.int)] [] = .ok (.bl true) st) :
    ∃ fd : FuncData, (∀ (s : Shared) (u : Value), BindsTo s fd ⟨[u], []⟩ [("script", u)]) ∧ ∀ base : Heap, g.K.In base → base.Ns mainGlobals mg → FnOk P w g.K mg base (L2.CX P w) (n + 2) fa fd ["script"] (spOf g.K) := by
  have B := A.fds k d hk
  have q := B.mg _ hnm
  have e := Option.some.inj (hfa.symm.trans q)
  cases e
  exact ⟨fd k, hb, fun base _ _ => law_ok A hk hf hp hnp h⟩
end BK

/-! BkV: running the terms by simp -/
namespace BK
open PySem PySem.Spec PyProof.Rows L2 RZ

/-! ### results (what follows stands where simp does not look) -/
class KW (α β : Type) where
  k : α → Sto → Res β
class KS (α : Type) where
  k : α → Sto → SR
class KN where
  k : SM
def Res.bnd {α β : Type} (r : Res α) [w : KW α β] : Res β := r.bind w.k
def SR.ofK {α : Type} (r : Res α) [w : KS α] : SR := SR.of r w.k
def nextS (r : SR) [w : KN] : SR := match r with
  | .nx ρ1 st1 => w.k ρ1 st1
  | r => r
@[simp] theorem Res.bnd_k {α β : Type} (a : α) (st : Sto) (w : KW α β) : @Res.bnd α β (.ok a st) w = w.k a st := (rfl)
@[simp] theorem Res.bnd_x {α β : Type} (c : Nat) (fs : List PV) (st : Sto) (w : KW α β) : @Res.bnd α β (.exn c fs st) w = .exn c fs st := (rfl)
@[simp] theorem Res.opt_s {α : Type} (a : α) (st : Sto) : Res.opt (some a) st = .ok a st := (rfl)
@[simp] theorem SR.ofK_k {α : Type} (a : α) (st : Sto) (w : KS α) : @SR.ofK α (.ok a st) w = w.k a st := (rfl)
@[simp] theorem nextS_nx (ρ : SEnv) (st : Sto) (w : KN) : @nextS (.nx ρ st) w = w.k ρ st := (rfl)
@[simp] theorem nextS_ret (x : PV) (st : Sto) (w : KN) : @nextS (.ret x st) w = .ret x st := (rfl)
@[simp] theorem nextS_brk (ρ : SEnv) (st : Sto) (w : KN) : @nextS (.brk ρ st) w = .brk ρ st := (rfl)
@[simp] theorem nextS_ct (ρ : SEnv) (st : Sto) (w : KN) : @nextS (.ct ρ st) w = .ct ρ st := (rfl)
@[simp] theorem endOf_ret (f : Bool) (x : PV) (st : Sto) : endOf f (.ret x st) = .ok x st := (rfl)
/-! ### environments -/
@[simp] theorem viewH_id (ρ : SEnv) : viewH ρ = ρ := (rfl)
@[simp] theorem viewR_nil : viewR [] = [] := (rfl)
@[simp] theorem viewR_cons (s : Slot) (ρ : SEnv) : viewR (s :: ρ) = s.r :: viewR ρ := (rfl)
@[simp] theorem r_val (x : PV) : (Slot.val x).r = .val x := (rfl)
@[simp] theorem r_no : Slot.no.r = .no := (rfl)
@[simp] theorem r_own (b : Ob) : (Slot.own b).r = .val b.pv := (rfl)
@[simp] theorem pv_lst (xs : List PV) : (Ob.lst xs).pv = .lst xs := (rfl)
@[simp] theorem pv_dct (ks vs : List PV) : (Ob.dct ks vs).pv = .dct ks vs := (rfl)
section
variable {ρ : SEnv} {σ : PEnv} {st : Sto} {i j : Nat} {m ma mb mc : EM} {n : AM} {a b c : BM} {s t : SM} {g : GM} {x y : PV} {f : PV → PV → Option PV} {call : List PV → Sto → Res PV} {dfl : List PV}
/-! ### statements -/
@[simp] theorem x_nil : sNil ρ st = .nx ρ st := (rfl)
@[simp] theorem x_brk : sBrk ρ st = .brk ρ st := (rfl)
@[simp] theorem x_ct : sCt ρ st = .ct ρ st := (rfl)
@[simp ↓] theorem x_seq : sSeq s t ρ st = @nextS (s ρ st) ⟨t⟩ := (rfl)
@[simp ↓] theorem x_if : sIf c s t ρ st = @SR.ofK _ (c (viewH ρ) st) ⟨fun d st1 => if d = true then s ρ st1 else t ρ st1⟩ := (rfl)
@[simp ↓] theorem x_set : sSet i m ρ st = @SR.ofK _ (m (viewH ρ) st) ⟨fun x st1 => .nx (ρ.set i (.val x)) st1⟩ := (rfl)
@[simp ↓] theorem x_own : sOwn i n ρ st = @SR.ofK _ (n (viewH ρ) st) ⟨fun xs st1 => .nx (ρ.set i (.own (.lst xs))) st1⟩ := (rfl)
@[simp ↓] theorem x_asg : sAsg g m ρ st = @SR.ofK _ (m (viewH ρ) st) ⟨fun x st1 => match g x with
  | some as => .nx (setS ρ as) st1
  | none => .bad⟩ := (rfl)
@[simp ↓] theorem x_drop : sDrop m ρ st = @SR.ofK _ (m (viewH ρ) st) ⟨fun _ st1 => .nx ρ st1⟩ := (rfl)
@[simp ↓] theorem x_ret : sRet m ρ st = @SR.ofK _ (m (viewR ρ) st) ⟨fun x st1 => .ret x st1⟩ := (rfl)
@[simp] theorem x_retN : sRetN ρ st = .ret .non st := (rfl)
@[simp ↓] theorem x_retL : sRetL n ρ st = @SR.ofK _ (n (viewR ρ) st) ⟨fun xs st1 => .ret (.lst xs) st1⟩ := (rfl)
@[simp ↓] theorem x_new : sNew i n ρ st = @SR.ofK _ (n (viewH ρ) st) ⟨fun xs st1 => if PV.noRs xs = true then .nx (ρ.set i (.val (.ref st1.length))) (st1 ++ [SO.lst xs]) else .bad⟩ := (rfl)
@[simp ↓] theorem x_for {it : AM} : sFor g it s ρ st = @SR.ofK _ (it (viewH ρ) st) ⟨fun xs st1 => forGo g s xs ρ st1⟩ := (rfl)
@[simp] theorem x_forNil : forGo g s [] ρ st = .nx ρ st := (rfl)
theorem x_frzOwn {b : Ob} (h : ρ[i]? = some (.own b)) : sFrz i ρ st = .nx (ρ.set i (.val b.pv)) st := by unfold sFrz; rw [h]
@[simp ↓] theorem x_frz : sFrz i ρ st = match ρ[i]? with
  | some (.own b) => .nx (ρ.set i (.val b.pv)) st
  | _ => .nx ρ st := (rfl)
@[simp ↓] theorem x_ownD {d : DM} : sOwnD i d ρ st = @SR.ofK _ (d (viewH ρ) st) ⟨fun q st1 => .nx (ρ.set i (.own (.dct q.1 q.2))) st1⟩ := (rfl)
@[simp] theorem x_dNil : dNil σ st = .ok ([], []) st := (rfl)
@[simp ↓] theorem x_dCopy : dCopy n σ st = @Res.bnd _ _ (n σ st) ⟨fun xs st1 => match xs with
  | [.dct ks vs] => .ok (ks, vs) st1
  | _ => .bad⟩ := (rfl)
@[simp ↓] theorem x_app : sApp i m ρ st = match ρ[i]? with
  | some (.own (.lst _)) => @SR.ofK _ (m ρ st) ⟨fun x st1 => match ρ[i]? with
    | some (.own (.lst xs)) => if xs.length < sizeLine then .nx (ρ.set i (.own (.lst (xs ++ [x])))) st1 else .bad
    | _ => .bad⟩
  | _ => .bad := (rfl)
@[simp ↓] theorem x_ext : sExt i m ρ st = match ρ[i]? with
  | some (.own (.lst xs)) => @SR.ofK _ (m ρ st) ⟨fun x st1 => match x with
    | .lst ys => if xs.length + ys.length ≤ sizeLine then .nx (ρ.set i (.own (.lst (xs ++ ys)))) st1 else .bad
    | _ => .bad⟩
  | _ => .bad := (rfl)
@[simp ↓] theorem x_putO : sPutO i ma mb ρ st = match ρ[i]? with
  | some (.own (.dct ks vs)) => @SR.ofK _ (mb ρ st) ⟨fun v st1 => @SR.ofK _ (ma ρ st1) ⟨fun k st2 => if keyOk k = true ∧ ks.length < sizeLine then .nx (ρ.set i (.own (.dct (dPutK k ks) (dPutV k v ks vs)))) st2 else .bad⟩⟩
  | _ => .bad := (rfl)
@[simp ↓] theorem x_pop : sPop i g ρ st = match ρ[i]? with
  | some (.own (.lst xs)) => match xs[xs.length - 1]? with
    | some x => match g x with
      | some as => .nx (setS (ρ.set i (.own (.lst xs.dropLast))) as) st
      | none => .bad
    | none => .bad
  | _ => .bad := (rfl)
@[simp ↓] theorem x_retOwn : sRetOwn i ρ st = match ρ[i]? with
  | some (.own (.lst xs)) => .ret (.lst xs) st
  | _ => .bad := (rfl)
@[simp ↓] theorem x_opL {f : Sto → PV → PV → Option PV} : mOpL f i m σ st = match pvAt σ i with
  | some x => @Res.bnd _ _ (m σ st) ⟨fun y st1 => Res.opt (f st1 x y) st1⟩
  | none => .bad := (rfl)
@[simp ↓] theorem x_opR : mOpR f m i σ st = match pvAt σ i with
  | some y => @Res.bnd _ _ (m σ st) ⟨fun x st1 => Res.opt (f x y) st1⟩
  | none => .bad := (rfl)
@[simp ↓] theorem x_bi1 {f : Sto → List PV → Option PV} : mBi1 f i σ st = match pvAt σ i with
  | some x => Res.opt (f st [x]) st
  | none => .bad := (rfl)
@[simp] theorem x_pvAt : pvAt σ i = match σ[i]? with
  | some (.val x) => some x
  | some (.own b) => some b.pv
  | _ => none := (rfl)
theorem x_appOwn {xs : List PV} (h : ρ[i]? = some (.own (.lst xs))) : sApp i m ρ st = @SR.ofK _ (m (viewH ρ) st) ⟨fun x st1 => if xs.length < sizeLine then .nx (ρ.set i (.own (.lst (xs ++ [x])))) st1 else .bad⟩ := by unfold sApp; rw [h]; rfl
/-! ### expressions -/
@[simp] theorem x_var : mVar i σ st = match σ[i]? with
  | some (.val x) => .ok x st
  | _ => .bad := (rfl)
@[simp] theorem x_c : mC x σ st = .ok x st := (rfl)
@[simp ↓] theorem x_bin : mBin f ma mb σ st = @Res.bnd _ _ (ma σ st) ⟨fun x st1 => @Res.bnd _ _ (mb σ st1) ⟨fun y st2 => Res.opt (f x y) st2⟩⟩ := (rfl)
@[simp ↓] theorem x_binS {f : Sto → PV → PV → Option PV} : mBinS f ma mb σ st = @Res.bnd _ _ (ma σ st) ⟨fun x st1 => @Res.bnd _ _ (mb σ st1) ⟨fun y st2 => Res.opt (f st2 x y) st2⟩⟩ := (rfl)
@[simp ↓] theorem x_tup : mTup n σ st = @Res.bnd _ _ (n σ st) ⟨fun xs st1 => .ok (.tup xs) st1⟩ := (rfl)
@[simp ↓] theorem x_fz : mFz n σ st = @Res.bnd _ _ (n σ st) ⟨fun xs st1 => .ok (.lst xs) st1⟩ := (rfl)
@[simp] theorem x_aNil : aNil σ st = .ok [] st := (rfl)
@[simp ↓] theorem x_aCons : aCons m n σ st = @Res.bnd _ _ (m σ st) ⟨fun x st1 => @Res.bnd _ _ (n σ st1) ⟨fun xs st2 => .ok (x :: xs) st2⟩⟩ := (rfl)
@[simp ↓] theorem x_call : mCall call n dfl σ st = @Res.bnd _ _ (n σ st) ⟨fun xs st1 => call (xs ++ dfl) st1⟩ := (rfl)
@[simp ↓] theorem x_aCall : aCall call n dfl σ st = @Res.bnd _ _ (n σ st) ⟨fun xs st1 => @Res.bnd _ _ (call (xs ++ dfl) st1) ⟨fun x st2 => match x with
  | .lst ys => .ok ys st2
  | _ => .bad⟩⟩ := (rfl)
@[simp ↓] theorem x_bi {f : Sto → List PV → Option PV} : mBi f n σ st = @Res.bnd _ _ (n σ st) ⟨fun xs st1 => Res.opt (f st1 xs) st1⟩ := (rfl)
@[simp ↓] theorem x_un {f : PV → Option PV} : mUn f m σ st = @Res.bnd _ _ (m σ st) ⟨fun x st1 => Res.opt (f x) st1⟩ := (rfl)
@[simp] theorem x_oNo : oNo σ st = .ok none st := (rfl)
@[simp ↓] theorem x_oInt : oInt m σ st = @Res.bnd _ _ (m σ st) ⟨fun x st1 => match x with
  | .int i => .ok (some i) st1
  | _ => .bad⟩ := (rfl)
@[simp ↓] theorem x_sl {l u : OM} : mSl m l u σ st = @Res.bnd _ _ (m σ st) ⟨fun x st1 => @Res.bnd _ _ (l σ st1) ⟨fun lo st2 => @Res.bnd _ _ (u σ st2) ⟨fun hi st3 => Res.opt (opSl x lo hi) st3⟩⟩⟩ := (rfl)
@[simp ↓] theorem x_bVal : bVal m σ st = @Res.bnd _ _ (m σ st) ⟨fun x st1 => match x with
  | .bl b => .ok b st1
  | _ => .bad⟩ := (rfl)
@[simp ↓] theorem x_bAnd : bAnd a b σ st = @Res.bnd _ _ (a σ st) ⟨fun c st1 => if c = true then b σ st1 else .ok false st1⟩ := (rfl)
@[simp ↓] theorem x_bOr : bOr a b σ st = @Res.bnd _ _ (a σ st) ⟨fun c st1 => if c = true then .ok true st1 else b σ st1⟩ := (rfl)
@[simp ↓] theorem x_bNot : bNot a σ st = @Res.bnd _ _ (a σ st) ⟨fun c st1 => .ok (!c) st1⟩ := (rfl)
@[simp ↓] theorem x_andV : mAndV ma mb σ st = @Res.bnd _ _ (ma σ st) ⟨fun x st1 => match x with
  | .bl c => if c = true then mb σ st1 else .ok (.bl false) st1
  | _ => .bad⟩ := (rfl)
@[simp ↓] theorem x_orV : mOrV ma mb σ st = @Res.bnd _ _ (ma σ st) ⟨fun x st1 => match x with
  | .bl c => if c = true then .ok (.bl true) st1 else mb σ st1
  | _ => .bad⟩ := (rfl)
@[simp ↓] theorem x_notV : mNotV m σ st = @Res.bnd _ _ (m σ st) ⟨fun x st1 => match x with
  | .bl c => .ok (.bl (!c)) st1
  | _ => .bad⟩ := (rfl)
@[simp ↓] theorem x_mIf : mIf c ma mb σ st = @Res.bnd _ _ (c σ st) ⟨fun d st1 => if d = true then ma σ st1 else mb σ st1⟩ := (rfl)
@[simp] theorem x_bYes : bYes σ st = .ok true st := (rfl)
@[simp ↓] theorem x_aSeq : aSeq m σ st = @Res.bnd _ _ (m σ st) ⟨fun x st1 => Res.opt (itemsOf x) st1⟩ := (rfl)
@[simp ↓] theorem x_aList : aList n σ st = @Res.bnd _ _ (n σ st) ⟨fun xs st1 => match xs with
  | [x] => Res.opt (itemsOf x) st1
  | _ => .bad⟩ := (rfl)
@[simp ↓] theorem x_aZipM : aZipM n σ st = @Res.bnd _ _ (n σ st) ⟨fun xs st1 => match xs with
  | [x, y] => Res.opt ((itemsOf x).bind fun a => (itemsOf y).map fun b => pairs a b) st1
  | _ => .bad⟩ := (rfl)
@[simp ↓] theorem x_aZip3 : aZip3 n σ st = @Res.bnd _ _ (n σ st) ⟨fun xs st1 => match xs with
  | [x, y, z] => Res.opt ((itemsOf x).bind fun a => (itemsOf y).bind fun b => (itemsOf z).map fun c => trips a b c) st1
  | _ => .bad⟩ := (rfl)
@[simp ↓] theorem x_aEnum : aEnum n σ st = @Res.bnd _ _ (n σ st) ⟨fun xs st1 => match xs with
  | [x] => Res.opt ((itemsOf x).map (enumL 0)) st1
  | _ => .bad⟩ := (rfl)
@[simp ↓] theorem x_rev : mRev m σ st = @Res.bnd _ _ (m σ st) ⟨fun x st1 => match x with
  | .lst xs => .ok xs.reverse st1
  | _ => .bad⟩ := (rfl)
@[simp ↓] theorem x_fzD {d : DM} : mFzD d σ st = @Res.bnd _ _ (d σ st) ⟨fun q st1 => .ok (.dct q.1 q.2) st1⟩ := (rfl)
@[simp ↓] theorem x_disp {ps : List (EM × EM)} : dDisp ps σ st = @Res.bnd _ _ (mPairs ps σ st) ⟨fun d st1 => if d.1.all keyOk = true then .ok (dMergeK [] d.1, dMergeV [] [] d.1 d.2) st1 else .bad⟩ := (rfl)
@[simp] theorem x_pNil : mPairs [] σ st = .ok ([], []) st := (rfl)
@[simp ↓] theorem x_pCons {r : List (EM × EM)} : mPairs ((ma, mb) :: r) σ st = @Res.bnd _ _ (ma σ st) ⟨fun x st1 => @Res.bnd _ _ (mb σ st1) ⟨fun y st2 => @Res.bnd _ _ (mPairs r σ st2) ⟨fun d st3 => .ok (x :: d.1, y :: d.2) st3⟩⟩⟩ := (rfl)
@[simp ↓] theorem x_dm {f : PV → List PV → Option PV} : mDm f m n σ st = @Res.bnd _ _ (m σ st) ⟨fun x st1 => if isDp x = true then @Res.bnd _ _ (n σ st1) ⟨fun xs st2 => Res.opt (f x xs) st2⟩ else .bad⟩ := (rfl)
@[simp ↓] theorem x_aRange1 : aRange1 n σ st = @Res.bnd _ _ (n σ st) ⟨fun xs st1 => match xs with
  | [.int j] => if rOk j = true ∧ j.toNat ≤ sizeLine then .ok (rangeL 0 j.toNat) st1 else .bad
  | _ => .bad⟩ := (rfl)
@[simp ↓] theorem x_aRange2 : aRange2 n σ st = @Res.bnd _ _ (n σ st) ⟨fun xs st1 => match xs with
  | [.int i, .int j] => if rOk i = true ∧ rOk j = true ∧ (j - i).toNat ≤ sizeLine then .ok (rangeL i (j - i).toNat) st1 else .bad
  | _ => .bad⟩ := (rfl)
@[simp ↓] theorem x_aLc {it : AM} {vs : List Nat} : aLc it vs g c m σ st = @Res.bnd _ _ (it σ st) ⟨fun xs st1 => noX (compGo g c m (wipeP σ vs) xs st1)⟩ := (rfl)
@[simp ↓] theorem x_aLcN {it : AM} {vs : List Nat} : aLcN it vs g c n σ st = @Res.bnd _ _ (it σ st) ⟨fun xs st1 => fits (nGo g c n (wipeP σ vs) xs st1)⟩ := (rfl)
@[simp ↓] theorem x_aNest {it : AM} {vs : List Nat} : aNest it vs g c n σ st = @Res.bnd _ _ (it σ st) ⟨fun xs st1 => nGo g c n (wipeP σ vs) xs st1⟩ := (rfl)
@[simp ↓] theorem x_aOne : aOne m σ st = @Res.bnd _ _ (m σ st) ⟨fun y st1 => .ok [y] st1⟩ := (rfl)
@[simp] theorem noX_k {α : Type} (a : α) (st : Sto) : noX (Res.ok a st) = .ok a st := (rfl)
@[simp] theorem x_goNil : compGo g c m σ [] st = .ok [] st := (rfl)
@[simp ↓] theorem x_goCons {xs : List PV} : compGo g c m σ (x :: xs) st = match (g x).map (setP σ) with
    | none => .bad
    | some ρ1 => @Res.bnd _ _ (c ρ1 st) ⟨fun b st1 => if b = true then @Res.bnd _ _ (m ρ1 st1) ⟨fun y st2 => @Res.bnd _ _ (compGo g c m σ xs st2) ⟨fun ys st3 => .ok (y :: ys) st3⟩⟩ else compGo g c m σ xs st1⟩ := (rfl)
@[simp] theorem x_nNil : nGo g c n σ [] st = .ok [] st := (rfl)
@[simp] theorem w_nil : wipeP σ [] = σ := (rfl)
@[simp] theorem w_cons {v : Nat} {vs : List Nat} : wipeP σ (v :: vs) = (wipeP σ vs).set v .no := (rfl)
@[simp] theorem p_nil : setP σ [] = σ := (rfl)
@[simp] theorem p_cons {i : Nat} {r : List (Nat × PV)} : setP σ ((i, x) :: r) = setP (σ.set i (.val x)) r := (rfl)
@[simp] theorem s_nil : setS ρ [] = ρ := (rfl)
@[simp] theorem s_cons {i : Nat} {r : List (Nat × PV)} : setS ρ ((i, x) :: r) = setS (ρ.set i (.val x)) r := (rfl)
@[simp] theorem g_nm : gNm i x = some [(i, x)] := (rfl)
@[simp] theorem g_tp {t : GsM} {xs : List PV} : gTp t (.tup xs) = t xs := (rfl)
@[simp] theorem g_nil : gsNil [] = some [] := (rfl)
end
@[simp] theorem g_cons {t : GM} {ts : GsM} {x : PV} {xs : List PV} : gsCons t ts (x :: xs) = (t x).bind fun a => (ts xs).map fun b => a ++ b := by
  simp [gsCons]
/-! ### operators -/
section
variable {i j : Int} {xs ys : List PV} {x y : PV} {st : Sto}
@[simp] theorem o_add : opAdd (.int i) (.int j) = some (.int (i + j)) := (rfl)
@[simp] theorem o_sub : opSub (.int i) (.int j) = some (.int (i - j)) := (rfl)
@[simp] theorem o_lt : opLt (.int i) (.int j) = some (.bl (decide (i < j))) := (rfl)
@[simp] theorem o_le : opLe (.int i) (.int j) = some (.bl (decide (i ≤ j))) := (rfl)
@[simp] theorem o_gt : opGt (.int i) (.int j) = some (.bl (decide (j < i))) := (rfl)
@[simp] theorem o_ge : opGe (.int i) (.int j) = some (.bl (decide (j ≤ i))) := (rfl)
@[simp] theorem o_eqI : opEq (.int i) (.int j) = some (.bl (i == j)) := by simp [opEq, eqOk, PV.plain, PV.depth, PV.eqv]
@[simp] theorem o_neI : opNe (.int i) (.int j) = some (.bl (!(i == j))) := by simp [opNe, eqOk, PV.plain, PV.depth, PV.eqv]
@[simp] theorem o_eqB {a b : Bool} : opEq (.bl a) (.bl b) = some (.bl (a == b)) := by simp [opEq, eqOk, PV.plain, PV.depth, PV.eqv]
@[simp] theorem o_neB {a b : Bool} : opNe (.bl a) (.bl b) = some (.bl (!(a == b))) := by simp [opNe, eqOk, PV.plain, PV.depth, PV.eqv]
@[simp] theorem o_eqS {a b : Str} : opEq (.str a) (.str b) = some (.bl (a == b)) := by simp [opEq, eqOk, PV.plain, PV.depth, PV.eqv]
@[simp] theorem o_neS {a b : Str} : opNe (.str a) (.str b) = some (.bl (!(a == b))) := by simp [opNe, eqOk, PV.plain, PV.depth, PV.eqv]
@[simp] theorem o_isN : opIs x .non = some (.bl (isN x)) := by cases x <;> rfl
@[simp] theorem o_isNotN : opIsNot x .non = some (.bl (!isN x)) := by cases x <;> rfl
@[simp] theorem o_isB {a b : Bool} : opIs (.bl a) (.bl b) = some (.bl (decide (a = b))) := (rfl)
@[simp] theorem o_isNotB {a b : Bool} : opIsNot (.bl a) (.bl b) = some (.bl (!decide (a = b))) := (rfl)
theorem atI_nat {α : Type} (xs : List α) (k : Nat) : atI xs (k : Int) = xs[k]? := by
  unfold L2.atI ixN
  rw [if_pos (by omega)]
  by_cases h : (k : Int) < (xs.length : Int)
  · rw [if_pos h]; rfl
  · rw [if_neg h, List.getElem?_eq_none (by omega)]; rfl
@[simp] theorem ix0 : opIx st (.tup (x :: xs)) (.int 0) = some x := by show atI _ ((0 : Nat) : Int) = _; rw [atI_nat]; rfl
@[simp] theorem ix1 : opIx st (.tup (x :: y :: xs)) (.int 1) = some y := by show atI _ ((1 : Nat) : Int) = _; rw [atI_nat]; rfl
@[simp] theorem ix2 {z : PV} : opIx st (.tup (x :: y :: z :: xs)) (.int 2) = some z := by show atI _ ((2 : Nat) : Int) = _; rw [atI_nat]; rfl
@[simp] theorem ix3 {z u : PV} : opIx st (.tup (x :: y :: z :: u :: xs)) (.int 3) = some u := by show atI _ ((3 : Nat) : Int) = _; rw [atI_nat]; rfl
@[simp] theorem il0 : opIx st (.lst (x :: xs)) (.int 0) = some x := by show atI _ ((0 : Nat) : Int) = _; rw [atI_nat]; rfl
@[simp] theorem il1 : opIx st (.lst (x :: y :: xs)) (.int 1) = some y := by show atI _ ((1 : Nat) : Int) = _; rw [atI_nat]; rfl
theorem ixT (k : Nat) : opIx st (.tup xs) (.int k) = xs[k]? := atI_nat xs k
theorem ixL (k : Nat) : opIx st (.lst xs) (.int k) = xs[k]? := atI_nat xs k
theorem cut1 {α : Type} (x : α) (xs : List α) : cut (x :: xs) (some 1) none = xs := by
  unfold cut
  have e : HT.sIx (x :: xs).length 0 (some 1) = 1 := by
    have := HT.sIx_nat (x :: xs).length 0 1
    rw [show ((1 : Nat) : Int) = 1 from rfl] at this
    rw [this]
    simp
  rw [e, HT.sIx_none]
  simp
@[simp] theorem sl1 : opSl (.tup (x :: xs)) (some 1) none = some (.tup xs) := by show some (PV.tup (cut _ _ _)) = _; rw [cut1]
@[simp] theorem sl1L : opSl (.lst (x :: xs)) (some 1) none = some (.lst xs) := by show some (PV.lst (cut _ _ _)) = _; rw [cut1]
theorem o_addT (h : xs.length + ys.length ≤ sizeLine) : opAdd (.tup xs) (.tup ys) = some (.tup (xs ++ ys)) := if_pos h
@[simp] theorem f_len : Bf.f .len st [.tup xs] = some (.int xs.length) := (rfl)
@[simp] theorem f_lenL : Bf.f .len st [.lst xs] = some (.int xs.length) := (rfl)
@[simp] theorem fx_lst : fLenX st [.lst xs] = some (.int xs.length) := (rfl)
@[simp] theorem fx_tup : fLenX st [.tup xs] = some (.int xs.length) := (rfl)
@[simp] theorem fx_dct {ks vs : List PV} : fLenX st [.dct ks vs] = some (.int ks.length) := (rfl)
@[simp] theorem ft_lst : fTuple st [.lst xs] = some (.tup xs) := (rfl)
@[simp] theorem ft_tup : fTuple st [.tup xs] = some (.tup xs) := (rfl)
@[simp] theorem f_tup : Bf.f .tup st [.lst xs] = some (.tup xs) := (rfl)
@[simp] theorem f_tupT : Bf.f .tup st [.tup xs] = some (.tup xs) := (rfl)
@[simp] theorem f_int : Bf.f .int st [.int i] = some (.int i) := (rfl)
@[simp] theorem f_all : Bf.f .all st [.lst xs] = (boolsOf xs).map fun bs => .bl (bs.all id) := (rfl)
@[simp] theorem f_any : Bf.f .any st [.lst xs] = (boolsOf xs).map fun bs => .bl (bs.any id) := (rfl)
@[simp] theorem bo_nil : boolsOf [] = some [] := (rfl)
@[simp] theorem bo_cons {b : Bool} : boolsOf (.bl b :: xs) = (boolsOf xs).map (b :: ·) := (rfl)
@[simp] theorem it_t : itemsOf (.tup xs) = some xs := (rfl)
@[simp] theorem it_l : itemsOf (.lst xs) = some xs := (rfl)
@[simp] theorem it_s : itemsOf (.scr xs) = some xs := (rfl)
@[simp] theorem en_cons {i : Nat} : enumL i (x :: xs) = .tup [.int (i : Int), x] :: enumL (i + 1) xs := (rfl)
@[simp] theorem en_nil {i : Nat} : enumL i [] = [] := (rfl)
@[simp] theorem kq_s {a b : Str} : keyEq (.str a) (.str b) = (a == b) := (rfl)
@[simp] theorem kq_i {i j : Int} : keyEq (.int i) (.int j) = (i == j) := (rfl)
@[simp] theorem ko_s {a : Str} : keyOk (.str a) = true := (rfl)
@[simp] theorem ko_i {i : Int} : keyOk (.int i) = true := (rfl)
@[simp] theorem dl_cons {k v : PV} {ks vs : List PV} : dLook k (x :: ks) (v :: vs) = if keyEq x k = true then some v else dLook k ks vs := (rfl)
@[simp] theorem dl_nil {k : PV} {vs : List PV} : dLook k [] vs = none := (rfl)
@[simp] theorem ix_dct {ks vs : List PV} {z : Str} : opIx st (.dct ks vs) (.str z) = dLook (.str z) ks vs := (rfl)
@[simp] theorem ix_kct {ks vs : List PV} {z : Str} : opIx st (.kct ks vs) (.str z) = dLook (.str z) ks vs := (rfl)
@[simp] theorem in_dct {ks vs : List PV} {z : Str} : opIn (.str z) (.dct ks vs) = some (.bl (dLook (.str z) ks vs).isSome) := (rfl)
@[simp] theorem in_kct {ks vs : List PV} {z : Str} : opIn (.str z) (.kct ks vs) = some (.bl (dLook (.str z) ks vs).isSome) := (rfl)
@[simp] theorem ni_dct {ks vs : List PV} {z : Str} : opNotIn (.str z) (.dct ks vs) = some (.bl (!(dLook (.str z) ks vs).isSome)) := (rfl)
@[simp] theorem ni_kct {ks vs : List PV} {z : Str} : opNotIn (.str z) (.kct ks vs) = some (.bl (!(dLook (.str z) ks vs).isSome)) := (rfl)
@[simp] theorem gt_dct {ks vs : List PV} {z : Str} {d : PV} : fGetM (.dct ks vs) [.str z, d] = some ((dLook (.str z) ks vs).getD d) := (rfl)
@[simp] theorem gt_kct {ks vs : List PV} {z : Str} {d : PV} : fGetM (.kct ks vs) [.str z, d] = some ((dLook (.str z) ks vs).getD d) := (rfl)
@[simp] theorem g1_dct {ks vs : List PV} {z : Str} : fGetM (.dct ks vs) [.str z] = some ((dLook (.str z) ks vs).getD .non) := (rfl)
@[simp] theorem g1_kct {ks vs : List PV} {z : Str} : fGetM (.kct ks vs) [.str z] = some ((dLook (.str z) ks vs).getD .non) := (rfl)
@[simp] theorem dp_dct {ks vs : List PV} : isDp (.dct ks vs) = true := (rfl)
@[simp] theorem dp_kct {ks vs : List PV} : isDp (.kct ks vs) = true := (rfl)
@[simp] theorem mk_nil {ks : List PV} : dMergeK ks [] = ks := (rfl)
@[simp] theorem mk_cons {ks r : List PV} {k : PV} : dMergeK ks (k :: r) = dMergeK (dPutK k ks) r := (rfl)
@[simp] theorem mv_nil {ks vs q : List PV} : dMergeV ks vs [] q = vs := by cases q <;> rfl
@[simp] theorem mv_cons {ks vs r q : List PV} {k v : PV} : dMergeV ks vs (k :: r) (v :: q) = dMergeV (dPutK k ks) (dPutV k v ks vs) r q := (rfl)
@[simp] theorem dh_nil {k : PV} : dHas k [] = false := (rfl)
@[simp] theorem dh_cons {k : PV} : dHas k (x :: xs) = (keyEq x k || dHas k xs) := (rfl)
@[simp] theorem pr_cons : pairs (x :: xs) (y :: ys) = .tup [x, y] :: pairs xs ys := (rfl)
@[simp] theorem pr_nil : pairs [] ys = [] := by cases ys <;> rfl
@[simp] theorem pr_nil2 : pairs (x :: xs) [] = [] := (rfl)
end
end BK
namespace BK
open PySem PySem.Spec PyProof.Rows L2 RZ
theorem plain_depth1 {b : Str} : PV.depth (.tup [.str b]) = 1 := (rfl)
theorem eq_hd {a b : Str} {xs : List PV} : opEq (.tup (.str a :: xs)) (.tup [.str b]) = if PV.plains xs = true then some (.bl (a == b && xs.isEmpty)) else none := by
  have e : eqOk (.tup (.str a :: xs)) (.tup [.str b]) = PV.plains xs := by
    unfold eqOk
    rw [plain_depth1]
    simp only [PV.plain, PV.plains, Bool.true_and, Bool.and_true, Bool.and_eq_left_iff_imp, decide_eq_true_eq]
    omega
  unfold opEq
  rw [e]
  cases xs <;> simp [PV.eqv, PV.eqvs]
theorem in_hd {a b c : Str} {xs ys : List PV} : opIn (.tup [.str c]) (.lst [.tup (.str a :: xs), .tup (.str b :: ys)]) = if PV.plains xs = true ∧ PV.plains ys = true then some (.bl ((a == c && xs.isEmpty) || (b == c && ys.isEmpty))) else none := by
  have e : inOk (.tup [.str c]) [.tup (.str a :: xs), .tup (.str b :: ys)] = (PV.plains xs && PV.plains ys) := by
    unfold inOk
    rw [plain_depth1]
    simp only [PV.plain, PV.plains, Bool.true_and, Bool.and_true, Bool.and_eq_left_iff_imp, decide_eq_true_eq]
    omega
  unfold opIn
  simp only
  unfold opIn0
  simp only
  rw [e]
  simp only [Bool.and_eq_true]
  cases xs <;> cases ys <;> simp [PV.eqv, PV.eqvs]
theorem sz_any {α : Type} {n : Nat} {x y : α} (h : n ≤ 1000) : (if n ≤ sizeLine then x else y) = x := if_pos (Nat.le_trans h (by decide))
@[simp] theorem add10 {a : PV} : opAdd (.tup [a]) (.tup []) = some (.tup [a]) := o_addT (by show 1 ≤ sizeLine; decide)
@[simp] theorem add11 {a b : PV} : opAdd (.tup [a]) (.tup [b]) = some (.tup [a, b]) := o_addT (by show 2 ≤ sizeLine; decide)
@[simp] theorem add12 {a b c : PV} : opAdd (.tup [a]) (.tup [b, c]) = some (.tup [a, b, c]) := o_addT (by show 3 ≤ sizeLine; decide)
@[simp] theorem add13 {a b c d : PV} : opAdd (.tup [a]) (.tup [b, c, d]) = some (.tup [a, b, c, d]) := o_addT (by show 4 ≤ sizeLine; decide)
theorem eqv_non {y : PV} (h : y.plain = true) : y.eqv .non = isN y := by cases y <;> first | rfl | (simp [PV.eqv, isN]; done) | (simp [PV.plain] at h)
theorem in_non {xs : List PV} : opIn .non (.lst xs) = if PV.plains xs = true then some (.bl (xs.any isN)) else none := by
  have e : inOk .non xs = PV.plains xs := by
    unfold inOk
    simp only [PV.plain, PV.depth, Bool.true_and, Nat.min_zero, Nat.zero_le, decide_true, Bool.and_true]
  unfold opIn
  simp only
  unfold opIn0
  simp only
  rw [e]
  by_cases h : PV.plains xs = true
  · rw [if_pos h, if_pos h]
    congr 2
    have : ∀ xs : List PV, PV.plains xs = true → (xs.any fun y => y.eqv .non) = xs.any isN := fun xs => by
      induction xs with
      | nil => intro _; rfl
      | cons x xs ih =>
        intro h
        simp only [PV.plains, Bool.and_eq_true] at h
        rw [List.any_cons, List.any_cons, eqv_non h.1, ih h.2]
    exact this xs h
  · rw [if_neg h, if_neg h]
/-! range(..) of small bounds -/
theorem rng1_if {α : Type} {j : Int} {x y : α} (hj : 0 ≤ j) (hj2 : j ≤ 1000) : (if rOk j = true ∧ j.toNat ≤ sizeLine then x else y) = x := by
  refine if_pos ⟨?_, ?_⟩
  · unfold rOk; simp; omega
  · have : 1000000 ≤ sizeLine := by decide
    omega
theorem rng2_if {α : Type} {i j : Int} {x y : α} (hi : 0 ≤ i) (hi2 : i ≤ 1000) (hj : 0 ≤ j) (hj2 : j ≤ 1000) : (if rOk i = true ∧ rOk j = true ∧ (j - i).toNat ≤ sizeLine then x else y) = x := by
  refine if_pos ⟨?_, ?_, ?_⟩
  · unfold rOk; simp; omega
  · unfold rOk; simp; omega
  · have : 1000000 ≤ sizeLine := by decide
    omega
@[simp] theorem rk0 : rOk 0 = true := by decide
@[simp] theorem rk1 : rOk 1 = true := by decide
@[simp] theorem sz1 : (1 ≤ sizeLine) = True := by simp only [eq_iff_iff, iff_true]; decide
@[simp] theorem rk2 : rOk 2 = true := by decide
@[simp] theorem sz2 : (2 ≤ sizeLine) = True := by simp only [eq_iff_iff, iff_true]; decide
@[simp] theorem rk3 : rOk 3 = true := by decide
@[simp] theorem sz3 : (3 ≤ sizeLine) = True := by simp only [eq_iff_iff, iff_true]; decide
@[simp] theorem rk4 : rOk 4 = true := by decide
@[simp] theorem sz4 : (4 ≤ sizeLine) = True := by simp only [eq_iff_iff, iff_true]; decide
@[simp] theorem rk5 : rOk 5 = true := by decide
@[simp] theorem sz5 : (5 ≤ sizeLine) = True := by simp only [eq_iff_iff, iff_true]; decide
@[simp] theorem rk6 : rOk 6 = true := by decide
@[simp] theorem sz6 : (6 ≤ sizeLine) = True := by simp only [eq_iff_iff, iff_true]; decide
@[simp] theorem rk7 : rOk 7 = true := by decide
@[simp] theorem sz7 : (7 ≤ sizeLine) = True := by simp only [eq_iff_iff, iff_true]; decide
@[simp] theorem rk8 : rOk 8 = true := by decide
@[simp] theorem sz8 : (8 ≤ sizeLine) = True := by simp only [eq_iff_iff, iff_true]; decide
@[simp] theorem rk9 : rOk 9 = true := by decide
@[simp] theorem sz9 : (9 ≤ sizeLine) = True := by simp only [eq_iff_iff, iff_true]; decide
@[simp] theorem rk10 : rOk 10 = true := by decide
@[simp] theorem sz10 : (10 ≤ sizeLine) = True := by simp only [eq_iff_iff, iff_true]; decide
@[simp] theorem rk11 : rOk 11 = true := by decide
@[simp] theorem sz11 : (11 ≤ sizeLine) = True := by simp only [eq_iff_iff, iff_true]; decide
@[simp] theorem rk12 : rOk 12 = true := by decide
@[simp] theorem sz12 : (12 ≤ sizeLine) = True := by simp only [eq_iff_iff, iff_true]; decide
@[simp] theorem rk13 : rOk 13 = true := by decide
@[simp] theorem sz13 : (13 ≤ sizeLine) = True := by simp only [eq_iff_iff, iff_true]; decide
@[simp] theorem rk14 : rOk 14 = true := by decide
@[simp] theorem sz14 : (14 ≤ sizeLine) = True := by simp only [eq_iff_iff, iff_true]; decide
@[simp] theorem rk15 : rOk 15 = true := by decide
@[simp] theorem sz15 : (15 ≤ sizeLine) = True := by simp only [eq_iff_iff, iff_true]; decide
@[simp] theorem rk16 : rOk 16 = true := by decide
@[simp] theorem sz16 : (16 ≤ sizeLine) = True := by simp only [eq_iff_iff, iff_true]; decide
@[simp] theorem rk17 : rOk 17 = true := by decide
@[simp] theorem sz17 : (17 ≤ sizeLine) = True := by simp only [eq_iff_iff, iff_true]; decide
@[simp] theorem rk18 : rOk 18 = true := by decide
@[simp] theorem sz18 : (18 ≤ sizeLine) = True := by simp only [eq_iff_iff, iff_true]; decide
@[simp] theorem rk19 : rOk 19 = true := by decide
@[simp] theorem sz19 : (19 ≤ sizeLine) = True := by simp only [eq_iff_iff, iff_true]; decide
@[simp] theorem rk20 : rOk 20 = true := by decide
@[simp] theorem sz20 : (20 ≤ sizeLine) = True := by simp only [eq_iff_iff, iff_true]; decide
@[simp] theorem rk21 : rOk 21 = true := by decide
@[simp] theorem sz21 : (21 ≤ sizeLine) = True := by simp only [eq_iff_iff, iff_true]; decide
@[simp] theorem rk22 : rOk 22 = true := by decide
@[simp] theorem sz22 : (22 ≤ sizeLine) = True := by simp only [eq_iff_iff, iff_true]; decide
@[simp] theorem rk23 : rOk 23 = true := by decide
@[simp] theorem sz23 : (23 ≤ sizeLine) = True := by simp only [eq_iff_iff, iff_true]; decide
@[simp] theorem rk24 : rOk 24 = true := by decide
@[simp] theorem sz24 : (24 ≤ sizeLine) = True := by simp only [eq_iff_iff, iff_true]; decide
@[simp] theorem rk25 : rOk 25 = true := by decide
@[simp] theorem sz25 : (25 ≤ sizeLine) = True := by simp only [eq_iff_iff, iff_true]; decide
@[simp] theorem rk26 : rOk 26 = true := by decide
@[simp] theorem sz26 : (26 ≤ sizeLine) = True := by simp only [eq_iff_iff, iff_true]; decide
@[simp] theorem rk27 : rOk 27 = true := by decide
@[simp] theorem sz27 : (27 ≤ sizeLine) = True := by simp only [eq_iff_iff, iff_true]; decide
@[simp] theorem rk28 : rOk 28 = true := by decide
@[simp] theorem sz28 : (28 ≤ sizeLine) = True := by simp only [eq_iff_iff, iff_true]; decide
@[simp] theorem rk29 : rOk 29 = true := by decide
@[simp] theorem sz29 : (29 ≤ sizeLine) = True := by simp only [eq_iff_iff, iff_true]; decide
@[simp] theorem rk30 : rOk 30 = true := by decide
@[simp] theorem sz30 : (30 ≤ sizeLine) = True := by simp only [eq_iff_iff, iff_true]; decide
@[simp] theorem rk31 : rOk 31 = true := by decide
@[simp] theorem sz31 : (31 ≤ sizeLine) = True := by simp only [eq_iff_iff, iff_true]; decide
@[simp] theorem rk32 : rOk 32 = true := by decide
@[simp] theorem sz32 : (32 ≤ sizeLine) = True := by simp only [eq_iff_iff, iff_true]; decide
@[simp] theorem rk33 : rOk 33 = true := by decide
@[simp] theorem sz33 : (33 ≤ sizeLine) = True := by simp only [eq_iff_iff, iff_true]; decide
@[simp] theorem rk34 : rOk 34 = true := by decide
@[simp] theorem sz34 : (34 ≤ sizeLine) = True := by simp only [eq_iff_iff, iff_true]; decide
@[simp] theorem rk35 : rOk 35 = true := by decide
@[simp] theorem sz35 : (35 ≤ sizeLine) = True := by simp only [eq_iff_iff, iff_true]; decide
@[simp] theorem rk36 : rOk 36 = true := by decide
@[simp] theorem sz36 : (36 ≤ sizeLine) = True := by simp only [eq_iff_iff, iff_true]; decide
@[simp] theorem rk37 : rOk 37 = true := by decide
@[simp] theorem sz37 : (37 ≤ sizeLine) = True := by simp only [eq_iff_iff, iff_true]; decide
@[simp] theorem rk38 : rOk 38 = true := by decide
@[simp] theorem sz38 : (38 ≤ sizeLine) = True := by simp only [eq_iff_iff, iff_true]; decide
@[simp] theorem rk39 : rOk 39 = true := by decide
@[simp] theorem sz39 : (39 ≤ sizeLine) = True := by simp only [eq_iff_iff, iff_true]; decide
@[simp] theorem rk40 : rOk 40 = true := by decide
@[simp] theorem sz40 : (40 ≤ sizeLine) = True := by simp only [eq_iff_iff, iff_true]; decide
@[simp] theorem isN_non : isN .non = true := (rfl)
@[simp] theorem isN_tup {xs : List PV} : isN (.tup xs) = false := (rfl)
/-! calls of defs as values, raise, try, lists in the store -/
@[simp] theorem SR.ofK_x {α : Type} (c : Nat) (fs : List PV) (st : Sto) (w : KS α) : @SR.ofK α (.exn c fs st) w = .exn c fs st := (rfl)
@[simp] theorem nextS_exn (c : Nat) (fs : List PV) (st : Sto) (w : KN) : @nextS (.exn c fs st) w = .exn c fs st := (rfl)
@[simp] theorem endOf_exn (f : Bool) (c : Nat) (fs : List PV) (st : Sto) : endOf f (.exn c fs st) = .exn c fs st := (rfl)
def tryEnd (sub : Nat → Option Bool) (su : SuM) : SR → SR
  | .exn c fs st1 => match sub c with
    | some true => match su c fs with
      | some v => .ret v st1
      | none => .bad
    | some false => .exn c fs st1
    | none => .bad
  | r => r
section
variable {ρ : SEnv} {σ : PEnv} {st : Sto} {m mo : EM} {n : AM} {b : SM} {sub : Nat → Option Bool} {su : SuM} {x : PV} {c k : Nat} {fs : List PV}
@[simp ↓] theorem x_try : sTry b sub su ρ st = tryEnd sub su (b ρ st) := by
  unfold sTry tryEnd
  cases b ρ st <;> rfl
@[simp] theorem te_nx {ρ1 : SEnv} : tryEnd sub su (.nx ρ1 st) = .nx ρ1 st := (rfl)
@[simp] theorem te_ret : tryEnd sub su (.ret x st) = .ret x st := (rfl)
@[simp] theorem te_exn : tryEnd sub su (.exn c fs st) = match sub c with
    | some true => match su c fs with
      | some v => .ret v st
      | none => .bad
    | some false => .exn c fs st
    | none => .bad := (rfl)
@[simp ↓] theorem x_raise : sRaise c k n ρ st = @SR.ofK _ (n (viewH ρ) st) ⟨fun xs st1 => if xs.length = k ∧ k ≤ 1000 then .exn c xs st1 else .bad⟩ := (rfl)
@[simp ↓] theorem x_raise0 : sRaise0 c n ρ st = @SR.ofK _ (n (viewH ρ) st) ⟨fun xs st1 => if xs.length ≤ 1000 then .exn c [] st1 else .bad⟩ := (rfl)
@[simp ↓] theorem x_callV {call : Nat → List PV → Sto → Res PV} : mCallV m n call σ st = @Res.bnd _ _ (m σ st) ⟨fun x st1 => match x with
  | .fn k => @Res.bnd _ _ (n σ st1) ⟨fun xs st2 => call k xs st2⟩
  | _ => .bad⟩ := (rfl)
@[simp ↓] theorem x_appR : sAppR mo m ρ st = @SR.ofK _ (mo ρ st) ⟨fun a st1 => match a with
  | .ref n => match st1[n]? with
    | some (.lst _) => @SR.ofK _ (m ρ st1) ⟨fun x st2 => match st2[n]? with
      | some (.lst xs) => if xs.length < sizeLine then .nx ρ (st2.set n (.lst (xs ++ [x]))) else .bad
      | _ => .bad⟩
    | _ => .bad
  | _ => .bad⟩ := (rfl)
end
@[simp] theorem gsub33 : gsub 3 3 = some true := (rfl)
@[simp] theorem gsub30 : gsub 3 0 = some true := (rfl)
/-! written texts -/
theorem map_inj_c : ∀ {a b : List Char}, a.map Char.toNat = b.map Char.toNat → a = b
  | [], [], _ => rfl
  | [], _ :: _, h => by simp at h
  | _ :: _, [], h => by simp at h
  | c :: a, d :: b, h => by
    simp only [List.map_cons, List.cons.injEq] at h
    have e : c = d := Char.ext (UInt32.toNat_inj.mp h.1)
    rw [e, map_inj_c h.2]
theorem ofString_inj {a b : String} (h : Str.ofString a = Str.ofString b) : a = b := by
  rw [Str.ofString_eq_toList, Str.ofString_eq_toList] at h
  injection h with h
  have h2 := congrArg Array.toList h
  simp at h2
  exact String.toList_inj.mp (map_inj_c h2)
@[simp] theorem ofString_beq (a b : String) : (Str.ofString a == Str.ofString b) = (a == b) := by
  by_cases h : a = b
  · subst h; simp
  · have : Str.ofString a ≠ Str.ofString b := fun z => h (ofString_inj z)
    rw [beq_eq_false_iff_ne.mpr this, beq_eq_false_iff_ne.mpr h]
@[simp] theorem ofString_eq (a b : String) : (Str.ofString a = Str.ofString b) = (a = b) := propext ⟨ofString_inj, fun h => by rw [h]⟩
/-! loops over few items, turn by turn -/
class KF where
  k : SEnv → Sto → SR
def nextF (r : SR) [w : KF] : SR := match r with
  | .nx ρ1 st1 => w.k ρ1 st1
  | .ct ρ1 st1 => w.k ρ1 st1
  | .brk ρ1 st1 => .nx ρ1 st1
  | r => r
@[simp] theorem nextF_nx (ρ : SEnv) (st : Sto) (w : KF) : @nextF (.nx ρ st) w = w.k ρ st := (rfl)
@[simp] theorem nextF_ct (ρ : SEnv) (st : Sto) (w : KF) : @nextF (.ct ρ st) w = w.k ρ st := (rfl)
@[simp] theorem nextF_brk (ρ : SEnv) (st : Sto) (w : KF) : @nextF (.brk ρ st) w = .nx ρ st := (rfl)
@[simp] theorem nextF_ret (x : PV) (st : Sto) (w : KF) : @nextF (.ret x st) w = .ret x st := (rfl)
@[simp] theorem nextF_exn (c : Nat) (fs : List PV) (st : Sto) (w : KF) : @nextF (.exn c fs st) w = .exn c fs st := (rfl)
theorem x_forC {i : Nat} {b : SM} {x : PV} {xs : List PV} {ρ : SEnv} {st : Sto} : forGo (gNm i) b (x :: xs) ρ st = @nextF (b (ρ.set i (.val x)) st) ⟨fun ρ1 st1 => forGo (gNm i) b xs ρ1 st1⟩ := (rfl)
theorem rng_0 (i : Int) : rangeL i 0 = [] := (rfl)
theorem rng_s (i : Int) (n : Nat) : rangeL i (n + 1) = .int i :: rangeL (i + 1) n := (rfl)
@[simp] theorem rng1 : rangeL 0 1 = [.int 0] := (rfl)
@[simp] theorem rng2 : rangeL 0 2 = [.int 0, .int 1] := (rfl)
@[simp] theorem rng3 : rangeL 0 3 = [.int 0, .int 1, .int 2] := (rfl)
@[simp] theorem rng4 : rangeL 0 4 = [.int 0, .int 1, .int 2, .int 3] := (rfl)
@[simp] theorem rng5 : rangeL 0 5 = [.int 0, .int 1, .int 2, .int 3, .int 4] := (rfl)
@[simp] theorem zl0 : (0 < sizeLine) = True := eq_true (by decide)
@[simp] theorem zl1 : (1 < sizeLine) = True := eq_true (by decide)
@[simp] theorem zl2 : (2 < sizeLine) = True := eq_true (by decide)
@[simp] theorem zl3 : (3 < sizeLine) = True := eq_true (by decide)
@[simp] theorem zl4 : (4 < sizeLine) = True := eq_true (by decide)
@[simp] theorem zl5 : (5 < sizeLine) = True := eq_true (by decide)
@[simp] theorem zl6 : (6 < sizeLine) = True := eq_true (by decide)
@[simp] theorem zl7 : (7 < sizeLine) = True := eq_true (by decide)
@[simp] theorem zl8 : (8 < sizeLine) = True := eq_true (by decide)
@[simp] theorem zl9 : (9 < sizeLine) = True := eq_true (by decide)
@[simp] theorem zl10 : (10 < sizeLine) = True := eq_true (by decide)
@[simp] theorem zl11 : (11 < sizeLine) = True := eq_true (by decide)
@[simp] theorem zl12 : (12 < sizeLine) = True := eq_true (by decide)
@[simp] theorem zl13 : (13 < sizeLine) = True := eq_true (by decide)
@[simp] theorem zl14 : (14 < sizeLine) = True := eq_true (by decide)
@[simp] theorem zl15 : (15 < sizeLine) = True := eq_true (by decide)
@[simp] theorem zl16 : (16 < sizeLine) = True := eq_true (by decide)
@[simp] theorem zl17 : (17 < sizeLine) = True := eq_true (by decide)
@[simp] theorem zl18 : (18 < sizeLine) = True := eq_true (by decide)
@[simp] theorem zl19 : (19 < sizeLine) = True := eq_true (by decide)
@[simp] theorem zl20 : (20 < sizeLine) = True := eq_true (by decide)
@[simp] theorem zl21 : (21 < sizeLine) = True := eq_true (by decide)
@[simp] theorem zl22 : (22 < sizeLine) = True := eq_true (by decide)
@[simp] theorem zl23 : (23 < sizeLine) = True := eq_true (by decide)
@[simp] theorem zl24 : (24 < sizeLine) = True := eq_true (by decide)
@[simp] theorem zl25 : (25 < sizeLine) = True := eq_true (by decide)
@[simp] theorem zl26 : (26 < sizeLine) = True := eq_true (by decide)
@[simp] theorem zl27 : (27 < sizeLine) = True := eq_true (by decide)
@[simp] theorem zl28 : (28 < sizeLine) = True := eq_true (by decide)
@[simp] theorem zl29 : (29 < sizeLine) = True := eq_true (by decide)
theorem x_forG {t : GM} {b : SM} {x : PV} {xs : List PV} {ρ : SEnv} {st : Sto} : forGo t b (x :: xs) ρ st = (match t x with
  | none => .bad
  | some as => @nextF (b (setS ρ as) st) ⟨fun ρ1 st1 => forGo t b xs ρ1 st1⟩) := (rfl)
end BK

/-! BkW: what all laws share: draws, sameness -/
namespace BK
open PySem PySem.Spec PyProof.Rows L2 RZ

@[simp ↓] theorem x_put {o i v : EM} {ρ : SEnv} {st : Sto} : sPut o i v ρ st = @SR.ofK _ (v (viewH ρ) st) ⟨fun x st1 => @SR.ofK _ (o (viewH ρ) st1) ⟨fun a st2 => @SR.ofK _ (i (viewH ρ) st2) ⟨fun k st3 => match a, k with
  | .ref n, .int j => match st3[n]? with
    | some (.lst xs) => match ixN xs.length j with
      | some m => if x.noR = true then .nx ρ (st3.set n (.lst (xs.set m x))) else .bad
      | none => .bad
    | _ => .bad
  | _, _ => .bad⟩⟩⟩ := (rfl)
@[simp] theorem ix_ref {st : Sto} {n : Nat} {i : Int} : opIx st (.ref n) (.int i) = match st[n]? with
    | some (.lst xs) => atI xs i
    | _ => none := (rfl)
@[simp] theorem ix_lst {st : Sto} {xs : List PV} {i : Int} : opIx st (.lst xs) (.int i) = atI xs i := (rfl)
@[simp] theorem at40 {α : Type} {a b c d : α} : atI [a, b, c, d] 0 = some a := (rfl)
@[simp] theorem at41 {α : Type} {a b c d : α} : atI [a, b, c, d] 1 = some b := (rfl)
@[simp] theorem at42 {α : Type} {a b c d : α} : atI [a, b, c, d] 2 = some c := (rfl)
@[simp] theorem at43 {α : Type} {a b c d : α} : atI [a, b, c, d] 3 = some d := (rfl)
@[simp] theorem n40 : ixN 4 0 = some 0 := (rfl)
@[simp] theorem n41 : ixN 4 1 = some 1 := (rfl)
@[simp] theorem n42 : ixN 4 2 = some 2 := (rfl)
@[simp] theorem n43 : ixN 4 3 = some 3 := (rfl)
theorem o_mod {i j : Int} : opMod (.int i) (.int j) = if 0 < j then some (.int (i % j)) else none := (rfl)
theorem o_div {i j : Int} : opDiv (.int i) (.int j) = if 0 < j ∧ j < 1073741824 then some (.int (i / j)) else none := (rfl)
theorem o_mulR {i j : Int} (h : -(2 ^ 64) < j ∧ j < 2 ^ 64) : opMul (.int i) (.int j) = some (.int (i * j)) := by
  show (if mulOk i j = true then _ else none) = _
  rw [if_pos]
  unfold mulOk
  rw [decide_eq_true h, Bool.or_true]
@[simp] theorem o_mul1 {i : Int} : opMul (.int i) (.int 48271) = some (.int (i * 48271)) := o_mulR (by decide)
@[simp] theorem o_mul2 {i : Int} : opMul (.int i) (.int 69621) = some (.int (i * 69621)) := o_mulR (by decide)
@[simp] theorem o_pow18 : opPow (.int 10) (.int 18) = some (.int 1000000000000000000) := by
  have e : ((10 : Int) ^ (18 : Int).toNat) = 1000000000000000000 := by decide +kernel
  simp only [opPow]
  rw [e]
  exact if_pos (by decide)
/-- the draws at the n-th store object -/
def Dr (st : Sto) (n : Nat) : Prop := ∃ (cs : List Int) (i j k : Int), st[n]? = some (SO.lst [.lst (cs.map PV.int), .int i, .int j, .int k]) ∧ 0 ≤ i ∧ 0 ≤ j
def mDraw : SM := (sSeq (sIf (bAnd (bVal (mBin opEq (mBinS opIx (mVar 0) (mC (.int 2))) (mC (.int 0)))) (bVal (mBin opLt (mBinS opIx (mVar 0) (mC (.int 1))) (mBi (Bf.f .len) (aCons (mBinS opIx (mVar 0) (mC (.int 0))) aNil))))) (sSeq (sSet 2 (mBinS opIx (mBinS opIx (mVar 0) (mC (.int 0))) (mBinS opIx (mVar 0) (mC (.int 1))))) (sSeq (sPut (mVar 0) (mC (.int 1)) (mBin opAdd (mBinS opIx (mVar 0) (mC (.int 1))) (mC (.int 1)))) (sSeq (sIf (bVal (mBin opGe (mVar 2) (mBin opPow (mC (.int 10)) (mC (.int 18))))) (sSeq (sPut (mVar 0) (mC (.int 2)) (mVar 2)) sNil) sNil) (sSeq (sPut (mVar 0) (mC (.int 3)) (mBin opMod (mBi (Bf.f .int) (aCons (mBin opAdd (mBin opAdd (mBin opMul (mBinS opIx (mVar 0) (mC (.int 3))) (mC (.int 48271))) (mVar 2)) (mC (.int 13))) aNil)) (mC (.int 2147483647)))) sNil)))) sNil) (sSeq (sIf (bVal (mBin opGt (mBinS opIx (mVar 0) (mC (.int 2))) (mC (.int 0)))) (sSeq (sSet 3 (mBin opMod (mBi (Bf.f .int) (aCons (mBinS opIx (mVar 0) (mC (.int 2))) aNil)) (mVar 1))) (sSeq (sPut (mVar 0) (mC (.int 2)) (mBin opDiv (mBinS opIx (mVar 0) (mC (.int 2))) (mVar 1))) (sSeq (sRet (mVar 3)) sNil))) sNil) (sSeq (sPut (mVar 0) (mC (.int 3)) (mBin opMod (mBi (Bf.f .int) (aCons (mBin opAdd (mBin opMul (mBinS opIx (mVar 0) (mC (.int 3))) (mC (.int 69621))) (mC (.int 7))) aNil)) (mC (.int 2147483629)))) (sSeq (sRet (mBin opMod (mBi (Bf.f .int) (aCons (mBin opDiv (mBinS opIx (mVar 0) (mC (.int 3))) (mC (.int 11))) aNil)) (mVar 1))) sNil))))
/-- its second half -/
def drTail : SM := (sSeq (sIf (bVal (mBin opGt (mBinS opIx (mVar 0) (mC (.int 2))) (mC (.int 0)))) (sSeq (sSet 3 (mBin opMod (mBi (Bf.f .int) (aCons (mBinS opIx (mVar 0) (mC (.int 2))) aNil)) (mVar 1))) (sSeq (sPut (mVar 0) (mC (.int 2)) (mBin opDiv (mBinS opIx (mVar 0) (mC (.int 2))) (mVar 1))) (sSeq (sRet (mVar 3)) sNil))) sNil) (sSeq (sPut (mVar 0) (mC (.int 3)) (mBin opMod (mBi (Bf.f .int) (aCons (mBin opAdd (mBin opMul (mBinS opIx (mVar 0) (mC (.int 3))) (mC (.int 69621))) (mC (.int 7))) aNil)) (mC (.int 2147483629)))) (sSeq (sRet (mBin opMod (mBi (Bf.f .int) (aCons (mBin opDiv (mBinS opIx (mVar 0) (mC (.int 3))) (mC (.int 11))) aNil)) (mVar 1))) sNil)))
def Off1 (n : Nat) (st st' : Sto) : Prop := st'.length = st.length ∧ ∀ k, k ≠ n → st'[k]? = st[k]?
theorem Off1.refl (n : Nat) (st : Sto) : Off1 n st st := ⟨rfl, fun _ _ => rfl⟩
theorem Off1.trans {n : Nat} {a b c : Sto} (h : Off1 n a b) (k : Off1 n b c) : Off1 n a c := ⟨k.1.trans h.1, fun j z => (k.2 j z).trans (h.2 j z)⟩
theorem Off1.set {n : Nat} {st : Sto} {o : SO} : Off1 n st (st.set n o) := ⟨by simp, fun k h => by rw [List.getElem?_set_ne (Ne.symm h)]⟩
theorem lt_of_get {α : Type} {l : List α} {n : Nat} {x : α} (h : l[n]? = some x) : n < l.length := (List.getElem?_eq_some_iff.mp h).1
theorem tail_ok {st : Sto} {n : Nat} {lim : Int} {x : Slot} {cs : List PV} {i j k : Int} (h : st[n]? = some (SO.lst [.lst cs, .int i, .int j, .int k])) (hl : 0 < lim) (hl2 : lim < 1073741824) (hj : 0 ≤ j) :
    ∃ v j' k', 0 ≤ v ∧ v < lim ∧ 0 ≤ j' ∧ endOf false (drTail [.val (.ref n), .val (.int lim), x, .no] st) = .ok (.int v) (st.set n (SO.lst [.lst cs, .int i, .int j', .int k'])) := by
  have hs : ∀ o : SO, (st.set n o)[n]? = some o := fun o => List.getElem?_set_self (lt_of_get h)
  unfold drTail
  by_cases hp : 0 < j
  · refine ⟨j % lim, j / lim, k, Int.emod_nonneg _ (by omega), Int.emod_lt_of_pos _ hl, Int.ediv_nonneg hj (by omega), ?_⟩
    cases x <;> simp [h, hp, o_mod, o_div, hl, hl2, hs, PV.noR]
  · refine ⟨(k * 69621 + 7) % 2147483629 / 11 % lim, j, (k * 69621 + 7) % 2147483629, Int.emod_nonneg _ (by omega), Int.emod_lt_of_pos _ hl, hj, ?_⟩
    cases x <;> simp [h, hp, o_mod, o_div, hl, hl2, hs, PV.noR]
def drHead : SM := (sIf (bAnd (bVal (mBin opEq (mBinS opIx (mVar 0) (mC (.int 2))) (mC (.int 0)))) (bVal (mBin opLt (mBinS opIx (mVar 0) (mC (.int 1))) (mBi (Bf.f .len) (aCons (mBinS opIx (mVar 0) (mC (.int 0))) aNil))))) (sSeq (sSet 2 (mBinS opIx (mBinS opIx (mVar 0) (mC (.int 0))) (mBinS opIx (mVar 0) (mC (.int 1))))) (sSeq (sPut (mVar 0) (mC (.int 1)) (mBin opAdd (mBinS opIx (mVar 0) (mC (.int 1))) (mC (.int 1)))) (sSeq (sIf (bVal (mBin opGe (mVar 2) (mBin opPow (mC (.int 10)) (mC (.int 18))))) (sSeq (sPut (mVar 0) (mC (.int 2)) (mVar 2)) sNil) sNil) (sSeq (sPut (mVar 0) (mC (.int 3)) (mBin opMod (mBi (Bf.f .int) (aCons (mBin opAdd (mBin opAdd (mBin opMul (mBinS opIx (mVar 0) (mC (.int 3))) (mC (.int 48271))) (mVar 2)) (mC (.int 13))) aNil)) (mC (.int 2147483647)))) sNil)))) sNil)
theorem mDraw_eq : mDraw = sSeq drHead drTail := (rfl)
theorem cell_at {cs : List Int} {i : Int} (h0 : 0 ≤ i) (h : i < (cs.length : Int)) : ∃ c, atI (cs.map PV.int) i = some (.int c) := by
  obtain ⟨k, rfl⟩ : ∃ k : Nat, i = (k : Int) := ⟨i.toNat, by omega⟩
  have hk : k < cs.length := by omega
  exact ⟨cs[k], by rw [atI_nat, List.getElem?_map, List.getElem?_eq_getElem hk]; rfl⟩
theorem head_ok {st : Sto} {n : Nat} {lim : Int} {cs : List Int} {i j k : Int} (h : st[n]? = some (SO.lst [.lst (cs.map PV.int), .int i, .int j, .int k])) (hi : 0 ≤ i) (hj : 0 ≤ j) :
    ∃ x i' j' k', 0 ≤ i' ∧ 0 ≤ j' ∧ drHead [.val (.ref n), .val (.int lim), .no, .no] st = .nx [.val (.ref n), .val (.int lim), x, .no] (st.set n (SO.lst [.lst (cs.map PV.int), .int i', .int j', .int k'])) := by
  have hs : ∀ o : SO, (st.set n o)[n]? = some o := fun o => List.getElem?_set_self (lt_of_get h)
  have hsame : st.set n (SO.lst [.lst (cs.map PV.int), .int i, .int j, .int k]) = st := by
    obtain ⟨h1, h2⟩ := List.getElem?_eq_some_iff.mp h
    rw [← h2]
    exact List.set_getElem_self h1
  unfold drHead
  by_cases hz : j = 0
  · by_cases hc : i < (cs.length : Int)
    · obtain ⟨c, hcell⟩ := cell_at hi hc
      subst hz
      by_cases hb : 1000000000000000000 ≤ c
      · exact ⟨.val (.int c), i + 1, c, (k * 48271 + c + 13) % 2147483647, by omega, by omega, by simp [h, hc, hcell, hb, o_mod, hs, PV.noR]⟩
      · exact ⟨.val (.int c), i + 1, 0, (k * 48271 + c + 13) % 2147483647, by omega, by omega, by simp [h, hc, hcell, hb, o_mod, hs, PV.noR]⟩
    · subst hz
      refine ⟨.no, i, 0, k, hi, by omega, ?_⟩
      rw [hsame]
      simp [h, hc]
  · refine ⟨.no, i, j, k, hi, hj, ?_⟩
    rw [hsame]
    simp [h, hz]
theorem draw_ok {st : Sto} {n : Nat} {lim : Int} (h : Dr st n) (hl : 0 < lim) (hl2 : lim < 1073741824) :
    ∃ v st', 0 ≤ v ∧ v < lim ∧ Dr st' n ∧ Off1 n st st' ∧ endOf false (mDraw [.val (.ref n), .val (.int lim), .no, .no] st) = .ok (.int v) st' := by
  obtain ⟨cs, i, j, k, h1, h2, h3⟩ := h
  obtain ⟨x, i', j', k', g1, g2, g3⟩ := head_ok (lim := lim) h1 h2 h3
  have hs : ∀ o : SO, (st.set n o)[n]? = some o := fun o => List.getElem?_set_self (lt_of_get h1)
  obtain ⟨v, j2, k2, t1, t2, t3, t4⟩ := tail_ok (x := x) (lim := lim) (hs (SO.lst [.lst (cs.map PV.int), .int i', .int j', .int k'])) hl hl2 g2
  rw [List.set_set] at t4
  refine ⟨v, _, t1, t2, ⟨cs, i', j2, k2, hs _, g1, t3⟩, Off1.set, ?_⟩
  rw [mDraw_eq, x_seq, g3]
  exact t4
def mDraws : SM := (sSeq (sRetL (aCons (mFz (aList (aCons (mVar 0) aNil))) (aCons (mC (.int 0)) (aCons (mC (.int 0)) (aCons (mC (.int 1)) aNil))))) sNil)
theorem draws_ok (ns : List Int) (st : Sto) : endOf true (mDraws [.val (.scr (ns.map PV.int))] st) = .ok (.lst [.lst (ns.map PV.int), .int 0, .int 0, .int 1]) st := by
  unfold mDraws
  simp
theorem noRs_ints : ∀ ns : List Int, PV.noRs (ns.map PV.int) = true
  | [] => rfl
  | n :: ns => by simp [PV.noRs, PV.noR, noRs_ints ns]
@[simp] theorem isi_non_tuple {st : Sto} : Bf.f .isi st [.non, .ty "tuple"] = some (.bl false) := by kernel_rfl
@[simp] theorem isi_non_list {st : Sto} : Bf.f .isi st [.non, .ty "list"] = some (.bl false) := by kernel_rfl
@[simp] theorem isi_non_str {st : Sto} : Bf.f .isi st [.non, .ty "str"] = some (.bl false) := by kernel_rfl
@[simp] theorem isi_non_int {st : Sto} : Bf.f .isi st [.non, .ty "int"] = some (.bl false) := by kernel_rfl
@[simp] theorem isi_non_bool {st : Sto} : Bf.f .isi st [.non, .ty "bool"] = some (.bl false) := by kernel_rfl
@[simp] theorem isi_bl_tuple {b : Bool} {st : Sto} : Bf.f .isi st [(.bl b), .ty "tuple"] = some (.bl false) := by kernel_rfl
@[simp] theorem isi_bl_list {b : Bool} {st : Sto} : Bf.f .isi st [(.bl b), .ty "list"] = some (.bl false) := by kernel_rfl
@[simp] theorem isi_bl_str {b : Bool} {st : Sto} : Bf.f .isi st [(.bl b), .ty "str"] = some (.bl false) := by kernel_rfl
@[simp] theorem isi_bl_int {b : Bool} {st : Sto} : Bf.f .isi st [(.bl b), .ty "int"] = some (.bl true) := by kernel_rfl
@[simp] theorem isi_bl_bool {b : Bool} {st : Sto} : Bf.f .isi st [(.bl b), .ty "bool"] = some (.bl true) := by kernel_rfl
@[simp] theorem isi_int_tuple {i : Int} {st : Sto} : Bf.f .isi st [(.int i), .ty "tuple"] = some (.bl false) := by kernel_rfl
@[simp] theorem isi_int_list {i : Int} {st : Sto} : Bf.f .isi st [(.int i), .ty "list"] = some (.bl false) := by kernel_rfl
@[simp] theorem isi_int_str {i : Int} {st : Sto} : Bf.f .isi st [(.int i), .ty "str"] = some (.bl false) := by kernel_rfl
@[simp] theorem isi_int_int {i : Int} {st : Sto} : Bf.f .isi st [(.int i), .ty "int"] = some (.bl true) := by kernel_rfl
@[simp] theorem isi_int_bool {i : Int} {st : Sto} : Bf.f .isi st [(.int i), .ty "bool"] = some (.bl false) := by kernel_rfl
@[simp] theorem isi_str_tuple {x : Str} {st : Sto} : Bf.f .isi st [(.str x), .ty "tuple"] = some (.bl false) := by kernel_rfl
@[simp] theorem isi_str_list {x : Str} {st : Sto} : Bf.f .isi st [(.str x), .ty "list"] = some (.bl false) := by kernel_rfl
@[simp] theorem isi_str_str {x : Str} {st : Sto} : Bf.f .isi st [(.str x), .ty "str"] = some (.bl true) := by kernel_rfl
@[simp] theorem isi_str_int {x : Str} {st : Sto} : Bf.f .isi st [(.str x), .ty "int"] = some (.bl false) := by kernel_rfl
@[simp] theorem isi_str_bool {x : Str} {st : Sto} : Bf.f .isi st [(.str x), .ty "bool"] = some (.bl false) := by kernel_rfl
@[simp] theorem isi_tup_tuple {xs : List PV} {st : Sto} : Bf.f .isi st [(.tup xs), .ty "tuple"] = some (.bl true) := by kernel_rfl
@[simp] theorem isi_tup_list {xs : List PV} {st : Sto} : Bf.f .isi st [(.tup xs), .ty "list"] = some (.bl false) := by kernel_rfl
@[simp] theorem isi_tup_str {xs : List PV} {st : Sto} : Bf.f .isi st [(.tup xs), .ty "str"] = some (.bl false) := by kernel_rfl
@[simp] theorem isi_tup_int {xs : List PV} {st : Sto} : Bf.f .isi st [(.tup xs), .ty "int"] = some (.bl false) := by kernel_rfl
@[simp] theorem isi_tup_bool {xs : List PV} {st : Sto} : Bf.f .isi st [(.tup xs), .ty "bool"] = some (.bl false) := by kernel_rfl
@[simp] theorem isi_lst_tuple {xs : List PV} {st : Sto} : Bf.f .isi st [(.lst xs), .ty "tuple"] = some (.bl false) := by kernel_rfl
@[simp] theorem isi_lst_list {xs : List PV} {st : Sto} : Bf.f .isi st [(.lst xs), .ty "list"] = some (.bl true) := by kernel_rfl
@[simp] theorem isi_lst_str {xs : List PV} {st : Sto} : Bf.f .isi st [(.lst xs), .ty "str"] = some (.bl false) := by kernel_rfl
@[simp] theorem isi_lst_int {xs : List PV} {st : Sto} : Bf.f .isi st [(.lst xs), .ty "int"] = some (.bl false) := by kernel_rfl
@[simp] theorem isi_lst_bool {xs : List PV} {st : Sto} : Bf.f .isi st [(.lst xs), .ty "bool"] = some (.bl false) := by kernel_rfl
@[simp] theorem isi_scr_tuple {xs : List PV} {st : Sto} : Bf.f .isi st [(.scr xs), .ty "tuple"] = some (.bl false) := by kernel_rfl
@[simp] theorem isi_scr_list {xs : List PV} {st : Sto} : Bf.f .isi st [(.scr xs), .ty "list"] = some (.bl true) := by kernel_rfl
@[simp] theorem isi_scr_str {xs : List PV} {st : Sto} : Bf.f .isi st [(.scr xs), .ty "str"] = some (.bl false) := by kernel_rfl
@[simp] theorem isi_scr_int {xs : List PV} {st : Sto} : Bf.f .isi st [(.scr xs), .ty "int"] = some (.bl false) := by kernel_rfl
@[simp] theorem isi_scr_bool {xs : List PV} {st : Sto} : Bf.f .isi st [(.scr xs), .ty "bool"] = some (.bl false) := by kernel_rfl

/-! ### _law_same -/
def mSame (f : List PV → Sto → Res PV) : SM := (sSeq (sIf (bOr (bVal (mBi (Bf.f .isi) (aCons (mVar 1) (aCons (mC (.ty "tuple")) aNil)))) (bVal (mBi (Bf.f .isi) (aCons (mVar 1) (aCons (mC (.ty "list")) aNil))))) (sSeq (sIf (bOr (bVal (mBin opNe (mBi (Bf.f .isi) (aCons (mVar 1) (aCons (mC (.ty "tuple")) aNil))) (mBi (Bf.f .isi) (aCons (mVar 0) (aCons (mC (.ty "tuple")) aNil))))) (bVal (mBin opNe (mBi (Bf.f .isi) (aCons (mVar 1) (aCons (mC (.ty "list")) aNil))) (mBi (Bf.f .isi) (aCons (mVar 0) (aCons (mC (.ty "list")) aNil)))))) (sSeq (sRet (mC (.bl false))) sNil) sNil) (sSeq (sIf (bVal (mBin opNe (mBi (Bf.f .len) (aCons (mVar 0) aNil)) (mBi (Bf.f .len) (aCons (mVar 1) aNil)))) (sSeq (sRet (mC (.bl false))) sNil) sNil) (sSeq (sRet (mBin opEq (mBi (Bf.f .len) (aCons (mFz (aLc (aRange1 (aCons (mBi (Bf.f .len) (aCons (mVar 1) aNil)) aNil)) [2] (gNm 2) (bNot (bVal (mCall f (aCons (mBinS opIx (mVar 0) (mVar 2)) (aCons (mBinS opIx (mVar 1) (mVar 2)) aNil)) []))) (mVar 2))) aNil)) (mC (.int 0)))) sNil))) sNil) (sSeq (sIf (bVal (mBi (Bf.f .isi) (aCons (mVar 1) (aCons (mC (.ty "str")) aNil)))) (sSeq (sRet (mAndV (mBi (Bf.f .isi) (aCons (mVar 0) (aCons (mC (.ty "str")) aNil))) (mBin opEq (mVar 0) (mVar 1)))) sNil) sNil) (sSeq (sIf (bVal (mBin opIs (mVar 1) (mC .non))) (sSeq (sRet (mBin opIs (mVar 0) (mC .non))) sNil) sNil) (sSeq (sIf (bOr (bVal (mBi (Bf.f .isi) (aCons (mVar 1) (aCons (mC (.ty "bool")) aNil)))) (bVal (mBi (Bf.f .isi) (aCons (mVar 0) (aCons (mC (.ty "bool")) aNil))))) (sSeq (sRet (mAndV (mBi (Bf.f .isi) (aCons (mVar 1) (aCons (mC (.ty "bool")) aNil))) (mAndV (mBi (Bf.f .isi) (aCons (mVar 0) (aCons (mC (.ty "bool")) aNil))) (mBin opEq (mVar 0) (mVar 1))))) sNil) sNil) (sSeq (sRet (mAndV (mBi (Bf.f .isi) (aCons (mVar 0) (aCons (mC (.ty "int")) aNil))) (mAndV (mBi (Bf.f .isi) (aCons (mVar 1) (aCons (mC (.ty "int")) aNil))) (mBin opEq (mVar 0) (mVar 1))))) sNil)))))
mutual
/-- plain, and no line of it longer than 1000 -/
def PV.fair : PV → Bool
  | .non => true
  | .bl _ => true
  | .int _ => true
  | .str _ => true
  | .tup xs => decide (xs.length ≤ 1000) && PV.fairs xs
  | .lst xs => decide (xs.length ≤ 1000) && PV.fairs xs
  | _ => false
def PV.fairs : List PV → Bool
  | [] => true
  | x :: xs => PV.fair x && PV.fairs xs
end
theorem fairs_get : ∀ {xs : List PV} {k : Nat} {x : PV}, PV.fairs xs = true → xs[k]? = some x → PV.fair x = true
  | [], _, _, _, h => by simp at h
  | y :: ys, 0, x, h, e => by
    simp only [PV.fairs, Bool.and_eq_true] at h
    simp at e
    rw [← e]; exact h.1
  | y :: ys, k + 1, x, h, e => by
    simp only [PV.fairs, Bool.and_eq_true] at h
    exact fairs_get h.2 (by simpa using e)
theorem depths_get : ∀ {xs : List PV} {k : Nat} {x : PV}, xs[k]? = some x → PV.depth x ≤ PV.depths xs
  | [], _, _, h => by simp at h
  | y :: ys, 0, x, e => by
    simp at e
    rw [← e]; simp only [PV.depths]; omega
  | y :: ys, k + 1, x, e => by
    have := depths_get (xs := ys) (k := k) (x := x) (by simpa using e)
    simp only [PV.depths]; omega
/-- a comprehension none of whose tests holds -/
theorem go_none {t : GM} {c : BM} {m : EM} {ρ : PEnv} {st : Sto} : ∀ {xs : List PV}, (∀ x ∈ xs, ∃ ρ1, (t x).map (setP ρ) = some ρ1 ∧ c ρ1 st = .ok false st) → compGo t c m ρ xs st = .ok [] st
  | [], _ => rfl
  | x :: xs, h => by
    obtain ⟨ρ1, h1, h2⟩ := h x List.mem_cons_self
    have ih := go_none (t := t) (c := c) (m := m) (ρ := ρ) (st := st) (xs := xs) fun y hy => h y (List.mem_cons_of_mem _ hy)
    unfold compGo
    rw [h1]
    simp only
    rw [h2]
    exact ih
theorem rangeL_mem : ∀ {n : Nat} {lo : Int} {x : PV}, x ∈ rangeL lo n → ∃ k : Nat, k < n ∧ x = .int (lo + k)
  | 0, _, _, h => by simp [rangeL] at h
  | n + 1, lo, x, h => by
    simp only [rangeL, List.mem_cons] at h
    rcases h with rfl | h
    · exact ⟨0, by omega, by simp⟩
    · obtain ⟨k, h1, rfl⟩ := rangeL_mem h
      exact ⟨k + 1, by omega, by congr 1; omega⟩
theorem rOk_len {n : Nat} (h : n ≤ 1000) : rOk (n : Int) = true := by
  unfold rOk
  rw [decide_eq_true_eq]
  omega
theorem small_le {n : Nat} (h : n ≤ 1000) : n ≤ sizeLine := Nat.le_trans h (by decide)
theorem same_go {f : List PV → Sto → Res PV} {st : Sto} (y : PV) (xs : List PV) (hk : ∀ k : Nat, opIx st y (.int k) = xs[k]?) (ih : ∀ x ∈ xs, f [x, x] st = .ok (.bl true) st) :
    compGo (gNm 2) (bNot (bVal (mCall f (aCons (mBinS opIx (mVar 0) (mVar 2)) (aCons (mBinS opIx (mVar 1) (mVar 2)) aNil)) []))) (mVar 2) [.val y, .val y, .no] (rangeL 0 xs.length) st = .ok [] st := by
  refine go_none fun z hz => ?_
  obtain ⟨k, hk1, rfl⟩ := rangeL_mem hz
  refine ⟨_, rfl, ?_⟩
  have h0 := hk k
  rw [List.getElem?_eq_getElem hk1] at h0
  have hi := ih xs[k] (List.getElem_mem hk1)
  simp [h0, hi]
theorem same_tup {f : List PV → Sto → Res PV} {st : Sto} (xs : List PV) (hl : xs.length ≤ 1000) (ih : ∀ x ∈ xs, f [x, x] st = .ok (.bl true) st) : endOf false (mSame f [.val (.tup xs), .val (.tup xs), .no] st) = .ok (.bl true) st := by
  have hg := same_go (st := st) (.tup xs) xs (fun k => ixT k) ih
  have hr1 := rOk_len hl
  have hr2 := small_le hl
  unfold mSame
  simp [hr1, hr2, hg]
theorem same_lst {f : List PV → Sto → Res PV} {st : Sto} (xs : List PV) (hl : xs.length ≤ 1000) (ih : ∀ x ∈ xs, f [x, x] st = .ok (.bl true) st) : endOf false (mSame f [.val (.lst xs), .val (.lst xs), .no] st) = .ok (.bl true) st := by
  have hg := same_go (st := st) (.lst xs) xs (fun k => atI_nat xs k) ih
  have hr1 := rOk_len hl
  have hr2 := small_le hl
  unfold mSame
  simp [hr1, hr2, hg]
theorem same_non {f : List PV → Sto → Res PV} {st : Sto} : endOf false (mSame f [.val .non, .val .non, .no] st) = .ok (.bl true) st := by
  unfold mSame
  simp
theorem same_bl {f : List PV → Sto → Res PV} {st : Sto} (a b : Bool) : endOf false (mSame f [.val (.bl a), .val (.bl b), .no] st) = .ok (.bl (a == b)) st := by
  unfold mSame
  simp [isN]
theorem same_int {f : List PV → Sto → Res PV} {st : Sto} (a b : Int) : endOf false (mSame f [.val (.int a), .val (.int b), .no] st) = .ok (.bl (a == b)) st := by
  unfold mSame
  simp [isN]
theorem same_str {f : List PV → Sto → Res PV} {st : Sto} (a b : Str) : endOf false (mSame f [.val (.str a), .val (.str b), .no] st) = .ok (.bl (a == b)) st := by
  unfold mSame
  simp
theorem same_refl {C : Nat → List PV → Sto → Res PV} (hC : ∀ n x y st, C (n + 1) [x, y] st = endOf false (mSame (C n) [.val x, .val y, .no] st)) (n : Nat) : ∀ (x : PV) (st : Sto), x.fair = true → x.depth < n → C n [x, x] st = .ok (.bl true) st := by
  induction n with
  | zero => intro x st _ h; omega
  | succ n ih =>
    intro x st hf h
    rw [hC]
    cases x with
    | tup xs =>
      simp only [PV.fair, Bool.and_eq_true, decide_eq_true_eq] at hf
      refine same_tup xs hf.1 fun y hy => ?_
      obtain ⟨k, hk⟩ := List.mem_iff_getElem?.mp hy
      have := depths_get hk
      exact ih y st (fairs_get hf.2 hk) (by simp only [PV.depth] at h; omega)
    | lst xs =>
      simp only [PV.fair, Bool.and_eq_true, decide_eq_true_eq] at hf
      refine same_lst xs hf.1 fun y hy => ?_
      obtain ⟨k, hk⟩ := List.mem_iff_getElem?.mp hy
      have := depths_get hk
      exact ih y st (fairs_get hf.2 hk) (by simp only [PV.depth] at h; omega)
    | non => exact same_non
    | bl b => rw [same_bl]; simp
    | int i => rw [same_int]; simp
    | str x => rw [same_str]; simp
    | _ => simp [PV.fair] at hf
end BK

/-! BkY: types as data -/
namespace BK
open PySem PySem.Spec PyProof.Rows L2 RZ

inductive Ty where
  | any | int | bool
  | fn (a b : Ty) | pair (a b : Ty) | list (a : Ty)
deriving DecidableEq
def enc : Ty → PV
  | .any => .tup [.str "any"]
  | .int => .tup [.str "int"]
  | .bool => .tup [.str "bool"]
  | .fn a b => .tup [.str "fn", enc a, enc b]
  | .pair a b => .tup [.str "pair", enc a, enc b]
  | .list a => .tup [.str "list", enc a]
def Ty.dep : Ty → Nat
  | .any | .int | .bool => 1
  | .fn a b => max a.dep b.dep + 1
  | .pair a b => max a.dep b.dep + 1
  | .list a => a.dep + 1
@[simp] theorem fold_any : PV.tup [.str "any"] = enc .any := (rfl)
@[simp] theorem fold_int : PV.tup [.str "int"] = enc .int := (rfl)
@[simp] theorem fold_bool : PV.tup [.str "bool"] = enc .bool := (rfl)
@[simp] theorem fold_fn {a b : Ty} : PV.tup [.str "fn", enc a, enc b] = enc (.fn a b) := (rfl)
@[simp] theorem fold_pair {a b : Ty} : PV.tup [.str "pair", enc a, enc b] = enc (.pair a b) := (rfl)
@[simp] theorem fold_list {a : Ty} : PV.tup [.str "list", enc a] = enc (.list a) := (rfl)
@[simp] theorem w_any_any : (("any" : Str) == ("any" : Str)) = true := by decide +kernel
@[simp] theorem w_any_int : (("any" : Str) == ("int" : Str)) = false := by decide +kernel
@[simp] theorem w_any_bool : (("any" : Str) == ("bool" : Str)) = false := by decide +kernel
@[simp] theorem w_any_fn : (("any" : Str) == ("fn" : Str)) = false := by decide +kernel
@[simp] theorem w_any_pair : (("any" : Str) == ("pair" : Str)) = false := by decide +kernel
@[simp] theorem w_any_list : (("any" : Str) == ("list" : Str)) = false := by decide +kernel
@[simp] theorem w_int_any : (("int" : Str) == ("any" : Str)) = false := by decide +kernel
@[simp] theorem w_int_int : (("int" : Str) == ("int" : Str)) = true := by decide +kernel
@[simp] theorem w_int_bool : (("int" : Str) == ("bool" : Str)) = false := by decide +kernel
@[simp] theorem w_int_fn : (("int" : Str) == ("fn" : Str)) = false := by decide +kernel
@[simp] theorem w_int_pair : (("int" : Str) == ("pair" : Str)) = false := by decide +kernel
@[simp] theorem w_int_list : (("int" : Str) == ("list" : Str)) = false := by decide +kernel
@[simp] theorem w_bool_any : (("bool" : Str) == ("any" : Str)) = false := by decide +kernel
@[simp] theorem w_bool_int : (("bool" : Str) == ("int" : Str)) = false := by decide +kernel
@[simp] theorem w_bool_bool : (("bool" : Str) == ("bool" : Str)) = true := by decide +kernel
@[simp] theorem w_bool_fn : (("bool" : Str) == ("fn" : Str)) = false := by decide +kernel
@[simp] theorem w_bool_pair : (("bool" : Str) == ("pair" : Str)) = false := by decide +kernel
@[simp] theorem w_bool_list : (("bool" : Str) == ("list" : Str)) = false := by decide +kernel
@[simp] theorem w_fn_any : (("fn" : Str) == ("any" : Str)) = false := by decide +kernel
@[simp] theorem w_fn_int : (("fn" : Str) == ("int" : Str)) = false := by decide +kernel
@[simp] theorem w_fn_bool : (("fn" : Str) == ("bool" : Str)) = false := by decide +kernel
@[simp] theorem w_fn_fn : (("fn" : Str) == ("fn" : Str)) = true := by decide +kernel
@[simp] theorem w_fn_pair : (("fn" : Str) == ("pair" : Str)) = false := by decide +kernel
@[simp] theorem w_fn_list : (("fn" : Str) == ("list" : Str)) = false := by decide +kernel
@[simp] theorem w_pair_any : (("pair" : Str) == ("any" : Str)) = false := by decide +kernel
@[simp] theorem w_pair_int : (("pair" : Str) == ("int" : Str)) = false := by decide +kernel
@[simp] theorem w_pair_bool : (("pair" : Str) == ("bool" : Str)) = false := by decide +kernel
@[simp] theorem w_pair_fn : (("pair" : Str) == ("fn" : Str)) = false := by decide +kernel
@[simp] theorem w_pair_pair : (("pair" : Str) == ("pair" : Str)) = true := by decide +kernel
@[simp] theorem w_pair_list : (("pair" : Str) == ("list" : Str)) = false := by decide +kernel
@[simp] theorem w_list_any : (("list" : Str) == ("any" : Str)) = false := by decide +kernel
@[simp] theorem w_list_int : (("list" : Str) == ("int" : Str)) = false := by decide +kernel
@[simp] theorem w_list_bool : (("list" : Str) == ("bool" : Str)) = false := by decide +kernel
@[simp] theorem w_list_fn : (("list" : Str) == ("fn" : Str)) = false := by decide +kernel
@[simp] theorem w_list_pair : (("list" : Str) == ("pair" : Str)) = false := by decide +kernel
@[simp] theorem w_list_list : (("list" : Str) == ("list" : Str)) = true := by decide +kernel
@[simp] theorem ix0_any {st : Sto} : opIx st (enc .any) (.int 0) = some (.str "any") := (rfl)
@[simp] theorem slT_any : opSl (enc .any) (some 1) none = some (.tup []) := sl1
@[simp] theorem len_any {st : Sto} : Bf.f .len st [enc .any] = some (.int 1) := (rfl)
@[simp] theorem mk_any : opAdd (.tup [.str "any"]) (.tup []) = some (enc .any) := add10
@[simp] theorem ix0_int {st : Sto} : opIx st (enc .int) (.int 0) = some (.str "int") := (rfl)
@[simp] theorem slT_int : opSl (enc .int) (some 1) none = some (.tup []) := sl1
@[simp] theorem len_int {st : Sto} : Bf.f .len st [enc .int] = some (.int 1) := (rfl)
@[simp] theorem mk_int : opAdd (.tup [.str "int"]) (.tup []) = some (enc .int) := add10
@[simp] theorem ix0_bool {st : Sto} : opIx st (enc .bool) (.int 0) = some (.str "bool") := (rfl)
@[simp] theorem slT_bool : opSl (enc .bool) (some 1) none = some (.tup []) := sl1
@[simp] theorem len_bool {st : Sto} : Bf.f .len st [enc .bool] = some (.int 1) := (rfl)
@[simp] theorem mk_bool : opAdd (.tup [.str "bool"]) (.tup []) = some (enc .bool) := add10
@[simp] theorem ix0_fn {a b : Ty} {st : Sto} : opIx st (enc (.fn a b)) (.int 0) = some (.str "fn") := (rfl)
@[simp] theorem ix1_fn {a b : Ty} {st : Sto} : opIx st (enc (.fn a b)) (.int 1) = some (enc a) := (rfl)
@[simp] theorem ix2_fn {a b : Ty} {st : Sto} : opIx st (enc (.fn a b)) (.int 2) = some (enc b) := (rfl)
@[simp] theorem slT_fn {a b : Ty} : opSl (enc (.fn a b)) (some 1) none = some (.tup [enc a, enc b]) := sl1
@[simp] theorem len_fn {a b : Ty} {st : Sto} : Bf.f .len st [enc (.fn a b)] = some (.int 3) := (rfl)
@[simp] theorem mk_fn {a b : Ty} : opAdd (.tup [.str "fn"]) (.tup [enc a, enc b]) = some (enc (.fn a b)) := add12
@[simp] theorem ix0_pair {a b : Ty} {st : Sto} : opIx st (enc (.pair a b)) (.int 0) = some (.str "pair") := (rfl)
@[simp] theorem ix1_pair {a b : Ty} {st : Sto} : opIx st (enc (.pair a b)) (.int 1) = some (enc a) := (rfl)
@[simp] theorem ix2_pair {a b : Ty} {st : Sto} : opIx st (enc (.pair a b)) (.int 2) = some (enc b) := (rfl)
@[simp] theorem slT_pair {a b : Ty} : opSl (enc (.pair a b)) (some 1) none = some (.tup [enc a, enc b]) := sl1
@[simp] theorem len_pair {a b : Ty} {st : Sto} : Bf.f .len st [enc (.pair a b)] = some (.int 3) := (rfl)
@[simp] theorem mk_pair {a b : Ty} : opAdd (.tup [.str "pair"]) (.tup [enc a, enc b]) = some (enc (.pair a b)) := add12
@[simp] theorem ix0_list {a : Ty} {st : Sto} : opIx st (enc (.list a)) (.int 0) = some (.str "list") := (rfl)
@[simp] theorem ix1_list {a : Ty} {st : Sto} : opIx st (enc (.list a)) (.int 1) = some (enc a) := (rfl)
@[simp] theorem slT_list {a : Ty} : opSl (enc (.list a)) (some 1) none = some (.tup [enc a]) := sl1
@[simp] theorem len_list {a : Ty} {st : Sto} : Bf.f .len st [enc (.list a)] = some (.int 2) := (rfl)
@[simp] theorem mk_list {a : Ty} : opAdd (.tup [.str "list"]) (.tup [enc a]) = some (enc (.list a)) := add11
@[simp] theorem mke_any : opAdd (enc .any) (.tup []) = some (enc .any) := add10
@[simp] theorem mke_int : opAdd (enc .int) (.tup []) = some (enc .int) := add10
@[simp] theorem mke_bool : opAdd (enc .bool) (.tup []) = some (enc .bool) := add10
theorem mul0 {x : PV} : opMul (.tup [x]) (.int 0) = some (.tup []) := by simp [opMul]
theorem mul1 {x : PV} : opMul (.tup [x]) (.int 1) = some (.tup [x]) := by simp [opMul]
theorem mul2 {x : PV} : opMul (.tup [x]) (.int 2) = some (.tup [x, x]) := by simp [opMul, List.replicate]
theorem enc_plain : ∀ a : Ty, (enc a).plain = true
  | .any | .int | .bool => rfl
  | .fn a b => by show PV.plain (.tup [.str "fn", enc a, enc b]) = true; simp only [PV.plain, PV.plains, enc_plain a, enc_plain b, Bool.and_self]
  | .pair a b => by show PV.plain (.tup [.str "pair", enc a, enc b]) = true; simp only [PV.plain, PV.plains, enc_plain a, enc_plain b, Bool.and_self]
  | .list a => by show PV.plain (.tup [.str "list", enc a]) = true; simp only [PV.plain, PV.plains, enc_plain a, Bool.and_self]
theorem enc_depth : ∀ a : Ty, (enc a).depth = a.dep
  | .any | .int | .bool => rfl
  | .fn a b => by show PV.depth (.tup [.str "fn", enc a, enc b]) = _; simp [PV.depth, PV.depths, Ty.dep, enc_depth a, enc_depth b]
  | .pair a b => by show PV.depth (.tup [.str "pair", enc a, enc b]) = _; simp [PV.depth, PV.depths, Ty.dep, enc_depth a, enc_depth b]
  | .list a => by show PV.depth (.tup [.str "list", enc a]) = _; simp [PV.depth, PV.depths, Ty.dep, enc_depth a]
theorem enc_fair : ∀ a : Ty, (enc a).fair = true
  | .any | .int | .bool => rfl
  | .fn a b => by show PV.fair (.tup [.str "fn", enc a, enc b]) = true; simp [PV.fair, PV.fairs, enc_fair a, enc_fair b]
  | .pair a b => by show PV.fair (.tup [.str "pair", enc a, enc b]) = true; simp [PV.fair, PV.fairs, enc_fair a, enc_fair b]
  | .list a => by show PV.fair (.tup [.str "list", enc a]) = true; simp [PV.fair, PV.fairs, enc_fair a]
theorem enc_eqv : ∀ a b : Ty, (enc a).eqv (enc b) = decide (a = b)
  | .any, b => by cases b <;> simp [enc, PV.eqv, PV.eqvs, -fold_any, -fold_int, -fold_bool, -fold_fn, -fold_pair, -fold_list]
  | .int, b => by cases b <;> simp [enc, PV.eqv, PV.eqvs, -fold_any, -fold_int, -fold_bool, -fold_fn, -fold_pair, -fold_list]
  | .bool, b => by cases b <;> simp [enc, PV.eqv, PV.eqvs, -fold_any, -fold_int, -fold_bool, -fold_fn, -fold_pair, -fold_list]
  | .fn a d, b => by cases b <;> simp [enc, PV.eqv, PV.eqvs, enc_eqv a, enc_eqv d, -fold_any, -fold_int, -fold_bool, -fold_fn, -fold_pair, -fold_list]
  | .pair a d, b => by cases b <;> simp [enc, PV.eqv, PV.eqvs, enc_eqv a, enc_eqv d, -fold_any, -fold_int, -fold_bool, -fold_fn, -fold_pair, -fold_list]
  | .list a, b => by cases b <;> simp [enc, PV.eqv, PV.eqvs, enc_eqv a, -fold_any, -fold_int, -fold_bool, -fold_fn, -fold_pair, -fold_list]
theorem eq_enc (a b : Ty) (h : a.dep ≤ 50) : opEq (enc a) (enc b) = some (.bl (decide (a = b))) := by
  unfold opEq
  rw [if_pos (by unfold eqOk; rw [enc_plain, enc_plain, enc_depth, enc_depth]; simp; omega), enc_eqv]
theorem ne_enc (a b : Ty) (h : a.dep ≤ 50) : opNe (enc a) (enc b) = some (.bl (!decide (a = b))) := by
  unfold opNe
  rw [if_pos (by unfold eqOk; rw [enc_plain, enc_plain, enc_depth, enc_depth]; simp; omega), enc_eqv]
/-- against any: whatever the depth -/
@[simp] theorem eq_any (a : Ty) : opEq (enc a) (enc .any) = some (.bl (decide (a = .any))) := by
  unfold opEq
  rw [if_pos (by unfold eqOk; rw [enc_plain, enc_plain, enc_depth, enc_depth]; rw [Bool.and_self, Bool.true_and, decide_eq_true_eq]; exact Nat.le_trans (Nat.min_le_right _ _) (by show 1 ≤ 60; omega)), enc_eqv]
theorem in_any (a b : Ty) : opIn (enc .any) (.lst [enc a, enc b]) = some (.bl (decide (a = .any) || decide (b = .any))) := by
  unfold opIn
  simp only
  unfold opIn0
  simp only
  rw [if_pos (by unfold inOk; simp only [PV.plains, enc_plain, enc_depth, Ty.dep, Bool.and_self, Bool.true_and, decide_eq_true_eq]; omega)]
  simp [enc_eqv]
def alike : Ty → Ty → Bool
  | .any, _ => true
  | _, .any => true
  | .int, .int => true
  | .bool, .bool => true
  | .fn a b, .fn c d => alike a c && alike b d
  | .pair a b, .pair c d => alike a c && alike b d
  | .list a, .list c => alike a c
  | _, _ => false
def finer : Ty → Ty → Bool
  | _, .any => true
  | .int, .int => true
  | .bool, .bool => true
  | .fn a b, .fn c d => finer a c && finer b d
  | .pair a b, .pair c d => finer a c && finer b d
  | .list a, .list c => finer a c
  | _, _ => false
theorem alike_any (a : Ty) : alike a .any = true := by cases a <;> rfl
theorem finer_any (a : Ty) : finer a .any = true := by cases a <;> rfl
theorem alike_symm : ∀ a b : Ty, alike a b = alike b a
  | .any, b => by cases b <;> rfl
  | .int, b => by cases b <;> rfl
  | .bool, b => by cases b <;> rfl
  | .fn a c, b => by cases b <;> simp [alike, alike_symm a, alike_symm c]
  | .pair a c, b => by cases b <;> simp [alike, alike_symm a, alike_symm c]
  | .list a, b => by cases b <;> simp [alike, alike_symm a]
theorem alike_refl : ∀ a : Ty, alike a a = true
  | .any | .int | .bool => rfl
  | .fn a c => by simp [alike, alike_refl a, alike_refl c]
  | .pair a c => by simp [alike, alike_refl a, alike_refl c]
  | .list a => by simp [alike, alike_refl a]
theorem finer_refl : ∀ a : Ty, finer a a = true
  | .any | .int | .bool => rfl
  | .fn a c => by simp [finer, finer_refl a, finer_refl c]
  | .pair a c => by simp [finer, finer_refl a, finer_refl c]
  | .list a => by simp [finer, finer_refl a]
theorem alike_of : ∀ t u v : Ty, finer t u = true → finer t v = true → alike u v = true
  | .any, u, v => by cases u <;> cases v <;> simp [finer, alike]
  | .int, u, v => by cases u <;> cases v <;> simp [finer, alike]
  | .bool, u, v => by cases u <;> cases v <;> simp [finer, alike]
  | .fn a c, u, v => by
    cases u <;> cases v <;> simp [finer, alike]
    exact fun h1 h2 h3 h4 => ⟨alike_of _ _ _ h1 h3, alike_of _ _ _ h2 h4⟩
  | .pair a c, u, v => by
    cases u <;> cases v <;> simp [finer, alike]
    exact fun h1 h2 h3 h4 => ⟨alike_of _ _ _ h1 h3, alike_of _ _ _ h2 h4⟩
  | .list a, u, v => by
    cases u <;> cases v <;> simp [finer, alike]
    exact fun h1 h2 => alike_of _ _ _ h1 h2
end BK

/-! BkZ: values that are cast -/
namespace BK
open PySem PySem.Spec PyProof.Rows L2 RZ

mutual
inductive Va where
  | int (i : Int) | bool (b : Bool)
  | pair (a b : Va) | items (l : Vs) | tag (g : Ty) (v : Va)
inductive Vs where
  | nil
  | cons (v : Va) (l : Vs)
end
mutual
def encV : Va → PV
  | .int i => .tup [.str "int", .int i]
  | .bool b => .tup [.str "bool", .bl b]
  | .pair a b => .tup [.str "pair", encV a, encV b]
  | .items l => .tup [.str "items", .tup (encVs l)]
  | .tag g v => .tup [.str "tag", enc g, encV v]
def encVs : Vs → List PV
  | .nil => []
  | .cons v l => encV v :: encVs l
end
mutual
def Va.dep : Va → Nat
  | .int _ | .bool _ => 1
  | .pair a b => max a.dep b.dep + 1
  | .items l => l.dep + 1
  | .tag _ v => v.dep + 1
def Vs.dep : Vs → Nat
  | .nil => 0
  | .cons v l => max v.dep l.dep
end
/-- a ground -/
def isGr : Ty → Bool
  | .int | .bool => true
  | .pair .any .any => true
  | .list .any => true
  | _ => false
mutual
def has : Ty → Va → Bool
  | .any, .tag g v => isGr g && has g v
  | .int, .int _ => true
  | .bool, .bool _ => true
  | .pair a b, .pair x y => has a x && has b y
  | .list a, .items l => hasL a l
  | _, _ => false
def hasL : Ty → Vs → Bool
  | _, .nil => true
  | a, .cons v l => has a v && hasL a l
end
def grd : Ty → Ty
  | .fn _ _ => .fn .any .any
  | .pair _ _ => .pair .any .any
  | .list _ => .list .any
  | a => a
mutual
def up : Ty → Va → Va
  | .any, v => v
  | .pair a b, .pair x y => .tag (.pair .any .any) (.pair (up a x) (up b y))
  | .list a, .items l => .tag (.list .any) (.items (upL a l))
  | k, v => .tag k v
def upL : Ty → Vs → Vs
  | _, .nil => .nil
  | a, .cons v l => .cons (up a v) (upL a l)
end
mutual
def vcast : Ty → Ty → Va → Option Va
  | k, .any, v => some (up k v)
  | .any, d, .tag g v => if g = grd d then vcast g d v else none
  | .pair a b, .pair c d, .pair x y => (vcast a c x).bind fun x' => (vcast b d y).map fun y' => .pair x' y'
  | .list a, .list c, .items l => (vcastL a c l).map .items
  | .int, .int, v => some v
  | .bool, .bool, v => some v
  | _, _, _ => none
def vcastL : Ty → Ty → Vs → Option Vs
  | _, _, .nil => some .nil
  | a, c, .cons v l => (vcast a c v).bind fun v' => (vcastL a c l).map fun l' => .cons v' l'
end
mutual
theorem cast_self : ∀ (k : Ty) (v : Va), has k v = true → vcast k k v = some v
  | .any, v, _ => by simp [vcast, up]
  | .int, .int _, _ => rfl
  | .bool, .bool _, _ => rfl
  | .pair a b, .pair x y, h => by
    simp only [has, Bool.and_eq_true] at h
    simp [vcast, cast_self a x h.1, cast_self b y h.2]
  | .list a, .items l, h => by
    simp only [has] at h
    simp [vcast, castL_self a l h]
  | .int, .bool _, h | .int, .pair _ _, h | .int, .items _, h | .int, .tag _ _, h => by simp [has] at h
  | .bool, .int _, h | .bool, .pair _ _, h | .bool, .items _, h | .bool, .tag _ _, h => by simp [has] at h
  | .pair _ _, .int _, h | .pair _ _, .bool _, h | .pair _ _, .items _, h | .pair _ _, .tag _ _, h => by simp [has] at h
  | .list _, .int _, h | .list _, .bool _, h | .list _, .pair _ _, h | .list _, .tag _ _, h => by simp [has] at h
  | .fn _ _, v, h => by cases v <;> simp [has] at h
theorem castL_self : ∀ (k : Ty) (l : Vs), hasL k l = true → vcastL k k l = some l
  | _, .nil, _ => rfl
  | k, .cons v l, h => by
    simp only [hasL, Bool.and_eq_true] at h
    simp [vcastL, cast_self k v h.1, castL_self k l h.2]
end
/-! what is cast up is of any -/
mutual
theorem has_up : ∀ (k : Ty) (v : Va), has k v = true → has .any (up k v) = true
  | .any, v, h => by simpa [up] using h
  | .int, .int _, _ => rfl
  | .bool, .bool _, _ => rfl
  | .pair a b, .pair x y, h => by
    simp only [has, Bool.and_eq_true] at h
    simp [up, has, isGr, has_up a x h.1, has_up b y h.2]
  | .list a, .items l, h => by
    simp only [has] at h
    simp [up, has, isGr, hasL_up a l h]
  | .int, .bool _, h | .int, .pair _ _, h | .int, .items _, h | .int, .tag _ _, h => by simp [has] at h
  | .bool, .int _, h | .bool, .pair _ _, h | .bool, .items _, h | .bool, .tag _ _, h => by simp [has] at h
  | .pair _ _, .int _, h | .pair _ _, .bool _, h | .pair _ _, .items _, h | .pair _ _, .tag _ _, h => by simp [has] at h
  | .list _, .int _, h | .list _, .bool _, h | .list _, .pair _ _, h | .list _, .tag _ _, h => by simp [has] at h
  | .fn _ _, v, h => by cases v <;> simp [has] at h
theorem hasL_up : ∀ (k : Ty) (l : Vs), hasL k l = true → hasL .any (upL k l) = true
  | _, .nil, _ => rfl
  | k, .cons v l, h => by
    simp only [hasL, Bool.and_eq_true] at h
    simp [upL, hasL, has_up k v h.1, hasL_up k l h.2]
end
theorem grd_isGr {g : Ty} (h : isGr g = true) : grd g = g := by
  cases g <;> simp [isGr] at h <;> simp [grd]
  · rename_i a b
    cases a <;> cases b <;> simp [isGr] at h ⊢
  · rename_i a
    cases a <;> simp [isGr] at h ⊢
/-! through the ground: the same -/
mutual
theorem cast_up : ∀ (k d : Ty) (v : Va), has k v = true → alike k d = true → vcast .any d (up k v) = vcast k d v
  | .any, d, v, _, _ => by simp [up]
  | .int, d, .int i, _, ha => by cases d <;> simp [alike] at ha <;> simp [up, vcast, grd]
  | .bool, d, .bool i, _, ha => by cases d <;> simp [alike] at ha <;> simp [up, vcast, grd]
  | .pair a b, d, .pair x y, h, ha => by
    simp only [has, Bool.and_eq_true] at h
    cases d <;> simp [alike] at ha
    · simp [up, vcast]
    · rename_i c e
      simp [up, vcast, grd, cast_up a c x h.1 ha.1, cast_up b e y h.2 ha.2]
  | .list a, d, .items l, h, ha => by
    simp only [has] at h
    cases d <;> simp [alike] at ha
    · simp [up, vcast]
    · rename_i c
      simp [up, vcast, grd, castL_up a c l h ha]
  | .int, _, .bool _, h, _ | .int, _, .pair _ _, h, _ | .int, _, .items _, h, _ | .int, _, .tag _ _, h, _ => by simp [has] at h
  | .bool, _, .int _, h, _ | .bool, _, .pair _ _, h, _ | .bool, _, .items _, h, _ | .bool, _, .tag _ _, h, _ => by simp [has] at h
  | .pair _ _, _, .int _, h, _ | .pair _ _, _, .bool _, h, _ | .pair _ _, _, .items _, h, _ | .pair _ _, _, .tag _ _, h, _ => by simp [has] at h
  | .list _, _, .int _, h, _ | .list _, _, .bool _, h, _ | .list _, _, .pair _ _, h, _ | .list _, _, .tag _ _, h, _ => by simp [has] at h
  | .fn _ _, _, v, h, _ => by cases v <;> simp [has] at h
theorem castL_up : ∀ (k d : Ty) (l : Vs), hasL k l = true → alike k d = true → vcastL .any d (upL k l) = vcastL k d l
  | _, _, .nil, _, _ => rfl
  | k, d, .cons v l, h, ha => by
    simp only [hasL, Bool.and_eq_true] at h
    simp [upL, vcastL, cast_up k d v h.1 ha, castL_up k d l h.2 ha]
end
/-! what is shown; which types fit -/
mutual
def sh : Va → Va
  | .tag _ v => sh v
  | .pair a b => .pair (sh a) (sh b)
  | .items l => .items (shL l)
  | v => v
def shL : Vs → Vs
  | .nil => .nil
  | .cons v l => .cons (sh v) (shL l)
end
mutual
def fit : Ty → Va → Bool
  | d, .tag _ v => fit d v
  | .any, _ => true
  | .int, .int _ => true
  | .bool, .bool _ => true
  | .pair a b, .pair x y => fit a x && fit b y
  | .list a, .items l => fitL a l
  | _, _ => false
def fitL : Ty → Vs → Bool
  | _, .nil => true
  | a, .cons v l => fit a v && fitL a l
end
def nofn : Ty → Bool
  | .fn _ _ => false
  | .pair a b => nofn a && nofn b
  | .list a => nofn a
  | _ => true
mutual
theorem fits_any : ∀ v : Va, fit .any v = true
  | .tag _ v => by simp only [fit]; exact fits_any v
  | .int _ | .bool _ | .pair _ _ | .items _ => by simp [fit]
end
theorem fits_not {g d : Ty} {w : Va} (hg : isGr g = true) (hw : has g w = true) (hd : d ≠ .any) (hn : nofn d = true) (h : g ≠ grd d) : fit d w = false := by
  cases g <;> simp [isGr] at hg
  · cases w <;> simp [has] at hw
    cases d <;> simp [grd, nofn] at h hd hn <;> simp [fit]
  · cases w <;> simp [has] at hw
    cases d <;> simp [grd, nofn] at h hd hn <;> simp [fit]
  · rename_i a b
    cases a <;> cases b <;> simp [isGr] at hg
    cases w <;> simp [has] at hw
    cases d <;> simp [grd, nofn] at h hd hn <;> simp [fit]
  · rename_i a
    cases a <;> simp [isGr] at hg
    cases w <;> simp [has] at hw
    cases d <;> simp [grd, nofn] at h hd hn <;> simp [fit]
theorem alike_grd (d : Ty) : alike (grd d) d = true := by cases d <;> rfl
mutual
theorem cast_fits : ∀ (k d : Ty) (v : Va), has k v = true → alike k d = true → nofn d = true → (vcast k d v).isSome = fit d v
  | .any, d, .tag g w, h, ha, hn => by
    simp only [has, Bool.and_eq_true] at h
    by_cases hd : d = .any
    · subst hd; simp [vcast, fits_any]
    · have e : vcast .any d (.tag g w) = if g = grd d then vcast g d w else none := by cases d <;> first | rfl | exact absurd rfl hd
      rw [e]
      simp only [fit]
      by_cases q : g = grd d
      · rw [if_pos q]
        exact cast_fits g d w h.2 (by rw [q]; exact alike_grd d) hn
      · rw [if_neg q, fits_not h.1 h.2 hd hn q]; rfl
  | .int, d, .int i, _, ha, _ => by cases d <;> simp [alike] at ha <;> simp [vcast, fit]
  | .bool, d, .bool i, _, ha, _ => by cases d <;> simp [alike] at ha <;> simp [vcast, fit]
  | .pair a b, d, .pair x y, h, ha, hn => by
    simp only [has, Bool.and_eq_true] at h
    cases d <;> simp [alike] at ha
    · simp [vcast, fit]
    · rename_i c e
      simp only [nofn, Bool.and_eq_true] at hn
      simp only [fit]
      rw [← cast_fits a c x h.1 ha.1 hn.1, ← cast_fits b e y h.2 ha.2 hn.2]
      simp only [vcast]
      cases vcast a c x <;> cases vcast b e y <;> rfl
  | .list a, d, .items l, h, ha, hn => by
    simp only [has] at h
    cases d <;> simp [alike] at ha
    · simp [vcast, fit]
    · rename_i c
      simp only [nofn] at hn
      simp only [fit]
      rw [← castL_fits a c l h ha hn]
      simp only [vcast]
      cases vcastL a c l <;> rfl
  | .any, _, .int _, h, _, _ | .any, _, .bool _, h, _, _ | .any, _, .pair _ _, h, _, _ | .any, _, .items _, h, _, _ => by simp [has] at h
  | .int, _, .bool _, h, _, _ | .int, _, .pair _ _, h, _, _ | .int, _, .items _, h, _, _ | .int, _, .tag _ _, h, _, _ => by simp [has] at h
  | .bool, _, .int _, h, _, _ | .bool, _, .pair _ _, h, _, _ | .bool, _, .items _, h, _, _ | .bool, _, .tag _ _, h, _, _ => by simp [has] at h
  | .pair _ _, _, .int _, h, _, _ | .pair _ _, _, .bool _, h, _, _ | .pair _ _, _, .items _, h, _, _ | .pair _ _, _, .tag _ _, h, _, _ => by simp [has] at h
  | .list _, _, .int _, h, _, _ | .list _, _, .bool _, h, _, _ | .list _, _, .pair _ _, h, _, _ | .list _, _, .tag _ _, h, _, _ => by simp [has] at h
  | .fn _ _, _, v, h, _, _ => by cases v <;> simp [has] at h
theorem castL_fits : ∀ (k d : Ty) (l : Vs), hasL k l = true → alike k d = true → nofn d = true → (vcastL k d l).isSome = fitL d l
  | _, _, .nil, _, _, _ => rfl
  | k, d, .cons v l, h, ha, hn => by
    simp only [hasL, Bool.and_eq_true] at h
    simp only [fitL]
    rw [← cast_fits k d v h.1 ha hn, ← castL_fits k d l h.2 ha hn]
    simp only [vcastL]
    cases vcast k d v <;> cases vcastL k d l <;> rfl
end
mutual
theorem sh_up : ∀ (k : Ty) (v : Va), sh (up k v) = sh v
  | .any, v => by simp [up]
  | .pair a b, .pair x y => by simp [up, sh, sh_up a x, sh_up b y]
  | .list a, .items l => by simp [up, sh, shL_up a l]
  | .int, v => by cases v <;> simp [up, sh]
  | .bool, v => by cases v <;> simp [up, sh]
  | .fn _ _, v => by cases v <;> simp [up, sh]
  | .pair _ _, .int _ | .pair _ _, .bool _ | .pair _ _, .items _ | .pair _ _, .tag _ _ => by simp [up, sh]
  | .list _, .int _ | .list _, .bool _ | .list _, .pair _ _ | .list _, .tag _ _ => by simp [up, sh]
theorem shL_up : ∀ (k : Ty) (l : Vs), shL (upL k l) = shL l
  | _, .nil => rfl
  | k, .cons v l => by simp [upL, shL, sh_up k v, shL_up k l]
end
mutual
theorem cast_keeps : ∀ (k d : Ty) (v v' : Va), has k v = true → alike k d = true → vcast k d v = some v' → sh v' = sh v ∧ has d v' = true
  | .any, d, .tag g w, v', h, ha, e => by
    by_cases hd : d = .any
    · subst hd
      simp only [vcast, up, Option.some.injEq] at e
      subst e
      exact ⟨rfl, h⟩
    · simp only [has, Bool.and_eq_true] at h
      have e2 : vcast .any d (.tag g w) = if g = grd d then vcast g d w else none := by cases d <;> first | rfl | exact absurd rfl hd
      rw [e2] at e
      by_cases q : g = grd d
      · rw [if_pos q] at e
        exact cast_keeps g d w v' h.2 (by rw [q]; exact alike_grd d) e
      · rw [if_neg q] at e; cases e
  | .int, d, .int i, v', h, ha, e => by
    cases d <;> simp [alike] at ha <;> simp [vcast, up] at e <;> subst e <;> simp [sh, has, isGr]
  | .bool, d, .bool i, v', h, ha, e => by
    cases d <;> simp [alike] at ha <;> simp [vcast, up] at e <;> subst e <;> simp [sh, has, isGr]
  | .pair a b, d, .pair x y, v', h, ha, e => by
    cases d <;> simp [alike] at ha
    · simp only [vcast, Option.some.injEq] at e
      subst e
      exact ⟨sh_up _ _, has_up _ _ h⟩
    · rename_i c f
      simp only [has, Bool.and_eq_true] at h
      simp only [vcast, Option.bind_eq_some_iff, Option.map_eq_some_iff] at e
      obtain ⟨x', e1, y', e2, rfl⟩ := e
      obtain ⟨s1, t1⟩ := cast_keeps a c x x' h.1 ha.1 e1
      obtain ⟨s2, t2⟩ := cast_keeps b f y y' h.2 ha.2 e2
      simp [sh, has, s1, s2, t1, t2]
  | .list a, d, .items l, v', h, ha, e => by
    cases d <;> simp [alike] at ha
    · simp only [vcast, Option.some.injEq] at e
      subst e
      exact ⟨sh_up _ _, has_up _ _ h⟩
    · rename_i c
      simp only [has] at h
      simp only [vcast, Option.map_eq_some_iff] at e
      obtain ⟨l', e1, rfl⟩ := e
      obtain ⟨s1, t1⟩ := castL_keeps a c l l' h ha e1
      simp [sh, has, s1, t1]
  | .any, _, .int _, _, h, _, _ | .any, _, .bool _, _, h, _, _ | .any, _, .pair _ _, _, h, _, _ | .any, _, .items _, _, h, _, _ => by simp [has] at h
  | .int, _, .bool _, _, h, _, _ | .int, _, .pair _ _, _, h, _, _ | .int, _, .items _, _, h, _, _ | .int, _, .tag _ _, _, h, _, _ => by simp [has] at h
  | .bool, _, .int _, _, h, _, _ | .bool, _, .pair _ _, _, h, _, _ | .bool, _, .items _, _, h, _, _ | .bool, _, .tag _ _, _, h, _, _ => by simp [has] at h
  | .pair _ _, _, .int _, _, h, _, _ | .pair _ _, _, .bool _, _, h, _, _ | .pair _ _, _, .items _, _, h, _, _ | .pair _ _, _, .tag _ _, _, h, _, _ => by simp [has] at h
  | .list _, _, .int _, _, h, _, _ | .list _, _, .bool _, _, h, _, _ | .list _, _, .pair _ _, _, h, _, _ | .list _, _, .tag _ _, _, h, _, _ => by simp [has] at h
  | .fn _ _, _, v, _, h, _, _ => by cases v <;> simp [has] at h
theorem castL_keeps : ∀ (k d : Ty) (l l' : Vs), hasL k l = true → alike k d = true → vcastL k d l = some l' → shL l' = shL l ∧ hasL d l' = true
  | _, _, .nil, l', _, _, e => by simp only [vcastL, Option.some.injEq] at e; subst e; simp [shL, hasL]
  | k, d, .cons v l, l', h, ha, e => by
    simp only [hasL, Bool.and_eq_true] at h
    simp only [vcastL, Option.bind_eq_some_iff, Option.map_eq_some_iff] at e
    obtain ⟨v', e1, l2, e2, rfl⟩ := e
    obtain ⟨s1, t1⟩ := cast_keeps k d v v' h.1 ha e1
    obtain ⟨s2, t2⟩ := castL_keeps k d l l2 h.2 ha e2
    simp [shL, hasL, s1, s2, t1, t2]
end
mutual
theorem cast_back : ∀ (k d : Ty) (v : Va), has k v = true → finer k d = true → ∃ v', vcast k d v = some v' ∧ vcast d k v' = some v
  | .any, d, v, h, hf => by
    cases d <;> simp [finer] at hf
    exact ⟨v, by simp [vcast, up], by simp [vcast, up]⟩
  | .int, d, .int i, h, hf => by
    cases d <;> simp [finer] at hf
    · exact ⟨_, rfl, by simp [up, vcast, grd]⟩
    · exact ⟨_, rfl, rfl⟩
  | .bool, d, .bool i, h, hf => by
    cases d <;> simp [finer] at hf
    · exact ⟨_, rfl, by simp [up, vcast, grd]⟩
    · exact ⟨_, rfl, rfl⟩
  | .pair a b, d, .pair x y, h, hf => by
    cases d <;> simp [finer] at hf
    · refine ⟨up (.pair a b) (.pair x y), by simp [vcast], ?_⟩
      rw [cast_up _ _ _ h (alike_refl _), cast_self _ _ h]
    · rename_i c e
      simp only [has, Bool.and_eq_true] at h
      obtain ⟨x', e1, e2⟩ := cast_back a c x h.1 hf.1
      obtain ⟨y', e3, e4⟩ := cast_back b e y h.2 hf.2
      exact ⟨.pair x' y', by simp [vcast, e1, e3], by simp [vcast, e2, e4]⟩
  | .list a, d, .items l, h, hf => by
    cases d <;> simp [finer] at hf
    · refine ⟨up (.list a) (.items l), by simp [vcast], ?_⟩
      rw [cast_up _ _ _ h (alike_refl _), cast_self _ _ h]
    · rename_i c
      simp only [has] at h
      obtain ⟨l', e1, e2⟩ := castL_back a c l h hf
      exact ⟨.items l', by simp [vcast, e1], by simp [vcast, e2]⟩
  | .int, _, .bool _, h, _ | .int, _, .pair _ _, h, _ | .int, _, .items _, h, _ | .int, _, .tag _ _, h, _ => by simp [has] at h
  | .bool, _, .int _, h, _ | .bool, _, .pair _ _, h, _ | .bool, _, .items _, h, _ | .bool, _, .tag _ _, h, _ => by simp [has] at h
  | .pair _ _, _, .int _, h, _ | .pair _ _, _, .bool _, h, _ | .pair _ _, _, .items _, h, _ | .pair _ _, _, .tag _ _, h, _ => by simp [has] at h
  | .list _, _, .int _, h, _ | .list _, _, .bool _, h, _ | .list _, _, .pair _ _, h, _ | .list _, _, .tag _ _, h, _ => by simp [has] at h
  | .fn _ _, _, v, h, _ => by cases v <;> simp [has] at h
theorem castL_back : ∀ (k d : Ty) (l : Vs), hasL k l = true → finer k d = true → ∃ l', vcastL k d l = some l' ∧ vcastL d k l' = some l
  | _, _, .nil, _, _ => ⟨.nil, rfl, rfl⟩
  | k, d, .cons v l, h, hf => by
    simp only [hasL, Bool.and_eq_true] at h
    obtain ⟨v', e1, e2⟩ := cast_back k d v h.1 hf
    obtain ⟨l', e3, e4⟩ := castL_back k d l h.2 hf
    exact ⟨.cons v' l', by simp [vcastL, e1, e3], by simp [vcastL, e2, e4]⟩
end
end BK

/-! BkZ2: such values as data -/
namespace BK
open PySem PySem.Spec PyProof.Rows L2 RZ
@[simp] theorem w_any_tag : (("any" : Str) == ("tag" : Str)) = false := by decide +kernel
@[simp] theorem w_any_items : (("any" : Str) == ("items" : Str)) = false := by decide +kernel
@[simp] theorem w_any_closure : (("any" : Str) == ("closure" : Str)) = false := by decide +kernel
@[simp] theorem w_any_wrap : (("any" : Str) == ("wrap" : Str)) = false := by decide +kernel
@[simp] theorem w_any_ok : (("any" : Str) == ("ok" : Str)) = false := by decide +kernel
@[simp] theorem w_any_blame : (("any" : Str) == ("blame" : Str)) = false := by decide +kernel
@[simp] theorem w_int_tag : (("int" : Str) == ("tag" : Str)) = false := by decide +kernel
@[simp] theorem w_int_items : (("int" : Str) == ("items" : Str)) = false := by decide +kernel
@[simp] theorem w_int_closure : (("int" : Str) == ("closure" : Str)) = false := by decide +kernel
@[simp] theorem w_int_wrap : (("int" : Str) == ("wrap" : Str)) = false := by decide +kernel
@[simp] theorem w_int_ok : (("int" : Str) == ("ok" : Str)) = false := by decide +kernel
@[simp] theorem w_int_blame : (("int" : Str) == ("blame" : Str)) = false := by decide +kernel
@[simp] theorem w_bool_tag : (("bool" : Str) == ("tag" : Str)) = false := by decide +kernel
@[simp] theorem w_bool_items : (("bool" : Str) == ("items" : Str)) = false := by decide +kernel
@[simp] theorem w_bool_closure : (("bool" : Str) == ("closure" : Str)) = false := by decide +kernel
@[simp] theorem w_bool_wrap : (("bool" : Str) == ("wrap" : Str)) = false := by decide +kernel
@[simp] theorem w_bool_ok : (("bool" : Str) == ("ok" : Str)) = false := by decide +kernel
@[simp] theorem w_bool_blame : (("bool" : Str) == ("blame" : Str)) = false := by decide +kernel
@[simp] theorem w_fn_tag : (("fn" : Str) == ("tag" : Str)) = false := by decide +kernel
@[simp] theorem w_fn_items : (("fn" : Str) == ("items" : Str)) = false := by decide +kernel
@[simp] theorem w_fn_closure : (("fn" : Str) == ("closure" : Str)) = false := by decide +kernel
@[simp] theorem w_fn_wrap : (("fn" : Str) == ("wrap" : Str)) = false := by decide +kernel
@[simp] theorem w_fn_ok : (("fn" : Str) == ("ok" : Str)) = false := by decide +kernel
@[simp] theorem w_fn_blame : (("fn" : Str) == ("blame" : Str)) = false := by decide +kernel
@[simp] theorem w_pair_tag : (("pair" : Str) == ("tag" : Str)) = false := by decide +kernel
@[simp] theorem w_pair_items : (("pair" : Str) == ("items" : Str)) = false := by decide +kernel
@[simp] theorem w_pair_closure : (("pair" : Str) == ("closure" : Str)) = false := by decide +kernel
@[simp] theorem w_pair_wrap : (("pair" : Str) == ("wrap" : Str)) = false := by decide +kernel
@[simp] theorem w_pair_ok : (("pair" : Str) == ("ok" : Str)) = false := by decide +kernel
@[simp] theorem w_pair_blame : (("pair" : Str) == ("blame" : Str)) = false := by decide +kernel
@[simp] theorem w_list_tag : (("list" : Str) == ("tag" : Str)) = false := by decide +kernel
@[simp] theorem w_list_items : (("list" : Str) == ("items" : Str)) = false := by decide +kernel
@[simp] theorem w_list_closure : (("list" : Str) == ("closure" : Str)) = false := by decide +kernel
@[simp] theorem w_list_wrap : (("list" : Str) == ("wrap" : Str)) = false := by decide +kernel
@[simp] theorem w_list_ok : (("list" : Str) == ("ok" : Str)) = false := by decide +kernel
@[simp] theorem w_list_blame : (("list" : Str) == ("blame" : Str)) = false := by decide +kernel
@[simp] theorem w_tag_any : (("tag" : Str) == ("any" : Str)) = false := by decide +kernel
@[simp] theorem w_tag_int : (("tag" : Str) == ("int" : Str)) = false := by decide +kernel
@[simp] theorem w_tag_bool : (("tag" : Str) == ("bool" : Str)) = false := by decide +kernel
@[simp] theorem w_tag_fn : (("tag" : Str) == ("fn" : Str)) = false := by decide +kernel
@[simp] theorem w_tag_pair : (("tag" : Str) == ("pair" : Str)) = false := by decide +kernel
@[simp] theorem w_tag_list : (("tag" : Str) == ("list" : Str)) = false := by decide +kernel
@[simp] theorem w_tag_tag : (("tag" : Str) == ("tag" : Str)) = true := by decide +kernel
@[simp] theorem w_tag_items : (("tag" : Str) == ("items" : Str)) = false := by decide +kernel
@[simp] theorem w_tag_closure : (("tag" : Str) == ("closure" : Str)) = false := by decide +kernel
@[simp] theorem w_tag_wrap : (("tag" : Str) == ("wrap" : Str)) = false := by decide +kernel
@[simp] theorem w_tag_ok : (("tag" : Str) == ("ok" : Str)) = false := by decide +kernel
@[simp] theorem w_tag_blame : (("tag" : Str) == ("blame" : Str)) = false := by decide +kernel
@[simp] theorem w_items_any : (("items" : Str) == ("any" : Str)) = false := by decide +kernel
@[simp] theorem w_items_int : (("items" : Str) == ("int" : Str)) = false := by decide +kernel
@[simp] theorem w_items_bool : (("items" : Str) == ("bool" : Str)) = false := by decide +kernel
@[simp] theorem w_items_fn : (("items" : Str) == ("fn" : Str)) = false := by decide +kernel
@[simp] theorem w_items_pair : (("items" : Str) == ("pair" : Str)) = false := by decide +kernel
@[simp] theorem w_items_list : (("items" : Str) == ("list" : Str)) = false := by decide +kernel
@[simp] theorem w_items_tag : (("items" : Str) == ("tag" : Str)) = false := by decide +kernel
@[simp] theorem w_items_items : (("items" : Str) == ("items" : Str)) = true := by decide +kernel
@[simp] theorem w_items_closure : (("items" : Str) == ("closure" : Str)) = false := by decide +kernel
@[simp] theorem w_items_wrap : (("items" : Str) == ("wrap" : Str)) = false := by decide +kernel
@[simp] theorem w_items_ok : (("items" : Str) == ("ok" : Str)) = false := by decide +kernel
@[simp] theorem w_items_blame : (("items" : Str) == ("blame" : Str)) = false := by decide +kernel
@[simp] theorem w_closure_any : (("closure" : Str) == ("any" : Str)) = false := by decide +kernel
@[simp] theorem w_closure_int : (("closure" : Str) == ("int" : Str)) = false := by decide +kernel
@[simp] theorem w_closure_bool : (("closure" : Str) == ("bool" : Str)) = false := by decide +kernel
@[simp] theorem w_closure_fn : (("closure" : Str) == ("fn" : Str)) = false := by decide +kernel
@[simp] theorem w_closure_pair : (("closure" : Str) == ("pair" : Str)) = false := by decide +kernel
@[simp] theorem w_closure_list : (("closure" : Str) == ("list" : Str)) = false := by decide +kernel
@[simp] theorem w_closure_tag : (("closure" : Str) == ("tag" : Str)) = false := by decide +kernel
@[simp] theorem w_closure_items : (("closure" : Str) == ("items" : Str)) = false := by decide +kernel
@[simp] theorem w_closure_closure : (("closure" : Str) == ("closure" : Str)) = true := by decide +kernel
@[simp] theorem w_closure_wrap : (("closure" : Str) == ("wrap" : Str)) = false := by decide +kernel
@[simp] theorem w_closure_ok : (("closure" : Str) == ("ok" : Str)) = false := by decide +kernel
@[simp] theorem w_closure_blame : (("closure" : Str) == ("blame" : Str)) = false := by decide +kernel
@[simp] theorem w_wrap_any : (("wrap" : Str) == ("any" : Str)) = false := by decide +kernel
@[simp] theorem w_wrap_int : (("wrap" : Str) == ("int" : Str)) = false := by decide +kernel
@[simp] theorem w_wrap_bool : (("wrap" : Str) == ("bool" : Str)) = false := by decide +kernel
@[simp] theorem w_wrap_fn : (("wrap" : Str) == ("fn" : Str)) = false := by decide +kernel
@[simp] theorem w_wrap_pair : (("wrap" : Str) == ("pair" : Str)) = false := by decide +kernel
@[simp] theorem w_wrap_list : (("wrap" : Str) == ("list" : Str)) = false := by decide +kernel
@[simp] theorem w_wrap_tag : (("wrap" : Str) == ("tag" : Str)) = false := by decide +kernel
@[simp] theorem w_wrap_items : (("wrap" : Str) == ("items" : Str)) = false := by decide +kernel
@[simp] theorem w_wrap_closure : (("wrap" : Str) == ("closure" : Str)) = false := by decide +kernel
@[simp] theorem w_wrap_wrap : (("wrap" : Str) == ("wrap" : Str)) = true := by decide +kernel
@[simp] theorem w_wrap_ok : (("wrap" : Str) == ("ok" : Str)) = false := by decide +kernel
@[simp] theorem w_wrap_blame : (("wrap" : Str) == ("blame" : Str)) = false := by decide +kernel
@[simp] theorem w_ok_any : (("ok" : Str) == ("any" : Str)) = false := by decide +kernel
@[simp] theorem w_ok_int : (("ok" : Str) == ("int" : Str)) = false := by decide +kernel
@[simp] theorem w_ok_bool : (("ok" : Str) == ("bool" : Str)) = false := by decide +kernel
@[simp] theorem w_ok_fn : (("ok" : Str) == ("fn" : Str)) = false := by decide +kernel
@[simp] theorem w_ok_pair : (("ok" : Str) == ("pair" : Str)) = false := by decide +kernel
@[simp] theorem w_ok_list : (("ok" : Str) == ("list" : Str)) = false := by decide +kernel
@[simp] theorem w_ok_tag : (("ok" : Str) == ("tag" : Str)) = false := by decide +kernel
@[simp] theorem w_ok_items : (("ok" : Str) == ("items" : Str)) = false := by decide +kernel
@[simp] theorem w_ok_closure : (("ok" : Str) == ("closure" : Str)) = false := by decide +kernel
@[simp] theorem w_ok_wrap : (("ok" : Str) == ("wrap" : Str)) = false := by decide +kernel
@[simp] theorem w_ok_ok : (("ok" : Str) == ("ok" : Str)) = true := by decide +kernel
@[simp] theorem w_ok_blame : (("ok" : Str) == ("blame" : Str)) = false := by decide +kernel
@[simp] theorem w_blame_any : (("blame" : Str) == ("any" : Str)) = false := by decide +kernel
@[simp] theorem w_blame_int : (("blame" : Str) == ("int" : Str)) = false := by decide +kernel
@[simp] theorem w_blame_bool : (("blame" : Str) == ("bool" : Str)) = false := by decide +kernel
@[simp] theorem w_blame_fn : (("blame" : Str) == ("fn" : Str)) = false := by decide +kernel
@[simp] theorem w_blame_pair : (("blame" : Str) == ("pair" : Str)) = false := by decide +kernel
@[simp] theorem w_blame_list : (("blame" : Str) == ("list" : Str)) = false := by decide +kernel
@[simp] theorem w_blame_tag : (("blame" : Str) == ("tag" : Str)) = false := by decide +kernel
@[simp] theorem w_blame_items : (("blame" : Str) == ("items" : Str)) = false := by decide +kernel
@[simp] theorem w_blame_closure : (("blame" : Str) == ("closure" : Str)) = false := by decide +kernel
@[simp] theorem w_blame_wrap : (("blame" : Str) == ("wrap" : Str)) = false := by decide +kernel
@[simp] theorem w_blame_ok : (("blame" : Str) == ("ok" : Str)) = false := by decide +kernel
@[simp] theorem w_blame_blame : (("blame" : Str) == ("blame" : Str)) = true := by decide +kernel
@[simp] theorem foldV_int {i : Int} : PV.tup [.str "int", .int i] = encV (.int i) := (rfl)
@[simp] theorem foldV_bool {b : Bool} : PV.tup [.str "bool", .bl b] = encV (.bool b) := (rfl)
@[simp] theorem foldV_pair {a b : Va} : PV.tup [.str "pair", encV a, encV b] = encV (.pair a b) := (rfl)
@[simp] theorem foldV_items {l : Vs} : PV.tup [.str "items", .tup (encVs l)] = encV (.items l) := (rfl)
@[simp] theorem foldV_tag {g : Ty} {v : Va} : PV.tup [.str "tag", enc g, encV v] = encV (.tag g v) := (rfl)
@[simp] theorem vx_int0 {i : Int} {st : Sto} : opIx st (encV (.int i)) (.int 0) = some (.str "int") := (rfl)
@[simp] theorem vx_bool0 {b : Bool} {st : Sto} : opIx st (encV (.bool b)) (.int 0) = some (.str "bool") := (rfl)
@[simp] theorem vx_pair0 {a b : Va} {st : Sto} : opIx st (encV (.pair a b)) (.int 0) = some (.str "pair") := (rfl)
@[simp] theorem vx_pair1 {a b : Va} {st : Sto} : opIx st (encV (.pair a b)) (.int 1) = some (encV a) := (rfl)
@[simp] theorem vx_pair2 {a b : Va} {st : Sto} : opIx st (encV (.pair a b)) (.int 2) = some (encV b) := (rfl)
@[simp] theorem vx_items0 {l : Vs} {st : Sto} : opIx st (encV (.items l)) (.int 0) = some (.str "items") := (rfl)
@[simp] theorem vx_items1 {l : Vs} {st : Sto} : opIx st (encV (.items l)) (.int 1) = some (.tup (encVs l)) := (rfl)
@[simp] theorem vx_tag0 {g : Ty} {v : Va} {st : Sto} : opIx st (encV (.tag g v)) (.int 0) = some (.str "tag") := (rfl)
@[simp] theorem vx_tag1 {g : Ty} {v : Va} {st : Sto} : opIx st (encV (.tag g v)) (.int 1) = some (enc g) := (rfl)
@[simp] theorem vx_tag2 {g : Ty} {v : Va} {st : Sto} : opIx st (encV (.tag g v)) (.int 2) = some (encV v) := (rfl)
def okP (v : Va) : PV := .tup [.str "ok", encV v]
def blP (nm : PV) : PV := .tup [.str "blame", nm]
def res (nm : PV) : Option Va → PV
  | some v => okP v
  | none => blP nm
@[simp] theorem foldV_ok {v : Va} : PV.tup [.str "ok", encV v] = okP v := (rfl)
@[simp] theorem foldV_bl {nm : PV} : PV.tup [.str "blame", nm] = blP nm := (rfl)
@[simp] theorem vx_ok0 {v : Va} {st : Sto} : opIx st (okP v) (.int 0) = some (.str "ok") := (rfl)
@[simp] theorem vx_ok1 {v : Va} {st : Sto} : opIx st (okP v) (.int 1) = some (encV v) := (rfl)
@[simp] theorem vx_bl0 {nm : PV} {st : Sto} : opIx st (blP nm) (.int 0) = some (.str "blame") := (rfl)
@[simp] theorem vx_bl1 {nm : PV} {st : Sto} : opIx st (blP nm) (.int 1) = some nm := (rfl)
@[simp] theorem in_words {x : Str} : opIn (.str x) (.tup [.str "closure", .str "wrap"]) = some (.bl (("closure" : Str) == x || ("wrap" : Str) == x)) := by
  unfold opIn
  simp only
  unfold opIn0
  simp only
  rw [if_pos (by unfold inOk; simp [PV.plain, PV.plains, PV.depth, PV.depths])]
  simp [PV.eqv]
def Vs.len : Vs → Nat
  | .nil => 0
  | .cons _ l => l.len + 1
theorem encVs_len : ∀ l : Vs, (encVs l).length = l.len
  | .nil => rfl
  | .cons v l => by simp [encVs, Vs.len, encVs_len l]
mutual
/-- no long lines -/
def slim : Va → Bool
  | .pair a b => slim a && slim b
  | .items l => decide (l.len ≤ 1000) && slimL l
  | .tag _ v => slim v
  | _ => true
def slimL : Vs → Bool
  | .nil => true
  | .cons v l => slim v && slimL l
end
theorem va_pos (v : Va) : 1 ≤ v.dep := by cases v <;> simp [Va.dep]
/-- every item -/
def AllV (p : Va → Prop) : Vs → Prop
  | .nil => True
  | .cons v l => p v ∧ AllV p l
theorem AllV_dep {p : Va → Prop} {D : Nat} (h : ∀ v : Va, v.dep ≤ D → p v) : ∀ l : Vs, l.dep ≤ D → AllV p l
  | .nil, _ => trivial
  | .cons v l, hd => by
    simp only [Vs.dep] at hd
    exact ⟨h v (by omega), AllV_dep h l (by omega)⟩
mutual
theorem eqv_refl : ∀ x : PV, x.plain = true → x.eqv x = true
  | .non, _ => rfl
  | .bl b, _ => by simp [PV.eqv]
  | .int i, _ => by simp [PV.eqv]
  | .str s, _ => by simp [PV.eqv]
  | .tup xs, h => by simp only [PV.plain] at h; simp only [PV.eqv]; exact eqvs_refl xs h
  | .lst xs, h => by simp only [PV.plain] at h; simp only [PV.eqv]; exact eqvs_refl xs h
  | .dct _ _, h | .fn _, h | .ref _, h | .scr _, h | .ty _, h | .cls _, h => by simp [PV.plain] at h
theorem eqvs_refl : ∀ xs : List PV, PV.plains xs = true → PV.eqvs xs xs = true
  | [], _ => rfl
  | x :: xs, h => by
    simp only [PV.plains, Bool.and_eq_true] at h
    simp only [PV.eqvs, eqv_refl x h.1, eqvs_refl xs h.2, Bool.and_self]
end
theorem ne_self (x : PV) (h : x.plain = true) (hd : x.depth ≤ 60) : opNe x x = some (.bl false) := by
  unfold opNe
  rw [if_pos (by unfold eqOk; rw [h]; simp; exact hd), eqv_refl x h]
  rfl
mutual
theorem encV_fair : ∀ v : Va, slim v = true → (encV v).fair = true
  | .int _, _ => rfl
  | .bool _, _ => rfl
  | .pair a b, h => by
    simp only [slim, Bool.and_eq_true] at h
    show PV.fair (.tup [.str "pair", encV a, encV b]) = true
    simp [PV.fair, PV.fairs, encV_fair a h.1, encV_fair b h.2]
  | .items l, h => by
    simp only [slim, Bool.and_eq_true, decide_eq_true_eq] at h
    show PV.fair (.tup [.str "items", .tup (encVs l)]) = true
    simp [PV.fair, PV.fairs, encVs_fair l h.2, encVs_len, h.1]
  | .tag g v, h => by
    simp only [slim] at h
    show PV.fair (.tup [.str "tag", enc g, encV v]) = true
    simp [PV.fair, PV.fairs, encV_fair v h, enc_fair]
theorem encVs_fair : ∀ l : Vs, slimL l = true → PV.fairs (encVs l) = true
  | .nil, _ => rfl
  | .cons v l, h => by
    simp only [slimL, Bool.and_eq_true] at h
    simp [encVs, PV.fairs, encV_fair v h.1, encVs_fair l h.2]
end
mutual
theorem encV_plain : ∀ v : Va, (encV v).plain = true
  | .int _ => rfl
  | .bool _ => rfl
  | .pair a b => by
    show PV.plain (.tup [.str "pair", encV a, encV b]) = true
    simp only [PV.plain, PV.plains, encV_plain a, encV_plain b, Bool.and_self]
  | .items l => by
    show PV.plain (.tup [.str "items", .tup (encVs l)]) = true
    simp only [PV.plain, PV.plains, encVs_plain l, Bool.and_self]
  | .tag g v => by
    show PV.plain (.tup [.str "tag", enc g, encV v]) = true
    simp only [PV.plain, PV.plains, encV_plain v, enc_plain, Bool.and_self]
theorem encVs_plain : ∀ l : Vs, PV.plains (encVs l) = true
  | .nil => rfl
  | .cons v l => by simp only [encVs, PV.plains, encV_plain v, encVs_plain l, Bool.and_self]
end
mutual
theorem sh_depth : ∀ v : Va, (encV (sh v)).depth ≤ 2 * v.dep
  | .int _ => by simp only [sh, Va.dep]; show 1 ≤ 2; omega
  | .bool _ => by simp only [sh, Va.dep]; show 1 ≤ 2; omega
  | .pair a b => by
    have h1 := sh_depth a
    have h2 := sh_depth b
    simp only [sh]
    show PV.depth (.tup [.str "pair", encV (sh a), encV (sh b)]) ≤ _
    simp only [PV.depth, PV.depths, Va.dep]
    omega
  | .items l => by
    have h1 := shL_depth l
    simp only [sh]
    show PV.depth (.tup [.str "items", .tup (encVs (shL l))]) ≤ _
    simp only [PV.depth, PV.depths, Va.dep]
    omega
  | .tag g v => by
    have h1 := sh_depth v
    simp only [sh, Va.dep]
    omega
theorem shL_depth : ∀ l : Vs, PV.depths (encVs (shL l)) ≤ 2 * l.dep
  | .nil => by simp [shL, encVs, PV.depths]
  | .cons v l => by
    have h1 := sh_depth v
    have h2 := shL_depth l
    simp only [shL, encVs, PV.depths, Vs.dep]
    omega
end
theorem gr_dep {g : Ty} (h : isGr g = true) : g.dep ≤ 2 := by
  cases g <;> simp [isGr] at h <;> simp [Ty.dep]
  · rename_i a b
    cases a <;> cases b <;> simp [isGr] at h <;> simp [Ty.dep]
  · rename_i a
    cases a <;> simp [isGr] at h <;> simp [Ty.dep]
mutual
theorem encV_depth : ∀ (k : Ty) (v : Va), has k v = true → (encV v).depth ≤ 2 * v.dep + 1
  | _, .int _, _ => by simp only [Va.dep]; show 1 ≤ 3; omega
  | _, .bool _, _ => by simp only [Va.dep]; show 1 ≤ 3; omega
  | .pair c d, .pair a b, h => by
    simp only [has, Bool.and_eq_true] at h
    have h1 := encV_depth c a h.1
    have h2 := encV_depth d b h.2
    show PV.depth (.tup [.str "pair", encV a, encV b]) ≤ _
    simp only [PV.depth, PV.depths, Va.dep]
    omega
  | .list c, .items l, h => by
    simp only [has] at h
    have h1 := encVs_depth c l h
    show PV.depth (.tup [.str "items", .tup (encVs l)]) ≤ _
    simp only [PV.depth, PV.depths, Va.dep]
    omega
  | .any, .tag g v, h => by
    simp only [has, Bool.and_eq_true] at h
    have h1 := encV_depth g v h.2
    have h2 := gr_dep h.1
    have h3 := va_pos v
    show PV.depth (.tup [.str "tag", enc g, encV v]) ≤ _
    simp only [PV.depth, PV.depths, Va.dep, enc_depth]
    omega
  | .any, .pair _ _, h | .any, .items _, h | .int, .pair _ _, h | .int, .items _, h | .int, .tag _ _, h | .bool, .pair _ _, h | .bool, .items _, h | .bool, .tag _ _, h => by simp [has] at h
  | .pair _ _, .items _, h | .pair _ _, .tag _ _, h | .list _, .pair _ _, h | .list _, .tag _ _, h => by simp [has] at h
  | .fn _ _, .pair _ _, h | .fn _ _, .items _, h | .fn _ _, .tag _ _, h => by simp [has] at h
theorem encVs_depth : ∀ (k : Ty) (l : Vs), hasL k l = true → PV.depths (encVs l) ≤ 2 * l.dep + 1
  | _, .nil, _ => by simp [encVs, PV.depths]
  | k, .cons v l, h => by
    simp only [hasL, Bool.and_eq_true] at h
    have h1 := encV_depth k v h.1
    have h2 := encVs_depth k l h.2
    simp only [encVs, PV.depths, Vs.dep]
    omega
end
mutual
theorem up_dep : ∀ (k : Ty) (v : Va), (up k v).dep ≤ 2 * v.dep ∧ (slim v = true → slim (up k v) = true)
  | .any, v => by simp only [up]; exact ⟨by omega, fun h => h⟩
  | .pair a b, .pair x y => by
    have h1 := up_dep a x
    have h2 := up_dep b y
    simp only [up, Va.dep, slim, Bool.and_eq_true]
    exact ⟨by omega, fun h => ⟨h1.2 h.1, h2.2 h.2⟩⟩
  | .list a, .items l => by
    have h1 := upL_dep a l
    simp only [up, Va.dep, slim, Bool.and_eq_true, decide_eq_true_eq]
    exact ⟨by omega, fun h => ⟨by rw [h1.2.2]; exact h.1, h1.2.1 h.2⟩⟩
  | .int, v => by have := va_pos v; cases v <;> simp only [up, Va.dep, slim] at * <;> exact ⟨by omega, fun h => h⟩
  | .bool, v => by have := va_pos v; cases v <;> simp only [up, Va.dep, slim] at * <;> exact ⟨by omega, fun h => h⟩
  | .fn _ _, v => by have := va_pos v; cases v <;> simp only [up, Va.dep, slim] at * <;> exact ⟨by omega, fun h => h⟩
  | .pair _ _, .int _ | .pair _ _, .bool _ | .pair _ _, .items _ | .pair _ _, .tag _ _ => by simp only [up, Va.dep, slim]; exact ⟨by omega, fun h => h⟩
  | .list _, .int _ | .list _, .bool _ | .list _, .pair _ _ | .list _, .tag _ _ => by simp only [up, Va.dep, slim]; exact ⟨by omega, fun h => h⟩
theorem upL_dep : ∀ (k : Ty) (l : Vs), (upL k l).dep ≤ 2 * l.dep ∧ (slimL l = true → slimL (upL k l) = true) ∧ (upL k l).len = l.len
  | _, .nil => ⟨Nat.le_refl _, fun h => h, rfl⟩
  | k, .cons v l => by
    have h1 := up_dep k v
    have h2 := upL_dep k l
    simp only [upL, Vs.dep, slimL, Vs.len, Bool.and_eq_true]
    exact ⟨by omega, fun h => ⟨h1.2 h.1, h2.2.1 h.2⟩, by rw [h2.2.2]⟩
end
mutual
theorem cast_dep : ∀ (k d : Ty) (v v' : Va), vcast k d v = some v' → v'.dep ≤ 2 * v.dep ∧ (slim v = true → slim v' = true)
  | k, .any, v, v', e => by
    simp only [vcast, Option.some.injEq] at e
    subst e
    exact up_dep k v
  | .any, d, .tag g v, v', e => by
    by_cases hd : d = .any
    · subst hd
      simp only [vcast, Option.some.injEq] at e
      subst e
      exact up_dep .any _
    · have e2 : vcast .any d (.tag g v) = if g = grd d then vcast g d v else none := by cases d <;> first | rfl | exact absurd rfl hd
      rw [e2] at e
      split at e
      · have := cast_dep g d v v' e
        simp only [Va.dep, slim]
        exact ⟨by omega, this.2⟩
      · cases e
  | .pair a b, .pair c d, .pair x y, v', e => by
    simp only [vcast, Option.bind_eq_some_iff, Option.map_eq_some_iff] at e
    obtain ⟨x', e1, y', e2, rfl⟩ := e
    have h1 := cast_dep a c x x' e1
    have h2 := cast_dep b d y y' e2
    simp only [Va.dep, slim, Bool.and_eq_true]
    exact ⟨by omega, fun h => ⟨h1.2 h.1, h2.2 h.2⟩⟩
  | .list a, .list c, .items l, v', e => by
    simp only [vcast, Option.map_eq_some_iff] at e
    obtain ⟨l', e1, rfl⟩ := e
    have h1 := castL_dep a c l l' e1
    simp only [Va.dep, slim, Bool.and_eq_true, decide_eq_true_eq]
    exact ⟨by omega, fun h => ⟨by rw [h1.2.2]; exact h.1, h1.2.1 h.2⟩⟩
  | .int, d, v, v', e => by
    cases d with
    | any =>
      simp only [vcast, Option.some.injEq] at e
      subst e
      exact up_dep .int v
    | int =>
      have e2 : vcast .int .int v = some v := by cases v <;> rfl
      rw [e2] at e
      cases e
      exact ⟨by omega, fun h => h⟩
    | _ => cases v <;> simp [vcast] at e
  | .bool, d, v, v', e => by
    cases d with
    | any =>
      simp only [vcast, Option.some.injEq] at e
      subst e
      exact up_dep .bool v
    | bool =>
      have e2 : vcast .bool .bool v = some v := by cases v <;> rfl
      rw [e2] at e
      cases e
      exact ⟨by omega, fun h => h⟩
    | _ => cases v <;> simp [vcast] at e
  | .any, d, .int _, v', e | .any, d, .bool _, v', e | .any, d, .pair _ _, v', e | .any, d, .items _, v', e => by
    cases d <;> simp [vcast, up] at e <;> subst e <;> exact ⟨by omega, fun h => h⟩
  | .fn a b, d, v, v', e => by
    cases d with
    | any =>
      simp only [vcast, Option.some.injEq] at e
      subst e
      exact up_dep _ v
    | _ => cases v <;> simp [vcast] at e
  | .pair a b, .int, v, v', e | .pair a b, .bool, v, v', e | .pair a b, .fn _ _, v, v', e | .pair a b, .list _, v, v', e => by cases v <;> simp [vcast] at e
  | .list a, .int, v, v', e | .list a, .bool, v, v', e | .list a, .fn _ _, v, v', e | .list a, .pair _ _, v, v', e => by cases v <;> simp [vcast] at e
  | .pair a b, .pair _ _, .int _, v', e | .pair a b, .pair _ _, .bool _, v', e | .pair a b, .pair _ _, .items _, v', e | .pair a b, .pair _ _, .tag _ _, v', e => by simp [vcast] at e
  | .list a, .list _, .int _, v', e | .list a, .list _, .bool _, v', e | .list a, .list _, .pair _ _, v', e | .list a, .list _, .tag _ _, v', e => by simp [vcast] at e
theorem castL_dep : ∀ (k d : Ty) (l l' : Vs), vcastL k d l = some l' → l'.dep ≤ 2 * l.dep ∧ (slimL l = true → slimL l' = true) ∧ l'.len = l.len
  | _, _, .nil, l', e => by
    simp only [vcastL, Option.some.injEq] at e
    subst e
    exact ⟨Nat.le_refl _, fun h => h, rfl⟩
  | k, d, .cons v l, l', e => by
    simp only [vcastL, Option.bind_eq_some_iff, Option.map_eq_some_iff] at e
    obtain ⟨v', e1, l2, e2, rfl⟩ := e
    have h1 := cast_dep k d v v' e1
    have h2 := castL_dep k d l l2 e2
    simp only [Vs.dep, slimL, Vs.len, Bool.and_eq_true]
    exact ⟨by omega, fun h => ⟨h1.2 h.1, h2.2.1 h.2⟩, by rw [h2.2.2]⟩
end
end BK

/-! Lg: defs that laws share (printed by lib.py) -/
namespace BK
open PySem PySem.Spec PyProof.Rows L2 RZ
class Has (T : Tab) (k np : Nat) (fr : Bool) (nl : Nat) (m : (Nat → List PV → Sto → Res PV) → SM) : Prop where
  eq : ∀ (n : Nat) (xs : List PV) (st : Sto), xs.length = np → T.call (n + 1) k xs st = endOf fr (m (T.call n) (xs.map Slot.val ++ List.replicate (nl - xs.length) Slot.no) st)
abbrev i_coercions_fail_behind : Nat := 102
abbrev i_coercions_is_idle : Nat := 103
abbrev i_law_alike : Nat := 108
abbrev i_law_draw : Nat := 109
abbrev i_law_draws : Nat := 110
abbrev i_law_finer : Nat := 111
abbrev i_law_same : Nat := 114
abbrev i_relations_alike : Nat := 118
abbrev i_relations_finer : Nat := 119
abbrev i_relations_join : Nat := 120
abbrev i_relations_meet : Nat := 121
abbrev i_types_ground_of : Nat := 122
abbrev i_values_shown : Nat := 127
abbrev i_law_join : Nat := 129
abbrev i_law_meet : Nat := 130
abbrev i_types_all_types : Nat := 131
abbrev i_law_bare : Nat := 132
abbrev i_threesomes_goes : Nat := 133
abbrev i_threesomes_is_plain_middle : Nat := 135
abbrev i_threesomes_middle_meet : Nat := 140
abbrev i_threesomes_tells : Nat := 141
abbrev i_contracts_contract_of : Nat := 143
abbrev i_contracts_guard_value : Nat := 144
abbrev i_contracts_tighter : Nat := 145
abbrev i_law_plain : Nat := 112
abbrev i_law_type : Nat := 115
abbrev i_law_vaguer : Nat := 116
abbrev i_law_value : Nat := 117
abbrev i_threesomes_is_finest : Nat := 134
abbrev i_threesomes_is_triple : Nat := 136
abbrev i_threesomes_joined : Nat := 137
abbrev i_threesomes_least_middle : Nat := 139
abbrev i_threesomes_triple : Nat := 142
abbrev i_coercions_middle_of : Nat := 104
abbrev i_coercions_middles : Nat := 105
abbrev i_coercions_of_cast : Nat := 106
abbrev i_coercions_together : Nat := 107
abbrev i_law_plain_chain : Nat := 113
abbrev i_values_cast_items : Nat := 123
abbrev i_values_cast_pair : Nat := 124
abbrev i_values_cast_value : Nat := 125
abbrev i_values_tagged : Nat := 128
abbrev i_threesomes_joined_all : Nat := 138
abbrev i_coercions_bend : Nat := 100
abbrev i_coercions_bend_middle : Nat := 101
def c_coercions_fail_behind (ix : Nat → Nat) (call : Nat → List PV → Sto → Res PV) : SM := (sSeq (sIf (bAnd (bVal (mBin opIsNot (mBinS opIx (mVar 0) (mC (.int 3))) (mC .non))) (bAnd (bVal (mBin opIsNot (mBinS opIx (mVar 1) (mC (.int 1))) (mC .non))) (bVal (mBin opNe (mBinS opIx (mVar 0) (mC (.int 3))) (mBinS opIx (mBinS opIx (mVar 1) (mC (.int 1))) (mC (.int 0))))))) (sSeq (sRet (mTup (aCons (mC (.str "fail")) (aCons (mBinS opIx (mVar 0) (mC (.int 1))) (aCons (mBinS opIx (mBinS opIx (mVar 1) (mC (.int 1))) (mC (.int 1))) aNil))))) sNil) sNil) (sSeq (sRet (mTup (aCons (mC (.str "fail")) (aCons (mBinS opIx (mVar 0) (mC (.int 1))) (aCons (mBinS opIx (mVar 1) (mC (.int 2))) aNil))))) sNil))
class H_coercions_fail_behind (T : Tab) (ix : Nat → Nat) : Prop where
  h : Has T (ix i_coercions_fail_behind) 2 false 2 (c_coercions_fail_behind ix)
theorem r_coercions_fail_behind {T : Tab} {ix : Nat → Nat} [h : H_coercions_fail_behind T ix] (n : Nat) (a0 a1 : PV) (st : Sto) : T.call (n + 1) (ix i_coercions_fail_behind) [a0, a1] st = endOf false (c_coercions_fail_behind ix (T.call n) [.val a0, .val a1] st) := h.h.eq n [a0, a1] st rfl
def c_coercions_is_idle (ix : Nat → Nat) (call : Nat → List PV → Sto → Res PV) : SM := (sSeq (sIf (bVal (mBin opEq (mVar 0) (mC (.tup [(.str "any")])))) (sSeq (sRet (mC (.bl true))) sNil) sNil) (sSeq (sIf (bOr (bVal (mBin opEq (mBinS opIx (mVar 0) (mC (.int 0))) (mC (.str "fail")))) (bOr (bVal (mBin opIsNot (mBinS opIx (mVar 0) (mC (.int 1))) (mC .non))) (bVal (mBin opIsNot (mBinS opIx (mVar 0) (mC (.int 3))) (mC .non))))) (sSeq (sRet (mC (.bl false))) sNil) sNil) (sSeq (sRet (mBi (Bf.f .all) (aCons (mFz (aLc (aSeq (mSl (mBinS opIx (mVar 0) (mC (.int 2))) (oInt (mC (.int 1))) oNo)) [1] (gNm 1) bYes (mCall (call (ix i_coercions_is_idle)) (aCons (mVar 1) aNil) []))) aNil))) sNil)))
class H_coercions_is_idle (T : Tab) (ix : Nat → Nat) : Prop where
  h : Has T (ix i_coercions_is_idle) 1 false 2 (c_coercions_is_idle ix)
theorem r_coercions_is_idle {T : Tab} {ix : Nat → Nat} [h : H_coercions_is_idle T ix] (n : Nat) (a0 : PV) (st : Sto) : T.call (n + 1) (ix i_coercions_is_idle) [a0] st = endOf false (c_coercions_is_idle ix (T.call n) [.val a0, .no] st) := h.h.eq n [a0] st rfl
def c_law_alike (ix : Nat → Nat) (call : Nat → List PV → Sto → Res PV) : SM := (sSeq (sIf (bVal (mBin opIn (mTup (aCons (mC (.str "any")) aNil)) (mFz (aCons (mVar 0) (aCons (mVar 1) aNil))))) (sSeq (sRet (mC (.bl true))) sNil) sNil) (sSeq (sRet (mAndV (mBin opEq (mBinS opIx (mVar 0) (mC (.int 0))) (mBinS opIx (mVar 1) (mC (.int 0)))) (mBin opEq (mBi (Bf.f .len) (aCons (mFz (aLc (aRange2 (aCons (mC (.int 1)) (aCons (mBi (Bf.f .len) (aCons (mVar 0) aNil)) aNil))) [2] (gNm 2) (bNot (bVal (mCall (call (ix i_law_alike)) (aCons (mBinS opIx (mVar 0) (mVar 2)) (aCons (mBinS opIx (mVar 1) (mVar 2)) aNil)) []))) (mVar 2))) aNil)) (mC (.int 0))))) sNil))
class H_law_alike (T : Tab) (ix : Nat → Nat) : Prop where
  h : Has T (ix i_law_alike) 2 false 3 (c_law_alike ix)
theorem r_law_alike {T : Tab} {ix : Nat → Nat} [h : H_law_alike T ix] (n : Nat) (a0 a1 : PV) (st : Sto) : T.call (n + 1) (ix i_law_alike) [a0, a1] st = endOf false (c_law_alike ix (T.call n) [.val a0, .val a1, .no] st) := h.h.eq n [a0, a1] st rfl
def c_law_draw (ix : Nat → Nat) (call : Nat → List PV → Sto → Res PV) : SM := (sSeq (sIf (bAnd (bVal (mBin opEq (mBinS opIx (mVar 0) (mC (.int 2))) (mC (.int 0)))) (bVal (mBin opLt (mBinS opIx (mVar 0) (mC (.int 1))) (mBi (Bf.f .len) (aCons (mBinS opIx (mVar 0) (mC (.int 0))) aNil))))) (sSeq (sSet 2 (mBinS opIx (mBinS opIx (mVar 0) (mC (.int 0))) (mBinS opIx (mVar 0) (mC (.int 1))))) (sSeq (sPut (mVar 0) (mC (.int 1)) (mBin opAdd (mBinS opIx (mVar 0) (mC (.int 1))) (mC (.int 1)))) (sSeq (sIf (bVal (mBin opGe (mVar 2) (mBin opPow (mC (.int 10)) (mC (.int 18))))) (sSeq (sPut (mVar 0) (mC (.int 2)) (mVar 2)) sNil) sNil) (sSeq (sPut (mVar 0) (mC (.int 3)) (mBin opMod (mBi (Bf.f .int) (aCons (mBin opAdd (mBin opAdd (mBin opMul (mBinS opIx (mVar 0) (mC (.int 3))) (mC (.int 48271))) (mVar 2)) (mC (.int 13))) aNil)) (mC (.int 2147483647)))) sNil)))) sNil) (sSeq (sIf (bVal (mBin opGt (mBinS opIx (mVar 0) (mC (.int 2))) (mC (.int 0)))) (sSeq (sSet 3 (mBin opMod (mBi (Bf.f .int) (aCons (mBinS opIx (mVar 0) (mC (.int 2))) aNil)) (mVar 1))) (sSeq (sPut (mVar 0) (mC (.int 2)) (mBin opDiv (mBinS opIx (mVar 0) (mC (.int 2))) (mVar 1))) (sSeq (sRet (mVar 3)) sNil))) sNil) (sSeq (sPut (mVar 0) (mC (.int 3)) (mBin opMod (mBi (Bf.f .int) (aCons (mBin opAdd (mBin opMul (mBinS opIx (mVar 0) (mC (.int 3))) (mC (.int 69621))) (mC (.int 7))) aNil)) (mC (.int 2147483629)))) (sSeq (sRet (mBin opMod (mBi (Bf.f .int) (aCons (mBin opDiv (mBinS opIx (mVar 0) (mC (.int 3))) (mC (.int 11))) aNil)) (mVar 1))) sNil))))
class H_law_draw (T : Tab) (ix : Nat → Nat) : Prop where
  h : Has T (ix i_law_draw) 2 false 4 (c_law_draw ix)
theorem r_law_draw {T : Tab} {ix : Nat → Nat} [h : H_law_draw T ix] (n : Nat) (a0 a1 : PV) (st : Sto) : T.call (n + 1) (ix i_law_draw) [a0, a1] st = endOf false (c_law_draw ix (T.call n) [.val a0, .val a1, .no, .no] st) := h.h.eq n [a0, a1] st rfl
def c_law_draws (ix : Nat → Nat) (call : Nat → List PV → Sto → Res PV) : SM := (sSeq (sRetL (aCons (mFz (aList (aCons (mVar 0) aNil))) (aCons (mC (.int 0)) (aCons (mC (.int 0)) (aCons (mC (.int 1)) aNil))))) sNil)
class H_law_draws (T : Tab) (ix : Nat → Nat) : Prop where
  h : Has T (ix i_law_draws) 1 true 1 (c_law_draws ix)
theorem r_law_draws {T : Tab} {ix : Nat → Nat} [h : H_law_draws T ix] (n : Nat) (a0 : PV) (st : Sto) : T.call (n + 1) (ix i_law_draws) [a0] st = endOf true (c_law_draws ix (T.call n) [.val a0] st) := h.h.eq n [a0] st rfl
def c_law_finer (ix : Nat → Nat) (call : Nat → List PV → Sto → Res PV) : SM := (sSeq (sIf (bVal (mBin opEq (mVar 1) (mTup (aCons (mC (.str "any")) aNil)))) (sSeq (sRet (mC (.bl true))) sNil) sNil) (sSeq (sRet (mAndV (mBin opEq (mBinS opIx (mVar 0) (mC (.int 0))) (mBinS opIx (mVar 1) (mC (.int 0)))) (mBin opEq (mBi (Bf.f .len) (aCons (mFz (aLc (aRange2 (aCons (mC (.int 1)) (aCons (mBi (Bf.f .len) (aCons (mVar 0) aNil)) aNil))) [2] (gNm 2) (bNot (bVal (mCall (call (ix i_law_finer)) (aCons (mBinS opIx (mVar 0) (mVar 2)) (aCons (mBinS opIx (mVar 1) (mVar 2)) aNil)) []))) (mVar 2))) aNil)) (mC (.int 0))))) sNil))
class H_law_finer (T : Tab) (ix : Nat → Nat) : Prop where
  h : Has T (ix i_law_finer) 2 false 3 (c_law_finer ix)
theorem r_law_finer {T : Tab} {ix : Nat → Nat} [h : H_law_finer T ix] (n : Nat) (a0 a1 : PV) (st : Sto) : T.call (n + 1) (ix i_law_finer) [a0, a1] st = endOf false (c_law_finer ix (T.call n) [.val a0, .val a1, .no] st) := h.h.eq n [a0, a1] st rfl
def c_law_same (ix : Nat → Nat) (call : Nat → List PV → Sto → Res PV) : SM := (sSeq (sIf (bOr (bVal (mBi (Bf.f .isi) (aCons (mVar 1) (aCons (mC (.ty "tuple")) aNil)))) (bVal (mBi (Bf.f .isi) (aCons (mVar 1) (aCons (mC (.ty "list")) aNil))))) (sSeq (sIf (bOr (bVal (mBin opNe (mBi (Bf.f .isi) (aCons (mVar 1) (aCons (mC (.ty "tuple")) aNil))) (mBi (Bf.f .isi) (aCons (mVar 0) (aCons (mC (.ty "tuple")) aNil))))) (bVal (mBin opNe (mBi (Bf.f .isi) (aCons (mVar 1) (aCons (mC (.ty "list")) aNil))) (mBi (Bf.f .isi) (aCons (mVar 0) (aCons (mC (.ty "list")) aNil)))))) (sSeq (sRet (mC (.bl false))) sNil) sNil) (sSeq (sIf (bVal (mBin opNe (mBi (Bf.f .len) (aCons (mVar 0) aNil)) (mBi (Bf.f .len) (aCons (mVar 1) aNil)))) (sSeq (sRet (mC (.bl false))) sNil) sNil) (sSeq (sRet (mBin opEq (mBi (Bf.f .len) (aCons (mFz (aLc (aRange1 (aCons (mBi (Bf.f .len) (aCons (mVar 1) aNil)) aNil)) [2] (gNm 2) (bNot (bVal (mCall (call (ix i_law_same)) (aCons (mBinS opIx (mVar 0) (mVar 2)) (aCons (mBinS opIx (mVar 1) (mVar 2)) aNil)) []))) (mVar 2))) aNil)) (mC (.int 0)))) sNil))) sNil) (sSeq (sIf (bVal (mBi (Bf.f .isi) (aCons (mVar 1) (aCons (mC (.ty "str")) aNil)))) (sSeq (sRet (mAndV (mBi (Bf.f .isi) (aCons (mVar 0) (aCons (mC (.ty "str")) aNil))) (mBin opEq (mVar 0) (mVar 1)))) sNil) sNil) (sSeq (sIf (bVal (mBin opIs (mVar 1) (mC .non))) (sSeq (sRet (mBin opIs (mVar 0) (mC .non))) sNil) sNil) (sSeq (sIf (bOr (bVal (mBi (Bf.f .isi) (aCons (mVar 1) (aCons (mC (.ty "bool")) aNil)))) (bVal (mBi (Bf.f .isi) (aCons (mVar 0) (aCons (mC (.ty "bool")) aNil))))) (sSeq (sRet (mAndV (mBi (Bf.f .isi) (aCons (mVar 1) (aCons (mC (.ty "bool")) aNil))) (mAndV (mBi (Bf.f .isi) (aCons (mVar 0) (aCons (mC (.ty "bool")) aNil))) (mBin opEq (mVar 0) (mVar 1))))) sNil) sNil) (sSeq (sRet (mAndV (mBi (Bf.f .isi) (aCons (mVar 0) (aCons (mC (.ty "int")) aNil))) (mAndV (mBi (Bf.f .isi) (aCons (mVar 1) (aCons (mC (.ty "int")) aNil))) (mBin opEq (mVar 0) (mVar 1))))) sNil)))))
class H_law_same (T : Tab) (ix : Nat → Nat) : Prop where
  h : Has T (ix i_law_same) 2 false 3 (c_law_same ix)
theorem r_law_same {T : Tab} {ix : Nat → Nat} [h : H_law_same T ix] (n : Nat) (a0 a1 : PV) (st : Sto) : T.call (n + 1) (ix i_law_same) [a0, a1] st = endOf false (c_law_same ix (T.call n) [.val a0, .val a1, .no] st) := h.h.eq n [a0, a1] st rfl
def c_relations_alike (ix : Nat → Nat) (call : Nat → List PV → Sto → Res PV) : SM := (sSeq (sIf (bOr (bVal (mBin opEq (mVar 0) (mC (.tup [(.str "any")])))) (bVal (mBin opEq (mVar 1) (mC (.tup [(.str "any")]))))) (sSeq (sRet (mC (.bl true))) sNil) sNil) (sSeq (sIf (bVal (mBin opNe (mBinS opIx (mVar 0) (mC (.int 0))) (mBinS opIx (mVar 1) (mC (.int 0))))) (sSeq (sRet (mC (.bl false))) sNil) sNil) (sSeq (sRet (mBi (Bf.f .all) (aCons (mFz (aLc (aZipM (aCons (mSl (mVar 0) (oInt (mC (.int 1))) oNo) (aCons (mSl (mVar 1) (oInt (mC (.int 1))) oNo) aNil))) [2, 3] (gTp (gsCons (gNm 2) (gsCons (gNm 3) gsNil))) bYes (mCall (call (ix i_relations_alike)) (aCons (mVar 2) (aCons (mVar 3) aNil)) []))) aNil))) sNil)))
class H_relations_alike (T : Tab) (ix : Nat → Nat) : Prop where
  h : Has T (ix i_relations_alike) 2 false 4 (c_relations_alike ix)
theorem r_relations_alike {T : Tab} {ix : Nat → Nat} [h : H_relations_alike T ix] (n : Nat) (a0 a1 : PV) (st : Sto) : T.call (n + 1) (ix i_relations_alike) [a0, a1] st = endOf false (c_relations_alike ix (T.call n) [.val a0, .val a1, .no, .no] st) := h.h.eq n [a0, a1] st rfl
def c_relations_finer (ix : Nat → Nat) (call : Nat → List PV → Sto → Res PV) : SM := (sSeq (sIf (bVal (mBin opEq (mVar 1) (mC (.tup [(.str "any")])))) (sSeq (sRet (mC (.bl true))) sNil) sNil) (sSeq (sIf (bVal (mBin opNe (mBinS opIx (mVar 0) (mC (.int 0))) (mBinS opIx (mVar 1) (mC (.int 0))))) (sSeq (sRet (mC (.bl false))) sNil) sNil) (sSeq (sRet (mBi (Bf.f .all) (aCons (mFz (aLc (aZipM (aCons (mSl (mVar 0) (oInt (mC (.int 1))) oNo) (aCons (mSl (mVar 1) (oInt (mC (.int 1))) oNo) aNil))) [2, 3] (gTp (gsCons (gNm 2) (gsCons (gNm 3) gsNil))) bYes (mCall (call (ix i_relations_finer)) (aCons (mVar 2) (aCons (mVar 3) aNil)) []))) aNil))) sNil)))
class H_relations_finer (T : Tab) (ix : Nat → Nat) : Prop where
  h : Has T (ix i_relations_finer) 2 false 4 (c_relations_finer ix)
theorem r_relations_finer {T : Tab} {ix : Nat → Nat} [h : H_relations_finer T ix] (n : Nat) (a0 a1 : PV) (st : Sto) : T.call (n + 1) (ix i_relations_finer) [a0, a1] st = endOf false (c_relations_finer ix (T.call n) [.val a0, .val a1, .no, .no] st) := h.h.eq n [a0, a1] st rfl
def c_relations_join (ix : Nat → Nat) (call : Nat → List PV → Sto → Res PV) : SM := (sSeq (sIf (bOr (bVal (mBin opEq (mVar 0) (mC (.tup [(.str "any")])))) (bOr (bVal (mBin opEq (mVar 1) (mC (.tup [(.str "any")])))) (bVal (mBin opNe (mBinS opIx (mVar 0) (mC (.int 0))) (mBinS opIx (mVar 1) (mC (.int 0))))))) (sSeq (sRet (mC (.tup [(.str "any")]))) sNil) sNil) (sSeq (sRet (mBin opAdd (mTup (aCons (mBinS opIx (mVar 0) (mC (.int 0))) aNil)) (mBi (Bf.f .tup) (aCons (mFz (aLc (aZipM (aCons (mSl (mVar 0) (oInt (mC (.int 1))) oNo) (aCons (mSl (mVar 1) (oInt (mC (.int 1))) oNo) aNil))) [2, 3] (gTp (gsCons (gNm 2) (gsCons (gNm 3) gsNil))) bYes (mCall (call (ix i_relations_join)) (aCons (mVar 2) (aCons (mVar 3) aNil)) []))) aNil)))) sNil))
class H_relations_join (T : Tab) (ix : Nat → Nat) : Prop where
  h : Has T (ix i_relations_join) 2 false 4 (c_relations_join ix)
theorem r_relations_join {T : Tab} {ix : Nat → Nat} [h : H_relations_join T ix] (n : Nat) (a0 a1 : PV) (st : Sto) : T.call (n + 1) (ix i_relations_join) [a0, a1] st = endOf false (c_relations_join ix (T.call n) [.val a0, .val a1, .no, .no] st) := h.h.eq n [a0, a1] st rfl
def c_relations_meet (ix : Nat → Nat) (call : Nat → List PV → Sto → Res PV) : SM := (sSeq (sIf (bOr (bVal (mBin opEq (mVar 0) (mC (.tup [(.str "any")])))) (bVal (mBin opEq (mVar 1) (mC (.tup [(.str "any")]))))) (sSeq (sRet (mIf (bVal (mBin opEq (mVar 0) (mC (.tup [(.str "any")])))) (mVar 1) (mVar 0))) sNil) sNil) (sSeq (sIf (bVal (mBin opNe (mBinS opIx (mVar 0) (mC (.int 0))) (mBinS opIx (mVar 1) (mC (.int 0))))) (sSeq (sRet (mC .non)) sNil) sNil) (sSeq (sSet 2 (mFz (aLc (aZipM (aCons (mSl (mVar 0) (oInt (mC (.int 1))) oNo) (aCons (mSl (mVar 1) (oInt (mC (.int 1))) oNo) aNil))) [3, 4] (gTp (gsCons (gNm 3) (gsCons (gNm 4) gsNil))) bYes (mCall (call (ix i_relations_meet)) (aCons (mVar 3) (aCons (mVar 4) aNil)) [])))) (sSeq (sRet (mIf (bVal (mBin opIn (mC .non) (mVar 2))) (mC .non) (mBin opAdd (mTup (aCons (mBinS opIx (mVar 0) (mC (.int 0))) aNil)) (mBi (Bf.f .tup) (aCons (mVar 2) aNil))))) sNil))))
class H_relations_meet (T : Tab) (ix : Nat → Nat) : Prop where
  h : Has T (ix i_relations_meet) 2 false 5 (c_relations_meet ix)
theorem r_relations_meet {T : Tab} {ix : Nat → Nat} [h : H_relations_meet T ix] (n : Nat) (a0 a1 : PV) (st : Sto) : T.call (n + 1) (ix i_relations_meet) [a0, a1] st = endOf false (c_relations_meet ix (T.call n) [.val a0, .val a1, .no, .no, .no] st) := h.h.eq n [a0, a1] st rfl
def c_types_ground_of (ix : Nat → Nat) (call : Nat → List PV → Sto → Res PV) : SM := (sSeq (sRet (mBin opAdd (mTup (aCons (mBinS opIx (mVar 0) (mC (.int 0))) aNil)) (mBin opMul (mTup (aCons (mC (.tup [(.str "any")])) aNil)) (mBin opSub (mBi (Bf.f .len) (aCons (mVar 0) aNil)) (mC (.int 1)))))) sNil)
class H_types_ground_of (T : Tab) (ix : Nat → Nat) : Prop where
  h : Has T (ix i_types_ground_of) 1 false 1 (c_types_ground_of ix)
theorem r_types_ground_of {T : Tab} {ix : Nat → Nat} [h : H_types_ground_of T ix] (n : Nat) (a0 : PV) (st : Sto) : T.call (n + 1) (ix i_types_ground_of) [a0] st = endOf false (c_types_ground_of ix (T.call n) [.val a0] st) := h.h.eq n [a0] st rfl
def c_values_shown (ix : Nat → Nat) (call : Nat → List PV → Sto → Res PV) : SM := (sSeq (sIf (bVal (mBin opEq (mBinS opIx (mVar 0) (mC (.int 0))) (mC (.str "tag")))) (sSeq (sRet (mCall (call (ix i_values_shown)) (aCons (mBinS opIx (mVar 0) (mC (.int 2))) aNil) [])) sNil) sNil) (sSeq (sIf (bVal (mBin opIn (mBinS opIx (mVar 0) (mC (.int 0))) (mTup (aCons (mC (.str "closure")) (aCons (mC (.str "wrap")) aNil))))) (sSeq (sRet (mTup (aCons (mC (.str "fn")) aNil))) sNil) sNil) (sSeq (sIf (bVal (mBin opEq (mBinS opIx (mVar 0) (mC (.int 0))) (mC (.str "pair")))) (sSeq (sRet (mTup (aCons (mC (.str "pair")) (aCons (mCall (call (ix i_values_shown)) (aCons (mBinS opIx (mVar 0) (mC (.int 1))) aNil) []) (aCons (mCall (call (ix i_values_shown)) (aCons (mBinS opIx (mVar 0) (mC (.int 2))) aNil) []) aNil))))) sNil) sNil) (sSeq (sIf (bVal (mBin opEq (mBinS opIx (mVar 0) (mC (.int 0))) (mC (.str "items")))) (sSeq (sRet (mTup (aCons (mC (.str "items")) (aCons (mBi (Bf.f .tup) (aCons (mFz (aLc (aSeq (mBinS opIx (mVar 0) (mC (.int 1)))) [1] (gNm 1) bYes (mCall (call (ix i_values_shown)) (aCons (mVar 1) aNil) []))) aNil)) aNil)))) sNil) sNil) (sSeq (sRet (mVar 0)) sNil)))))
class H_values_shown (T : Tab) (ix : Nat → Nat) : Prop where
  h : Has T (ix i_values_shown) 1 false 2 (c_values_shown ix)
theorem r_values_shown {T : Tab} {ix : Nat → Nat} [h : H_values_shown T ix] (n : Nat) (a0 : PV) (st : Sto) : T.call (n + 1) (ix i_values_shown) [a0] st = endOf false (c_values_shown ix (T.call n) [.val a0, .no] st) := h.h.eq n [a0] st rfl
def c_law_join (ix : Nat → Nat) (call : Nat → List PV → Sto → Res PV) : SM := (sSeq (sIf (bOr (bVal (mBin opIn (mTup (aCons (mC (.str "any")) aNil)) (mFz (aCons (mVar 0) (aCons (mVar 1) aNil))))) (bVal (mBin opNe (mBinS opIx (mVar 0) (mC (.int 0))) (mBinS opIx (mVar 1) (mC (.int 0)))))) (sSeq (sRet (mTup (aCons (mC (.str "any")) aNil))) sNil) sNil) (sSeq (sRet (mBin opAdd (mTup (aCons (mBinS opIx (mVar 0) (mC (.int 0))) aNil)) (mBi (Bf.f .tup) (aCons (mFz (aLc (aRange2 (aCons (mC (.int 1)) (aCons (mBi (Bf.f .len) (aCons (mVar 0) aNil)) aNil))) [2] (gNm 2) bYes (mCall (call (ix i_law_join)) (aCons (mBinS opIx (mVar 0) (mVar 2)) (aCons (mBinS opIx (mVar 1) (mVar 2)) aNil)) []))) aNil)))) sNil))
class H_law_join (T : Tab) (ix : Nat → Nat) : Prop where
  h : Has T (ix i_law_join) 2 false 3 (c_law_join ix)
theorem r_law_join {T : Tab} {ix : Nat → Nat} [h : H_law_join T ix] (n : Nat) (a0 a1 : PV) (st : Sto) : T.call (n + 1) (ix i_law_join) [a0, a1] st = endOf false (c_law_join ix (T.call n) [.val a0, .val a1, .no] st) := h.h.eq n [a0, a1] st rfl
def c_law_meet (ix : Nat → Nat) (call : Nat → List PV → Sto → Res PV) : SM := (sSeq (sIf (bVal (mBin opIn (mTup (aCons (mC (.str "any")) aNil)) (mFz (aCons (mVar 0) (aCons (mVar 1) aNil))))) (sSeq (sRet (mIf (bVal (mBin opEq (mVar 0) (mTup (aCons (mC (.str "any")) aNil)))) (mVar 1) (mVar 0))) sNil) sNil) (sSeq (sIf (bVal (mBin opNe (mBinS opIx (mVar 0) (mC (.int 0))) (mBinS opIx (mVar 1) (mC (.int 0))))) (sSeq (sRet (mC .non)) sNil) sNil) (sSeq (sSet 2 (mFz (aLc (aRange2 (aCons (mC (.int 1)) (aCons (mBi (Bf.f .len) (aCons (mVar 0) aNil)) aNil))) [3] (gNm 3) bYes (mCall (call (ix i_law_meet)) (aCons (mBinS opIx (mVar 0) (mVar 3)) (aCons (mBinS opIx (mVar 1) (mVar 3)) aNil)) [])))) (sSeq (sRet (mIf (bVal (mBin opIn (mC .non) (mVar 2))) (mC .non) (mBin opAdd (mTup (aCons (mBinS opIx (mVar 0) (mC (.int 0))) aNil)) (mBi (Bf.f .tup) (aCons (mVar 2) aNil))))) sNil))))
class H_law_meet (T : Tab) (ix : Nat → Nat) : Prop where
  h : Has T (ix i_law_meet) 2 false 4 (c_law_meet ix)
theorem r_law_meet {T : Tab} {ix : Nat → Nat} [h : H_law_meet T ix] (n : Nat) (a0 a1 : PV) (st : Sto) : T.call (n + 1) (ix i_law_meet) [a0, a1] st = endOf false (c_law_meet ix (T.call n) [.val a0, .val a1, .no, .no] st) := h.h.eq n [a0, a1] st rfl
def c_types_all_types_0 (ix : Nat → Nat) (call : Nat → List PV → Sto → Res PV) : SM := (sSet 2 (mFz (aLc (aSeq (mVar 1)) [5] (gNm 5) bYes (mTup (aCons (mVar 5) aNil)))))
def c_types_all_types_1_0 (ix : Nat → Nat) (call : Nat → List PV → Sto → Res PV) : SM := (sOwn 4 (aLc (aSeq (mVar 1)) [5] (gNm 5) bYes (mTup (aCons (mVar 5) aNil))))
def c_types_all_types_1_1 (ix : Nat → Nat) (call : Nat → List PV → Sto → Res PV) : SM := (sExt 4 (mFz (aLcN (aSeq (mTup (aCons (mC (.str "fn")) (aCons (mC (.str "pair")) aNil)))) [5, 6, 7] (gNm 5) bYes (aNest (aSeq (mVar 2)) [6, 7] (gNm 6) bYes (aNest (aSeq (mVar 2)) [7] (gNm 7) bYes (aOne (mTup (aCons (mVar 5) (aCons (mVar 6) (aCons (mVar 7) aNil))))))))))
def c_types_all_types_1_2 (ix : Nat → Nat) (call : Nat → List PV → Sto → Res PV) : SM := (sSet 2 (mVar 4))
def c_types_all_types_1b (ix : Nat → Nat) (call : Nat → List PV → Sto → Res PV) : SM := (sSeq (c_types_all_types_1_0 ix call) (sSeq (c_types_all_types_1_1 ix call) (sSeq (sFrz 4) (sSeq (c_types_all_types_1_2 ix call) sNil))))
def c_types_all_types_1 (ix : Nat → Nat) (call : Nat → List PV → Sto → Res PV) : SM := (sFor (gNm 3) (aRange1 (aCons (mBin opSub (mVar 0) (mC (.int 1))) aNil)) (c_types_all_types_1b ix call))
def c_types_all_types_2 (ix : Nat → Nat) (call : Nat → List PV → Sto → Res PV) : SM := (sRet (mVar 2))
def c_types_all_types (ix : Nat → Nat) (call : Nat → List PV → Sto → Res PV) : SM := (sSeq (c_types_all_types_0 ix call) (sSeq (c_types_all_types_1 ix call) (sSeq (c_types_all_types_2 ix call) sNil)))
class H_types_all_types (T : Tab) (ix : Nat → Nat) : Prop where
  h : Has T (ix i_types_all_types) 2 false 8 (c_types_all_types ix)
theorem r_types_all_types {T : Tab} {ix : Nat → Nat} [h : H_types_all_types T ix] (n : Nat) (a0 a1 : PV) (st : Sto) : T.call (n + 1) (ix i_types_all_types) [a0, a1] st = endOf false (c_types_all_types ix (T.call n) [.val a0, .val a1, .no, .no, .no, .no, .no, .no] st) := h.h.eq n [a0, a1] st rfl
def c_law_bare (ix : Nat → Nat) (call : Nat → List PV → Sto → Res PV) : SM := (sSeq (sIf (bVal (mBin opEq (mBinS opIx (mVar 0) (mC (.int 0))) (mC (.str "tag")))) (sSeq (sRet (mCall (call (ix i_law_bare)) (aCons (mBinS opIx (mVar 0) (mC (.int 2))) aNil) [])) sNil) sNil) (sSeq (sIf (bVal (mBin opEq (mBinS opIx (mVar 0) (mC (.int 0))) (mC (.str "pair")))) (sSeq (sRet (mTup (aCons (mC (.str "pair")) (aCons (mCall (call (ix i_law_bare)) (aCons (mBinS opIx (mVar 0) (mC (.int 1))) aNil) []) (aCons (mCall (call (ix i_law_bare)) (aCons (mBinS opIx (mVar 0) (mC (.int 2))) aNil) []) aNil))))) sNil) sNil) (sSeq (sRet (mIf (bVal (mBin opEq (mBinS opIx (mVar 0) (mC (.int 0))) (mC (.str "items")))) (mTup (aCons (mC (.str "items")) (aCons (mBi (Bf.f .tup) (aCons (mFz (aLc (aSeq (mBinS opIx (mVar 0) (mC (.int 1)))) [1] (gNm 1) bYes (mCall (call (ix i_law_bare)) (aCons (mVar 1) aNil) []))) aNil)) aNil))) (mVar 0))) sNil)))
class H_law_bare (T : Tab) (ix : Nat → Nat) : Prop where
  h : Has T (ix i_law_bare) 1 false 2 (c_law_bare ix)
theorem r_law_bare {T : Tab} {ix : Nat → Nat} [h : H_law_bare T ix] (n : Nat) (a0 : PV) (st : Sto) : T.call (n + 1) (ix i_law_bare) [a0] st = endOf false (c_law_bare ix (T.call n) [.val a0, .no] st) := h.h.eq n [a0] st rfl
def c_threesomes_goes (ix : Nat → Nat) (call : Nat → List PV → Sto → Res PV) : SM := (sSeq (sIf (bVal (mBin opEq (mVar 1) (mC (.tup [(.str "any")])))) (sSeq (sRet (mC (.bl true))) sNil) sNil) (sSeq (sIf (bOr (bVal (mBin opEq (mVar 1) (mC (.tup [(.str "never")])))) (bVal (mBin opNe (mBinS opIx (mVar 0) (mC (.int 0))) (mDm fGetM (mFzD (dDisp [((mC (.str "list")), (mC (.str "items")))])) (aCons (mBinS opIx (mVar 1) (mC (.int 0))) (aCons (mBinS opIx (mVar 1) (mC (.int 0))) aNil)))))) (sSeq (sRet (mC (.bl false))) sNil) sNil) (sSeq (sIf (bVal (mBin opEq (mBinS opIx (mVar 0) (mC (.int 0))) (mC (.str "pair")))) (sSeq (sRet (mAndV (mCall (call (ix i_threesomes_goes)) (aCons (mBinS opIx (mVar 0) (mC (.int 1))) (aCons (mBinS opIx (mVar 1) (mC (.int 1))) aNil)) []) (mCall (call (ix i_threesomes_goes)) (aCons (mBinS opIx (mVar 0) (mC (.int 2))) (aCons (mBinS opIx (mVar 1) (mC (.int 2))) aNil)) []))) sNil) sNil) (sSeq (sIf (bVal (mBin opEq (mBinS opIx (mVar 0) (mC (.int 0))) (mC (.str "items")))) (sSeq (sRet (mBi (Bf.f .all) (aCons (mFz (aLc (aSeq (mBinS opIx (mVar 0) (mC (.int 1)))) [2] (gNm 2) bYes (mCall (call (ix i_threesomes_goes)) (aCons (mVar 2) (aCons (mBinS opIx (mVar 1) (mC (.int 1))) aNil)) []))) aNil))) sNil) sNil) (sSeq (sRet (mC (.bl true))) sNil)))))
class H_threesomes_goes (T : Tab) (ix : Nat → Nat) : Prop where
  h : Has T (ix i_threesomes_goes) 2 false 3 (c_threesomes_goes ix)
theorem r_threesomes_goes {T : Tab} {ix : Nat → Nat} [h : H_threesomes_goes T ix] (n : Nat) (a0 a1 : PV) (st : Sto) : T.call (n + 1) (ix i_threesomes_goes) [a0, a1] st = endOf false (c_threesomes_goes ix (T.call n) [.val a0, .val a1, .no] st) := h.h.eq n [a0, a1] st rfl
def c_threesomes_is_plain_middle (ix : Nat → Nat) (call : Nat → List PV → Sto → Res PV) : SM := (sSeq (sRet (mAndV (mBin opNe (mVar 0) (mC (.tup [(.str "never")]))) (mBi (Bf.f .all) (aCons (mFz (aLc (aSeq (mSl (mVar 0) (oInt (mC (.int 1))) oNo)) [1] (gNm 1) bYes (mCall (call (ix i_threesomes_is_plain_middle)) (aCons (mVar 1) aNil) []))) aNil)))) sNil)
class H_threesomes_is_plain_middle (T : Tab) (ix : Nat → Nat) : Prop where
  h : Has T (ix i_threesomes_is_plain_middle) 1 false 2 (c_threesomes_is_plain_middle ix)
theorem r_threesomes_is_plain_middle {T : Tab} {ix : Nat → Nat} [h : H_threesomes_is_plain_middle T ix] (n : Nat) (a0 : PV) (st : Sto) : T.call (n + 1) (ix i_threesomes_is_plain_middle) [a0] st = endOf false (c_threesomes_is_plain_middle ix (T.call n) [.val a0, .no] st) := h.h.eq n [a0] st rfl
def c_threesomes_middle_meet (ix : Nat → Nat) (call : Nat → List PV → Sto → Res PV) : SM := (sSeq (sIf (bOr (bVal (mBin opEq (mVar 0) (mC (.tup [(.str "any")])))) (bVal (mBin opEq (mVar 1) (mC (.tup [(.str "any")]))))) (sSeq (sRet (mIf (bVal (mBin opEq (mVar 0) (mC (.tup [(.str "any")])))) (mVar 1) (mVar 0))) sNil) sNil) (sSeq (sIf (bOr (bVal (mBin opEq (mVar 0) (mC (.tup [(.str "never")])))) (bOr (bVal (mBin opEq (mVar 1) (mC (.tup [(.str "never")])))) (bVal (mBin opNe (mBinS opIx (mVar 0) (mC (.int 0))) (mBinS opIx (mVar 1) (mC (.int 0))))))) (sSeq (sRet (mC (.tup [(.str "never")]))) sNil) sNil) (sSeq (sSet 2 (mFz (aLc (aZipM (aCons (mSl (mVar 0) (oInt (mC (.int 1))) oNo) (aCons (mSl (mVar 1) (oInt (mC (.int 1))) oNo) aNil))) [3, 4] (gTp (gsCons (gNm 3) (gsCons (gNm 4) gsNil))) bYes (mCall (call (ix i_threesomes_middle_meet)) (aCons (mVar 3) (aCons (mVar 4) aNil)) [])))) (sSeq (sIf (bAnd (bVal (mBin opEq (mBinS opIx (mVar 0) (mC (.int 0))) (mC (.str "pair")))) (bVal (mBin opIn (mC (.tup [(.str "never")])) (mVar 2)))) (sSeq (sRet (mC (.tup [(.str "never")]))) sNil) sNil) (sSeq (sRet (mBin opAdd (mTup (aCons (mBinS opIx (mVar 0) (mC (.int 0))) aNil)) (mBi (Bf.f .tup) (aCons (mVar 2) aNil)))) sNil)))))
class H_threesomes_middle_meet (T : Tab) (ix : Nat → Nat) : Prop where
  h : Has T (ix i_threesomes_middle_meet) 2 false 5 (c_threesomes_middle_meet ix)
theorem r_threesomes_middle_meet {T : Tab} {ix : Nat → Nat} [h : H_threesomes_middle_meet T ix] (n : Nat) (a0 a1 : PV) (st : Sto) : T.call (n + 1) (ix i_threesomes_middle_meet) [a0, a1] st = endOf false (c_threesomes_middle_meet ix (T.call n) [.val a0, .val a1, .no, .no, .no] st) := h.h.eq n [a0, a1] st rfl
def c_threesomes_tells (ix : Nat → Nat) (call : Nat → List PV → Sto → Res PV) : SM := (sSeq (sIf (bOr (bVal (mBin opEq (mVar 0) (mC (.tup [(.str "never")])))) (bVal (mBin opEq (mVar 1) (mC (.tup [(.str "any")]))))) (sSeq (sRet (mC (.bl true))) sNil) sNil) (sSeq (sIf (bVal (mBin opNe (mBinS opIx (mVar 0) (mC (.int 0))) (mBinS opIx (mVar 1) (mC (.int 0))))) (sSeq (sRet (mC (.bl false))) sNil) sNil) (sSeq (sRet (mBi (Bf.f .all) (aCons (mFz (aLc (aZipM (aCons (mSl (mVar 0) (oInt (mC (.int 1))) oNo) (aCons (mSl (mVar 1) (oInt (mC (.int 1))) oNo) aNil))) [2, 3] (gTp (gsCons (gNm 2) (gsCons (gNm 3) gsNil))) bYes (mCall (call (ix i_threesomes_tells)) (aCons (mVar 2) (aCons (mVar 3) aNil)) []))) aNil))) sNil)))
class H_threesomes_tells (T : Tab) (ix : Nat → Nat) : Prop where
  h : Has T (ix i_threesomes_tells) 2 false 4 (c_threesomes_tells ix)
theorem r_threesomes_tells {T : Tab} {ix : Nat → Nat} [h : H_threesomes_tells T ix] (n : Nat) (a0 a1 : PV) (st : Sto) : T.call (n + 1) (ix i_threesomes_tells) [a0, a1] st = endOf false (c_threesomes_tells ix (T.call n) [.val a0, .val a1, .no, .no] st) := h.h.eq n [a0, a1] st rfl
def c_contracts_contract_of (ix : Nat → Nat) (call : Nat → List PV → Sto → Res PV) : SM := (sSeq (sIf (bVal (mBin opEq (mVar 0) (mC (.tup [(.str "any")])))) (sSeq (sRet (mTup (aCons (mC (.str "all")) aNil))) sNil) sNil) (sSeq (sIf (bVal (mBin opEq (mBi (Bf.f .len) (aCons (mVar 0) aNil)) (mC (.int 1)))) (sSeq (sRet (mTup (aCons (mC (.str "is")) (aCons (mBinS opIx (mVar 0) (mC (.int 0))) aNil)))) sNil) sNil) (sSeq (sSet 1 (mBinS opIx (mFzD (dDisp [((mC (.str "fn")), (mC (.str "to"))), ((mC (.str "pair")), (mC (.str "both"))), ((mC (.str "list")), (mC (.str "each")))])) (mBinS opIx (mVar 0) (mC (.int 0))))) (sSeq (sRet (mBin opAdd (mTup (aCons (mVar 1) aNil)) (mBi (Bf.f .tup) (aCons (mFz (aLc (aSeq (mSl (mVar 0) (oInt (mC (.int 1))) oNo)) [2] (gNm 2) bYes (mCall (call (ix i_contracts_contract_of)) (aCons (mVar 2) aNil) []))) aNil)))) sNil))))
class H_contracts_contract_of (T : Tab) (ix : Nat → Nat) : Prop where
  h : Has T (ix i_contracts_contract_of) 1 false 3 (c_contracts_contract_of ix)
theorem r_contracts_contract_of {T : Tab} {ix : Nat → Nat} [h : H_contracts_contract_of T ix] (n : Nat) (a0 : PV) (st : Sto) : T.call (n + 1) (ix i_contracts_contract_of) [a0] st = endOf false (c_contracts_contract_of ix (T.call n) [.val a0, .no, .no] st) := h.h.eq n [a0] st rfl
def c_contracts_guard_value_0 (ix : Nat → Nat) (call : Nat → List PV → Sto → Res PV) : SM := (sIf (bVal (mBin opEq (mBinS opIx (mVar 1) (mC (.int 0))) (mC (.str "all")))) (sSeq (sRet (mTup (aCons (mC (.str "ok")) (aCons (mVar 0) aNil)))) sNil) sNil)
def c_contracts_guard_value_1 (ix : Nat → Nat) (call : Nat → List PV → Sto → Res PV) : SM := (sSet 4 (mBinS opIx (mC (.kct [(.str "int"), (.str "bool"), (.str "to"), (.str "both"), (.str "each")] [(.str "int"), (.str "bool"), (.str "closure"), (.str "pair"), (.str "items")])) (mIf (bVal (mBin opEq (mBinS opIx (mVar 1) (mC (.int 0))) (mC (.str "is")))) (mBinS opIx (mVar 1) (mC (.int 1))) (mBinS opIx (mVar 1) (mC (.int 0))))))
def c_contracts_guard_value_2 (ix : Nat → Nat) (call : Nat → List PV → Sto → Res PV) : SM := (sSet 5 (mIf (bVal (mBin opEq (mBinS opIx (mVar 0) (mC (.int 0))) (mC (.str "guarded")))) (mC (.str "closure")) (mBinS opIx (mVar 0) (mC (.int 0)))))
def c_contracts_guard_value_3 (ix : Nat → Nat) (call : Nat → List PV → Sto → Res PV) : SM := (sIf (bVal (mBin opNe (mVar 5) (mVar 4))) (sSeq (sRet (mTup (aCons (mC (.str "blame")) (aCons (mVar 2) aNil)))) sNil) sNil)
def c_contracts_guard_value_4 (ix : Nat → Nat) (call : Nat → List PV → Sto → Res PV) : SM := (sIf (bVal (mBin opEq (mBinS opIx (mVar 1) (mC (.int 0))) (mC (.str "is")))) (sSeq (sRet (mTup (aCons (mC (.str "ok")) (aCons (mVar 0) aNil)))) sNil) sNil)
def c_contracts_guard_value_5 (ix : Nat → Nat) (call : Nat → List PV → Sto → Res PV) : SM := (sIf (bVal (mBin opEq (mBinS opIx (mVar 1) (mC (.int 0))) (mC (.str "to")))) (sSeq (sRet (mTup (aCons (mC (.str "ok")) (aCons (mTup (aCons (mC (.str "guarded")) (aCons (mVar 0) (aCons (mVar 1) (aCons (mVar 2) (aCons (mVar 3) aNil)))))) aNil)))) sNil) sNil)
def c_contracts_guard_value_6 (ix : Nat → Nat) (call : Nat → List PV → Sto → Res PV) : SM := (sSet 6 (mIf (bVal (mBin opEq (mBinS opIx (mVar 1) (mC (.int 0))) (mC (.str "each")))) (mBinS opIx (mVar 0) (mC (.int 1))) (mSl (mVar 0) (oInt (mC (.int 1))) oNo)))
def c_contracts_guard_value_7 (ix : Nat → Nat) (call : Nat → List PV → Sto → Res PV) : SM := (sSet 7 (mIf (bVal (mBin opEq (mBinS opIx (mVar 1) (mC (.int 0))) (mC (.str "each")))) (mBi (Bf.f .tup) (aCons (mFz (aLc (aSeq (mVar 6)) [12] (gNm 12) bYes (mBinS opIx (mVar 1) (mC (.int 1))))) aNil)) (mSl (mVar 1) (oInt (mC (.int 1))) oNo)))
def c_contracts_guard_value_8 (ix : Nat → Nat) (call : Nat → List PV → Sto → Res PV) : SM := (sOwn 8 aNil)
def c_contracts_guard_value_9_0 (ix : Nat → Nat) (call : Nat → List PV → Sto → Res PV) : SM := (sSet 11 (mCall (call (ix i_contracts_guard_value)) (aCons (mVar 9) (aCons (mVar 10) (aCons (mVar 2) (aCons (mVar 3) aNil)))) []))
def c_contracts_guard_value_9_1 (ix : Nat → Nat) (call : Nat → List PV → Sto → Res PV) : SM := (sIf (bVal (mBin opEq (mBinS opIx (mVar 11) (mC (.int 0))) (mC (.str "blame")))) (sSeq (sRet (mVar 11)) sNil) sNil)
def c_contracts_guard_value_9_2 (ix : Nat → Nat) (call : Nat → List PV → Sto → Res PV) : SM := (sApp 8 (mBinS opIx (mVar 11) (mC (.int 1))))
def c_contracts_guard_value_9b (ix : Nat → Nat) (call : Nat → List PV → Sto → Res PV) : SM := (sSeq (c_contracts_guard_value_9_0 ix call) (sSeq (c_contracts_guard_value_9_1 ix call) (sSeq (c_contracts_guard_value_9_2 ix call) sNil)))
def c_contracts_guard_value_9 (ix : Nat → Nat) (call : Nat → List PV → Sto → Res PV) : SM := (sFor (gTp (gsCons (gNm 9) (gsCons (gNm 10) gsNil))) (aZipM (aCons (mVar 6) (aCons (mVar 7) aNil))) (c_contracts_guard_value_9b ix call))
def c_contracts_guard_value_10 (ix : Nat → Nat) (call : Nat → List PV → Sto → Res PV) : SM := (sRet (mTup (aCons (mC (.str "ok")) (aCons (mIf (bVal (mBin opEq (mBinS opIx (mVar 1) (mC (.int 0))) (mC (.str "each")))) (mTup (aCons (mC (.str "items")) (aCons (mBi1 fTuple 8) aNil))) (mBin opAdd (mTup (aCons (mC (.str "pair")) aNil)) (mBi1 fTuple 8))) aNil))))
def c_contracts_guard_value (ix : Nat → Nat) (call : Nat → List PV → Sto → Res PV) : SM := (sSeq (c_contracts_guard_value_0 ix call) (sSeq (c_contracts_guard_value_1 ix call) (sSeq (c_contracts_guard_value_2 ix call) (sSeq (c_contracts_guard_value_3 ix call) (sSeq (c_contracts_guard_value_4 ix call) (sSeq (c_contracts_guard_value_5 ix call) (sSeq (c_contracts_guard_value_6 ix call) (sSeq (c_contracts_guard_value_7 ix call) (sSeq (c_contracts_guard_value_8 ix call) (sSeq (c_contracts_guard_value_9 ix call) (sSeq (c_contracts_guard_value_10 ix call) sNil)))))))))))
class H_contracts_guard_value (T : Tab) (ix : Nat → Nat) : Prop where
  h : Has T (ix i_contracts_guard_value) 4 false 13 (c_contracts_guard_value ix)
theorem r_contracts_guard_value {T : Tab} {ix : Nat → Nat} [h : H_contracts_guard_value T ix] (n : Nat) (a0 a1 a2 a3 : PV) (st : Sto) : T.call (n + 1) (ix i_contracts_guard_value) [a0, a1, a2, a3] st = endOf false (c_contracts_guard_value ix (T.call n) [.val a0, .val a1, .val a2, .val a3, .no, .no, .no, .no, .no, .no, .no, .no, .no] st) := h.h.eq n [a0, a1, a2, a3] st rfl
def c_contracts_tighter (ix : Nat → Nat) (call : Nat → List PV → Sto → Res PV) : SM := (sSeq (sIf (bVal (mBin opEq (mBinS opIx (mVar 1) (mC (.int 0))) (mC (.str "all")))) (sSeq (sRet (mC (.bl true))) sNil) sNil) (sSeq (sIf (bOr (bVal (mBin opNe (mBinS opIx (mVar 0) (mC (.int 0))) (mBinS opIx (mVar 1) (mC (.int 0))))) (bAnd (bVal (mBin opEq (mBinS opIx (mVar 0) (mC (.int 0))) (mC (.str "is")))) (bVal (mBin opNe (mVar 0) (mVar 1))))) (sSeq (sRet (mC (.bl false))) sNil) sNil) (sSeq (sIf (bVal (mBin opEq (mBinS opIx (mVar 0) (mC (.int 0))) (mC (.str "is")))) (sSeq (sRet (mC (.bl true))) sNil) sNil) (sSeq (sIf (bVal (mBin opEq (mBinS opIx (mVar 0) (mC (.int 0))) (mC (.str "to")))) (sSeq (sRet (mAndV (mCall (call (ix i_contracts_tighter)) (aCons (mBinS opIx (mVar 1) (mC (.int 1))) (aCons (mBinS opIx (mVar 0) (mC (.int 1))) aNil)) []) (mCall (call (ix i_contracts_tighter)) (aCons (mBinS opIx (mVar 0) (mC (.int 2))) (aCons (mBinS opIx (mVar 1) (mC (.int 2))) aNil)) []))) sNil) sNil) (sSeq (sRet (mBi (Bf.f .all) (aCons (mFz (aLc (aZipM (aCons (mSl (mVar 0) (oInt (mC (.int 1))) oNo) (aCons (mSl (mVar 1) (oInt (mC (.int 1))) oNo) aNil))) [2, 3] (gTp (gsCons (gNm 2) (gsCons (gNm 3) gsNil))) bYes (mCall (call (ix i_contracts_tighter)) (aCons (mVar 2) (aCons (mVar 3) aNil)) []))) aNil))) sNil)))))
class H_contracts_tighter (T : Tab) (ix : Nat → Nat) : Prop where
  h : Has T (ix i_contracts_tighter) 2 false 4 (c_contracts_tighter ix)
theorem r_contracts_tighter {T : Tab} {ix : Nat → Nat} [h : H_contracts_tighter T ix] (n : Nat) (a0 a1 : PV) (st : Sto) : T.call (n + 1) (ix i_contracts_tighter) [a0, a1] st = endOf false (c_contracts_tighter ix (T.call n) [.val a0, .val a1, .no, .no] st) := h.h.eq n [a0, a1] st rfl
def c_law_plain (ix : Nat → Nat) (call : Nat → List PV → Sto → Res PV) : SM := (sSeq (sSet 2 (mIf (bVal (mBin opGt (mVar 1) (mC (.int 1)))) (mCall (call (ix i_law_draw)) (aCons (mVar 0) (aCons (mC (.int 6)) aNil)) []) (mCall (call (ix i_law_draw)) (aCons (mVar 0) (aCons (mC (.int 3)) aNil)) []))) (sSeq (sIf (bVal (mBin opLt (mVar 2) (mC (.int 3)))) (sSeq (sRet (mBinS opIx (mFz (aCons (mTup (aCons (mC (.str "int")) aNil)) (aCons (mTup (aCons (mC (.str "bool")) aNil)) (aCons (mTup (aCons (mC (.str "any")) aNil)) aNil)))) (mVar 2))) sNil) sNil) (sSeq (sRet (mIf (bVal (mBin opEq (mVar 2) (mC (.int 3)))) (mTup (aCons (mC (.str "list")) (aCons (mCall (call (ix i_law_plain)) (aCons (mVar 0) (aCons (mBin opSub (mVar 1) (mC (.int 1))) aNil)) []) aNil))) (mTup (aCons (mC (.str "pair")) (aCons (mCall (call (ix i_law_plain)) (aCons (mVar 0) (aCons (mBin opSub (mVar 1) (mC (.int 1))) aNil)) []) (aCons (mCall (call (ix i_law_plain)) (aCons (mVar 0) (aCons (mBin opSub (mVar 1) (mC (.int 1))) aNil)) []) aNil)))))) sNil)))
class H_law_plain (T : Tab) (ix : Nat → Nat) : Prop where
  h : Has T (ix i_law_plain) 2 false 3 (c_law_plain ix)
theorem r_law_plain {T : Tab} {ix : Nat → Nat} [h : H_law_plain T ix] (n : Nat) (a0 a1 : PV) (st : Sto) : T.call (n + 1) (ix i_law_plain) [a0, a1] st = endOf false (c_law_plain ix (T.call n) [.val a0, .val a1, .no] st) := h.h.eq n [a0, a1] st rfl
def c_law_type (ix : Nat → Nat) (call : Nat → List PV → Sto → Res PV) : SM := (sSeq (sSet 2 (mIf (bVal (mBin opGt (mVar 1) (mC (.int 1)))) (mCall (call (ix i_law_draw)) (aCons (mVar 0) (aCons (mC (.int 6)) aNil)) []) (mCall (call (ix i_law_draw)) (aCons (mVar 0) (aCons (mC (.int 2)) aNil)) []))) (sSeq (sIf (bVal (mBin opLt (mVar 2) (mC (.int 2)))) (sSeq (sRet (mBinS opIx (mFz (aCons (mTup (aCons (mC (.str "int")) aNil)) (aCons (mTup (aCons (mC (.str "bool")) aNil)) aNil))) (mVar 2))) sNil) sNil) (sSeq (sIf (bVal (mBin opLt (mVar 2) (mC (.int 4)))) (sSeq (sRet (mTup (aCons (mC (.str "fn")) (aCons (mCall (call (ix i_law_type)) (aCons (mVar 0) (aCons (mBin opSub (mVar 1) (mC (.int 1))) aNil)) []) (aCons (mCall (call (ix i_law_type)) (aCons (mVar 0) (aCons (mBin opSub (mVar 1) (mC (.int 1))) aNil)) []) aNil))))) sNil) sNil) (sSeq (sRet (mIf (bVal (mBin opEq (mVar 2) (mC (.int 4)))) (mTup (aCons (mC (.str "pair")) (aCons (mCall (call (ix i_law_type)) (aCons (mVar 0) (aCons (mBin opSub (mVar 1) (mC (.int 1))) aNil)) []) (aCons (mCall (call (ix i_law_type)) (aCons (mVar 0) (aCons (mBin opSub (mVar 1) (mC (.int 1))) aNil)) []) aNil)))) (mTup (aCons (mC (.str "list")) (aCons (mCall (call (ix i_law_type)) (aCons (mVar 0) (aCons (mBin opSub (mVar 1) (mC (.int 1))) aNil)) []) aNil))))) sNil))))
class H_law_type (T : Tab) (ix : Nat → Nat) : Prop where
  h : Has T (ix i_law_type) 2 false 3 (c_law_type ix)
theorem r_law_type {T : Tab} {ix : Nat → Nat} [h : H_law_type T ix] (n : Nat) (a0 a1 : PV) (st : Sto) : T.call (n + 1) (ix i_law_type) [a0, a1] st = endOf false (c_law_type ix (T.call n) [.val a0, .val a1, .no] st) := h.h.eq n [a0, a1] st rfl
def c_law_vaguer (ix : Nat → Nat) (call : Nat → List PV → Sto → Res PV) : SM := (sSeq (sIf (bVal (mBin opEq (mCall (call (ix i_law_draw)) (aCons (mVar 0) (aCons (mC (.int 4)) aNil)) []) (mC (.int 0)))) (sSeq (sRet (mTup (aCons (mC (.str "any")) aNil))) sNil) sNil) (sSeq (sRet (mBin opAdd (mTup (aCons (mBinS opIx (mVar 1) (mC (.int 0))) aNil)) (mBi (Bf.f .tup) (aCons (mFz (aLc (aSeq (mSl (mVar 1) (oInt (mC (.int 1))) oNo)) [2] (gNm 2) bYes (mCall (call (ix i_law_vaguer)) (aCons (mVar 0) (aCons (mVar 2) aNil)) []))) aNil)))) sNil))
class H_law_vaguer (T : Tab) (ix : Nat → Nat) : Prop where
  h : Has T (ix i_law_vaguer) 2 false 3 (c_law_vaguer ix)
theorem r_law_vaguer {T : Tab} {ix : Nat → Nat} [h : H_law_vaguer T ix] (n : Nat) (a0 a1 : PV) (st : Sto) : T.call (n + 1) (ix i_law_vaguer) [a0, a1] st = endOf false (c_law_vaguer ix (T.call n) [.val a0, .val a1, .no] st) := h.h.eq n [a0, a1] st rfl
def c_law_value (ix : Nat → Nat) (call : Nat → List PV → Sto → Res PV) : SM := (sSeq (sIf (bVal (mBin opEq (mVar 1) (mTup (aCons (mC (.str "any")) aNil)))) (sSeq (sSet 3 (mBinS opIx (mFz (aCons (mTup (aCons (mC (.str "int")) aNil)) (aCons (mTup (aCons (mC (.str "bool")) aNil)) (aCons (mTup (aCons (mC (.str "pair")) (aCons (mTup (aCons (mC (.str "any")) aNil)) (aCons (mTup (aCons (mC (.str "any")) aNil)) aNil)))) (aCons (mTup (aCons (mC (.str "list")) (aCons (mTup (aCons (mC (.str "any")) aNil)) aNil))) aNil))))) (mCall (call (ix i_law_draw)) (aCons (mVar 0) (aCons (mIf (bVal (mBin opGt (mVar 2) (mC (.int 0)))) (mC (.int 4)) (mC (.int 2))) aNil)) []))) (sSeq (sRet (mTup (aCons (mC (.str "tag")) (aCons (mVar 3) (aCons (mCall (call (ix i_law_value)) (aCons (mVar 0) (aCons (mVar 3) (aCons (mBin opSub (mVar 2) (mC (.int 1))) aNil))) []) aNil))))) sNil)) sNil) (sSeq (sIf (bVal (mBin opEq (mVar 1) (mTup (aCons (mC (.str "int")) aNil)))) (sSeq (sRet (mTup (aCons (mC (.str "int")) (aCons (mBin opSub (mCall (call (ix i_law_draw)) (aCons (mVar 0) (aCons (mC (.int 9)) aNil)) []) (mC (.int 4))) aNil)))) sNil) sNil) (sSeq (sIf (bVal (mBin opEq (mVar 1) (mTup (aCons (mC (.str "bool")) aNil)))) (sSeq (sRet (mTup (aCons (mC (.str "bool")) (aCons (mBin opEq (mCall (call (ix i_law_draw)) (aCons (mVar 0) (aCons (mC (.int 2)) aNil)) []) (mC (.int 0))) aNil)))) sNil) sNil) (sSeq (sIf (bVal (mBin opEq (mBinS opIx (mVar 1) (mC (.int 0))) (mC (.str "pair")))) (sSeq (sRet (mTup (aCons (mC (.str "pair")) (aCons (mCall (call (ix i_law_value)) (aCons (mVar 0) (aCons (mBinS opIx (mVar 1) (mC (.int 1))) (aCons (mBin opSub (mVar 2) (mC (.int 1))) aNil))) []) (aCons (mCall (call (ix i_law_value)) (aCons (mVar 0) (aCons (mBinS opIx (mVar 1) (mC (.int 2))) (aCons (mBin opSub (mVar 2) (mC (.int 1))) aNil))) []) aNil))))) sNil) sNil) (sSeq (sRet (mTup (aCons (mC (.str "items")) (aCons (mBi (Bf.f .tup) (aCons (mFz (aLc (aRange1 (aCons (mCall (call (ix i_law_draw)) (aCons (mVar 0) (aCons (mC (.int 3)) aNil)) []) aNil)) [4] (gNm 4) bYes (mCall (call (ix i_law_value)) (aCons (mVar 0) (aCons (mBinS opIx (mVar 1) (mC (.int 1))) (aCons (mBin opSub (mVar 2) (mC (.int 1))) aNil))) []))) aNil)) aNil)))) sNil)))))
class H_law_value (T : Tab) (ix : Nat → Nat) : Prop where
  h : Has T (ix i_law_value) 3 false 5 (c_law_value ix)
theorem r_law_value {T : Tab} {ix : Nat → Nat} [h : H_law_value T ix] (n : Nat) (a0 a1 a2 : PV) (st : Sto) : T.call (n + 1) (ix i_law_value) [a0, a1, a2] st = endOf false (c_law_value ix (T.call n) [.val a0, .val a1, .val a2, .no, .no] st) := h.h.eq n [a0, a1, a2] st rfl
def c_threesomes_is_finest (ix : Nat → Nat) (call : Nat → List PV → Sto → Res PV) : SM := (sSeq (sRet (mBi (Bf.f .all) (aCons (mFz (aLc (aSeq (mVar 1)) [2] (gNm 2) bYes (mCall (call (ix i_relations_finer)) (aCons (mVar 0) (aCons (mVar 2) aNil)) []))) aNil))) sNil)
class H_threesomes_is_finest (T : Tab) (ix : Nat → Nat) : Prop where
  h : Has T (ix i_threesomes_is_finest) 2 false 3 (c_threesomes_is_finest ix)
theorem r_threesomes_is_finest {T : Tab} {ix : Nat → Nat} [h : H_threesomes_is_finest T ix] (n : Nat) (a0 a1 : PV) (st : Sto) : T.call (n + 1) (ix i_threesomes_is_finest) [a0, a1] st = endOf false (c_threesomes_is_finest ix (T.call n) [.val a0, .val a1, .no] st) := h.h.eq n [a0, a1] st rfl
def c_threesomes_is_triple (ix : Nat → Nat) (call : Nat → List PV → Sto → Res PV) : SM := (sSeq (sRet (mAndV (mBin opEq (mBi (Bf.f .len) (aCons (mVar 0) aNil)) (mC (.int 3))) (mAndV (mCall (call (ix i_threesomes_tells)) (aCons (mBinS opIx (mVar 0) (mC (.int 1))) (aCons (mBinS opIx (mVar 0) (mC (.int 0))) aNil)) []) (mCall (call (ix i_threesomes_tells)) (aCons (mBinS opIx (mVar 0) (mC (.int 1))) (aCons (mBinS opIx (mVar 0) (mC (.int 2))) aNil)) [])))) sNil)
class H_threesomes_is_triple (T : Tab) (ix : Nat → Nat) : Prop where
  h : Has T (ix i_threesomes_is_triple) 1 false 1 (c_threesomes_is_triple ix)
theorem r_threesomes_is_triple {T : Tab} {ix : Nat → Nat} [h : H_threesomes_is_triple T ix] (n : Nat) (a0 : PV) (st : Sto) : T.call (n + 1) (ix i_threesomes_is_triple) [a0] st = endOf false (c_threesomes_is_triple ix (T.call n) [.val a0] st) := h.h.eq n [a0] st rfl
def c_threesomes_joined (ix : Nat → Nat) (call : Nat → List PV → Sto → Res PV) : SM := (sSeq (sRet (mTup (aCons (mBinS opIx (mVar 0) (mC (.int 0))) (aCons (mCall (call (ix i_threesomes_middle_meet)) (aCons (mBinS opIx (mVar 0) (mC (.int 1))) (aCons (mBinS opIx (mVar 1) (mC (.int 1))) aNil)) []) (aCons (mBinS opIx (mVar 1) (mC (.int 2))) aNil))))) sNil)
class H_threesomes_joined (T : Tab) (ix : Nat → Nat) : Prop where
  h : Has T (ix i_threesomes_joined) 2 false 2 (c_threesomes_joined ix)
theorem r_threesomes_joined {T : Tab} {ix : Nat → Nat} [h : H_threesomes_joined T ix] (n : Nat) (a0 a1 : PV) (st : Sto) : T.call (n + 1) (ix i_threesomes_joined) [a0, a1] st = endOf false (c_threesomes_joined ix (T.call n) [.val a0, .val a1] st) := h.h.eq n [a0, a1] st rfl
def c_threesomes_least_middle_0 (ix : Nat → Nat) (call : Nat → List PV → Sto → Res PV) : SM := (sSet 1 (mBinS opIx (mVar 0) (mC (.int 0))))
def c_threesomes_least_middle_1_0 (ix : Nat → Nat) (call : Nat → List PV → Sto → Res PV) : SM := (sSet 1 (mIf (bVal (mBin opIs (mVar 1) (mC .non))) (mC .non) (mCall (call (ix i_relations_meet)) (aCons (mVar 1) (aCons (mVar 2) aNil)) [])))
def c_threesomes_least_middle_1b (ix : Nat → Nat) (call : Nat → List PV → Sto → Res PV) : SM := (sSeq (c_threesomes_least_middle_1_0 ix call) sNil)
def c_threesomes_least_middle_1 (ix : Nat → Nat) (call : Nat → List PV → Sto → Res PV) : SM := (sFor (gNm 2) (aSeq (mSl (mVar 0) (oInt (mC (.int 1))) oNo)) (c_threesomes_least_middle_1b ix call))
def c_threesomes_least_middle_2 (ix : Nat → Nat) (call : Nat → List PV → Sto → Res PV) : SM := (sRet (mVar 1))
def c_threesomes_least_middle (ix : Nat → Nat) (call : Nat → List PV → Sto → Res PV) : SM := (sSeq (c_threesomes_least_middle_0 ix call) (sSeq (c_threesomes_least_middle_1 ix call) (sSeq (c_threesomes_least_middle_2 ix call) sNil)))
class H_threesomes_least_middle (T : Tab) (ix : Nat → Nat) : Prop where
  h : Has T (ix i_threesomes_least_middle) 1 false 3 (c_threesomes_least_middle ix)
theorem r_threesomes_least_middle {T : Tab} {ix : Nat → Nat} [h : H_threesomes_least_middle T ix] (n : Nat) (a0 : PV) (st : Sto) : T.call (n + 1) (ix i_threesomes_least_middle) [a0] st = endOf false (c_threesomes_least_middle ix (T.call n) [.val a0, .no, .no] st) := h.h.eq n [a0] st rfl
def c_threesomes_triple (ix : Nat → Nat) (call : Nat → List PV → Sto → Res PV) : SM := (sSeq (sRet (mTup (aCons (mVar 0) (aCons (mCall (call (ix i_relations_meet)) (aCons (mVar 0) (aCons (mVar 1) aNil)) []) (aCons (mVar 1) aNil))))) sNil)
class H_threesomes_triple (T : Tab) (ix : Nat → Nat) : Prop where
  h : Has T (ix i_threesomes_triple) 2 false 2 (c_threesomes_triple ix)
theorem r_threesomes_triple {T : Tab} {ix : Nat → Nat} [h : H_threesomes_triple T ix] (n : Nat) (a0 a1 : PV) (st : Sto) : T.call (n + 1) (ix i_threesomes_triple) [a0, a1] st = endOf false (c_threesomes_triple ix (T.call n) [.val a0, .val a1] st) := h.h.eq n [a0, a1] st rfl
def c_coercions_middle_of (ix : Nat → Nat) (call : Nat → List PV → Sto → Res PV) : SM := (sSeq (sIf (bVal (mBin opEq (mBinS opIx (mVar 0) (mC (.int 0))) (mC (.str "fn")))) (sSeq (sRet (mTup (aCons (mC (.str "fn")) (aCons (mCall (call (ix i_coercions_of_cast)) (aCons (mBinS opIx (mVar 1) (mC (.int 1))) (aCons (mBinS opIx (mVar 0) (mC (.int 1))) (aCons (mTup (aCons (mBinS opIx (mVar 2) (mC (.int 0))) (aCons (mNotV (mBinS opIx (mVar 2) (mC (.int 1)))) aNil))) aNil))) []) (aCons (mCall (call (ix i_coercions_of_cast)) (aCons (mBinS opIx (mVar 0) (mC (.int 2))) (aCons (mBinS opIx (mVar 1) (mC (.int 2))) (aCons (mVar 2) aNil))) []) aNil))))) sNil) sNil) (sSeq (sIf (bVal (mBin opEq (mBinS opIx (mVar 0) (mC (.int 0))) (mC (.str "pair")))) (sSeq (sRet (mTup (aCons (mC (.str "pair")) (aCons (mCall (call (ix i_coercions_of_cast)) (aCons (mBinS opIx (mVar 0) (mC (.int 1))) (aCons (mBinS opIx (mVar 1) (mC (.int 1))) (aCons (mVar 2) aNil))) []) (aCons (mCall (call (ix i_coercions_of_cast)) (aCons (mBinS opIx (mVar 0) (mC (.int 2))) (aCons (mBinS opIx (mVar 1) (mC (.int 2))) (aCons (mVar 2) aNil))) []) aNil))))) sNil) sNil) (sSeq (sRet (mIf (bVal (mBin opEq (mBinS opIx (mVar 0) (mC (.int 0))) (mC (.str "list")))) (mTup (aCons (mC (.str "list")) (aCons (mCall (call (ix i_coercions_of_cast)) (aCons (mBinS opIx (mVar 0) (mC (.int 1))) (aCons (mBinS opIx (mVar 1) (mC (.int 1))) (aCons (mVar 2) aNil))) []) aNil))) (mTup (aCons (mC (.str "plain")) aNil)))) sNil)))
class H_coercions_middle_of (T : Tab) (ix : Nat → Nat) : Prop where
  h : Has T (ix i_coercions_middle_of) 3 false 3 (c_coercions_middle_of ix)
theorem r_coercions_middle_of {T : Tab} {ix : Nat → Nat} [h : H_coercions_middle_of T ix] (n : Nat) (a0 a1 a2 : PV) (st : Sto) : T.call (n + 1) (ix i_coercions_middle_of) [a0, a1, a2] st = endOf false (c_coercions_middle_of ix (T.call n) [.val a0, .val a1, .val a2] st) := h.h.eq n [a0, a1, a2] st rfl
def c_coercions_middles (ix : Nat → Nat) (call : Nat → List PV → Sto → Res PV) : SM := (sSeq (sIf (bVal (mBin opEq (mBinS opIx (mVar 0) (mC (.int 0))) (mC (.str "fn")))) (sSeq (sRet (mTup (aCons (mC (.str "fn")) (aCons (mCall (call (ix i_coercions_together)) (aCons (mBinS opIx (mVar 1) (mC (.int 1))) (aCons (mBinS opIx (mVar 0) (mC (.int 1))) aNil)) []) (aCons (mCall (call (ix i_coercions_together)) (aCons (mBinS opIx (mVar 0) (mC (.int 2))) (aCons (mBinS opIx (mVar 1) (mC (.int 2))) aNil)) []) aNil))))) sNil) sNil) (sSeq (sIf (bVal (mBin opEq (mBinS opIx (mVar 0) (mC (.int 0))) (mC (.str "pair")))) (sSeq (sRet (mTup (aCons (mC (.str "pair")) (aCons (mCall (call (ix i_coercions_together)) (aCons (mBinS opIx (mVar 0) (mC (.int 1))) (aCons (mBinS opIx (mVar 1) (mC (.int 1))) aNil)) []) (aCons (mCall (call (ix i_coercions_together)) (aCons (mBinS opIx (mVar 0) (mC (.int 2))) (aCons (mBinS opIx (mVar 1) (mC (.int 2))) aNil)) []) aNil))))) sNil) sNil) (sSeq (sRet (mIf (bVal (mBin opEq (mBinS opIx (mVar 0) (mC (.int 0))) (mC (.str "list")))) (mTup (aCons (mC (.str "list")) (aCons (mCall (call (ix i_coercions_together)) (aCons (mBinS opIx (mVar 0) (mC (.int 1))) (aCons (mBinS opIx (mVar 1) (mC (.int 1))) aNil)) []) aNil))) (mVar 0))) sNil)))
class H_coercions_middles (T : Tab) (ix : Nat → Nat) : Prop where
  h : Has T (ix i_coercions_middles) 2 false 2 (c_coercions_middles ix)
theorem r_coercions_middles {T : Tab} {ix : Nat → Nat} [h : H_coercions_middles T ix] (n : Nat) (a0 a1 : PV) (st : Sto) : T.call (n + 1) (ix i_coercions_middles) [a0, a1] st = endOf false (c_coercions_middles ix (T.call n) [.val a0, .val a1] st) := h.h.eq n [a0, a1] st rfl
def c_coercions_of_cast (ix : Nat → Nat) (call : Nat → List PV → Sto → Res PV) : SM := (sSeq (sIf (bAnd (bVal (mBin opEq (mVar 0) (mC (.tup [(.str "any")])))) (bVal (mBin opEq (mVar 1) (mC (.tup [(.str "any")]))))) (sSeq (sRet (mC (.tup [(.str "any")]))) sNil) sNil) (sSeq (sIf (bVal (mBin opEq (mVar 1) (mC (.tup [(.str "any")])))) (sSeq (sSet 3 (mCall (call (ix i_types_ground_of)) (aCons (mVar 0) aNil) [])) (sSeq (sRet (mTup (aCons (mC (.str "turn")) (aCons (mC .non) (aCons (mCall (call (ix i_coercions_middle_of)) (aCons (mVar 0) (aCons (mVar 3) (aCons (mVar 2) aNil))) []) (aCons (mVar 3) aNil)))))) sNil)) sNil) (sSeq (sIf (bVal (mBin opEq (mVar 0) (mC (.tup [(.str "any")])))) (sSeq (sSet 3 (mCall (call (ix i_types_ground_of)) (aCons (mVar 1) aNil) [])) (sSeq (sRet (mTup (aCons (mC (.str "turn")) (aCons (mTup (aCons (mVar 3) (aCons (mVar 2) aNil))) (aCons (mCall (call (ix i_coercions_middle_of)) (aCons (mVar 3) (aCons (mVar 1) (aCons (mVar 2) aNil))) []) (aCons (mC .non) aNil)))))) sNil)) sNil) (sSeq (sRet (mTup (aCons (mC (.str "turn")) (aCons (mC .non) (aCons (mCall (call (ix i_coercions_middle_of)) (aCons (mVar 0) (aCons (mVar 1) (aCons (mVar 2) aNil))) []) (aCons (mC .non) aNil)))))) sNil))))
class H_coercions_of_cast (T : Tab) (ix : Nat → Nat) : Prop where
  h : Has T (ix i_coercions_of_cast) 3 false 4 (c_coercions_of_cast ix)
theorem r_coercions_of_cast {T : Tab} {ix : Nat → Nat} [h : H_coercions_of_cast T ix] (n : Nat) (a0 a1 a2 : PV) (st : Sto) : T.call (n + 1) (ix i_coercions_of_cast) [a0, a1, a2] st = endOf false (c_coercions_of_cast ix (T.call n) [.val a0, .val a1, .val a2, .no] st) := h.h.eq n [a0, a1, a2] st rfl
def c_coercions_together (ix : Nat → Nat) (call : Nat → List PV → Sto → Res PV) : SM := (sSeq (sIf (bVal (mBin opEq (mVar 0) (mC (.tup [(.str "any")])))) (sSeq (sRet (mVar 1)) sNil) sNil) (sSeq (sIf (bOr (bVal (mBin opEq (mVar 1) (mC (.tup [(.str "any")])))) (bVal (mBin opEq (mBinS opIx (mVar 0) (mC (.int 0))) (mC (.str "fail"))))) (sSeq (sRet (mVar 0)) sNil) sNil) (sSeq (sSet 2 (mBinS opIx (mVar 0) (mC (.int 1)))) (sSeq (sIf (bVal (mBin opEq (mBinS opIx (mVar 1) (mC (.int 0))) (mC (.str "fail")))) (sSeq (sRet (mCall (call (ix i_coercions_fail_behind)) (aCons (mVar 0) (aCons (mVar 1) aNil)) [])) sNil) sNil) (sSeq (sIf (bVal (mBin opIsNot (mBinS opIx (mVar 0) (mC (.int 3))) (mC .non))) (sSeq (sIf (bVal (mBin opNe (mBinS opIx (mVar 0) (mC (.int 3))) (mBinS opIx (mBinS opIx (mVar 1) (mC (.int 1))) (mC (.int 0))))) (sSeq (sRet (mTup (aCons (mC (.str "fail")) (aCons (mVar 2) (aCons (mBinS opIx (mBinS opIx (mVar 1) (mC (.int 1))) (mC (.int 1))) aNil))))) sNil) sNil) sNil) sNil) (sSeq (sRet (mTup (aCons (mC (.str "turn")) (aCons (mVar 2) (aCons (mCall (call (ix i_coercions_middles)) (aCons (mBinS opIx (mVar 0) (mC (.int 2))) (aCons (mBinS opIx (mVar 1) (mC (.int 2))) aNil)) []) (aCons (mBinS opIx (mVar 1) (mC (.int 3))) aNil)))))) sNil))))))
class H_coercions_together (T : Tab) (ix : Nat → Nat) : Prop where
  h : Has T (ix i_coercions_together) 2 false 3 (c_coercions_together ix)
theorem r_coercions_together {T : Tab} {ix : Nat → Nat} [h : H_coercions_together T ix] (n : Nat) (a0 a1 : PV) (st : Sto) : T.call (n + 1) (ix i_coercions_together) [a0, a1] st = endOf false (c_coercions_together ix (T.call n) [.val a0, .val a1, .no] st) := h.h.eq n [a0, a1] st rfl
def c_law_plain_chain_0 (ix : Nat → Nat) (call : Nat → List PV → Sto → Res PV) : SM := (sSet 2 (mCall (call (ix i_law_plain)) (aCons (mVar 0) (aCons (mC (.int 3)) aNil)) []))
def c_law_plain_chain_1 (ix : Nat → Nat) (call : Nat → List PV → Sto → Res PV) : SM := (sOwn 3 (aCons (mCall (call (ix i_law_vaguer)) (aCons (mVar 0) (aCons (mVar 2) aNil)) []) aNil))
def c_law_plain_chain_2_0 (ix : Nat → Nat) (call : Nat → List PV → Sto → Res PV) : SM := (sIf (bAnd (bVal (mBin opEq (mOpL opIx 3 (mVar 4)) (mTup (aCons (mC (.str "any")) aNil)))) (bVal (mBin opEq (mCall (call (ix i_law_draw)) (aCons (mVar 0) (aCons (mC (.int 2)) aNil)) []) (mC (.int 0))))) (sSeq (sSet 2 (mCall (call (ix i_law_plain)) (aCons (mVar 0) (aCons (mC (.int 3)) aNil)) [])) sNil) sNil)
def c_law_plain_chain_2_1 (ix : Nat → Nat) (call : Nat → List PV → Sto → Res PV) : SM := (sApp 3 (mIf (bOr (bVal (mBin opEq (mCall (call (ix i_law_draw)) (aCons (mVar 0) (aCons (mC (.int 4)) aNil)) []) (mC (.int 0)))) (bNot (bVal (mCall (call (ix i_law_alike)) (aCons (mOpL opIx 3 (mVar 4)) (aCons (mVar 2) aNil)) [])))) (mTup (aCons (mC (.str "any")) aNil)) (mCall (call (ix i_law_vaguer)) (aCons (mVar 0) (aCons (mVar 2) aNil)) [])))
def c_law_plain_chain_2b (ix : Nat → Nat) (call : Nat → List PV → Sto → Res PV) : SM := (sSeq (c_law_plain_chain_2_0 ix call) (sSeq (c_law_plain_chain_2_1 ix call) sNil))
def c_law_plain_chain_2 (ix : Nat → Nat) (call : Nat → List PV → Sto → Res PV) : SM := (sFor (gNm 4) (aRange1 (aCons (mVar 1) aNil)) (c_law_plain_chain_2b ix call))
def c_law_plain_chain_3 (ix : Nat → Nat) (call : Nat → List PV → Sto → Res PV) : SM := (sRet (mVar 3))
def c_law_plain_chain (ix : Nat → Nat) (call : Nat → List PV → Sto → Res PV) : SM := (sSeq (c_law_plain_chain_0 ix call) (sSeq (c_law_plain_chain_1 ix call) (sSeq (c_law_plain_chain_2 ix call) (sSeq (c_law_plain_chain_3 ix call) sNil))))
class H_law_plain_chain (T : Tab) (ix : Nat → Nat) : Prop where
  h : Has T (ix i_law_plain_chain) 2 false 5 (c_law_plain_chain ix)
theorem r_law_plain_chain {T : Tab} {ix : Nat → Nat} [h : H_law_plain_chain T ix] (n : Nat) (a0 a1 : PV) (st : Sto) : T.call (n + 1) (ix i_law_plain_chain) [a0, a1] st = endOf false (c_law_plain_chain ix (T.call n) [.val a0, .val a1, .no, .no, .no] st) := h.h.eq n [a0, a1] st rfl
def c_values_cast_items_0 (ix : Nat → Nat) (call : Nat → List PV → Sto → Res PV) : SM := (sOwn 4 aNil)
def c_values_cast_items_1_0 (ix : Nat → Nat) (call : Nat → List PV → Sto → Res PV) : SM := (sSet 6 (mCall (call (ix i_values_cast_value)) (aCons (mVar 5) (aCons (mBinS opIx (mVar 1) (mC (.int 1))) (aCons (mBinS opIx (mVar 2) (mC (.int 1))) (aCons (mVar 3) aNil)))) []))
def c_values_cast_items_1_1 (ix : Nat → Nat) (call : Nat → List PV → Sto → Res PV) : SM := (sIf (bVal (mBin opEq (mBinS opIx (mVar 6) (mC (.int 0))) (mC (.str "blame")))) (sSeq (sRet (mVar 6)) sNil) sNil)
def c_values_cast_items_1_2 (ix : Nat → Nat) (call : Nat → List PV → Sto → Res PV) : SM := (sApp 4 (mBinS opIx (mVar 6) (mC (.int 1))))
def c_values_cast_items_1b (ix : Nat → Nat) (call : Nat → List PV → Sto → Res PV) : SM := (sSeq (c_values_cast_items_1_0 ix call) (sSeq (c_values_cast_items_1_1 ix call) (sSeq (c_values_cast_items_1_2 ix call) sNil)))
def c_values_cast_items_1 (ix : Nat → Nat) (call : Nat → List PV → Sto → Res PV) : SM := (sFor (gNm 5) (aSeq (mBinS opIx (mVar 0) (mC (.int 1)))) (c_values_cast_items_1b ix call))
def c_values_cast_items_2 (ix : Nat → Nat) (call : Nat → List PV → Sto → Res PV) : SM := (sRet (mTup (aCons (mC (.str "ok")) (aCons (mTup (aCons (mC (.str "items")) (aCons (mBi1 fTuple 4) aNil))) aNil))))
def c_values_cast_items (ix : Nat → Nat) (call : Nat → List PV → Sto → Res PV) : SM := (sSeq (c_values_cast_items_0 ix call) (sSeq (c_values_cast_items_1 ix call) (sSeq (c_values_cast_items_2 ix call) sNil)))
class H_values_cast_items (T : Tab) (ix : Nat → Nat) : Prop where
  h : Has T (ix i_values_cast_items) 4 false 7 (c_values_cast_items ix)
theorem r_values_cast_items {T : Tab} {ix : Nat → Nat} [h : H_values_cast_items T ix] (n : Nat) (a0 a1 a2 a3 : PV) (st : Sto) : T.call (n + 1) (ix i_values_cast_items) [a0, a1, a2, a3] st = endOf false (c_values_cast_items ix (T.call n) [.val a0, .val a1, .val a2, .val a3, .no, .no, .no] st) := h.h.eq n [a0, a1, a2, a3] st rfl
def c_values_cast_pair (ix : Nat → Nat) (call : Nat → List PV → Sto → Res PV) : SM := (sSeq (sSet 4 (mCall (call (ix i_values_cast_value)) (aCons (mBinS opIx (mVar 0) (mC (.int 1))) (aCons (mBinS opIx (mVar 1) (mC (.int 1))) (aCons (mBinS opIx (mVar 2) (mC (.int 1))) (aCons (mVar 3) aNil)))) [])) (sSeq (sIf (bVal (mBin opEq (mBinS opIx (mVar 4) (mC (.int 0))) (mC (.str "blame")))) (sSeq (sRet (mVar 4)) sNil) sNil) (sSeq (sSet 5 (mCall (call (ix i_values_cast_value)) (aCons (mBinS opIx (mVar 0) (mC (.int 2))) (aCons (mBinS opIx (mVar 1) (mC (.int 2))) (aCons (mBinS opIx (mVar 2) (mC (.int 2))) (aCons (mVar 3) aNil)))) [])) (sSeq (sRet (mIf (bVal (mBin opEq (mBinS opIx (mVar 5) (mC (.int 0))) (mC (.str "blame")))) (mVar 5) (mTup (aCons (mC (.str "ok")) (aCons (mTup (aCons (mC (.str "pair")) (aCons (mBinS opIx (mVar 4) (mC (.int 1))) (aCons (mBinS opIx (mVar 5) (mC (.int 1))) aNil)))) aNil))))) sNil))))
class H_values_cast_pair (T : Tab) (ix : Nat → Nat) : Prop where
  h : Has T (ix i_values_cast_pair) 4 false 6 (c_values_cast_pair ix)
theorem r_values_cast_pair {T : Tab} {ix : Nat → Nat} [h : H_values_cast_pair T ix] (n : Nat) (a0 a1 a2 a3 : PV) (st : Sto) : T.call (n + 1) (ix i_values_cast_pair) [a0, a1, a2, a3] st = endOf false (c_values_cast_pair ix (T.call n) [.val a0, .val a1, .val a2, .val a3, .no, .no] st) := h.h.eq n [a0, a1, a2, a3] st rfl
def c_values_cast_value (ix : Nat → Nat) (call : Nat → List PV → Sto → Res PV) : SM := (sSeq (sIf (bVal (mBin opEq (mVar 1) (mVar 2))) (sSeq (sRet (mTup (aCons (mC (.str "ok")) (aCons (mVar 0) aNil)))) sNil) sNil) (sSeq (sIf (bVal (mBin opEq (mVar 2) (mC (.tup [(.str "any")])))) (sSeq (sRet (mCall (call (ix i_values_tagged)) (aCons (mVar 0) (aCons (mVar 1) (aCons (mVar 3) aNil))) [])) sNil) sNil) (sSeq (sIf (bVal (mBin opEq (mVar 1) (mC (.tup [(.str "any")])))) (sSeq (sIf (bVal (mBin opNe (mBinS opIx (mVar 0) (mC (.int 1))) (mCall (call (ix i_types_ground_of)) (aCons (mVar 2) aNil) []))) (sSeq (sRet (mTup (aCons (mC (.str "blame")) (aCons (mVar 3) aNil)))) sNil) sNil) (sSeq (sRet (mCall (call (ix i_values_cast_value)) (aCons (mBinS opIx (mVar 0) (mC (.int 2))) (aCons (mBinS opIx (mVar 0) (mC (.int 1))) (aCons (mVar 2) (aCons (mVar 3) aNil)))) [])) sNil)) sNil) (sSeq (sIf (bVal (mBin opEq (mBinS opIx (mVar 1) (mC (.int 0))) (mC (.str "fn")))) (sSeq (sRet (mTup (aCons (mC (.str "ok")) (aCons (mTup (aCons (mC (.str "wrap")) (aCons (mVar 0) (aCons (mVar 1) (aCons (mVar 2) (aCons (mVar 3) aNil)))))) aNil)))) sNil) sNil) (sSeq (sIf (bVal (mBin opEq (mBinS opIx (mVar 1) (mC (.int 0))) (mC (.str "pair")))) (sSeq (sRet (mCall (call (ix i_values_cast_pair)) (aCons (mVar 0) (aCons (mVar 1) (aCons (mVar 2) (aCons (mVar 3) aNil)))) [])) sNil) sNil) (sSeq (sRet (mCall (call (ix i_values_cast_items)) (aCons (mVar 0) (aCons (mVar 1) (aCons (mVar 2) (aCons (mVar 3) aNil)))) [])) sNil))))))
class H_values_cast_value (T : Tab) (ix : Nat → Nat) : Prop where
  h : Has T (ix i_values_cast_value) 4 false 4 (c_values_cast_value ix)
theorem r_values_cast_value {T : Tab} {ix : Nat → Nat} [h : H_values_cast_value T ix] (n : Nat) (a0 a1 a2 a3 : PV) (st : Sto) : T.call (n + 1) (ix i_values_cast_value) [a0, a1, a2, a3] st = endOf false (c_values_cast_value ix (T.call n) [.val a0, .val a1, .val a2, .val a3] st) := h.h.eq n [a0, a1, a2, a3] st rfl
def c_values_tagged (ix : Nat → Nat) (call : Nat → List PV → Sto → Res PV) : SM := (sSeq (sSet 3 (mCall (call (ix i_types_ground_of)) (aCons (mVar 1) aNil) [])) (sSeq (sSet 4 (mCall (call (ix i_values_cast_value)) (aCons (mVar 0) (aCons (mVar 1) (aCons (mVar 3) (aCons (mVar 2) aNil)))) [])) (sSeq (sRet (mIf (bVal (mBin opEq (mBinS opIx (mVar 4) (mC (.int 0))) (mC (.str "blame")))) (mVar 4) (mTup (aCons (mC (.str "ok")) (aCons (mTup (aCons (mC (.str "tag")) (aCons (mVar 3) (aCons (mBinS opIx (mVar 4) (mC (.int 1))) aNil)))) aNil))))) sNil)))
class H_values_tagged (T : Tab) (ix : Nat → Nat) : Prop where
  h : Has T (ix i_values_tagged) 3 false 5 (c_values_tagged ix)
theorem r_values_tagged {T : Tab} {ix : Nat → Nat} [h : H_values_tagged T ix] (n : Nat) (a0 a1 a2 : PV) (st : Sto) : T.call (n + 1) (ix i_values_tagged) [a0, a1, a2] st = endOf false (c_values_tagged ix (T.call n) [.val a0, .val a1, .val a2, .no, .no] st) := h.h.eq n [a0, a1, a2] st rfl
def c_threesomes_joined_all_0 (ix : Nat → Nat) (call : Nat → List PV → Sto → Res PV) : SM := (sSet 1 (mCall (call (ix i_threesomes_triple)) (aCons (mBinS opIx (mVar 0) (mC (.int 0))) (aCons (mBinS opIx (mVar 0) (mC (.int 0))) aNil)) []))
def c_threesomes_joined_all_1_0 (ix : Nat → Nat) (call : Nat → List PV → Sto → Res PV) : SM := (sSet 1 (mCall (call (ix i_threesomes_joined)) (aCons (mVar 1) (aCons (mCall (call (ix i_threesomes_triple)) (aCons (mVar 2) (aCons (mVar 3) aNil)) []) aNil)) []))
def c_threesomes_joined_all_1b (ix : Nat → Nat) (call : Nat → List PV → Sto → Res PV) : SM := (sSeq (c_threesomes_joined_all_1_0 ix call) sNil)
def c_threesomes_joined_all_1 (ix : Nat → Nat) (call : Nat → List PV → Sto → Res PV) : SM := (sFor (gTp (gsCons (gNm 2) (gsCons (gNm 3) gsNil))) (aZipM (aCons (mVar 0) (aCons (mSl (mVar 0) (oInt (mC (.int 1))) oNo) aNil))) (c_threesomes_joined_all_1b ix call))
def c_threesomes_joined_all_2 (ix : Nat → Nat) (call : Nat → List PV → Sto → Res PV) : SM := (sRet (mVar 1))
def c_threesomes_joined_all (ix : Nat → Nat) (call : Nat → List PV → Sto → Res PV) : SM := (sSeq (c_threesomes_joined_all_0 ix call) (sSeq (c_threesomes_joined_all_1 ix call) (sSeq (c_threesomes_joined_all_2 ix call) sNil)))
class H_threesomes_joined_all (T : Tab) (ix : Nat → Nat) : Prop where
  h : Has T (ix i_threesomes_joined_all) 1 false 4 (c_threesomes_joined_all ix)
theorem r_threesomes_joined_all {T : Tab} {ix : Nat → Nat} [h : H_threesomes_joined_all T ix] (n : Nat) (a0 : PV) (st : Sto) : T.call (n + 1) (ix i_threesomes_joined_all) [a0] st = endOf false (c_threesomes_joined_all ix (T.call n) [.val a0, .no, .no, .no] st) := h.h.eq n [a0] st rfl
def c_coercions_bend (ix : Nat → Nat) (call : Nat → List PV → Sto → Res PV) : SM := (sSeq (sIf (bVal (mBin opEq (mVar 1) (mC (.tup [(.str "any")])))) (sSeq (sRet (mTup (aCons (mC (.str "ok")) (aCons (mVar 0) aNil)))) sNil) sNil) (sSeq (sSet 2 (mBinS opIx (mVar 1) (mC (.int 1)))) (sSeq (sIf (bVal (mBin opIsNot (mVar 2) (mC .non))) (sSeq (sIf (bVal (mBin opNe (mBinS opIx (mVar 0) (mC (.int 1))) (mBinS opIx (mVar 2) (mC (.int 0))))) (sSeq (sRet (mTup (aCons (mC (.str "blame")) (aCons (mBinS opIx (mVar 2) (mC (.int 1))) aNil)))) sNil) sNil) (sSeq (sSet 0 (mBinS opIx (mVar 0) (mC (.int 2)))) sNil)) sNil) (sSeq (sIf (bVal (mBin opEq (mBinS opIx (mVar 1) (mC (.int 0))) (mC (.str "fail")))) (sSeq (sRet (mTup (aCons (mC (.str "blame")) (aCons (mBinS opIx (mVar 1) (mC (.int 2))) aNil)))) sNil) sNil) (sSeq (sSet 3 (mCall (call (ix i_coercions_bend_middle)) (aCons (mVar 0) (aCons (mBinS opIx (mVar 1) (mC (.int 2))) aNil)) [])) (sSeq (sIf (bOr (bVal (mBin opEq (mBinS opIx (mVar 3) (mC (.int 0))) (mC (.str "blame")))) (bVal (mBin opIs (mBinS opIx (mVar 1) (mC (.int 3))) (mC .non)))) (sSeq (sRet (mVar 3)) sNil) sNil) (sSeq (sRet (mTup (aCons (mC (.str "ok")) (aCons (mTup (aCons (mC (.str "tag")) (aCons (mBinS opIx (mVar 1) (mC (.int 3))) (aCons (mBinS opIx (mVar 3) (mC (.int 1))) aNil)))) aNil)))) sNil)))))))
class H_coercions_bend (T : Tab) (ix : Nat → Nat) : Prop where
  h : Has T (ix i_coercions_bend) 2 false 4 (c_coercions_bend ix)
theorem r_coercions_bend {T : Tab} {ix : Nat → Nat} [h : H_coercions_bend T ix] (n : Nat) (a0 a1 : PV) (st : Sto) : T.call (n + 1) (ix i_coercions_bend) [a0, a1] st = endOf false (c_coercions_bend ix (T.call n) [.val a0, .val a1, .no, .no] st) := h.h.eq n [a0, a1] st rfl
def c_coercions_bend_middle_0 (ix : Nat → Nat) (call : Nat → List PV → Sto → Res PV) : SM := (sIf (bVal (mBin opEq (mBinS opIx (mVar 1) (mC (.int 0))) (mC (.str "plain")))) (sSeq (sRet (mTup (aCons (mC (.str "ok")) (aCons (mVar 0) aNil)))) sNil) sNil)
def c_coercions_bend_middle_1 (ix : Nat → Nat) (call : Nat → List PV → Sto → Res PV) : SM := (sIf (bVal (mBin opEq (mBinS opIx (mVar 1) (mC (.int 0))) (mC (.str "fn")))) (sSeq (sIf (bVal (mBi (Bf.f .all) (aCons (mFz (aLc (aSeq (mSl (mVar 1) (oInt (mC (.int 1))) oNo)) [7] (gNm 7) bYes (mCall (call (ix i_coercions_is_idle)) (aCons (mVar 7) aNil) []))) aNil))) (sSeq (sRet (mTup (aCons (mC (.str "ok")) (aCons (mVar 0) aNil)))) sNil) sNil) (sSeq (sIf (bVal (mBin opEq (mBinS opIx (mVar 0) (mC (.int 0))) (mC (.str "bent")))) (sSeq (sRet (mTup (aCons (mC (.str "ok")) (aCons (mTup (aCons (mC (.str "bent")) (aCons (mBinS opIx (mVar 0) (mC (.int 1))) (aCons (mCall (call (ix i_coercions_middles)) (aCons (mBinS opIx (mVar 0) (mC (.int 2))) (aCons (mVar 1) aNil)) []) aNil)))) aNil)))) sNil) sNil) (sSeq (sRet (mTup (aCons (mC (.str "ok")) (aCons (mTup (aCons (mC (.str "bent")) (aCons (mVar 0) (aCons (mVar 1) aNil)))) aNil)))) sNil))) sNil)
def c_coercions_bend_middle_2 (ix : Nat → Nat) (call : Nat → List PV → Sto → Res PV) : SM := (sIf (bVal (mBin opEq (mBinS opIx (mVar 1) (mC (.int 0))) (mC (.str "pair")))) (sSeq (sSet 4 (mCall (call (ix i_coercions_bend)) (aCons (mBinS opIx (mVar 0) (mC (.int 1))) (aCons (mBinS opIx (mVar 1) (mC (.int 1))) aNil)) [])) (sSeq (sIf (bVal (mBin opEq (mBinS opIx (mVar 4) (mC (.int 0))) (mC (.str "blame")))) (sSeq (sRet (mVar 4)) sNil) sNil) (sSeq (sSet 5 (mCall (call (ix i_coercions_bend)) (aCons (mBinS opIx (mVar 0) (mC (.int 2))) (aCons (mBinS opIx (mVar 1) (mC (.int 2))) aNil)) [])) (sSeq (sRet (mIf (bVal (mBin opEq (mBinS opIx (mVar 5) (mC (.int 0))) (mC (.str "blame")))) (mVar 5) (mTup (aCons (mC (.str "ok")) (aCons (mTup (aCons (mC (.str "pair")) (aCons (mBinS opIx (mVar 4) (mC (.int 1))) (aCons (mBinS opIx (mVar 5) (mC (.int 1))) aNil)))) aNil))))) sNil)))) sNil)
def c_coercions_bend_middle_3 (ix : Nat → Nat) (call : Nat → List PV → Sto → Res PV) : SM := (sOwn 2 aNil)
def c_coercions_bend_middle_4_0 (ix : Nat → Nat) (call : Nat → List PV → Sto → Res PV) : SM := (sSet 6 (mCall (call (ix i_coercions_bend)) (aCons (mVar 3) (aCons (mBinS opIx (mVar 1) (mC (.int 1))) aNil)) []))
def c_coercions_bend_middle_4_1 (ix : Nat → Nat) (call : Nat → List PV → Sto → Res PV) : SM := (sIf (bVal (mBin opEq (mBinS opIx (mVar 6) (mC (.int 0))) (mC (.str "blame")))) (sSeq (sRet (mVar 6)) sNil) sNil)
def c_coercions_bend_middle_4_2 (ix : Nat → Nat) (call : Nat → List PV → Sto → Res PV) : SM := (sApp 2 (mBinS opIx (mVar 6) (mC (.int 1))))
def c_coercions_bend_middle_4b (ix : Nat → Nat) (call : Nat → List PV → Sto → Res PV) : SM := (sSeq (c_coercions_bend_middle_4_0 ix call) (sSeq (c_coercions_bend_middle_4_1 ix call) (sSeq (c_coercions_bend_middle_4_2 ix call) sNil)))
def c_coercions_bend_middle_4 (ix : Nat → Nat) (call : Nat → List PV → Sto → Res PV) : SM := (sFor (gNm 3) (aSeq (mBinS opIx (mVar 0) (mC (.int 1)))) (c_coercions_bend_middle_4b ix call))
def c_coercions_bend_middle_5 (ix : Nat → Nat) (call : Nat → List PV → Sto → Res PV) : SM := (sRet (mTup (aCons (mC (.str "ok")) (aCons (mTup (aCons (mC (.str "items")) (aCons (mBi1 fTuple 2) aNil))) aNil))))
def c_coercions_bend_middle (ix : Nat → Nat) (call : Nat → List PV → Sto → Res PV) : SM := (sSeq (c_coercions_bend_middle_0 ix call) (sSeq (c_coercions_bend_middle_1 ix call) (sSeq (c_coercions_bend_middle_2 ix call) (sSeq (c_coercions_bend_middle_3 ix call) (sSeq (c_coercions_bend_middle_4 ix call) (sSeq (c_coercions_bend_middle_5 ix call) sNil))))))
class H_coercions_bend_middle (T : Tab) (ix : Nat → Nat) : Prop where
  h : Has T (ix i_coercions_bend_middle) 2 false 8 (c_coercions_bend_middle ix)
theorem r_coercions_bend_middle {T : Tab} {ix : Nat → Nat} [h : H_coercions_bend_middle T ix] (n : Nat) (a0 a1 : PV) (st : Sto) : T.call (n + 1) (ix i_coercions_bend_middle) [a0, a1] st = endOf false (c_coercions_bend_middle ix (T.call n) [.val a0, .val a1, .no, .no, .no, .no, .no, .no] st) := h.h.eq n [a0, a1] st rfl
class B_coercions_fail_behind (T : Tab) (ix : Nat → Nat) : Prop where
  h_coercions_fail_behind : H_coercions_fail_behind T ix
class B_coercions_is_idle (T : Tab) (ix : Nat → Nat) : Prop where
  h_coercions_is_idle : H_coercions_is_idle T ix
class B_law_alike (T : Tab) (ix : Nat → Nat) : Prop where
  h_law_alike : H_law_alike T ix
class B_law_draw (T : Tab) (ix : Nat → Nat) : Prop where
  h_law_draw : H_law_draw T ix
class B_law_draws (T : Tab) (ix : Nat → Nat) : Prop where
  h_law_draws : H_law_draws T ix
class B_law_finer (T : Tab) (ix : Nat → Nat) : Prop where
  h_law_finer : H_law_finer T ix
class B_law_same (T : Tab) (ix : Nat → Nat) : Prop where
  h_law_same : H_law_same T ix
class B_relations_alike (T : Tab) (ix : Nat → Nat) : Prop where
  h_relations_alike : H_relations_alike T ix
class B_relations_finer (T : Tab) (ix : Nat → Nat) : Prop where
  h_relations_finer : H_relations_finer T ix
class B_relations_join (T : Tab) (ix : Nat → Nat) : Prop where
  h_relations_join : H_relations_join T ix
class B_relations_meet (T : Tab) (ix : Nat → Nat) : Prop where
  h_relations_meet : H_relations_meet T ix
class B_types_ground_of (T : Tab) (ix : Nat → Nat) : Prop where
  h_types_ground_of : H_types_ground_of T ix
class B_values_shown (T : Tab) (ix : Nat → Nat) : Prop where
  h_values_shown : H_values_shown T ix
class B_law_join (T : Tab) (ix : Nat → Nat) : Prop where
  h_law_join : H_law_join T ix
class B_law_meet (T : Tab) (ix : Nat → Nat) : Prop where
  h_law_meet : H_law_meet T ix
class B_types_all_types (T : Tab) (ix : Nat → Nat) : Prop where
  h_types_all_types : H_types_all_types T ix
class B_law_bare (T : Tab) (ix : Nat → Nat) : Prop where
  h_law_bare : H_law_bare T ix
class B_threesomes_goes (T : Tab) (ix : Nat → Nat) : Prop where
  h_threesomes_goes : H_threesomes_goes T ix
class B_threesomes_is_plain_middle (T : Tab) (ix : Nat → Nat) : Prop where
  h_threesomes_is_plain_middle : H_threesomes_is_plain_middle T ix
class B_threesomes_middle_meet (T : Tab) (ix : Nat → Nat) : Prop where
  h_threesomes_middle_meet : H_threesomes_middle_meet T ix
class B_threesomes_tells (T : Tab) (ix : Nat → Nat) : Prop where
  h_threesomes_tells : H_threesomes_tells T ix
class B_contracts_contract_of (T : Tab) (ix : Nat → Nat) : Prop where
  h_contracts_contract_of : H_contracts_contract_of T ix
class B_contracts_guard_value (T : Tab) (ix : Nat → Nat) : Prop where
  h_contracts_guard_value : H_contracts_guard_value T ix
class B_contracts_tighter (T : Tab) (ix : Nat → Nat) : Prop where
  h_contracts_tighter : H_contracts_tighter T ix
class B_law_plain (T : Tab) (ix : Nat → Nat) : Prop where
  h_law_draw : H_law_draw T ix
  h_law_plain : H_law_plain T ix
class B_law_type (T : Tab) (ix : Nat → Nat) : Prop where
  h_law_draw : H_law_draw T ix
  h_law_type : H_law_type T ix
class B_law_vaguer (T : Tab) (ix : Nat → Nat) : Prop where
  h_law_draw : H_law_draw T ix
  h_law_vaguer : H_law_vaguer T ix
class B_law_value (T : Tab) (ix : Nat → Nat) : Prop where
  h_law_draw : H_law_draw T ix
  h_law_value : H_law_value T ix
class B_threesomes_is_finest (T : Tab) (ix : Nat → Nat) : Prop where
  h_relations_finer : H_relations_finer T ix
  h_threesomes_is_finest : H_threesomes_is_finest T ix
class B_threesomes_is_triple (T : Tab) (ix : Nat → Nat) : Prop where
  h_threesomes_is_triple : H_threesomes_is_triple T ix
  h_threesomes_tells : H_threesomes_tells T ix
class B_threesomes_joined (T : Tab) (ix : Nat → Nat) : Prop where
  h_threesomes_middle_meet : H_threesomes_middle_meet T ix
  h_threesomes_joined : H_threesomes_joined T ix
class B_threesomes_least_middle (T : Tab) (ix : Nat → Nat) : Prop where
  h_relations_meet : H_relations_meet T ix
  h_threesomes_least_middle : H_threesomes_least_middle T ix
class B_threesomes_triple (T : Tab) (ix : Nat → Nat) : Prop where
  h_relations_meet : H_relations_meet T ix
  h_threesomes_triple : H_threesomes_triple T ix
class B_coercions_middle_of (T : Tab) (ix : Nat → Nat) : Prop where
  h_types_ground_of : H_types_ground_of T ix
  h_coercions_of_cast : H_coercions_of_cast T ix
  h_coercions_middle_of : H_coercions_middle_of T ix
class B_coercions_middles (T : Tab) (ix : Nat → Nat) : Prop where
  h_coercions_together : H_coercions_together T ix
  h_coercions_fail_behind : H_coercions_fail_behind T ix
  h_coercions_middles : H_coercions_middles T ix
class B_coercions_of_cast (T : Tab) (ix : Nat → Nat) : Prop where
  h_types_ground_of : H_types_ground_of T ix
  h_coercions_of_cast : H_coercions_of_cast T ix
  h_coercions_middle_of : H_coercions_middle_of T ix
class B_coercions_together (T : Tab) (ix : Nat → Nat) : Prop where
  h_coercions_together : H_coercions_together T ix
  h_coercions_fail_behind : H_coercions_fail_behind T ix
  h_coercions_middles : H_coercions_middles T ix
class B_law_plain_chain (T : Tab) (ix : Nat → Nat) : Prop where
  h_law_draw : H_law_draw T ix
  h_law_vaguer : H_law_vaguer T ix
  h_law_alike : H_law_alike T ix
  h_law_plain : H_law_plain T ix
  h_law_plain_chain : H_law_plain_chain T ix
class B_values_cast_items (T : Tab) (ix : Nat → Nat) : Prop where
  h_types_ground_of : H_types_ground_of T ix
  h_values_cast_value : H_values_cast_value T ix
  h_values_tagged : H_values_tagged T ix
  h_values_cast_pair : H_values_cast_pair T ix
  h_values_cast_items : H_values_cast_items T ix
class B_values_cast_pair (T : Tab) (ix : Nat → Nat) : Prop where
  h_types_ground_of : H_types_ground_of T ix
  h_values_cast_value : H_values_cast_value T ix
  h_values_tagged : H_values_tagged T ix
  h_values_cast_pair : H_values_cast_pair T ix
  h_values_cast_items : H_values_cast_items T ix
class B_values_cast_value (T : Tab) (ix : Nat → Nat) : Prop where
  h_types_ground_of : H_types_ground_of T ix
  h_values_cast_value : H_values_cast_value T ix
  h_values_tagged : H_values_tagged T ix
  h_values_cast_pair : H_values_cast_pair T ix
  h_values_cast_items : H_values_cast_items T ix
class B_values_tagged (T : Tab) (ix : Nat → Nat) : Prop where
  h_types_ground_of : H_types_ground_of T ix
  h_values_cast_value : H_values_cast_value T ix
  h_values_tagged : H_values_tagged T ix
  h_values_cast_pair : H_values_cast_pair T ix
  h_values_cast_items : H_values_cast_items T ix
class B_threesomes_joined_all (T : Tab) (ix : Nat → Nat) : Prop where
  h_relations_meet : H_relations_meet T ix
  h_threesomes_middle_meet : H_threesomes_middle_meet T ix
  h_threesomes_triple : H_threesomes_triple T ix
  h_threesomes_joined : H_threesomes_joined T ix
  h_threesomes_joined_all : H_threesomes_joined_all T ix
class B_coercions_bend (T : Tab) (ix : Nat → Nat) : Prop where
  h_coercions_together : H_coercions_together T ix
  h_coercions_fail_behind : H_coercions_fail_behind T ix
  h_coercions_middles : H_coercions_middles T ix
  h_coercions_is_idle : H_coercions_is_idle T ix
  h_coercions_bend : H_coercions_bend T ix
  h_coercions_bend_middle : H_coercions_bend_middle T ix
class B_coercions_bend_middle (T : Tab) (ix : Nat → Nat) : Prop where
  h_coercions_together : H_coercions_together T ix
  h_coercions_fail_behind : H_coercions_fail_behind T ix
  h_coercions_middles : H_coercions_middles T ix
  h_coercions_is_idle : H_coercions_is_idle T ix
  h_coercions_bend : H_coercions_bend T ix
  h_coercions_bend_middle : H_coercions_bend_middle T ix
instance {T : Tab} {ix : Nat → Nat} [h : B_coercions_fail_behind T ix] : H_coercions_fail_behind T ix := h.h_coercions_fail_behind
instance {T : Tab} {ix : Nat → Nat} [h : B_coercions_is_idle T ix] : H_coercions_is_idle T ix := h.h_coercions_is_idle
instance {T : Tab} {ix : Nat → Nat} [h : B_law_alike T ix] : H_law_alike T ix := h.h_law_alike
instance {T : Tab} {ix : Nat → Nat} [h : B_law_draw T ix] : H_law_draw T ix := h.h_law_draw
instance {T : Tab} {ix : Nat → Nat} [h : B_law_draws T ix] : H_law_draws T ix := h.h_law_draws
instance {T : Tab} {ix : Nat → Nat} [h : B_law_finer T ix] : H_law_finer T ix := h.h_law_finer
instance {T : Tab} {ix : Nat → Nat} [h : B_law_same T ix] : H_law_same T ix := h.h_law_same
instance {T : Tab} {ix : Nat → Nat} [h : B_relations_alike T ix] : H_relations_alike T ix := h.h_relations_alike
instance {T : Tab} {ix : Nat → Nat} [h : B_relations_finer T ix] : H_relations_finer T ix := h.h_relations_finer
instance {T : Tab} {ix : Nat → Nat} [h : B_relations_join T ix] : H_relations_join T ix := h.h_relations_join
instance {T : Tab} {ix : Nat → Nat} [h : B_relations_meet T ix] : H_relations_meet T ix := h.h_relations_meet
instance {T : Tab} {ix : Nat → Nat} [h : B_types_ground_of T ix] : H_types_ground_of T ix := h.h_types_ground_of
instance {T : Tab} {ix : Nat → Nat} [h : B_values_shown T ix] : H_values_shown T ix := h.h_values_shown
instance {T : Tab} {ix : Nat → Nat} [h : B_law_join T ix] : H_law_join T ix := h.h_law_join
instance {T : Tab} {ix : Nat → Nat} [h : B_law_meet T ix] : H_law_meet T ix := h.h_law_meet
instance {T : Tab} {ix : Nat → Nat} [h : B_types_all_types T ix] : H_types_all_types T ix := h.h_types_all_types
instance {T : Tab} {ix : Nat → Nat} [h : B_law_bare T ix] : H_law_bare T ix := h.h_law_bare
instance {T : Tab} {ix : Nat → Nat} [h : B_threesomes_goes T ix] : H_threesomes_goes T ix := h.h_threesomes_goes
instance {T : Tab} {ix : Nat → Nat} [h : B_threesomes_is_plain_middle T ix] : H_threesomes_is_plain_middle T ix := h.h_threesomes_is_plain_middle
instance {T : Tab} {ix : Nat → Nat} [h : B_threesomes_middle_meet T ix] : H_threesomes_middle_meet T ix := h.h_threesomes_middle_meet
instance {T : Tab} {ix : Nat → Nat} [h : B_threesomes_tells T ix] : H_threesomes_tells T ix := h.h_threesomes_tells
instance {T : Tab} {ix : Nat → Nat} [h : B_contracts_contract_of T ix] : H_contracts_contract_of T ix := h.h_contracts_contract_of
instance {T : Tab} {ix : Nat → Nat} [h : B_contracts_guard_value T ix] : H_contracts_guard_value T ix := h.h_contracts_guard_value
instance {T : Tab} {ix : Nat → Nat} [h : B_contracts_tighter T ix] : H_contracts_tighter T ix := h.h_contracts_tighter
instance {T : Tab} {ix : Nat → Nat} [h : B_law_plain T ix] : B_law_draw T ix := ⟨h.h_law_draw⟩
instance {T : Tab} {ix : Nat → Nat} [h : B_law_plain T ix] : H_law_plain T ix := h.h_law_plain
instance {T : Tab} {ix : Nat → Nat} [h : B_law_type T ix] : B_law_draw T ix := ⟨h.h_law_draw⟩
instance {T : Tab} {ix : Nat → Nat} [h : B_law_type T ix] : H_law_type T ix := h.h_law_type
instance {T : Tab} {ix : Nat → Nat} [h : B_law_vaguer T ix] : B_law_draw T ix := ⟨h.h_law_draw⟩
instance {T : Tab} {ix : Nat → Nat} [h : B_law_vaguer T ix] : H_law_vaguer T ix := h.h_law_vaguer
instance {T : Tab} {ix : Nat → Nat} [h : B_law_value T ix] : B_law_draw T ix := ⟨h.h_law_draw⟩
instance {T : Tab} {ix : Nat → Nat} [h : B_law_value T ix] : H_law_value T ix := h.h_law_value
instance {T : Tab} {ix : Nat → Nat} [h : B_threesomes_is_finest T ix] : B_relations_finer T ix := ⟨h.h_relations_finer⟩
instance {T : Tab} {ix : Nat → Nat} [h : B_threesomes_is_finest T ix] : H_threesomes_is_finest T ix := h.h_threesomes_is_finest
instance {T : Tab} {ix : Nat → Nat} [h : B_threesomes_is_triple T ix] : H_threesomes_is_triple T ix := h.h_threesomes_is_triple
instance {T : Tab} {ix : Nat → Nat} [h : B_threesomes_is_triple T ix] : B_threesomes_tells T ix := ⟨h.h_threesomes_tells⟩
instance {T : Tab} {ix : Nat → Nat} [h : B_threesomes_joined T ix] : B_threesomes_middle_meet T ix := ⟨h.h_threesomes_middle_meet⟩
instance {T : Tab} {ix : Nat → Nat} [h : B_threesomes_joined T ix] : H_threesomes_joined T ix := h.h_threesomes_joined
instance {T : Tab} {ix : Nat → Nat} [h : B_threesomes_least_middle T ix] : B_relations_meet T ix := ⟨h.h_relations_meet⟩
instance {T : Tab} {ix : Nat → Nat} [h : B_threesomes_least_middle T ix] : H_threesomes_least_middle T ix := h.h_threesomes_least_middle
instance {T : Tab} {ix : Nat → Nat} [h : B_threesomes_triple T ix] : B_relations_meet T ix := ⟨h.h_relations_meet⟩
instance {T : Tab} {ix : Nat → Nat} [h : B_threesomes_triple T ix] : H_threesomes_triple T ix := h.h_threesomes_triple
instance {T : Tab} {ix : Nat → Nat} [h : B_coercions_middle_of T ix] : B_types_ground_of T ix := ⟨h.h_types_ground_of⟩
instance {T : Tab} {ix : Nat → Nat} [h : B_coercions_middle_of T ix] : B_coercions_of_cast T ix := ⟨h.h_types_ground_of, h.h_coercions_of_cast, h.h_coercions_middle_of⟩
instance {T : Tab} {ix : Nat → Nat} [h : B_coercions_middle_of T ix] : H_coercions_middle_of T ix := h.h_coercions_middle_of
instance {T : Tab} {ix : Nat → Nat} [h : B_coercions_middles T ix] : B_coercions_together T ix := ⟨h.h_coercions_together, h.h_coercions_fail_behind, h.h_coercions_middles⟩
instance {T : Tab} {ix : Nat → Nat} [h : B_coercions_middles T ix] : B_coercions_fail_behind T ix := ⟨h.h_coercions_fail_behind⟩
instance {T : Tab} {ix : Nat → Nat} [h : B_coercions_middles T ix] : H_coercions_middles T ix := h.h_coercions_middles
instance {T : Tab} {ix : Nat → Nat} [h : B_coercions_of_cast T ix] : B_types_ground_of T ix := ⟨h.h_types_ground_of⟩
instance {T : Tab} {ix : Nat → Nat} [h : B_coercions_of_cast T ix] : H_coercions_of_cast T ix := h.h_coercions_of_cast
instance {T : Tab} {ix : Nat → Nat} [h : B_coercions_of_cast T ix] : B_coercions_middle_of T ix := ⟨h.h_types_ground_of, h.h_coercions_of_cast, h.h_coercions_middle_of⟩
instance {T : Tab} {ix : Nat → Nat} [h : B_coercions_together T ix] : H_coercions_together T ix := h.h_coercions_together
instance {T : Tab} {ix : Nat → Nat} [h : B_coercions_together T ix] : B_coercions_fail_behind T ix := ⟨h.h_coercions_fail_behind⟩
instance {T : Tab} {ix : Nat → Nat} [h : B_coercions_together T ix] : B_coercions_middles T ix := ⟨h.h_coercions_together, h.h_coercions_fail_behind, h.h_coercions_middles⟩
instance {T : Tab} {ix : Nat → Nat} [h : B_law_plain_chain T ix] : B_law_draw T ix := ⟨h.h_law_draw⟩
instance {T : Tab} {ix : Nat → Nat} [h : B_law_plain_chain T ix] : B_law_vaguer T ix := ⟨h.h_law_draw, h.h_law_vaguer⟩
instance {T : Tab} {ix : Nat → Nat} [h : B_law_plain_chain T ix] : B_law_alike T ix := ⟨h.h_law_alike⟩
instance {T : Tab} {ix : Nat → Nat} [h : B_law_plain_chain T ix] : B_law_plain T ix := ⟨h.h_law_draw, h.h_law_plain⟩
instance {T : Tab} {ix : Nat → Nat} [h : B_law_plain_chain T ix] : H_law_plain_chain T ix := h.h_law_plain_chain
instance {T : Tab} {ix : Nat → Nat} [h : B_values_cast_items T ix] : B_types_ground_of T ix := ⟨h.h_types_ground_of⟩
instance {T : Tab} {ix : Nat → Nat} [h : B_values_cast_items T ix] : B_values_cast_value T ix := ⟨h.h_types_ground_of, h.h_values_cast_value, h.h_values_tagged, h.h_values_cast_pair, h.h_values_cast_items⟩
instance {T : Tab} {ix : Nat → Nat} [h : B_values_cast_items T ix] : B_values_tagged T ix := ⟨h.h_types_ground_of, h.h_values_cast_value, h.h_values_tagged, h.h_values_cast_pair, h.h_values_cast_items⟩
instance {T : Tab} {ix : Nat → Nat} [h : B_values_cast_items T ix] : B_values_cast_pair T ix := ⟨h.h_types_ground_of, h.h_values_cast_value, h.h_values_tagged, h.h_values_cast_pair, h.h_values_cast_items⟩
instance {T : Tab} {ix : Nat → Nat} [h : B_values_cast_items T ix] : H_values_cast_items T ix := h.h_values_cast_items
instance {T : Tab} {ix : Nat → Nat} [h : B_values_cast_pair T ix] : B_types_ground_of T ix := ⟨h.h_types_ground_of⟩
instance {T : Tab} {ix : Nat → Nat} [h : B_values_cast_pair T ix] : B_values_cast_value T ix := ⟨h.h_types_ground_of, h.h_values_cast_value, h.h_values_tagged, h.h_values_cast_pair, h.h_values_cast_items⟩
instance {T : Tab} {ix : Nat → Nat} [h : B_values_cast_pair T ix] : B_values_tagged T ix := ⟨h.h_types_ground_of, h.h_values_cast_value, h.h_values_tagged, h.h_values_cast_pair, h.h_values_cast_items⟩
instance {T : Tab} {ix : Nat → Nat} [h : B_values_cast_pair T ix] : H_values_cast_pair T ix := h.h_values_cast_pair
instance {T : Tab} {ix : Nat → Nat} [h : B_values_cast_pair T ix] : B_values_cast_items T ix := ⟨h.h_types_ground_of, h.h_values_cast_value, h.h_values_tagged, h.h_values_cast_pair, h.h_values_cast_items⟩
instance {T : Tab} {ix : Nat → Nat} [h : B_values_cast_value T ix] : B_types_ground_of T ix := ⟨h.h_types_ground_of⟩
instance {T : Tab} {ix : Nat → Nat} [h : B_values_cast_value T ix] : H_values_cast_value T ix := h.h_values_cast_value
instance {T : Tab} {ix : Nat → Nat} [h : B_values_cast_value T ix] : B_values_tagged T ix := ⟨h.h_types_ground_of, h.h_values_cast_value, h.h_values_tagged, h.h_values_cast_pair, h.h_values_cast_items⟩
instance {T : Tab} {ix : Nat → Nat} [h : B_values_cast_value T ix] : B_values_cast_pair T ix := ⟨h.h_types_ground_of, h.h_values_cast_value, h.h_values_tagged, h.h_values_cast_pair, h.h_values_cast_items⟩
instance {T : Tab} {ix : Nat → Nat} [h : B_values_cast_value T ix] : B_values_cast_items T ix := ⟨h.h_types_ground_of, h.h_values_cast_value, h.h_values_tagged, h.h_values_cast_pair, h.h_values_cast_items⟩
instance {T : Tab} {ix : Nat → Nat} [h : B_values_tagged T ix] : B_types_ground_of T ix := ⟨h.h_types_ground_of⟩
instance {T : Tab} {ix : Nat → Nat} [h : B_values_tagged T ix] : B_values_cast_value T ix := ⟨h.h_types_ground_of, h.h_values_cast_value, h.h_values_tagged, h.h_values_cast_pair, h.h_values_cast_items⟩
instance {T : Tab} {ix : Nat → Nat} [h : B_values_tagged T ix] : H_values_tagged T ix := h.h_values_tagged
instance {T : Tab} {ix : Nat → Nat} [h : B_values_tagged T ix] : B_values_cast_pair T ix := ⟨h.h_types_ground_of, h.h_values_cast_value, h.h_values_tagged, h.h_values_cast_pair, h.h_values_cast_items⟩
instance {T : Tab} {ix : Nat → Nat} [h : B_values_tagged T ix] : B_values_cast_items T ix := ⟨h.h_types_ground_of, h.h_values_cast_value, h.h_values_tagged, h.h_values_cast_pair, h.h_values_cast_items⟩
instance {T : Tab} {ix : Nat → Nat} [h : B_threesomes_joined_all T ix] : B_relations_meet T ix := ⟨h.h_relations_meet⟩
instance {T : Tab} {ix : Nat → Nat} [h : B_threesomes_joined_all T ix] : B_threesomes_middle_meet T ix := ⟨h.h_threesomes_middle_meet⟩
instance {T : Tab} {ix : Nat → Nat} [h : B_threesomes_joined_all T ix] : B_threesomes_triple T ix := ⟨h.h_relations_meet, h.h_threesomes_triple⟩
instance {T : Tab} {ix : Nat → Nat} [h : B_threesomes_joined_all T ix] : B_threesomes_joined T ix := ⟨h.h_threesomes_middle_meet, h.h_threesomes_joined⟩
instance {T : Tab} {ix : Nat → Nat} [h : B_threesomes_joined_all T ix] : H_threesomes_joined_all T ix := h.h_threesomes_joined_all
instance {T : Tab} {ix : Nat → Nat} [h : B_coercions_bend T ix] : B_coercions_together T ix := ⟨h.h_coercions_together, h.h_coercions_fail_behind, h.h_coercions_middles⟩
instance {T : Tab} {ix : Nat → Nat} [h : B_coercions_bend T ix] : B_coercions_fail_behind T ix := ⟨h.h_coercions_fail_behind⟩
instance {T : Tab} {ix : Nat → Nat} [h : B_coercions_bend T ix] : B_coercions_middles T ix := ⟨h.h_coercions_together, h.h_coercions_fail_behind, h.h_coercions_middles⟩
instance {T : Tab} {ix : Nat → Nat} [h : B_coercions_bend T ix] : B_coercions_is_idle T ix := ⟨h.h_coercions_is_idle⟩
instance {T : Tab} {ix : Nat → Nat} [h : B_coercions_bend T ix] : H_coercions_bend T ix := h.h_coercions_bend
instance {T : Tab} {ix : Nat → Nat} [h : B_coercions_bend T ix] : B_coercions_bend_middle T ix := ⟨h.h_coercions_together, h.h_coercions_fail_behind, h.h_coercions_middles, h.h_coercions_is_idle, h.h_coercions_bend, h.h_coercions_bend_middle⟩
instance {T : Tab} {ix : Nat → Nat} [h : B_coercions_bend_middle T ix] : B_coercions_together T ix := ⟨h.h_coercions_together, h.h_coercions_fail_behind, h.h_coercions_middles⟩
instance {T : Tab} {ix : Nat → Nat} [h : B_coercions_bend_middle T ix] : B_coercions_fail_behind T ix := ⟨h.h_coercions_fail_behind⟩
instance {T : Tab} {ix : Nat → Nat} [h : B_coercions_bend_middle T ix] : B_coercions_middles T ix := ⟨h.h_coercions_together, h.h_coercions_fail_behind, h.h_coercions_middles⟩
instance {T : Tab} {ix : Nat → Nat} [h : B_coercions_bend_middle T ix] : B_coercions_is_idle T ix := ⟨h.h_coercions_is_idle⟩
instance {T : Tab} {ix : Nat → Nat} [h : B_coercions_bend_middle T ix] : B_coercions_bend T ix := ⟨h.h_coercions_together, h.h_coercions_fail_behind, h.h_coercions_middles, h.h_coercions_is_idle, h.h_coercions_bend, h.h_coercions_bend_middle⟩
instance {T : Tab} {ix : Nat → Nat} [h : B_coercions_bend_middle T ix] : H_coercions_bend_middle T ix := h.h_coercions_bend_middle
end BK

/-! LgC: casts of values -/
namespace BK
open PySem PySem.Spec PyProof.Rows L2 RZ

theorem ground_ok {T : Tab} {ix : Nat → Nat} [B_types_ground_of T ix] (n : Nat) (k : Ty) (st : Sto) : T.call (n + 1) (ix i_types_ground_of) [enc k] st = .ok (enc (grd k)) st := by
  rw [r_types_ground_of]
  unfold c_types_ground_of
  cases k <;> simp [mul0, mul1, mul2, grd]
/-- cast_value answers at n calls -/
def CastOk (T : Tab) (ix : Nat → Nat) (n : Nat) (v : Va) (k d : Ty) : Prop := ∀ nm st, T.call n (ix i_values_cast_value) [encV v, enc k, enc d, nm] st = .ok (res nm (vcast k d v)) st
theorem P_same {T : Tab} {ix : Nat → Nat} [B_values_cast_value T ix] {m : Nat} {v : Va} {k : Ty} (hk : k.dep ≤ 50) (h : has k v = true) : CastOk T ix (m + 1) v k k := fun nm st => by
  rw [r_values_cast_value]
  unfold c_values_cast_value
  simp [eq_enc, hk, cast_self k v h, res]
theorem P_pair {T : Tab} {ix : Nat → Nat} [B_values_cast_value T ix] {m : Nat} {x y : Va} {a b c e : Ty} (hk : (Ty.pair a b).dep ≤ 50) (h : has (.pair a b) (.pair x y) = true) (h1 : CastOk T ix m x a c) (h2 : CastOk T ix m y b e) : CastOk T ix (m + 2) (.pair x y) (.pair a b) (.pair c e) := fun nm st => by
  by_cases q : Ty.pair a b = .pair c e
  · rw [← q]; exact P_same (T := T) (ix := ix) hk h nm st
  have g : T.call (m + 1) (ix i_values_cast_pair) [encV (.pair x y), enc (.pair a b), enc (.pair c e), nm] st = .ok (res nm (vcast (.pair a b) (.pair c e) (.pair x y))) st := by
    rw [r_values_cast_pair]
    unfold c_values_cast_pair
    have h1 := h1 nm st
    have h2 := h2 nm st
    cases e1 : vcast a c x <;> simp [e1, res] at h1
    · simp [h1, vcast, e1, res]
    · cases e2 : vcast b e y <;> simp [e2, res] at h2
      · simp [h1, h2, vcast, e1, e2, res]
      · simp [h1, h2, vcast, e1, e2, res]
  rw [r_values_cast_value]
  unfold c_values_cast_value
  simp [eq_enc, hk, q, g]
theorem P_up {T : Tab} {ix : Nat → Nat} [B_values_tagged T ix] {m : Nat} {v w : Va} {k : Ty} (hk : k.dep ≤ 50) (hn : k ≠ .any) (e : vcast k (grd k) v = some w) (h : CastOk T ix (m + 1) v k (grd k)) (hu : up k v = .tag (grd k) w) : CastOk T ix (m + 3) v k .any := fun nm st => by
  have g : T.call (m + 2) (ix i_values_tagged) [encV v, enc k, nm] st = .ok (res nm (vcast k .any v)) st := by
    rw [r_values_tagged]
    unfold c_values_tagged
    have h := h nm st
    simp [e, res] at h
    have c0 : vcast k .any v = some (up k v) := by simp [vcast]
    simp [ground_ok, h, c0, hu, res]
  rw [r_values_cast_value]
  unfold c_values_cast_value
  simp [eq_enc, hk, hn, g]
theorem P_down {T : Tab} {ix : Nat → Nat} [B_values_cast_value T ix] {m : Nat} {w : Va} {g d : Ty} (hg : g.dep ≤ 50) (hd : d ≠ .any) (h : g = grd d → CastOk T ix (m + 1) w g d) : CastOk T ix (m + 2) (.tag g w) .any d := fun nm st => by
  have e : vcast .any d (.tag g w) = if g = grd d then vcast g d w else none := by cases d <;> first | rfl | exact absurd rfl hd
  have a50 : Ty.dep .any ≤ 50 := by decide
  rw [r_values_cast_value, e]
  unfold c_values_cast_value
  by_cases q : g = grd d
  · have h := h q nm st
    rw [if_pos q]
    simp [eq_enc, Ne.symm hd, hd, ground_ok, ne_enc, hg, a50, ← q, h]
  · rw [if_neg q]
    simp [eq_enc, Ne.symm hd, hd, ground_ok, ne_enc, hg, a50, q, res]

theorem app4 {m : EM} {a0 a1 a2 a3 s5 s6 : Slot} {acc : List PV} {st : Sto} : sApp 4 m [a0, a1, a2, a3, .own (.lst acc), s5, s6] st = @SR.ofK _ (m [a0, a1, a2, a3, .own (.lst acc), s5, s6] st) ⟨fun x st1 => if acc.length < sizeLine then .nx [a0, a1, a2, a3, .own (.lst (acc ++ [x])), s5, s6] st1 else .bad⟩ := x_appOwn rfl
theorem items_go {T : Tab} {ix : Nat → Nat} [B_values_cast_items T ix] {m : Nat} {a c : Ty} {nm : PV} {st : Sto} {a0 : Slot} : ∀ (l : Vs) (acc : List PV) (s5 s6 : Slot), AllV (fun v => CastOk T ix m v a c) l → acc.length + l.len ≤ 2000 →
    (∀ l', vcastL a c l = some l' → ∃ s5' s6', forGo (gNm 5) (c_values_cast_items_1b ix (T.call m)) (encVs l) [a0, .val (enc (.list a)), .val (enc (.list c)), .val nm, .own (.lst acc), s5, s6] st = .nx [a0, .val (enc (.list a)), .val (enc (.list c)), .val nm, .own (.lst (acc ++ encVs l')), s5', s6'] st) ∧
    (vcastL a c l = none → forGo (gNm 5) (c_values_cast_items_1b ix (T.call m)) (encVs l) [a0, .val (enc (.list a)), .val (enc (.list c)), .val nm, .own (.lst acc), s5, s6] st = .ret (blP nm) st)
  | .nil, acc, s5, s6, _, _ => ⟨fun l' h => by
      simp only [vcastL, Option.some.injEq] at h
      subst h
      exact ⟨s5, s6, by simp [encVs]⟩, fun h => by simp [vcastL] at h⟩
  | .cons v l, acc, s5, s6, h, hl => by
    obtain ⟨h1, h2⟩ := h
    simp only [Vs.len] at hl
    have hs : acc.length < sizeLine := Nat.lt_of_lt_of_le (by omega : acc.length < 3000) (by decide)
    have hv := h1 nm st
    have step : ∀ ρ, forGo (gNm 5) (c_values_cast_items_1b ix (T.call m)) (encVs (.cons v l)) ρ st = (match c_values_cast_items_1b ix (T.call m) (ρ.set 5 (.val (encV v))) st with
      | .nx ρ1 st1 => forGo (gNm 5) (c_values_cast_items_1b ix (T.call m)) (encVs l) ρ1 st1
      | .ct ρ1 st1 => forGo (gNm 5) (c_values_cast_items_1b ix (T.call m)) (encVs l) ρ1 st1
      | .brk ρ1 st1 => .nx ρ1 st1
      | r => r) := fun ρ => rfl
    cases e : vcast a c v with
    | none =>
      rw [e] at hv
      simp only [res] at hv
      refine ⟨fun l' q => by simp [vcastL, e] at q, fun _ => ?_⟩
      rw [step]
      have b : c_values_cast_items_1b ix (T.call m) ([a0, .val (enc (.list a)), .val (enc (.list c)), .val nm, .own (.lst acc), s5, s6].set 5 (.val (encV v))) st = .ret (blP nm) st := by
        simp [c_values_cast_items_1b, c_values_cast_items_1_0, c_values_cast_items_1_1, hv]
      rw [b]
    | some w =>
      rw [e] at hv
      simp only [res] at hv
      have b : c_values_cast_items_1b ix (T.call m) ([a0, .val (enc (.list a)), .val (enc (.list c)), .val nm, .own (.lst acc), s5, s6].set 5 (.val (encV v))) st = .nx [a0, .val (enc (.list a)), .val (enc (.list c)), .val nm, .own (.lst (acc ++ [encV w])), .val (encV v), .val (okP w)] st := by
        simp [c_values_cast_items_1b, c_values_cast_items_1_0, c_values_cast_items_1_1, c_values_cast_items_1_2, hv, app4, hs]
      obtain ⟨i1, i2⟩ := items_go (T := T) (ix := ix) (nm := nm) (st := st) (a0 := a0) l (acc ++ [encV w]) (.val (encV v)) (.val (okP w)) h2 (by simp; omega)
      refine ⟨fun l' q => ?_, fun q => ?_⟩
      · simp only [vcastL, e, Option.bind_some, Option.map_eq_some_iff] at q
        obtain ⟨l2, q1, rfl⟩ := q
        obtain ⟨s5', s6', g⟩ := i1 l2 q1
        refine ⟨s5', s6', ?_⟩
        rw [step, b]
        simp only
        rw [g]
        simp [encVs]
      · rw [step, b]
        simp only
        refine i2 ?_
        cases q2 : vcastL a c l with
        | none => rfl
        | some l2 => simp [vcastL, e, q2] at q
theorem P_items {T : Tab} {ix : Nat → Nat} [B_values_cast_value T ix] {m : Nat} {l : Vs} {a c : Ty} (hk : (Ty.list a).dep ≤ 50) (h : has (.list a) (.items l) = true) (hl : l.len ≤ 1000) (h1 : AllV (fun v => CastOk T ix m v a c) l) : CastOk T ix (m + 2) (.items l) (.list a) (.list c) := fun nm st => by
  by_cases q : Ty.list a = .list c
  · rw [← q]; exact P_same (T := T) (ix := ix) hk h nm st
  have g : T.call (m + 1) (ix i_values_cast_items) [encV (.items l), enc (.list a), enc (.list c), nm] st = .ok (res nm (vcast (.list a) (.list c) (.items l))) st := by
    rw [r_values_cast_items]
    unfold c_values_cast_items
    obtain ⟨i1, i2⟩ := items_go (T := T) (ix := ix) (m := m) (nm := nm) (st := st) (a0 := .val (encV (.items l))) l [] .no .no h1 (by simp; omega)
    have e0 : c_values_cast_items_0 ix (T.call m) [.val (encV (.items l)), .val (enc (.list a)), .val (enc (.list c)), .val nm, .no, .no, .no] st = .nx [.val (encV (.items l)), .val (enc (.list a)), .val (enc (.list c)), .val nm, .own (.lst []), .no, .no] st := by simp [c_values_cast_items_0]
    have e1 : c_values_cast_items_1 ix (T.call m) [.val (encV (.items l)), .val (enc (.list a)), .val (enc (.list c)), .val nm, .own (.lst []), .no, .no] st = forGo (gNm 5) (c_values_cast_items_1b ix (T.call m)) (encVs l) [.val (encV (.items l)), .val (enc (.list a)), .val (enc (.list c)), .val nm, .own (.lst []), .no, .no] st := by simp [c_values_cast_items_1]
    rw [x_seq, e0, nextS_nx]
    show endOf false (sSeq (c_values_cast_items_1 ix (T.call m)) _ _ _) = _
    rw [x_seq, e1]
    cases e : vcastL a c l with
    | none => rw [i2 e]; simp [vcast, e, res]
    | some l' =>
      obtain ⟨s5', s6', g⟩ := i1 l' e
      rw [g]
      simp [c_values_cast_items_2, vcast, e, res]
  rw [r_values_cast_value]
  unfold c_values_cast_value
  simp [eq_enc, hk, q, g]
theorem isGr_dep {g : Ty} (h : isGr g = true) : g.dep ≤ 2 := by
  cases g <;> simp [isGr] at h <;> simp [Ty.dep]
  · rename_i a b
    cases a <;> cases b <;> simp [isGr] at h <;> simp [Ty.dep]
  · rename_i a
    cases a <;> simp [isGr] at h <;> simp [Ty.dep]
theorem vcastL_any (a : Ty) : ∀ l : Vs, vcastL a .any l = some (upL a l)
  | .nil => rfl
  | .cons v l => by simp [vcastL, vcast, upL, vcastL_any a l]
theorem cast_ok {T : Tab} {ix : Nat → Nat} [B_values_cast_value T ix] : ∀ (D : Nat) (v : Va) (k d : Ty) (n : Nat), v.dep ≤ D → 4 * D + 1 ≤ n → has k v = true → slim v = true → alike k d = true → k.dep ≤ 20 → d.dep ≤ 20 → CastOk T ix n v k d
  | 0, v, k, d, n, h, _, _, _, _, _, _ => by have := va_pos v; omega
  | D + 1, v, k, d, n, hv, hn, ht, hs, ha, hk, hd => by
    have ih := cast_ok (T := T) (ix := ix) D
    have k50 : k.dep ≤ 50 := by omega
    obtain ⟨m, rfl⟩ : ∃ m, n = m + 5 := ⟨n - 5, by omega⟩
    by_cases q : k = d
    · subst q; exact P_same (T := T) (ix := ix) k50 ht
    cases k with
    | any =>
      cases v <;> simp [has] at ht
      rename_i g w
      simp only [Va.dep] at hv
      simp only [slim] at hs
      have gd : g.dep ≤ 2 := isGr_dep ht.1
      exact P_down (T := T) (ix := ix) (m := m + 3) (by omega) (Ne.symm q) fun e => ih w g d _ (by omega) (by omega) ht.2 hs (by rw [e]; exact alike_grd d) (by omega) hd
    | int =>
      cases v <;> simp [has] at ht
      cases d <;> simp [alike] at ha q
      exact P_up (T := T) (ix := ix) (m := m + 2) k50 (by simp) (w := .int _) rfl (P_same (T := T) (ix := ix) (m := m + 2) k50 rfl) rfl
    | bool =>
      cases v <;> simp [has] at ht
      cases d <;> simp [alike] at ha q
      exact P_up (T := T) (ix := ix) (m := m + 2) k50 (by simp) (w := .bool _) rfl (P_same (T := T) (ix := ix) (m := m + 2) k50 rfl) rfl
    | fn a b => cases v <;> simp [has] at ht
    | pair a b =>
      cases v <;> simp [has] at ht
      rename_i x y
      simp only [Va.dep] at hv
      simp only [slim, Bool.and_eq_true] at hs
      simp only [Ty.dep] at hk
      have hh : has (.pair a b) (.pair x y) = true := by simp [has, ht]
      cases d <;> simp [alike] at ha
      · have p1 := ih x a .any (m + 1) (by omega) (by omega) ht.1 hs.1 (alike_any a) (by omega) (by simp [Ty.dep])
        have p2 := ih y b .any (m + 1) (by omega) (by omega) ht.2 hs.2 (alike_any b) (by omega) (by simp [Ty.dep])
        exact P_up (T := T) (ix := ix) (m := m + 2) k50 (by simp) (w := .pair (up a x) (up b y)) (by simp [grd, vcast]) (P_pair (T := T) (ix := ix) (m := m + 1) k50 hh p1 p2) (by simp [up, grd])
      · rename_i c e
        simp only [Ty.dep] at hd
        exact P_pair (T := T) (ix := ix) (m := m + 3) k50 hh (ih x a c _ (by omega) (by omega) ht.1 hs.1 ha.1 (by omega) (by omega)) (ih y b e _ (by omega) (by omega) ht.2 hs.2 ha.2 (by omega) (by omega))
    | list a =>
      cases v <;> simp [has] at ht
      rename_i l
      simp only [Va.dep] at hv
      simp only [slim, Bool.and_eq_true, decide_eq_true_eq] at hs
      simp only [Ty.dep] at hk
      have hh : has (.list a) (.items l) = true := by simp [has, ht]
      have all : ∀ (c : Ty) (n : Nat), 4 * D + 1 ≤ n → alike a c = true → c.dep ≤ 20 → ∀ l : Vs, l.dep ≤ D → hasL a l = true → slimL l = true → AllV (fun v => CastOk T ix n v a c) l := by
        intro c n hn ha hc l
        induction l using Vs.rec (motive_1 := fun _ => True) with
        | nil => intro _ _ _; trivial
        | cons v l _ ihl =>
          intro hd ht hs
          simp only [Vs.dep] at hd
          simp only [hasL, Bool.and_eq_true] at ht
          simp only [slimL, Bool.and_eq_true] at hs
          exact ⟨ih v a c n (by omega) hn ht.1 hs.1 ha (by omega) hc, ihl (by omega) ht.2 hs.2⟩
        | _ => trivial
      cases d <;> simp [alike] at ha
      · exact P_up (T := T) (ix := ix) (m := m + 2) k50 (by simp) (w := .items (upL a l)) (by simp [grd, vcast, vcastL_any]) (P_items (T := T) (ix := ix) (m := m + 1) k50 hh hs.1 (all .any (m + 1) (by omega) (alike_any a) (by simp [Ty.dep]) l (by omega) ht hs.2)) (by simp [up, grd])
      · rename_i c
        simp only [Ty.dep] at hd
        exact P_items (T := T) (ix := ix) (m := m + 3) k50 hh hs.1 (all c (m + 3) (by omega) ha (by omega) l (by omega) ht hs.2)
end BK

/-! LgD: draws of types and values -/
namespace BK
open PySem PySem.Spec PyProof.Rows L2 RZ

theorem shown_go {T : Tab} {ix : Nat → Nat} [B_values_shown T ix] {n : Nat} {x : PV} {st : Sto} : ∀ l : Vs, AllV (fun v => ∀ st, T.call n (ix i_values_shown) [encV v] st = .ok (encV (sh v)) st) l → compGo (gNm 1) bYes (mCall (T.call n (ix i_values_shown)) (aCons (mVar 1) aNil) []) [.val x, .no] (encVs l) st = .ok (encVs (shL l)) st
  | .nil, _ => rfl
  | .cons v l, h => by
    have ih := shown_go (T := T) (ix := ix) (x := x) (st := st) l h.2
    simp [encVs, shL, h.1 st, ih]
theorem shown_ok {T : Tab} {ix : Nat → Nat} [B_values_shown T ix] : ∀ (D : Nat) (v : Va) (n : Nat), v.dep ≤ D → D ≤ n → ∀ st, T.call n (ix i_values_shown) [encV v] st = .ok (encV (sh v)) st
  | 0, v, n, h, _ => by have := va_pos v; omega
  | D + 1, v, n, hv, hn => fun st => by
    have ih := shown_ok (T := T) (ix := ix) D
    obtain ⟨m, rfl⟩ : ∃ m, n = m + 1 := ⟨n - 1, by omega⟩
    rw [r_values_shown]
    unfold c_values_shown
    cases v with
    | int i => simp [sh]
    | bool b => simp [sh]
    | tag g w =>
      simp only [Va.dep] at hv
      simp [sh, ih w m (by omega) (by omega) st]
    | pair a b =>
      simp only [Va.dep] at hv
      simp [sh, ih a m (by omega) (by omega) st, ih b m (by omega) (by omega) st]
    | items l =>
      simp only [Va.dep] at hv
      have g := shown_go (T := T) (ix := ix) (x := encV (.items l)) (st := st) l (AllV_dep (fun v hd => ih v m hd (by omega)) l (by omega))
      simp [sh, g]
theorem lalike_ok {T : Tab} {ix : Nat → Nat} [B_law_alike T ix] : ∀ (n : Nat) (a b : Ty) (st : Sto), a.dep ≤ n → T.call n (ix i_law_alike) [enc a, enc b] st = .ok (.bl (alike a b)) st
  | 0, a, b, st, h => by cases a <;> simp [Ty.dep] at h
  | n + 1, a, b, st, h => by
    have ih := lalike_ok (T := T) (ix := ix) n
    rw [r_law_alike]
    unfold c_law_alike
    cases a <;> cases b <;> simp [Ty.dep, Nat.max_le] at h <;> simp [alike, ih, h, in_any, rangeL]
    · rename_i a1 b1 a2 b2
      cases alike a1 a2 <;> cases alike b1 b2 <;> simp
    · rename_i a1 b1 a2 b2
      cases alike a1 a2 <;> cases alike b1 b2 <;> simp
    · rename_i a1 a2
      cases alike a1 a2 <;> simp

theorem dep_pos (a : Ty) : 1 ≤ a.dep := by cases a <;> simp [Ty.dep]
/-! ### draws of types -/
theorem drawV {T : Tab} {ix : Nat → Nat} [B_law_draw T ix] {st : Sto} {k : Nat} (h : Dr st k) (n : Nat) {lim : Int} (hl : 0 < lim) (hl2 : lim < 1073741824) :
    ∃ v st', 0 ≤ v ∧ v < lim ∧ Dr st' k ∧ Off1 k st st' ∧ T.call (n + 1) (ix i_law_draw) [.ref k, .int lim] st = .ok (.int v) st' := by
  obtain ⟨v, st', h1, h2, h3, h4, h5⟩ := draw_ok h hl hl2
  exact ⟨v, st', h1, h2, h3, h4, (r_law_draw n _ _ st).trans h5⟩
theorem draws7 {T : Tab} {ix : Nat → Nat} [B_law_draws T ix] (n : Nat) (ns : List Int) (st : Sto) : T.call (n + 1) (ix i_law_draws) [.scr (ns.map PV.int)] st = .ok (.lst [.lst (ns.map PV.int), .int 0, .int 0, .int 1]) st := (r_law_draws n _ st).trans (draws_ok ns st)
theorem same_bool {T : Tab} {ix : Nat → Nat} [B_law_same T ix] {n : Nat} (h : 50 ≤ n) (a : Bool) (st : Sto) : T.call n (ix i_law_same) [.bl a, .bl a] st = .ok (.bl true) st :=
  same_refl (C := fun n xs st => T.call n (ix i_law_same) xs st) (fun n x y st => r_law_same n x y st) n (.bl a) st rfl (by simp [PV.depth]; omega)
theorem vague {T : Tab} {ix : Nat → Nat} [B_law_vaguer T ix] : ∀ (n : Nat) (t : Ty) (k : Nat) (st : Sto), Dr st k → t.dep ≤ n → ∃ u st', u.dep ≤ t.dep ∧ finer t u = true ∧ Dr st' k ∧ Off1 k st st' ∧ T.call (n + 1) (ix i_law_vaguer) [.ref k, enc t] st = .ok (enc u) st'
  | 0, t, k, st, _, h => by have := dep_pos t; omega
  | n + 1, t, k, st, h, hd => by
    have ih := vague (T := T) (ix := ix) n
    obtain ⟨v, st1, h1, h2, h3, h4, h5⟩ := drawV (T := T) (ix := ix) h n (lim := 4) (by decide) (by decide)
    by_cases hv : v = 0
    · subst hv
      exact ⟨.any, st1, dep_pos t, finer_any t, h3, h4, by rw [r_law_vaguer]; unfold c_law_vaguer; simp [h5]⟩
    · cases t with
      | any => exact ⟨.any, st1, Nat.le_refl _, rfl, h3, h4, by rw [r_law_vaguer]; unfold c_law_vaguer; simp [h5, hv]⟩
      | int => exact ⟨.int, st1, Nat.le_refl _, rfl, h3, h4, by rw [r_law_vaguer]; unfold c_law_vaguer; simp [h5, hv]⟩
      | bool => exact ⟨.bool, st1, Nat.le_refl _, rfl, h3, h4, by rw [r_law_vaguer]; unfold c_law_vaguer; simp [h5, hv]⟩
      | fn a b =>
        simp only [Ty.dep] at hd
        obtain ⟨t2, st2, a1, a5, a2, a3, a4⟩ := ih a k st1 h3 (by omega)
        obtain ⟨t3, st3, b1, b5, b2, b3, b4⟩ := ih b k st2 a2 (by omega)
        exact ⟨.fn t2 t3, st3, by simp only [Ty.dep]; omega, by simp [finer, a5, b5], b2, (h4.trans a3).trans b3, by rw [r_law_vaguer]; unfold c_law_vaguer; simp [h5, hv, a4, b4]⟩
      | pair a b =>
        simp only [Ty.dep] at hd
        obtain ⟨t2, st2, a1, a5, a2, a3, a4⟩ := ih a k st1 h3 (by omega)
        obtain ⟨t3, st3, b1, b5, b2, b3, b4⟩ := ih b k st2 a2 (by omega)
        exact ⟨.pair t2 t3, st3, by simp only [Ty.dep]; omega, by simp [finer, a5, b5], b2, (h4.trans a3).trans b3, by rw [r_law_vaguer]; unfold c_law_vaguer; simp [h5, hv, a4, b4]⟩
      | list a =>
        simp only [Ty.dep] at hd
        obtain ⟨t2, st2, a1, a5, a2, a3, a4⟩ := ih a k st1 h3 (by omega)
        exact ⟨.list t2, st2, by simp only [Ty.dep]; omega, by simp [finer, a5], a2, h4.trans a3, by rw [r_law_vaguer]; unfold c_law_vaguer; simp [h5, hv, a4]⟩

theorem nofn_finer : ∀ (t u : Ty), finer t u = true → nofn t = true → nofn u = true
  | .any, u => by cases u <;> simp [finer, nofn]
  | .int, u => by cases u <;> simp [finer, nofn]
  | .bool, u => by cases u <;> simp [finer, nofn]
  | .fn a b, u => by cases u <;> simp [finer, nofn]
  | .pair a b, u => by
    cases u <;> simp [finer, nofn]
    exact fun h1 h2 h3 h4 => ⟨nofn_finer _ _ h1 h3, nofn_finer _ _ h2 h4⟩
  | .list a, u => by
    cases u <;> simp [finer, nofn]
    exact fun h1 h3 => nofn_finer _ _ h1 h3
theorem lt3 {v : Int} (h : 0 ≤ v) (k : v < 3) : v = 0 ∨ v = 1 ∨ v = 2 := by omega
theorem lt4 {v : Int} (h : 0 ≤ v) (k : v < 4) : v = 0 ∨ v = 1 ∨ v = 2 ∨ v = 3 := by omega
theorem lt2 {v : Int} (h : 0 ≤ v) (k : v < 2) : v = 0 ∨ v = 1 := by omega
theorem lt6 {v : Int} (h : 0 ≤ v) (k : v < 6) : v = 0 ∨ v = 1 ∨ v = 2 ∨ v = 3 ∨ v = 4 ∨ v = 5 := by omega
theorem plain1 {T : Tab} {ix : Nat → Nat} [B_law_plain T ix] {st : Sto} {k : Nat} (h : Dr st k) (n : Nat) : ∃ t st', t.dep ≤ 1 ∧ nofn t = true ∧ Dr st' k ∧ Off1 k st st' ∧ T.call (n + 2) (ix i_law_plain) [.ref k, .int 1] st = .ok (enc t) st' := by
  obtain ⟨v, st1, h1, h2, h3, h4, h5⟩ := drawV (T := T) (ix := ix) h n (lim := 3) (by decide) (by decide)
  rcases lt3 h1 h2 with rfl | rfl | rfl
  · exact ⟨.int, st1, by simp [Ty.dep], rfl, h3, h4, by rw [r_law_plain]; unfold c_law_plain; simp [h5]; rfl⟩
  · exact ⟨.bool, st1, by simp [Ty.dep], rfl, h3, h4, by rw [r_law_plain]; unfold c_law_plain; simp [h5]; rfl⟩
  · exact ⟨.any, st1, by simp [Ty.dep], rfl, h3, h4, by rw [r_law_plain]; unfold c_law_plain; simp [h5]; rfl⟩
theorem plainS {T : Tab} {ix : Nat → Nat} [B_law_plain T ix] {k n : Nat} {d : Int} {D : Nat} (hd : 1 < d) (ih : ∀ st, Dr st k → ∃ t st', t.dep ≤ D ∧ nofn t = true ∧ Dr st' k ∧ Off1 k st st' ∧ T.call (n + 1) (ix i_law_plain) [.ref k, .int (d - 1)] st = .ok (enc t) st') {st : Sto} (h : Dr st k) :
    ∃ t st', t.dep ≤ D + 1 ∧ nofn t = true ∧ Dr st' k ∧ Off1 k st st' ∧ T.call (n + 2) (ix i_law_plain) [.ref k, .int d] st = .ok (enc t) st' := by
  obtain ⟨v, st1, h1, h2, h3, h4, h5⟩ := drawV (T := T) (ix := ix) h n (lim := 6) (by decide) (by decide)
  obtain ⟨t2, st2, a1, a5, a2, a3, a4⟩ := ih st1 h3
  obtain ⟨t3, st3, b1, b5, b2, b3, b4⟩ := ih st2 a2
  rcases lt6 h1 h2 with rfl | rfl | rfl | rfl | rfl | rfl
  · exact ⟨.int, st1, by simp [Ty.dep], rfl, h3, h4, by rw [r_law_plain]; unfold c_law_plain; simp [h5, hd]; rfl⟩
  · exact ⟨.bool, st1, by simp [Ty.dep], rfl, h3, h4, by rw [r_law_plain]; unfold c_law_plain; simp [h5, hd]; rfl⟩
  · exact ⟨.any, st1, by simp [Ty.dep], rfl, h3, h4, by rw [r_law_plain]; unfold c_law_plain; simp [h5, hd]; rfl⟩
  · exact ⟨.list t2, st2, by simp only [Ty.dep]; omega, a5, a2, h4.trans a3, by rw [r_law_plain]; unfold c_law_plain; simp [h5, hd, a4]⟩
  · exact ⟨.pair t2 t3, st3, by simp only [Ty.dep]; omega, by simp [nofn, a5, b5], b2, (h4.trans a3).trans b3, by rw [r_law_plain]; unfold c_law_plain; simp [h5, hd, a4, b4]⟩
  · exact ⟨.pair t2 t3, st3, by simp only [Ty.dep]; omega, by simp [nofn, a5, b5], b2, (h4.trans a3).trans b3, by rw [r_law_plain]; unfold c_law_plain; simp [h5, hd, a4, b4]⟩
theorem plain3 {T : Tab} {ix : Nat → Nat} [B_law_plain T ix] {st : Sto} {k : Nat} (h : Dr st k) (n : Nat) : ∃ t st', t.dep ≤ 3 ∧ nofn t = true ∧ Dr st' k ∧ Off1 k st st' ∧ T.call (n + 4) (ix i_law_plain) [.ref k, .int 3] st = .ok (enc t) st' :=
  plainS (T := T) (ix := ix) (d := 3) (D := 2) (n := n + 2) (by decide) (fun st h => plainS (T := T) (ix := ix) (d := 2) (D := 1) (n := n + 1) (by decide) (fun st h => plain1 (T := T) (ix := ix) h n) h) h
/-! ### values -/
theorem value_int {T : Tab} {ix : Nat → Nat} [B_law_value T ix] {st : Sto} {k : Nat} (h : Dr st k) (n : Nat) (d : Int) : ∃ i st', Dr st' k ∧ Off1 k st st' ∧ T.call (n + 2) (ix i_law_value) [.ref k, enc .int, .int d] st = .ok (encV (.int i)) st' := by
  obtain ⟨v, st1, h1, h2, h3, h4, h5⟩ := drawV (T := T) (ix := ix) h n (lim := 9) (by decide) (by decide)
  exact ⟨v - 4, st1, h3, h4, by rw [r_law_value]; unfold c_law_value; simp [h5, eq_enc, show Ty.dep .int ≤ 50 by decide]⟩
theorem value_bool {T : Tab} {ix : Nat → Nat} [B_law_value T ix] {st : Sto} {k : Nat} (h : Dr st k) (n : Nat) (d : Int) : ∃ b st', Dr st' k ∧ Off1 k st st' ∧ T.call (n + 2) (ix i_law_value) [.ref k, enc .bool, .int d] st = .ok (encV (.bool b)) st' := by
  obtain ⟨v, st1, h1, h2, h3, h4, h5⟩ := drawV (T := T) (ix := ix) h n (lim := 2) (by decide) (by decide)
  exact ⟨v == 0, st1, h3, h4, by rw [r_law_value]; unfold c_law_value; simp [h5, eq_enc, show Ty.dep .bool ≤ 50 by decide]⟩
theorem g4_0 {st : Sto} : opIx st (.lst [enc .int, enc .bool, enc (.pair .any .any), enc (.list .any)]) (.int 0) = some (enc .int) := rfl
theorem g4_1 {st : Sto} : opIx st (.lst [enc .int, enc .bool, enc (.pair .any .any), enc (.list .any)]) (.int 1) = some (enc .bool) := rfl
theorem g4_2 {st : Sto} : opIx st (.lst [enc .int, enc .bool, enc (.pair .any .any), enc (.list .any)]) (.int 2) = some (enc (.pair .any .any)) := rfl
theorem g4_3 {st : Sto} : opIx st (.lst [enc .int, enc .bool, enc (.pair .any .any), enc (.list .any)]) (.int 3) = some (enc (.list .any)) := rfl
/-- a tag over a value of its ground -/
theorem tag_ok {T : Tab} {ix : Nat → Nat} [B_law_value T ix] {n j : Nat} {g : Ty} {d : Int} {st st1 st2 : Sto} {w : Va} {lim v : Int} (hlim : lim = if 0 < d then 4 else 2) (h5 : T.call n (ix i_law_draw) [.ref j, .int lim] st = .ok (.int v) st1)
    (hg : opIx st1 (.lst [enc .int, enc .bool, enc (.pair .any .any), enc (.list .any)]) (.int v) = some (enc g)) (hw : T.call n (ix i_law_value) [.ref j, enc g, .int (d - 1)] st1 = .ok (encV w) st2) : T.call (n + 1) (ix i_law_value) [.ref j, enc .any, .int d] st = .ok (encV (.tag g w)) st2 := by
  rw [r_law_value]
  unfold c_law_value
  simp only [ix_lst] at hg
  by_cases hd : 0 < d
  · rw [if_pos hd] at hlim
    subst hlim
    simp [hd, h5, hg, hw]
  · rw [if_neg hd] at hlim
    subst hlim
    simp [hd, h5, hg, hw]
theorem value_ok {T : Tab} {ix : Nat → Nat} [B_law_value T ix] (e : Nat) : ∀ (N : Nat) (k : Ty) (d : Int) (j : Nat) (st : Sto), Dr st j → nofn k = true → k.dep ≤ 40 → 2 * d.toNat + k.dep ≤ N →
    ∃ v st', has k v = true ∧ slim v = true ∧ v.dep ≤ N + 3 ∧ Dr st' j ∧ Off1 j st st' ∧ T.call (e + N + 3) (ix i_law_value) [.ref j, enc k, .int d] st = .ok (encV v) st'
  | 0, k, d, j, st, _, _, _, h => by have := dep_pos k; omega
  | N + 1, k, d, j, st, h, hn, hk, hN => by
    have ih := value_ok (T := T) (ix := ix) e N
    have k50 : k.dep ≤ 50 := by omega
    cases k with
    | fn a b => simp [nofn] at hn
    | int =>
      obtain ⟨i, st1, h1, h2, h3⟩ := value_int (T := T) (ix := ix) h (e + N + 2) d
      exact ⟨.int i, st1, rfl, rfl, by simp [Va.dep], h1, h2, h3⟩
    | bool =>
      obtain ⟨b, st1, h1, h2, h3⟩ := value_bool (T := T) (ix := ix) h (e + N + 2) d
      exact ⟨.bool b, st1, rfl, rfl, by simp [Va.dep], h1, h2, h3⟩
    | any =>
      simp only [Ty.dep] at hN
      by_cases hd : 0 < d
      · obtain ⟨v, st1, h1, h2, h3, h4, h5⟩ := drawV (T := T) (ix := ix) h (e + N + 2) (lim := 4) (by decide) (by decide)
        rcases lt4 h1 h2 with rfl | rfl | rfl | rfl
        · obtain ⟨i, st2, g1, g2, g3⟩ := value_int (T := T) (ix := ix) h3 (e + N + 1) (d - 1)
          exact ⟨.tag .int (.int i), st2, rfl, rfl, by simp [Va.dep], g1, h4.trans g2, tag_ok (T := T) (ix := ix) (by rw [if_pos hd]) h5 g4_0 g3⟩
        · obtain ⟨b, st2, g1, g2, g3⟩ := value_bool (T := T) (ix := ix) h3 (e + N + 1) (d - 1)
          exact ⟨.tag .bool (.bool b), st2, rfl, rfl, by simp [Va.dep], g1, h4.trans g2, tag_ok (T := T) (ix := ix) (by rw [if_pos hd]) h5 g4_1 g3⟩
        · obtain ⟨w, st2, a1, a2, a3, a4, a5, a6⟩ := ih (.pair .any .any) (d - 1) j st1 h3 rfl (by decide) (by simp only [Ty.dep]; omega)
          exact ⟨.tag (.pair .any .any) w, st2, by simp [has, isGr, a1], a2, by simp only [Va.dep]; omega, a4, h4.trans a5, tag_ok (T := T) (ix := ix) (by rw [if_pos hd]) h5 g4_2 a6⟩
        · obtain ⟨w, st2, a1, a2, a3, a4, a5, a6⟩ := ih (.list .any) (d - 1) j st1 h3 rfl (by decide) (by simp only [Ty.dep]; omega)
          exact ⟨.tag (.list .any) w, st2, by simp [has, isGr, a1], a2, by simp only [Va.dep]; omega, a4, h4.trans a5, tag_ok (T := T) (ix := ix) (by rw [if_pos hd]) h5 g4_3 a6⟩
      · obtain ⟨v, st1, h1, h2, h3, h4, h5⟩ := drawV (T := T) (ix := ix) h (e + N + 2) (lim := 2) (by decide) (by decide)
        rcases lt2 h1 h2 with rfl | rfl
        · obtain ⟨i, st2, g1, g2, g3⟩ := value_int (T := T) (ix := ix) h3 (e + N + 1) (d - 1)
          exact ⟨.tag .int (.int i), st2, rfl, rfl, by simp [Va.dep], g1, h4.trans g2, tag_ok (T := T) (ix := ix) (by rw [if_neg hd]) h5 g4_0 g3⟩
        · obtain ⟨b, st2, g1, g2, g3⟩ := value_bool (T := T) (ix := ix) h3 (e + N + 1) (d - 1)
          exact ⟨.tag .bool (.bool b), st2, rfl, rfl, by simp [Va.dep], g1, h4.trans g2, tag_ok (T := T) (ix := ix) (by rw [if_neg hd]) h5 g4_1 g3⟩
    | pair a b =>
      simp only [nofn, Bool.and_eq_true] at hn
      simp only [Ty.dep] at hN hk
      obtain ⟨x, st2, a1, a2, a3, a4, a5, a6⟩ := ih a (d - 1) j st h hn.1 (by omega) (by omega)
      obtain ⟨y, st3, b1, b2, b3, b4, b5, b6⟩ := ih b (d - 1) j st2 a4 hn.2 (by omega) (by omega)
      exact ⟨.pair x y, st3, by simp [has, a1, b1], by simp [slim, a2, b2], by simp only [Va.dep]; omega, b4, a5.trans b5, by rw [r_law_value, show e + (N + 1) + 2 = e + N + 3 from rfl]; unfold c_law_value; simp [eq_enc, k50, a6, b6]⟩
    | list a =>
      simp only [nofn] at hn
      simp only [Ty.dep] at hN hk
      obtain ⟨v, st1, h1, h2, h3, h4, h5⟩ := drawV (T := T) (ix := ix) h (e + N + 2) (lim := 3) (by decide) (by decide)
      obtain ⟨x, st2, a1, a2, a3, a4, a5, a6⟩ := ih a (d - 1) j st1 h3 hn (by omega) (by omega)
      obtain ⟨y, st3, b1, b2, b3, b4, b5, b6⟩ := ih a (d - 1) j st2 a4 hn (by omega) (by omega)
      rcases lt3 h1 h2 with rfl | rfl | rfl
      · exact ⟨.items .nil, st1, rfl, rfl, by simp [Va.dep, Vs.dep], h3, h4, by rw [r_law_value, show e + (N + 1) + 2 = e + N + 3 from rfl]; unfold c_law_value; simp [eq_enc, k50, h5, rangeL]; rfl⟩
      · exact ⟨.items (.cons x .nil), st2, by simp [has, hasL, a1], by simp [slim, slimL, Vs.len, a2], by simp only [Va.dep, Vs.dep]; omega, a4, h4.trans a5, by rw [r_law_value, show e + (N + 1) + 2 = e + N + 3 from rfl]; unfold c_law_value; simp [eq_enc, k50, h5, rangeL, a6]; rfl⟩
      · exact ⟨.items (.cons x (.cons y .nil)), st3, by simp [has, hasL, a1, b1], by simp [slim, slimL, Vs.len, a2, b2], by simp only [Va.dep, Vs.dep]; omega, b4, (h4.trans a5).trans b5, by rw [r_law_value, show e + (N + 1) + 2 = e + N + 3 from rfl]; unfold c_law_value; simp [eq_enc, k50, h5, rangeL, a6, b6]; rfl⟩
end BK

/-! LgR: how types stand to each other -/
namespace BK
open PySem PySem.Spec PyProof.Rows L2 RZ
theorem isN_enc (a : Ty) : isN (enc a) = false := by cases a <;> rfl
theorem alike_ok {T : Tab} {ix : Nat → Nat} [B_relations_alike T ix] : ∀ (n : Nat) (a b : Ty) (st : Sto), a.dep ≤ n → T.call n (ix i_relations_alike) [enc a, enc b] st = .ok (.bl (alike a b)) st
  | 0, a, b, st, h => by cases a <;> simp [Ty.dep] at h
  | n + 1, a, b, st, h => by
    have ih := alike_ok (T := T) (ix := ix) n
    rw [r_relations_alike]
    unfold c_relations_alike
    cases a <;> cases b <;> simp [Ty.dep, Nat.max_le] at h <;> simp [alike, ih, h, in_any, isN_enc, enc_plain, PV.plains, PV.plain]
theorem finer_ok {T : Tab} {ix : Nat → Nat} [B_relations_finer T ix] : ∀ (n : Nat) (a b : Ty) (st : Sto), a.dep ≤ n → T.call n (ix i_relations_finer) [enc a, enc b] st = .ok (.bl (finer a b)) st
  | 0, a, b, st, h => by cases a <;> simp [Ty.dep] at h
  | n + 1, a, b, st, h => by
    have ih := finer_ok (T := T) (ix := ix) n
    rw [r_relations_finer]
    unfold c_relations_finer
    cases a <;> cases b <;> simp [Ty.dep, Nat.max_le] at h <;> simp [finer, ih, h, in_any, isN_enc, enc_plain, PV.plains, PV.plain]

def encO : Option Ty → PV
  | none => .non
  | some a => enc a
theorem encO_plain : ∀ a : Option Ty, (encO a).plain = true
  | none => rfl
  | some a => enc_plain a
theorem isN_encO (a : Option Ty) : isN (encO a) = a.isNone := by cases a <;> first | rfl | exact isN_enc _
def both (f : Ty → Ty → Ty) : Option Ty → Option Ty → Option Ty
  | some a, some b => some (f a b)
  | _, _ => none
def meet : Ty → Ty → Option Ty
  | .any, b => some b
  | a, .any => some a
  | .int, .int => some .int
  | .bool, .bool => some .bool
  | .fn a b, .fn c d => both .fn (meet a c) (meet b d)
  | .pair a b, .pair c d => both .pair (meet a c) (meet b d)
  | .list a, .list c => (meet a c).map .list
  | _, _ => none
def join : Ty → Ty → Ty
  | .int, .int => .int
  | .bool, .bool => .bool
  | .fn a b, .fn c d => .fn (join a c) (join b d)
  | .pair a b, .pair c d => .pair (join a c) (join b d)
  | .list a, .list c => .list (join a c)
  | _, _ => .any
theorem meet_ok {T : Tab} {ix : Nat → Nat} [B_relations_meet T ix] : ∀ (n : Nat) (a b : Ty) (st : Sto), a.dep ≤ n → T.call n (ix i_relations_meet) [enc a, enc b] st = .ok (encO (meet a b)) st
  | 0, a, b, st, h => by cases a <;> simp [Ty.dep] at h
  | n + 1, a, b, st, h => by
    have ih := meet_ok (T := T) (ix := ix) n
    rw [r_relations_meet]
    unfold c_relations_meet
    cases a <;> cases b <;> simp [Ty.dep, Nat.max_le] at h <;> simp [meet, encO, ih, h, in_non, in_any, isN_enc, enc_plain, PV.plains, PV.plain]
    · rename_i a1 b1 a2 b2
      cases meet a1 a2 <;> cases meet b1 b2 <;> simp [both, encO, isN_enc, in_any, isN_enc, enc_plain, PV.plains, PV.plain]
    · rename_i a1 b1 a2 b2
      cases meet a1 a2 <;> cases meet b1 b2 <;> simp [both, encO, isN_enc, in_any, isN_enc, enc_plain, PV.plains, PV.plain]
    · rename_i a1 a2
      cases meet a1 a2 <;> simp [both, encO, isN_enc, in_any, isN_enc, enc_plain, PV.plains, PV.plain]
theorem join_ok {T : Tab} {ix : Nat → Nat} [B_relations_join T ix] : ∀ (n : Nat) (a b : Ty) (st : Sto), a.dep ≤ n → T.call n (ix i_relations_join) [enc a, enc b] st = .ok (enc (join a b)) st
  | 0, a, b, st, h => by cases a <;> simp [Ty.dep] at h
  | n + 1, a, b, st, h => by
    have ih := join_ok (T := T) (ix := ix) n
    rw [r_relations_join]
    unfold c_relations_join
    cases a <;> cases b <;> simp [Ty.dep, Nat.max_le] at h <;> simp [join, ih, h, in_any, isN_enc, enc_plain, PV.plains, PV.plain]
theorem lfiner_ok {T : Tab} {ix : Nat → Nat} [B_law_finer T ix] : ∀ (n : Nat) (a b : Ty) (st : Sto), a.dep ≤ n → T.call n (ix i_law_finer) [enc a, enc b] st = .ok (.bl (finer a b)) st
  | 0, a, b, st, h => by cases a <;> simp [Ty.dep] at h
  | n + 1, a, b, st, h => by
    have ih := lfiner_ok (T := T) (ix := ix) n
    rw [r_law_finer]
    unfold c_law_finer
    cases a <;> cases b <;> simp [Ty.dep, Nat.max_le] at h <;> simp [finer, ih, h, rangeL, in_any, isN_enc, enc_plain, PV.plains, PV.plain]
    · rename_i a1 b1 a2 b2
      cases finer a1 a2 <;> cases finer b1 b2 <;> simp
    · rename_i a1 b1 a2 b2
      cases finer a1 a2 <;> cases finer b1 b2 <;> simp
    · rename_i a1 a2
      cases finer a1 a2 <;> simp
theorem lmeet_ok {T : Tab} {ix : Nat → Nat} [B_law_meet T ix] : ∀ (n : Nat) (a b : Ty) (st : Sto), a.dep ≤ n → T.call n (ix i_law_meet) [enc a, enc b] st = .ok (encO (meet a b)) st
  | 0, a, b, st, h => by cases a <;> simp [Ty.dep] at h
  | n + 1, a, b, st, h => by
    have ih := lmeet_ok (T := T) (ix := ix) n
    rw [r_law_meet]
    unfold c_law_meet
    cases a <;> cases b <;> simp [Ty.dep, Nat.max_le] at h <;> simp [meet, encO, ih, h, in_non, rangeL, in_any, isN_enc, enc_plain, PV.plains, PV.plain]
    · rename_i a1 b1 a2 b2
      cases meet a1 a2 <;> cases meet b1 b2 <;> simp [both, encO, isN_enc, in_any, isN_enc, enc_plain, PV.plains, PV.plain]
    · rename_i a1 b1 a2 b2
      cases meet a1 a2 <;> cases meet b1 b2 <;> simp [both, encO, isN_enc, in_any, isN_enc, enc_plain, PV.plains, PV.plain]
    · rename_i a1 a2
      cases meet a1 a2 <;> simp [both, encO, isN_enc, in_any, isN_enc, enc_plain, PV.plains, PV.plain]
theorem ljoin_ok {T : Tab} {ix : Nat → Nat} [B_law_join T ix] : ∀ (n : Nat) (a b : Ty) (st : Sto), a.dep ≤ n → T.call n (ix i_law_join) [enc a, enc b] st = .ok (enc (join a b)) st
  | 0, a, b, st, h => by cases a <;> simp [Ty.dep] at h
  | n + 1, a, b, st, h => by
    have ih := ljoin_ok (T := T) (ix := ix) n
    rw [r_law_join]
    unfold c_law_join
    cases a <;> cases b <;> simp [Ty.dep, Nat.max_le] at h <;> simp [join, ih, h, rangeL, in_any, isN_enc, enc_plain, PV.plains, PV.plain]
theorem finer_trans : ∀ a b c : Ty, finer a b = true → finer b c = true → finer a c = true
  | .any, b, c => by cases b <;> cases c <;> simp [finer]
  | .int, b, c => by cases b <;> cases c <;> simp [finer]
  | .bool, b, c => by cases b <;> cases c <;> simp [finer]
  | .fn a d, b, c => by
    cases b <;> cases c <;> simp [finer]
    intro h1 h2 h3 h4
    exact ⟨finer_trans _ _ _ h1 h3, finer_trans _ _ _ h2 h4⟩
  | .pair a d, b, c => by
    cases b <;> cases c <;> simp [finer]
    intro h1 h2 h3 h4
    exact ⟨finer_trans _ _ _ h1 h3, finer_trans _ _ _ h2 h4⟩
  | .list a, b, c => by
    cases b <;> cases c <;> simp [finer]
    exact fun h1 h2 => finer_trans _ _ _ h1 h2
theorem finer_anti : ∀ a b : Ty, finer a b = true → finer b a = true → a = b
  | .any, b => by cases b <;> simp [finer]
  | .int, b => by cases b <;> simp [finer]
  | .bool, b => by cases b <;> simp [finer]
  | .fn a d, b => by
    cases b <;> simp [finer]
    intro h1 h2 h3 h4
    exact ⟨finer_anti _ _ h1 h3, finer_anti _ _ h2 h4⟩
  | .pair a d, b => by
    cases b <;> simp [finer]
    intro h1 h2 h3 h4
    exact ⟨finer_anti _ _ h1 h3, finer_anti _ _ h2 h4⟩
  | .list a, b => by
    cases b <;> simp [finer]
    exact fun h1 h2 => finer_anti _ _ h1 h2
theorem meet_some : ∀ a b : Ty, (meet a b).isSome = alike a b
  | .any, b => by cases b <;> rfl
  | .int, b => by cases b <;> rfl
  | .bool, b => by cases b <;> rfl
  | .fn a d, b => by
    cases b <;> simp [meet, alike]
    rename_i x y
    rw [← meet_some a x, ← meet_some d y]
    cases meet a x <;> cases meet d y <;> rfl
  | .pair a d, b => by
    cases b <;> simp [meet, alike]
    rename_i x y
    rw [← meet_some a x, ← meet_some d y]
    cases meet a x <;> cases meet d y <;> rfl
  | .list a, b => by
    cases b <;> simp [meet, alike]
    exact meet_some _ _
theorem meet_symm : ∀ a b : Ty, meet a b = meet b a
  | .any, b => by cases b <;> rfl
  | .int, b => by cases b <;> rfl
  | .bool, b => by cases b <;> rfl
  | .fn a c, b => by cases b <;> simp [meet, meet_symm a, meet_symm c]
  | .pair a c, b => by cases b <;> simp [meet, meet_symm a, meet_symm c]
  | .list a, b => by cases b <;> simp [meet, meet_symm a]
theorem meet_le : ∀ a b m : Ty, meet a b = some m → finer m a = true
  | .any, b, m => by intro _; exact finer_any m
  | .int, b, m => by cases b <;> simp [meet] <;> (intro h; rw [← h]; rfl)
  | .bool, b, m => by cases b <;> simp [meet] <;> (intro h; rw [← h]; rfl)
  | .fn a d, b, m => by
    cases b <;> simp [meet]
    · intro h; rw [← h]; exact finer_refl _
    · rename_i x y
      cases h1 : meet a x <;> cases h2 : meet d y <;> simp [both]
      rename_i u v
      intro h
      rw [← h]
      simp [finer, meet_le _ _ _ h1, meet_le _ _ _ h2]
  | .pair a d, b, m => by
    cases b <;> simp [meet]
    · intro h; rw [← h]; exact finer_refl _
    · rename_i x y
      cases h1 : meet a x <;> cases h2 : meet d y <;> simp [both]
      rename_i u v
      intro h
      rw [← h]
      simp [finer, meet_le _ _ _ h1, meet_le _ _ _ h2]
  | .list a, b, m => by
    cases b <;> simp [meet]
    · intro h; rw [← h]; exact finer_refl _
    · rename_i x
      intro u h1 h
      rw [← h]
      simp [finer, meet_le _ _ _ h1]
theorem meet_great : ∀ a b k : Ty, finer k a = true → finer k b = true → ∃ m, meet a b = some m ∧ finer k m = true
  | .any, b, k => fun _ h => ⟨b, by cases b <;> rfl, h⟩
  | .int, b, k => by cases b <;> cases k <;> simp [finer, meet]
  | .bool, b, k => by cases b <;> cases k <;> simp [finer, meet]
  | .fn a d, b, k => by
    cases b <;> cases k <;> simp [finer, meet] <;> try (intro h1 h2; exact ⟨h1, h2⟩)
    intro h1 h2 h3 h4
    obtain ⟨c_relations_alike, e1, f1⟩ := meet_great _ _ _ h1 h3
    obtain ⟨c_relations_finer, e2, f2⟩ := meet_great _ _ _ h2 h4
    exact ⟨.fn c_relations_alike c_relations_finer, by rw [e1, e2]; rfl, by simp [finer, f1, f2]⟩
  | .pair a d, b, k => by
    cases b <;> cases k <;> simp [finer, meet] <;> try (intro h1 h2; exact ⟨h1, h2⟩)
    intro h1 h2 h3 h4
    obtain ⟨c_relations_alike, e1, f1⟩ := meet_great _ _ _ h1 h3
    obtain ⟨c_relations_finer, e2, f2⟩ := meet_great _ _ _ h2 h4
    exact ⟨.pair c_relations_alike c_relations_finer, by rw [e1, e2]; rfl, by simp [finer, f1, f2]⟩
  | .list a, b, k => by
    cases b <;> cases k <;> simp [finer, meet] <;> try (intro h1; exact h1)
    intro h1 h3
    obtain ⟨c_relations_alike, e1, f1⟩ := meet_great _ _ _ h1 h3
    exact ⟨.list c_relations_alike, by rw [e1]; simp, by simp [finer, f1]⟩
theorem join_ge : ∀ a b : Ty, finer a (join a b) = true ∧ finer b (join a b) = true
  | .any, b => by cases b <;> simp [join, finer]
  | .int, b => by cases b <;> simp [join, finer]
  | .bool, b => by cases b <;> simp [join, finer]
  | .fn a d, b => by cases b <;> simp [join, finer, join_ge]
  | .pair a d, b => by cases b <;> simp [join, finer, join_ge]
  | .list a, b => by cases b <;> simp [join, finer, join_ge]
theorem join_least : ∀ a b k : Ty, finer a k = true → finer b k = true → finer (join a b) k = true
  | .any, b, k => by cases k <;> simp [finer] <;> (cases b <;> simp [join, finer])
  | .int, b, k => by cases b <;> cases k <;> simp [finer, join]
  | .bool, b, k => by cases b <;> cases k <;> simp [finer, join]
  | .fn a d, b, k => by
    cases b <;> cases k <;> simp [finer, join]
    intro h1 h2 h3 h4
    exact ⟨join_least _ _ _ h1 h3, join_least _ _ _ h2 h4⟩
  | .pair a d, b, k => by
    cases b <;> cases k <;> simp [finer, join]
    intro h1 h2 h3 h4
    exact ⟨join_least _ _ _ h1 h3, join_least _ _ _ h2 h4⟩
  | .list a, b, k => by
    cases b <;> cases k <;> simp [finer, join]
    exact fun h1 h2 => join_least _ _ _ h1 h2
theorem meet_dep : ∀ a b m : Ty, meet a b = some m → m.dep ≤ max a.dep b.dep
  | .any, b, m => by cases b <;> simp [meet] <;> (intro h; subst h; simp [Ty.dep] <;> omega)
  | .int, b, m => by cases b <;> simp [meet] <;> (intro h; subst h; simp [Ty.dep])
  | .bool, b, m => by cases b <;> simp [meet] <;> (intro h; subst h; simp [Ty.dep])
  | .fn a d, b, m => by
    cases b <;> simp [meet]
    · intro h; subst h; simp [Ty.dep] <;> omega
    · rename_i x y
      cases h1 : meet a x <;> cases h2 : meet d y <;> simp [both]
      intro h; subst h
      have := meet_dep _ _ _ h1
      have := meet_dep _ _ _ h2
      simp only [Ty.dep]
      omega
  | .pair a d, b, m => by
    cases b <;> simp [meet]
    · intro h; subst h; simp [Ty.dep] <;> omega
    · rename_i x y
      cases h1 : meet a x <;> cases h2 : meet d y <;> simp [both]
      intro h; subst h
      have := meet_dep _ _ _ h1
      have := meet_dep _ _ _ h2
      simp only [Ty.dep]
      omega
  | .list a, b, m => by
    cases b <;> simp [meet]
    · intro h; subst h; simp [Ty.dep]
    · rename_i x
      intro u h1 h; subst h
      have := meet_dep _ _ _ h1
      simp only [Ty.dep]
      omega
theorem join_dep : ∀ a b : Ty, (join a b).dep ≤ max a.dep b.dep
  | .any, b => by cases b <;> simp [join, Ty.dep] <;> omega
  | .int, b => by cases b <;> simp [join, Ty.dep] <;> omega
  | .bool, b => by cases b <;> simp [join, Ty.dep] <;> omega
  | .fn a d, b => by
    cases b <;> simp [join, Ty.dep]
    rename_i x y
    have := join_dep a x
    have := join_dep d y
    omega
  | .pair a d, b => by
    cases b <;> simp [join, Ty.dep]
    rename_i x y
    have := join_dep a x
    have := join_dep d y
    omega
  | .list a, b => by
    cases b <;> simp [join, Ty.dep]
    rename_i x
    have := join_dep a x
    omega
theorem ne_encO (a : Option Ty) (b : Ty) (h : b.dep ≤ 50) : opNe (encO a) (enc b) = some (.bl (!decide (a = some b))) := by
  cases a with
  | some a =>
    unfold opNe encO
    rw [if_pos (by unfold eqOk; simp [enc_plain, enc_depth]; omega), enc_eqv]
    simp
  | none =>
    unfold opNe
    rw [if_pos (by unfold eqOk; simp [enc_plain, enc_depth, encO, PV.depth, PV.plain])]
    cases b <;> rfl
theorem same_ok {T : Tab} {ix : Nat → Nat} [B_law_same T ix] {n : Nat} (h : 50 ≤ n) (x : PV) (st : Sto) (hf : x.fair = true) (hd : x.depth ≤ 40) : T.call n (ix i_law_same) [x, x] st = .ok (.bl true) st :=
  same_refl (C := fun n xs st => T.call n (ix i_law_same) xs st) (fun n x y st => r_law_same n x y st) n x st hf (by omega)
theorem same_enc {T : Tab} {ix : Nat → Nat} [B_law_same T ix] {n : Nat} (h : 50 ≤ n) (a : Ty) (st : Sto) (hd : a.dep ≤ 40) : T.call n (ix i_law_same) [enc a, enc a] st = .ok (.bl true) st := same_ok (T := T) (ix := ix) h _ _ (enc_fair a) (by rw [enc_depth]; exact hd)
theorem same_encO {T : Tab} {ix : Nat → Nat} [B_law_same T ix] {n : Nat} (h : 50 ≤ n) (a : Option Ty) (st : Sto) (hd : ∀ t, a = some t → t.dep ≤ 40) : T.call n (ix i_law_same) [encO a, encO a] st = .ok (.bl true) st := by
  cases a with
  | none => exact same_ok (T := T) (ix := ix) h _ _ rfl (by simp [encO, PV.depth])
  | some t => exact same_enc (T := T) (ix := ix) h t st (hd t rfl)
theorem type1 {T : Tab} {ix : Nat → Nat} [B_law_type T ix] {st : Sto} {k : Nat} (h : Dr st k) (n : Nat) : ∃ t st', t.dep ≤ 1 ∧ Dr st' k ∧ Off1 k st st' ∧ T.call (n + 2) (ix i_law_type) [.ref k, .int 1] st = .ok (enc t) st' := by
  obtain ⟨v, st1, h1, h2, h3, h4, h5⟩ := drawV (T := T) (ix := ix) h n (lim := 2) (by decide) (by decide)
  rcases lt2 h1 h2 with rfl | rfl
  · refine ⟨.int, st1, by simp [Ty.dep], h3, h4, ?_⟩
    rw [r_law_type]; unfold c_law_type
    simp [h5]
    rfl
  · refine ⟨.bool, st1, by simp [Ty.dep], h3, h4, ?_⟩
    rw [r_law_type]; unfold c_law_type
    simp [h5]
    rfl
/-- one step of _law_type -/
theorem typeS {T : Tab} {ix : Nat → Nat} [B_law_type T ix] {k n : Nat} {d : Int} {D : Nat} (hd : 1 < d) (ih : ∀ st, Dr st k → ∃ t st', t.dep ≤ D ∧ Dr st' k ∧ Off1 k st st' ∧ T.call (n + 1) (ix i_law_type) [.ref k, .int (d - 1)] st = .ok (enc t) st') {st : Sto} (h : Dr st k) :
    ∃ t st', t.dep ≤ D + 1 ∧ Dr st' k ∧ Off1 k st st' ∧ T.call (n + 2) (ix i_law_type) [.ref k, .int d] st = .ok (enc t) st' := by
  obtain ⟨v, st1, h1, h2, h3, h4, h5⟩ := drawV (T := T) (ix := ix) h n (lim := 6) (by decide) (by decide)
  obtain ⟨t2, st2, a1, a2, a3, a4⟩ := ih st1 h3
  obtain ⟨t3, st3, b1, b2, b3, b4⟩ := ih st2 a2
  rcases lt6 h1 h2 with rfl | rfl | rfl | rfl | rfl | rfl
  · refine ⟨.int, st1, by simp [Ty.dep], h3, h4, ?_⟩
    rw [r_law_type]; unfold c_law_type
    simp [h5, hd]
    rfl
  · refine ⟨.bool, st1, by simp [Ty.dep], h3, h4, ?_⟩
    rw [r_law_type]; unfold c_law_type
    simp [h5, hd]
    rfl
  · refine ⟨.fn t2 t3, st3, by simp only [Ty.dep]; omega, b2, (h4.trans a3).trans b3, ?_⟩
    rw [r_law_type]; unfold c_law_type
    simp [h5, hd, a4, b4]
  · refine ⟨.fn t2 t3, st3, by simp only [Ty.dep]; omega, b2, (h4.trans a3).trans b3, ?_⟩
    rw [r_law_type]; unfold c_law_type
    simp [h5, hd, a4, b4]
  · refine ⟨.pair t2 t3, st3, by simp only [Ty.dep]; omega, b2, (h4.trans a3).trans b3, ?_⟩
    rw [r_law_type]; unfold c_law_type
    simp [h5, hd, a4, b4]
  · refine ⟨.list t2, st2, by simp only [Ty.dep]; omega, a2, h4.trans a3, ?_⟩
    rw [r_law_type]; unfold c_law_type
    simp [h5, hd, a4]
theorem type3 {T : Tab} {ix : Nat → Nat} [B_law_type T ix] {st : Sto} {k : Nat} (h : Dr st k) (n : Nat) : ∃ t st', t.dep ≤ 3 ∧ Dr st' k ∧ Off1 k st st' ∧ T.call (n + 4) (ix i_law_type) [.ref k, .int 3] st = .ok (enc t) st' :=
  typeS (T := T) (ix := ix) (d := 3) (D := 2) (n := n + 2) (by decide) (fun st h => typeS (T := T) (ix := ix) (d := 2) (D := 1) (n := n + 1) (by decide) (fun st h => type1 (T := T) (ix := ix) h n) h) h
def flat : List Ty := [.any, .bool, .int]
def small : List Ty := flat ++ (flat.map fun a => flat.map fun b => Ty.fn a b).flatten ++ (flat.map fun a => flat.map fun b => Ty.pair a b).flatten
theorem small_ok {T : Tab} {ix : Nat → Nat} [B_types_all_types T ix] (n : Nat) (st : Sto) : T.call (n + 1) (ix i_types_all_types) [.int 2, .tup [.str "any", .str "bool", .str "int"]] st = .ok (.lst (small.map enc)) st := by
  rw [r_types_all_types]
  kernel_rfl
end BK

/-! LgX: casts in their least forms -/
namespace BK
open PySem PySem.Spec PyProof.Rows L2 RZ
@[simp] theorem w_fail_any : (("fail" : Str) == ("any" : Str)) = false := by decide +kernel
@[simp] theorem w_fail_int : (("fail" : Str) == ("int" : Str)) = false := by decide +kernel
@[simp] theorem w_fail_bool : (("fail" : Str) == ("bool" : Str)) = false := by decide +kernel
@[simp] theorem w_fail_fn : (("fail" : Str) == ("fn" : Str)) = false := by decide +kernel
@[simp] theorem w_fail_pair : (("fail" : Str) == ("pair" : Str)) = false := by decide +kernel
@[simp] theorem w_fail_list : (("fail" : Str) == ("list" : Str)) = false := by decide +kernel
@[simp] theorem w_fail_tag : (("fail" : Str) == ("tag" : Str)) = false := by decide +kernel
@[simp] theorem w_fail_items : (("fail" : Str) == ("items" : Str)) = false := by decide +kernel
@[simp] theorem w_fail_ok : (("fail" : Str) == ("ok" : Str)) = false := by decide +kernel
@[simp] theorem w_fail_blame : (("fail" : Str) == ("blame" : Str)) = false := by decide +kernel
@[simp] theorem w_fail_fail : (("fail" : Str) == ("fail" : Str)) = true := by decide +kernel
@[simp] theorem w_fail_turn : (("fail" : Str) == ("turn" : Str)) = false := by decide +kernel
@[simp] theorem w_fail_plain : (("fail" : Str) == ("plain" : Str)) = false := by decide +kernel
@[simp] theorem w_fail_bent : (("fail" : Str) == ("bent" : Str)) = false := by decide +kernel
@[simp] theorem w_turn_any : (("turn" : Str) == ("any" : Str)) = false := by decide +kernel
@[simp] theorem w_turn_int : (("turn" : Str) == ("int" : Str)) = false := by decide +kernel
@[simp] theorem w_turn_bool : (("turn" : Str) == ("bool" : Str)) = false := by decide +kernel
@[simp] theorem w_turn_fn : (("turn" : Str) == ("fn" : Str)) = false := by decide +kernel
@[simp] theorem w_turn_pair : (("turn" : Str) == ("pair" : Str)) = false := by decide +kernel
@[simp] theorem w_turn_list : (("turn" : Str) == ("list" : Str)) = false := by decide +kernel
@[simp] theorem w_turn_tag : (("turn" : Str) == ("tag" : Str)) = false := by decide +kernel
@[simp] theorem w_turn_items : (("turn" : Str) == ("items" : Str)) = false := by decide +kernel
@[simp] theorem w_turn_ok : (("turn" : Str) == ("ok" : Str)) = false := by decide +kernel
@[simp] theorem w_turn_blame : (("turn" : Str) == ("blame" : Str)) = false := by decide +kernel
@[simp] theorem w_turn_fail : (("turn" : Str) == ("fail" : Str)) = false := by decide +kernel
@[simp] theorem w_turn_turn : (("turn" : Str) == ("turn" : Str)) = true := by decide +kernel
@[simp] theorem w_turn_plain : (("turn" : Str) == ("plain" : Str)) = false := by decide +kernel
@[simp] theorem w_turn_bent : (("turn" : Str) == ("bent" : Str)) = false := by decide +kernel
@[simp] theorem w_plain_any : (("plain" : Str) == ("any" : Str)) = false := by decide +kernel
@[simp] theorem w_plain_int : (("plain" : Str) == ("int" : Str)) = false := by decide +kernel
@[simp] theorem w_plain_bool : (("plain" : Str) == ("bool" : Str)) = false := by decide +kernel
@[simp] theorem w_plain_fn : (("plain" : Str) == ("fn" : Str)) = false := by decide +kernel
@[simp] theorem w_plain_pair : (("plain" : Str) == ("pair" : Str)) = false := by decide +kernel
@[simp] theorem w_plain_list : (("plain" : Str) == ("list" : Str)) = false := by decide +kernel
@[simp] theorem w_plain_tag : (("plain" : Str) == ("tag" : Str)) = false := by decide +kernel
@[simp] theorem w_plain_items : (("plain" : Str) == ("items" : Str)) = false := by decide +kernel
@[simp] theorem w_plain_ok : (("plain" : Str) == ("ok" : Str)) = false := by decide +kernel
@[simp] theorem w_plain_blame : (("plain" : Str) == ("blame" : Str)) = false := by decide +kernel
@[simp] theorem w_plain_fail : (("plain" : Str) == ("fail" : Str)) = false := by decide +kernel
@[simp] theorem w_plain_turn : (("plain" : Str) == ("turn" : Str)) = false := by decide +kernel
@[simp] theorem w_plain_plain : (("plain" : Str) == ("plain" : Str)) = true := by decide +kernel
@[simp] theorem w_plain_bent : (("plain" : Str) == ("bent" : Str)) = false := by decide +kernel
@[simp] theorem w_bent_any : (("bent" : Str) == ("any" : Str)) = false := by decide +kernel
@[simp] theorem w_bent_int : (("bent" : Str) == ("int" : Str)) = false := by decide +kernel
@[simp] theorem w_bent_bool : (("bent" : Str) == ("bool" : Str)) = false := by decide +kernel
@[simp] theorem w_bent_fn : (("bent" : Str) == ("fn" : Str)) = false := by decide +kernel
@[simp] theorem w_bent_pair : (("bent" : Str) == ("pair" : Str)) = false := by decide +kernel
@[simp] theorem w_bent_list : (("bent" : Str) == ("list" : Str)) = false := by decide +kernel
@[simp] theorem w_bent_tag : (("bent" : Str) == ("tag" : Str)) = false := by decide +kernel
@[simp] theorem w_bent_items : (("bent" : Str) == ("items" : Str)) = false := by decide +kernel
@[simp] theorem w_bent_ok : (("bent" : Str) == ("ok" : Str)) = false := by decide +kernel
@[simp] theorem w_bent_blame : (("bent" : Str) == ("blame" : Str)) = false := by decide +kernel
@[simp] theorem w_bent_fail : (("bent" : Str) == ("fail" : Str)) = false := by decide +kernel
@[simp] theorem w_bent_turn : (("bent" : Str) == ("turn" : Str)) = false := by decide +kernel
@[simp] theorem w_bent_plain : (("bent" : Str) == ("plain" : Str)) = false := by decide +kernel
@[simp] theorem w_bent_bent : (("bent" : Str) == ("bent" : Str)) = true := by decide +kernel
@[simp] theorem w_any_fail : (("any" : Str) == ("fail" : Str)) = false := by decide +kernel
@[simp] theorem w_any_turn : (("any" : Str) == ("turn" : Str)) = false := by decide +kernel
@[simp] theorem w_any_plain : (("any" : Str) == ("plain" : Str)) = false := by decide +kernel
@[simp] theorem w_any_bent : (("any" : Str) == ("bent" : Str)) = false := by decide +kernel
@[simp] theorem w_int_fail : (("int" : Str) == ("fail" : Str)) = false := by decide +kernel
@[simp] theorem w_int_turn : (("int" : Str) == ("turn" : Str)) = false := by decide +kernel
@[simp] theorem w_int_plain : (("int" : Str) == ("plain" : Str)) = false := by decide +kernel
@[simp] theorem w_int_bent : (("int" : Str) == ("bent" : Str)) = false := by decide +kernel
@[simp] theorem w_bool_fail : (("bool" : Str) == ("fail" : Str)) = false := by decide +kernel
@[simp] theorem w_bool_turn : (("bool" : Str) == ("turn" : Str)) = false := by decide +kernel
@[simp] theorem w_bool_plain : (("bool" : Str) == ("plain" : Str)) = false := by decide +kernel
@[simp] theorem w_bool_bent : (("bool" : Str) == ("bent" : Str)) = false := by decide +kernel
@[simp] theorem w_fn_fail : (("fn" : Str) == ("fail" : Str)) = false := by decide +kernel
@[simp] theorem w_fn_turn : (("fn" : Str) == ("turn" : Str)) = false := by decide +kernel
@[simp] theorem w_fn_plain : (("fn" : Str) == ("plain" : Str)) = false := by decide +kernel
@[simp] theorem w_fn_bent : (("fn" : Str) == ("bent" : Str)) = false := by decide +kernel
@[simp] theorem w_pair_fail : (("pair" : Str) == ("fail" : Str)) = false := by decide +kernel
@[simp] theorem w_pair_turn : (("pair" : Str) == ("turn" : Str)) = false := by decide +kernel
@[simp] theorem w_pair_plain : (("pair" : Str) == ("plain" : Str)) = false := by decide +kernel
@[simp] theorem w_pair_bent : (("pair" : Str) == ("bent" : Str)) = false := by decide +kernel
@[simp] theorem w_list_fail : (("list" : Str) == ("fail" : Str)) = false := by decide +kernel
@[simp] theorem w_list_turn : (("list" : Str) == ("turn" : Str)) = false := by decide +kernel
@[simp] theorem w_list_plain : (("list" : Str) == ("plain" : Str)) = false := by decide +kernel
@[simp] theorem w_list_bent : (("list" : Str) == ("bent" : Str)) = false := by decide +kernel
@[simp] theorem w_tag_fail : (("tag" : Str) == ("fail" : Str)) = false := by decide +kernel
@[simp] theorem w_tag_turn : (("tag" : Str) == ("turn" : Str)) = false := by decide +kernel
@[simp] theorem w_tag_plain : (("tag" : Str) == ("plain" : Str)) = false := by decide +kernel
@[simp] theorem w_tag_bent : (("tag" : Str) == ("bent" : Str)) = false := by decide +kernel
@[simp] theorem w_items_fail : (("items" : Str) == ("fail" : Str)) = false := by decide +kernel
@[simp] theorem w_items_turn : (("items" : Str) == ("turn" : Str)) = false := by decide +kernel
@[simp] theorem w_items_plain : (("items" : Str) == ("plain" : Str)) = false := by decide +kernel
@[simp] theorem w_items_bent : (("items" : Str) == ("bent" : Str)) = false := by decide +kernel
@[simp] theorem w_ok_fail : (("ok" : Str) == ("fail" : Str)) = false := by decide +kernel
@[simp] theorem w_ok_turn : (("ok" : Str) == ("turn" : Str)) = false := by decide +kernel
@[simp] theorem w_ok_plain : (("ok" : Str) == ("plain" : Str)) = false := by decide +kernel
@[simp] theorem w_ok_bent : (("ok" : Str) == ("bent" : Str)) = false := by decide +kernel
@[simp] theorem w_blame_fail : (("blame" : Str) == ("fail" : Str)) = false := by decide +kernel
@[simp] theorem w_blame_turn : (("blame" : Str) == ("turn" : Str)) = false := by decide +kernel
@[simp] theorem w_blame_plain : (("blame" : Str) == ("plain" : Str)) = false := by decide +kernel
@[simp] theorem w_blame_bent : (("blame" : Str) == ("bent" : Str)) = false := by decide +kernel
/-! ### names, coercions and middles -/
structure Nm where
  p : List Int
  s : Bool
deriving DecidableEq
def Nm.flip (n : Nm) : Nm := ⟨n.p, !n.s⟩
def encN (n : Nm) : PV := .tup [.tup (n.p.map PV.int), .bl n.s]
@[simp] theorem nx_0 {n : Nm} {st : Sto} : opIx st (encN n) (.int 0) = some (.tup (n.p.map PV.int)) := (rfl)
@[simp] theorem nx_1 {n : Nm} {st : Sto} : opIx st (encN n) (.int 1) = some (.bl n.s) := (rfl)
@[simp] theorem n_fold {n : Nm} : PV.tup [.tup (n.p.map PV.int), .bl n.s] = encN n := (rfl)
@[simp] theorem n_flip {n : Nm} : PV.tup [.tup (n.p.map PV.int), .bl (!n.s)] = encN n.flip := (rfl)
inductive Co where
  | any | fail (h : Option (Ty × Nm)) (n : Nm) | turn (h : Option (Ty × Nm)) (m : Co) (t : Option Ty)
  | plain | fn (c d : Co) | pair (c d : Co) | list (c : Co)
def encH : Option (Ty × Nm) → PV
  | none => .non
  | some (g, n) => .tup [enc g, encN n]
def encC : Co → PV
  | .any => enc .any
  | .fail h n => .tup [.str "fail", encH h, encN n]
  | .turn h m t => .tup [.str "turn", encH h, encC m, encO t]
  | .plain => .tup [.str "plain"]
  | .fn c d => .tup [.str "fn", encC c, encC d]
  | .pair c d => .tup [.str "pair", encC c, encC d]
  | .list c => .tup [.str "list", encC c]
@[simp] theorem c_any : encC .any = enc .any := (rfl)
@[simp] theorem hd_some {g : Ty} {n : Nm} : PV.tup [enc g, encN n] = encH (some (g, n)) := (rfl)
@[simp] theorem hd_0 {g : Ty} {n : Nm} {st : Sto} : opIx st (encH (some (g, n))) (.int 0) = some (enc g) := (rfl)
@[simp] theorem hd_1 {g : Ty} {n : Nm} {st : Sto} : opIx st (encH (some (g, n))) (.int 1) = some (encN n) := (rfl)
@[simp] theorem hd_N {h : Option (Ty × Nm)} : isN (encH h) = h.isNone := by cases h <;> rfl
@[simp] theorem o_N {h : Option Ty} : isN (encO h) = h.isNone := isN_encO h
@[simp] theorem hd_non : encH none = .non := (rfl)
@[simp] theorem o_non : encO none = .non := (rfl)
@[simp] theorem o_some {g : Ty} : encO (some g) = enc g := (rfl)
@[simp] theorem cf_fail {h : Option (Ty × Nm)} {n : Nm} : PV.tup [.str "fail", encH h, encN n] = encC (.fail h n) := (rfl)
@[simp] theorem cf_fail0 {n : Nm} : PV.tup [.str "fail", .non, encN n] = encC (.fail none n) := (rfl)
@[simp] theorem cf_turn {h : Option (Ty × Nm)} {m : Co} {t : Option Ty} : PV.tup [.str "turn", encH h, encC m, encO t] = encC (.turn h m t) := (rfl)
@[simp] theorem cf_turn0 {m : Co} {t : Option Ty} : PV.tup [.str "turn", .non, encC m, encO t] = encC (.turn none m t) := (rfl)
@[simp] theorem cf_turn1 {h : Option (Ty × Nm)} {m : Co} : PV.tup [.str "turn", encH h, encC m, .non] = encC (.turn h m none) := (rfl)
@[simp] theorem cf_turn2 {m : Co} : PV.tup [.str "turn", .non, encC m, .non] = encC (.turn none m none) := (rfl)
@[simp] theorem cf_turn3 {h : Option (Ty × Nm)} {m : Co} {g : Ty} : PV.tup [.str "turn", encH h, encC m, enc g] = encC (.turn h m (some g)) := (rfl)
@[simp] theorem cf_turn4 {m : Co} {g : Ty} : PV.tup [.str "turn", .non, encC m, enc g] = encC (.turn none m (some g)) := (rfl)
@[simp] theorem cf_plain : PV.tup [.str "plain"] = encC .plain := (rfl)
@[simp] theorem cf_fn {c d : Co} : PV.tup [.str "fn", encC c, encC d] = encC (.fn c d) := (rfl)
@[simp] theorem cf_pair {c d : Co} : PV.tup [.str "pair", encC c, encC d] = encC (.pair c d) := (rfl)
@[simp] theorem cf_list {c : Co} : PV.tup [.str "list", encC c] = encC (.list c) := (rfl)
@[simp] theorem cx_fail0 {h : Option (Ty × Nm)} {n : Nm} {st : Sto} : opIx st (encC (.fail h n)) (.int 0) = some (.str "fail") := (rfl)
@[simp] theorem cx_fail1 {h : Option (Ty × Nm)} {n : Nm} {st : Sto} : opIx st (encC (.fail h n)) (.int 1) = some (encH h) := (rfl)
@[simp] theorem cx_fail2 {h : Option (Ty × Nm)} {n : Nm} {st : Sto} : opIx st (encC (.fail h n)) (.int 2) = some (encN n) := (rfl)
@[simp] theorem cx_turn0 {h : Option (Ty × Nm)} {m : Co} {t : Option Ty} {st : Sto} : opIx st (encC (.turn h m t)) (.int 0) = some (.str "turn") := (rfl)
@[simp] theorem cx_turn1 {h : Option (Ty × Nm)} {m : Co} {t : Option Ty} {st : Sto} : opIx st (encC (.turn h m t)) (.int 1) = some (encH h) := (rfl)
@[simp] theorem cx_turn2 {h : Option (Ty × Nm)} {m : Co} {t : Option Ty} {st : Sto} : opIx st (encC (.turn h m t)) (.int 2) = some (encC m) := (rfl)
@[simp] theorem cx_turn3 {h : Option (Ty × Nm)} {m : Co} {t : Option Ty} {st : Sto} : opIx st (encC (.turn h m t)) (.int 3) = some (encO t) := (rfl)
@[simp] theorem cx_plain0 {st : Sto} : opIx st (encC .plain) (.int 0) = some (.str "plain") := (rfl)
@[simp] theorem cx_fn0 {c d : Co} {st : Sto} : opIx st (encC (.fn c d)) (.int 0) = some (.str "fn") := (rfl)
@[simp] theorem cx_fn1 {c d : Co} {st : Sto} : opIx st (encC (.fn c d)) (.int 1) = some (encC c) := (rfl)
@[simp] theorem cx_fn2 {c d : Co} {st : Sto} : opIx st (encC (.fn c d)) (.int 2) = some (encC d) := (rfl)
@[simp] theorem cx_pair0 {c d : Co} {st : Sto} : opIx st (encC (.pair c d)) (.int 0) = some (.str "pair") := (rfl)
@[simp] theorem cx_pair1 {c d : Co} {st : Sto} : opIx st (encC (.pair c d)) (.int 1) = some (encC c) := (rfl)
@[simp] theorem cx_pair2 {c d : Co} {st : Sto} : opIx st (encC (.pair c d)) (.int 2) = some (encC d) := (rfl)
@[simp] theorem cx_list0 {c : Co} {st : Sto} : opIx st (encC (.list c)) (.int 0) = some (.str "list") := (rfl)
@[simp] theorem cx_list1 {c : Co} {st : Sto} : opIx st (encC (.list c)) (.int 1) = some (encC c) := (rfl)
@[simp] theorem cs_plain : opSl (encC .plain) (some 1) none = some (.tup []) := sl1
@[simp] theorem cs_fn {c d : Co} : opSl (encC (.fn c d)) (some 1) none = some (.tup [encC c, encC d]) := sl1
@[simp] theorem cs_pair {c d : Co} : opSl (encC (.pair c d)) (some 1) none = some (.tup [encC c, encC d]) := sl1
@[simp] theorem cs_list {c : Co} : opSl (encC (.list c)) (some 1) none = some (.tup [encC c]) := sl1
/-! ### as data -/
theorem ints_plain : ∀ l : List Int, PV.plains (l.map PV.int) = true
  | [] => rfl
  | x :: l => by simp [PV.plains, PV.plain, ints_plain l]
theorem ints_fair : ∀ l : List Int, PV.fairs (l.map PV.int) = true
  | [] => rfl
  | x :: l => by simp [PV.fairs, PV.fair, ints_fair l]
theorem ints_depth : ∀ l : List Int, PV.depths (l.map PV.int) = 0
  | [] => rfl
  | x :: l => by simp [PV.depths, PV.depth, ints_depth l]
theorem encN_plain (n : Nm) : (encN n).plain = true := by simp [encN, PV.plain, PV.plains, ints_plain, -n_fold]
theorem encN_depth (n : Nm) : (encN n).depth = 2 := by simp [encN, PV.depth, PV.depths, ints_depth, -n_fold]
theorem encH_plain : ∀ h : Option (Ty × Nm), (encH h).plain = true
  | none => rfl
  | some (g, n) => by show PV.plain (.tup [enc g, encN n]) = true; simp only [PV.plain, PV.plains, enc_plain, encN_plain, Bool.and_self]
theorem encC_plain : ∀ c : Co, (encC c).plain = true
  | .any | .plain => rfl
  | .fail h n => by show PV.plain (.tup [.str "fail", encH h, encN n]) = true; simp only [PV.plain, PV.plains, encH_plain, encN_plain, Bool.and_self]
  | .turn h m t => by show PV.plain (.tup [.str "turn", encH h, encC m, encO t]) = true; simp only [PV.plain, PV.plains, encH_plain, encC_plain m, encO_plain, Bool.and_self]
  | .fn c d => by show PV.plain (.tup [.str "fn", encC c, encC d]) = true; simp only [PV.plain, PV.plains, encC_plain c, encC_plain d, Bool.and_self]
  | .pair c d => by show PV.plain (.tup [.str "pair", encC c, encC d]) = true; simp only [PV.plain, PV.plains, encC_plain c, encC_plain d, Bool.and_self]
  | .list c => by show PV.plain (.tup [.str "list", encC c]) = true; simp only [PV.plain, PV.plains, encC_plain c, Bool.and_self]
def Co.isAny : Co → Bool
  | .any => true
  | _ => false
@[simp] theorem eq_cany (c : Co) : opEq (encC c) (enc .any) = some (.bl c.isAny) := by
  show opEq (encC c) (.tup [.str "any"]) = _
  cases c with
  | any => rw [c_any]; exact (eq_any _).trans rfl
  | fail h n => exact eq_hd.trans (by simp [PV.plains, encH_plain, encN_plain]; rfl)
  | turn h m t => exact eq_hd.trans (by simp [PV.plains, encH_plain, encC_plain, encO_plain]; rfl)
  | plain => exact eq_hd.trans (by simp [PV.plains]; rfl)
  | fn c d => exact eq_hd.trans (by simp [PV.plains, encC_plain]; rfl)
  | pair c d => exact eq_hd.trans (by simp [PV.plains, encC_plain]; rfl)
  | list c => exact eq_hd.trans (by simp [PV.plains, encC_plain]; rfl)
@[simp] theorem isAny_any : Co.isAny .any = true := (rfl)
@[simp] theorem isAny_fail {h : Option (Ty × Nm)} {n : Nm} : Co.isAny (.fail h n) = false := (rfl)
@[simp] theorem isAny_turn {h : Option (Ty × Nm)} {m : Co} {t : Option Ty} : Co.isAny (.turn h m t) = false := (rfl)
@[simp] theorem isAny_plain : Co.isAny .plain = false := (rfl)
@[simp] theorem isAny_fn {c d : Co} : Co.isAny (.fn c d) = false := (rfl)
@[simp] theorem isAny_pair {c d : Co} : Co.isAny (.pair c d) = false := (rfl)
@[simp] theorem isAny_list {c : Co} : Co.isAny (.list c) = false := (rfl)
def Co.dep : Co → Nat
  | .any | .fail _ _ | .plain => 1
  | .turn _ m _ => m.dep + 1
  | .fn c d => max c.dep d.dep + 1
  | .pair c d => max c.dep d.dep + 1
  | .list c => c.dep + 1
/-! ### the coercion of a cast -/
def ofc : Ty → Ty → Nm → Co
  | .any, .any, _ => .any
  | .any, .int, n => .turn (some (.int, n)) .plain none
  | .any, .bool, n => .turn (some (.bool, n)) .plain none
  | .any, .fn c d, n => .turn (some (.fn .any .any, n)) (.fn (ofc c .any n.flip) (ofc .any d n)) none
  | .any, .pair c d, n => .turn (some (.pair .any .any, n)) (.pair (ofc .any c n) (ofc .any d n)) none
  | .any, .list c, n => .turn (some (.list .any, n)) (.list (ofc .any c n)) none
  | .int, .any, _ => .turn none .plain (some .int)
  | .bool, .any, _ => .turn none .plain (some .bool)
  | .fn a b, .any, n => .turn none (.fn (ofc .any a n.flip) (ofc b .any n)) (some (.fn .any .any))
  | .pair a b, .any, n => .turn none (.pair (ofc a .any n) (ofc b .any n)) (some (.pair .any .any))
  | .list a, .any, n => .turn none (.list (ofc a .any n)) (some (.list .any))
  | .int, .int, _ => .turn none .plain none
  | .bool, .bool, _ => .turn none .plain none
  | .fn a b, .fn c d, n => .turn none (.fn (ofc c a n.flip) (ofc b d n)) none
  | .pair a b, .pair c d, n => .turn none (.pair (ofc a c n) (ofc b d n)) none
  | .list a, .list c, n => .turn none (.list (ofc a c n)) none
  | _, _, _ => .any
termination_by a b => sizeOf a + sizeOf b
def midC (a b : Ty) (n : Nm) : Co := match a, b with
  | .fn a b, .fn c d => .fn (ofc c a n.flip) (ofc b d n)
  | .pair a b, .pair c d => .pair (ofc a c n) (ofc b d n)
  | .list a, .list c => .list (ofc a c n)
  | _, _ => .plain
theorem mid_ok {T : Tab} {ix : Nat → Nat} [B_coercions_of_cast T ix] {m : Nat} {a b : Ty} {nm : Nm} {st : Sto} (ha : a ≠ .any) (hb : b ≠ .any) (hg : alike a b = true)
    (ih : ∀ x y nm' st, (x.dep < a.dep ∧ y.dep < b.dep ∨ x.dep < b.dep ∧ y.dep < a.dep) → alike x y = true → T.call m (ix i_coercions_of_cast) [enc x, enc y, encN nm'] st = .ok (encC (ofc x y nm')) st) :
    T.call (m + 1) (ix i_coercions_middle_of) [enc a, enc b, encN nm] st = .ok (encC (midC a b nm)) st := by
  rw [r_coercions_middle_of]
  unfold c_coercions_middle_of
  cases a <;> cases b <;> simp [alike] at ha hb hg
  · simp [midC]
  · simp [midC]
  · rename_i a1 a2 b1 b2
    rw [alike_symm] at hg
    simp [midC, ih b1 a1 nm.flip st (by simp [Ty.dep]; omega) hg.1, ih a2 b2 nm st (by simp [Ty.dep]; omega) hg.2]
  · rename_i a1 a2 b1 b2
    simp [midC, ih a1 b1 nm st (by simp [Ty.dep]; omega) hg.1, ih a2 b2 nm st (by simp [Ty.dep]; omega) hg.2]
  · rename_i a1 b1
    simp [midC, ih a1 b1 nm st (by simp [Ty.dep]) hg]
theorem ofc_any : ofc .any .any n = .any := by simp [ofc]
theorem ofc_down {b : Ty} (h : b ≠ .any) (n : Nm) : ofc .any b n = .turn (some (grd b, n)) (midC (grd b) b n) none := by
  cases b <;> simp [ofc, grd, midC] at h ⊢
theorem ofc_up {a : Ty} (h : a ≠ .any) (n : Nm) : ofc a .any n = .turn none (midC a (grd a) n) (some (grd a)) := by
  cases a <;> simp [ofc, grd, midC] at h ⊢
theorem ofc_mid {a b : Ty} (ha : a ≠ .any) (hb : b ≠ .any) (hg : alike a b = true) (n : Nm) : ofc a b n = .turn none (midC a b n) none := by
  cases a <;> cases b <;> simp [alike] at ha hb hg <;> simp [ofc, midC]
theorem ofc_not {a b : Ty} (ha : a ≠ .any) (hb : b ≠ .any) {n : Nm} : ofc a b n = .any ∨ ofc a b n = .turn none (midC a b n) none := by
  cases a <;> cases b <;> simp at ha hb <;> simp [ofc, midC]
theorem grd_dep (a : Ty) : (grd a).dep ≤ a.dep := by
  cases a <;> simp [grd, Ty.dep]
  · rename_i a b; have := dep_pos a; omega
  · rename_i a b; have := dep_pos a; omega
  · rename_i a; exact dep_pos a
theorem grd_ne {a : Ty} (h : a ≠ .any) : grd a ≠ .any := by cases a <;> simp [grd] at h ⊢
theorem grd_alikeR (a : Ty) : alike a (grd a) = true := by rw [alike_symm]; exact alike_grd a
theorem ofc_ok {T : Tab} {ix : Nat → Nat} [B_coercions_of_cast T ix] : ∀ (N n : Nat) (a b : Ty) (nm : Nm) (st : Sto), a.dep ≤ N → b.dep ≤ N → 2 * N ≤ n → alike a b = true → T.call n (ix i_coercions_of_cast) [enc a, enc b, encN nm] st = .ok (encC (ofc a b nm)) st
  | 0, n, a, b, nm, st, h, _, _, _ => by have := dep_pos a; omega
  | N + 1, n, a, b, nm, st, h1, h2, h4, hg => by
    obtain ⟨m, rfl⟩ : ∃ m, n = m + 2 := ⟨n - 2, by omega⟩
    have G := fun x y (q1 : x ≠ Ty.any) (q2 : y ≠ Ty.any) (q3 : alike x y = true) (q4 : x.dep ≤ N + 1) (q5 : y.dep ≤ N + 1) => mid_ok (T := T) (ix := ix) (m := m) (nm := nm) (st := st) q1 q2 q3 (fun x' y' nm' st' q g => ofc_ok (T := T) (ix := ix) N m x' y' nm' st' (by omega) (by omega) (by omega) g)
    have ga := grd_dep a
    have gb := grd_dep b
    rw [r_coercions_of_cast]
    unfold c_coercions_of_cast
    by_cases ha : a = .any
    · by_cases hb : b = .any
      · subst ha; subst hb
        simp [ofc_any]
      · subst ha
        have g := G _ _ (grd_ne hb) hb (alike_grd b) (by omega) h2
        rw [ofc_down hb]
        simp [hb, ground_ok, g]
    · by_cases hb : b = .any
      · subst hb
        have g := G _ _ ha (grd_ne ha) (grd_alikeR a) h1 (by omega)
        rw [ofc_up ha]
        simp [ha, ground_ok, g]
      · have g := G _ _ ha hb hg h1 h2
        rw [ofc_mid ha hb hg]
        simp [ha, hb, g]

/-! ### one after the other -/
def clash : Option Ty → Option (Ty × Nm) → Option Nm
  | some g, some (g', n) => if g = g' then none else some n
  | _, _ => none
def tog : Co → Co → Co
  | .any, d => d
  | .fail h n, _ => .fail h n
  | c, .any => c
  | .turn h _ t, .fail h' n' => .fail h ((clash t h').getD n')
  | .turn h m t, .turn h' m' t' => match clash t h' with
    | some x => .fail h x
    | none => .turn h (tog m m') t'
  | .fn a b, .fn c d => .fn (tog c a) (tog b d)
  | .pair a b, .pair c d => .pair (tog a c) (tog b d)
  | .list a, .list c => .list (tog a c)
  | c, _ => c
termination_by c d => sizeOf c + sizeOf d
def mf : Co → Bool
  | .plain | .fn _ _ | .pair _ _ | .list _ => true
  | _ => false
def isGd (g : Ty) : Prop := g ≠ .any ∧ grd g = g
def hk : Option (Ty × Nm) → Ty → Ty → Prop
  | none, a, b => a = b
  | some (g, _), a, b => a = .any ∧ b = g ∧ isGd g
def tk : Option Ty → Ty → Ty → Prop
  | none, a, b => b = a
  | some g, a, b => b = .any ∧ a = g ∧ isGd g
/-- a coercion, or a middle, between two types -/
inductive CT : Co → Ty → Ty → Prop where
  | any : CT .any .any .any
  | fail {h n a a' b} : hk h a a' → a' ≠ .any → CT (.fail h n) a b
  | turn {h m t a a' b' b} : mf m = true → CT m a' b' → hk h a a' → tk t b' b → CT (.turn h m t) a b
  | plainI : CT .plain .int .int
  | plainB : CT .plain .bool .bool
  | fn {c d a1 a2 b1 b2} : mf c = false → mf d = false → CT c b1 a1 → CT d a2 b2 → CT (.fn c d) (.fn a1 a2) (.fn b1 b2)
  | pair {c d a1 a2 b1 b2} : mf c = false → mf d = false → CT c a1 b1 → CT d a2 b2 → CT (.pair c d) (.pair a1 a2) (.pair b1 b2)
  | list {c a1 b1} : mf c = false → CT c a1 b1 → CT (.list c) (.list a1) (.list b1)
theorem isGd_dep {g : Ty} (h : isGd g) : g.dep ≤ 2 := by
  obtain ⟨h1, h2⟩ := h
  cases g <;> simp [grd, Ty.dep] at h1 h2 ⊢
  · rw [← h2.1, ← h2.2]; simp [Ty.dep]
  · rw [← h2.1, ← h2.2]; simp [Ty.dep]
  · rw [← h2]; simp [Ty.dep]
theorem mf_ne {m : Co} {a b : Ty} (h : CT m a b) (k : mf m = true) : a ≠ .any ∧ b ≠ .any := by
  cases h <;> simp [mf] at k ⊢
theorem link {t : Option Ty} {h : Option (Ty × Nm)} {a b c : Ty} (h1 : tk t a b) (h2 : hk h b c) (ha : a ≠ .any) (hc : c ≠ .any) :
    (t = none ∧ h = none ∧ a = c) ∨ ∃ g g' n, t = some g ∧ h = some (g', n) ∧ a = g ∧ c = g' ∧ isGd g ∧ isGd g' := by
  cases t with
  | none =>
    cases h with
    | none => simp only [tk, hk] at h1 h2; exact .inl ⟨rfl, rfl, by rw [← h1, h2]⟩
    | some p => simp only [tk, hk] at h1 h2; exact absurd (h1.symm.trans h2.1) ha
  | some g =>
    cases h with
    | none => simp only [tk, hk] at h1 h2; exact absurd (h2.symm.trans h1.1) hc
    | some p => obtain ⟨g', n⟩ := p; simp only [tk, hk] at h1 h2; exact .inr ⟨g, g', n, rfl, rfl, h1.2.1, h2.2.1, h1.2.2, h2.2.2⟩
theorem co_pos (c : Co) : 1 ≤ c.dep := by cases c <;> simp [Co.dep]
def togOr (T : Tab) (ix : Nat → Nat) (n : Nat) (c d : Co) (st : Sto) : Prop := if mf c = true then T.call n (ix i_coercions_middles) [encC c, encC d] st = .ok (encC (tog c d)) st else T.call n (ix i_coercions_together) [encC c, encC d] st = .ok (encC (tog c d)) st
theorem fb_ok {T : Tab} {ix : Nat → Nat} [B_coercions_fail_behind T ix] {n : Nat} {h : Option (Ty × Nm)} {m : Co} {t : Option Ty} {h' : Option (Ty × Nm)} {n' : Nm} {st : Sto} {a b c : Ty} (h1 : tk t a b) (h2 : hk h' b c) (ha : a ≠ .any) (hc : c ≠ .any) :
    T.call (n + 1) (ix i_coercions_fail_behind) [encC (.turn h m t), encC (.fail h' n')] st = .ok (encC (tog (.turn h m t) (.fail h' n'))) st := by
  rw [r_coercions_fail_behind]
  unfold c_coercions_fail_behind
  rcases link h1 h2 ha hc with ⟨rfl, rfl, _⟩ | ⟨g, g', x, rfl, rfl, _, _, hg, hg'⟩
  · simp [tog, clash]
  · have := isGd_dep hg
    by_cases q : g = g'
    · subst q
      simp [tog, clash, ne_enc, show g.dep ≤ 50 by omega, isN_enc]
    · simp [tog, clash, ne_enc, show g.dep ≤ 50 by omega, isN_enc, q]
theorem tog_ok {T : Tab} {ix : Nat → Nat} [B_coercions_together T ix] : ∀ (N n : Nat) (c d : Co) (a b e : Ty) (st : Sto), c.dep ≤ N → d.dep ≤ N → N ≤ n → CT c a b → CT d b e → mf c = mf d → togOr T ix n c d st
  | 0, n, c, d, a, b, e, st, h, _, _, _, _, _ => by have := co_pos c; omega
  | N + 1, n, c, d, a, b, e, st, h1, h2, hn, hc, hd, hm => by
    obtain ⟨m, rfl⟩ : ∃ m, n = m + 1 := ⟨n - 1, by omega⟩
    have ih := fun c d a b e st q1 q2 q3 q4 q5 => tog_ok (T := T) (ix := ix) N m c d a b e st q1 q2 (by omega) q3 q4 q5
    unfold togOr
    cases hc with
    | any =>
      rw [if_neg (by simp [mf]), r_coercions_together]
      unfold c_coercions_together
      simp [tog]
    | fail k1 k2 =>
      rw [if_neg (by simp [mf]), r_coercions_together]
      unfold c_coercions_together
      simp [tog]
    | turn k1 k2 k3 k4 =>
      rename_i hh mm t a' b'
      rw [if_neg (by simp [mf]), r_coercions_together]
      unfold c_coercions_together
      have k5 := mf_ne k2 k1
      simp only [Co.dep] at h1
      cases hd with
      | any => simp [tog]
      | fail l1 l2 =>
        rename_i h' n' a2
        have hp := co_pos mm
        obtain ⟨m', rfl⟩ : ∃ m', m = m' + 1 := ⟨m - 1, by omega⟩
        have g := fb_ok (T := T) (ix := ix) (n := m') (h := hh) (m := mm) (n' := n') (st := st) k4 l1 k5.2 l2
        simp [g]
      | turn l1 l2 l3 l4 =>
        rename_i h' m' t' a2 b2
        have l5 := mf_ne l2 l1
        simp only [Co.dep] at h2
        rcases link k4 l3 k5.2 l5.1 with ⟨rfl, rfl, q⟩ | ⟨g, g', x, rfl, rfl, q1, q2, hg, hg'⟩
        · subst q
          have g := ih mm m' _ _ _ st (by omega) (by omega) k2 l2 (by rw [k1, l1])
          unfold togOr at g
          rw [if_pos k1] at g
          simp [tog, clash, g]
        · have := isGd_dep hg
          by_cases q : g = g'
          · subst q
            subst q1
            subst q2
            have g := ih mm m' _ _ _ st (by omega) (by omega) k2 l2 (by rw [k1, l1])
            unfold togOr at g
            rw [if_pos k1] at g
            simp [tog, clash, ne_enc, show a2.dep ≤ 50 by omega, isN_enc, g]
          · simp [tog, clash, ne_enc, show g.dep ≤ 50 by omega, isN_enc, q]
      | plainI => simp [mf] at hm
      | plainB => simp [mf] at hm
      | fn _ _ _ _ => simp [mf] at hm
      | pair _ _ _ _ => simp [mf] at hm
      | list _ _ => simp [mf] at hm
    | plainI =>
      rw [if_pos (by simp [mf]), r_coercions_middles]
      unfold c_coercions_middles
      cases hd <;> simp [mf] at hm
      simp [tog]
    | plainB =>
      rw [if_pos (by simp [mf]), r_coercions_middles]
      unfold c_coercions_middles
      cases hd <;> simp [mf] at hm
      simp [tog]
    | fn k1 k2 k3 k4 =>
      rename_i c1 c2 a1 a2 b1 b2
      rw [if_pos (by simp [mf]), r_coercions_middles]
      unfold c_coercions_middles
      cases hd <;> simp [mf] at hm
      rename_i d1 d2 e1 e2 l1 l2 l3 l4
      simp only [Co.dep] at h1 h2
      have g1 := ih d1 c1 _ _ _ st (by omega) (by omega) l3 k3 (by rw [l1, k1])
      have g2 := ih c2 d2 _ _ _ st (by omega) (by omega) k4 l4 (by rw [l2, k2])
      unfold togOr at g1 g2
      rw [if_neg (by simp [l1])] at g1
      rw [if_neg (by simp [k2])] at g2
      simp [tog, g1, g2]
    | pair k1 k2 k3 k4 =>
      rename_i c1 c2 a1 a2 b1 b2
      rw [if_pos (by simp [mf]), r_coercions_middles]
      unfold c_coercions_middles
      cases hd <;> simp [mf] at hm
      rename_i d1 d2 e1 e2 l1 l2 l3 l4
      simp only [Co.dep] at h1 h2
      have g1 := ih c1 d1 _ _ _ st (by omega) (by omega) k3 l3 (by rw [l1, k1])
      have g2 := ih c2 d2 _ _ _ st (by omega) (by omega) k4 l4 (by rw [l2, k2])
      unfold togOr at g1 g2
      rw [if_neg (by simp [k1])] at g1
      rw [if_neg (by simp [k2])] at g2
      simp [tog, g1, g2]
    | list k1 k3 =>
      rename_i c1 a1 b1
      rw [if_pos (by simp [mf]), r_coercions_middles]
      unfold c_coercions_middles
      cases hd <;> simp [mf] at hm
      rename_i d1 e1 l1 l3
      simp only [Co.dep] at h1 h2
      have g1 := ih c1 d1 _ _ _ st (by omega) (by omega) k3 l3 (by rw [l1, k1])
      unfold togOr at g1
      rw [if_neg (by simp [k1])] at g1
      simp [tog, g1]
theorem tog_mf : ∀ (c d : Co), mf c = mf d → mf (tog c d) = mf c := by
  intro c d h
  cases c <;> cases d <;> simp [mf] at h <;> simp [tog, mf]
  rename_i h1 m1 t1 h2 m2 t2
  cases clash t1 h2 <;> rfl
theorem tog_dep : ∀ (N : Nat) (c d : Co), c.dep ≤ N → d.dep ≤ N → (tog c d).dep ≤ N
  | 0, c, d, h, _ => by have := co_pos c; omega
  | N + 1, c, d, h1, h2 => by
    have ih := tog_dep N
    cases c <;> cases d <;> simp only [Co.dep] at h1 h2 <;> simp only [tog, Co.dep] <;> try omega
    · rename_i hh m t h' m' t'
      have := ih m m' (by omega) (by omega)
      cases clash t h' <;> simp only [Co.dep] <;> omega
    · rename_i c1 c2 d1 d2
      have g1 := ih d1 c1 (by omega) (by omega)
      have g2 := ih c2 d2 (by omega) (by omega)
      omega
    · rename_i c1 c2 d1 d2
      have g1 := ih c1 d1 (by omega) (by omega)
      have g2 := ih c2 d2 (by omega) (by omega)
      omega
    · rename_i c1 d1
      have g1 := ih c1 d1 (by omega) (by omega)
      omega
theorem tog_ct : ∀ (N : Nat) (c d : Co) (a b e : Ty), c.dep ≤ N → d.dep ≤ N → CT c a b → CT d b e → mf c = mf d → CT (tog c d) a e
  | 0, c, d, a, b, e, h, _, _, _, _ => by have := co_pos c; omega
  | N + 1, c, d, a, b, e, h1, h2, hc, hd, hm => by
    have ih := tog_ct N
    have M := fun c d h => tog_mf c d h
    cases hc with
    | any => simpa [tog] using hd
    | fail k1 k2 => simp only [tog]; exact .fail k1 k2
    | turn k1 k2 k3 k4 =>
      rename_i hh mm t a' b'
      have k5 := mf_ne k2 k1
      simp only [Co.dep] at h1
      cases hd with
      | any => simp only [tog]; exact .turn k1 k2 k3 k4
      | fail l1 l2 => simp only [tog]; exact .fail k3 k5.1
      | turn l1 l2 l3 l4 =>
        rename_i h' m' t' a2 b2
        have l5 := mf_ne l2 l1
        simp only [Co.dep] at h2
        rcases link k4 l3 k5.2 l5.1 with ⟨rfl, rfl, q⟩ | ⟨g, g', x, rfl, rfl, q1, q2, hg, hg'⟩
        · subst q
          simp only [tog, clash]
          exact .turn (by rw [M _ _ (by rw [k1, l1]), k1]) (ih mm m' _ _ _ (by omega) (by omega) k2 l2 (by rw [k1, l1])) k3 l4
        · by_cases q : g = g'
          · subst q
            subst q1
            subst q2
            simp only [tog, clash, if_pos]
            exact .turn (by rw [M _ _ (by rw [k1, l1]), k1]) (ih mm m' _ _ _ (by omega) (by omega) k2 l2 (by rw [k1, l1])) k3 l4
          · simp only [tog, clash, if_neg q]
            exact .fail k3 k5.1
      | plainI => simp [mf] at hm
      | plainB => simp [mf] at hm
      | fn _ _ _ _ => simp [mf] at hm
      | pair _ _ _ _ => simp [mf] at hm
      | list _ _ => simp [mf] at hm
    | plainI => cases hd <;> simp [mf] at hm; simp only [tog]; exact .plainI
    | plainB => cases hd <;> simp [mf] at hm; simp only [tog]; exact .plainB
    | fn k1 k2 k3 k4 =>
      cases hd <;> simp [mf] at hm
      rename_i l1 l2 l3 l4
      simp only [Co.dep] at h1 h2
      simp only [tog]
      exact .fn (by rw [M _ _ (by rw [k1, l1]), l1]) (by rw [M _ _ (by rw [k2, l2]), k2]) (ih _ _ _ _ _ (by omega) (by omega) l3 k3 (by rw [k1, l1])) (ih _ _ _ _ _ (by omega) (by omega) k4 l4 (by rw [k2, l2]))
    | pair k1 k2 k3 k4 =>
      cases hd <;> simp [mf] at hm
      rename_i l1 l2 l3 l4
      simp only [Co.dep] at h1 h2
      simp only [tog]
      exact .pair (by rw [M _ _ (by rw [k1, l1]), k1]) (by rw [M _ _ (by rw [k2, l2]), k2]) (ih _ _ _ _ _ (by omega) (by omega) k3 l3 (by rw [k1, l1])) (ih _ _ _ _ _ (by omega) (by omega) k4 l4 (by rw [k2, l2]))
    | list k1 k3 =>
      cases hd <;> simp [mf] at hm
      rename_i l1 l3
      simp only [Co.dep] at h1 h2
      simp only [tog]
      exact .list (by rw [M _ _ (by rw [k1, l1]), k1]) (ih _ _ _ _ _ (by omega) (by omega) k3 l3 (by rw [k1, l1]))
@[simp] theorem tog_any_r (c : Co) : tog c .any = c := by cases c <;> simp [tog]
@[simp] theorem tog_any_l (c : Co) : tog .any c = c := by simp [tog]
@[simp] theorem tog_fail_l {h : Option (Ty × Nm)} {n : Nm} (c : Co) : tog (.fail h n) c = .fail h n := by simp [tog]
theorem tog_tf {h h' : Option (Ty × Nm)} {m : Co} {t : Option Ty} {n : Nm} : tog (.turn h m t) (.fail h' n) = .fail h ((clash t h').getD n) := by simp [tog]
theorem tog_tt {h h' : Option (Ty × Nm)} {m m' : Co} {t t' : Option Ty} : tog (.turn h m t) (.turn h' m' t') = match clash t h' with
    | some x => .fail h x
    | none => .turn h (tog m m') t' := by simp [tog]
theorem link_eq {t : Option Ty} {h : Option (Ty × Nm)} {a b c : Ty} (h1 : tk t a b) (h2 : hk h b c) (ha : a ≠ .any) (hc : c ≠ .any) (q : clash t h = none) : a = c := by
  rcases link h1 h2 ha hc with ⟨_, _, e⟩ | ⟨g, g', x, rfl, rfl, q1, q2, _, _⟩
  · exact e
  · simp only [clash] at q
    split at q
    · rename_i r
      rw [q1, q2, r]
    · cases q
theorem tog_assoc : ∀ (N : Nat) (c d f : Co) (a b e k : Ty), c.dep ≤ N → d.dep ≤ N → f.dep ≤ N → CT c a b → CT d b e → CT f e k → mf c = mf d → mf d = mf f → tog c (tog d f) = tog (tog c d) f
  | 0, c, d, f, a, b, e, k, h, _, _, _, _, _, _, _ => by have := co_pos c; omega
  | N + 1, c, d, f, a, b, e, k, h1, h2, h3, hc, hd, hf, hm1, hm2 => by
    have ih := tog_assoc N
    cases c with
    | any => simp
    | fail h n => simp
    | turn h m t =>
      cases d with
      | any => simp
      | fail h' n' => simp [tog_tf]
      | turn h' m' t' =>
        cases f with
        | any => simp
        | fail hx n2 =>
          simp only [tog_tt, tog_tf]
          cases clash t h' <;> simp [tog_tf]
        | turn hx m2 t2 =>
          simp only [tog_tt]
          cases q1 : clash t h' with
          | some x =>
            cases clash t' hx <;> simp [tog_tt, tog_tf, q1]
          | none =>
            cases q2 : clash t' hx with
            | some x => simp [tog_tt, tog_tf, q1, q2]
            | none =>
              simp only [tog_tt, q1, q2]
              simp only [Co.dep] at h1 h2 h3
              cases hc with
              | turn k1 k2 k3 k4 =>
                cases hd with
                | turn l1 l2 l3 l4 =>
                  cases hf with
                  | turn p1 p2 p3 p4 =>
                    have y1 := link_eq k4 l3 (mf_ne k2 k1).2 (mf_ne l2 l1).1 q1
                    have y2 := link_eq l4 p3 (mf_ne l2 l1).2 (mf_ne p2 p1).1 q2
                    subst y1
                    subst y2
                    rw [ih m m' m2 _ _ _ _ (by omega) (by omega) (by omega) k2 l2 p2 (by rw [k1, l1]) (by rw [l1, p1])]
        | _ => simp [mf] at hm2
      | _ => simp [mf] at hm1
    | plain => cases d <;> simp [mf] at hm1 <;> cases f <;> simp [mf] at hm2 <;> simp [tog]
    | fn c1 c2 =>
      cases hc with
      | fn k1 k2 k3 k4 =>
        cases hd <;> simp [mf] at hm1
        rename_i d1 d2 x1 x2 l1 l2 l3 l4
        cases hf <;> simp [mf] at hm2
        rename_i f1 f2 y1 y2 p1 p2 p3 p4
        simp only [Co.dep] at h1 h2 h3
        simp only [tog]
        rw [ih f1 d1 c1 _ _ _ _ (by omega) (by omega) (by omega) p3 l3 k3 (by rw [p1, l1]) (by rw [l1, k1]), ih c2 d2 f2 _ _ _ _ (by omega) (by omega) (by omega) k4 l4 p4 (by rw [k2, l2]) (by rw [l2, p2])]
    | pair c1 c2 =>
      cases hc with
      | pair k1 k2 k3 k4 =>
        cases hd <;> simp [mf] at hm1
        rename_i d1 d2 x1 x2 l1 l2 l3 l4
        cases hf <;> simp [mf] at hm2
        rename_i f1 f2 y1 y2 p1 p2 p3 p4
        simp only [Co.dep] at h1 h2 h3
        simp only [tog]
        rw [ih c1 d1 f1 _ _ _ _ (by omega) (by omega) (by omega) k3 l3 p3 (by rw [k1, l1]) (by rw [l1, p1]), ih c2 d2 f2 _ _ _ _ (by omega) (by omega) (by omega) k4 l4 p4 (by rw [k2, l2]) (by rw [l2, p2])]
    | list c1 =>
      cases hc with
      | list k1 k3 =>
        cases hd <;> simp [mf] at hm1
        rename_i d1 x1 l1 l3
        cases hf <;> simp [mf] at hm2
        rename_i f1 y1 p1 p3
        simp only [Co.dep] at h1 h2 h3
        simp only [tog]
        rw [ih c1 d1 f1 _ _ _ _ (by omega) (by omega) (by omega) k3 l3 p3 (by rw [k1, l1]) (by rw [l1, p1])]
/-! ### the coercion of a cast goes between its types -/
theorem grd_isGd {a : Ty} (h : a ≠ .any) : isGd (grd a) := by
  refine ⟨grd_ne h, ?_⟩
  cases a <;> rfl
theorem ofc_mf (a b : Ty) (n : Nm) : mf (ofc a b n) = false := by
  cases a <;> cases b <;> simp [ofc, mf]
theorem midC_mf (a b : Ty) (n : Nm) : mf (midC a b n) = true := by
  cases a <;> cases b <;> simp [midC, mf]
theorem ofc_ct : ∀ (N : Nat) (a b : Ty) (n : Nm), a.dep ≤ N → b.dep ≤ N → alike a b = true → CT (ofc a b n) a b
  | 0, a, b, n, h, _, _ => by have := dep_pos a; omega
  | N + 1, a, b, n, h1, h2, hg => by
    have M : ∀ x y : Ty, x ≠ .any → y ≠ .any → alike x y = true → x.dep ≤ N + 1 → y.dep ≤ N + 1 → CT (midC x y n) x y := fun x y hx hy hxy q1 q2 => by
      cases x <;> cases y <;> simp [alike] at hx hy hxy <;> simp only [midC]
      · exact .plainI
      · exact .plainB
      · simp only [Ty.dep] at q1 q2
        rename_i x1 x2 y1 y2
        exact .fn (ofc_mf _ _ _) (ofc_mf _ _ _) (ofc_ct N y1 x1 n.flip (by omega) (by omega) (by rw [alike_symm]; exact hxy.1)) (ofc_ct N x2 y2 n (by omega) (by omega) hxy.2)
      · simp only [Ty.dep] at q1 q2
        rename_i x1 x2 y1 y2
        exact .pair (ofc_mf _ _ _) (ofc_mf _ _ _) (ofc_ct N x1 y1 n (by omega) (by omega) hxy.1) (ofc_ct N x2 y2 n (by omega) (by omega) hxy.2)
      · simp only [Ty.dep] at q1 q2
        rename_i x1 y1
        exact .list (ofc_mf _ _ _) (ofc_ct N x1 y1 n (by omega) (by omega) hxy)
    have ga := grd_dep a
    have gb := grd_dep b
    by_cases ha : a = .any
    · by_cases hb : b = .any
      · subst ha; subst hb; rw [ofc_any]; exact .any
      · subst ha
        rw [ofc_down hb]
        exact .turn (midC_mf _ _ _) (M _ _ (grd_ne hb) hb (alike_grd b) (by omega) h2) ⟨rfl, rfl, grd_isGd hb⟩ rfl
    · by_cases hb : b = .any
      · subst hb
        rw [ofc_up ha]
        exact .turn (midC_mf _ _ _) (M _ _ ha (grd_ne ha) (grd_alikeR a) h1 (by omega)) rfl ⟨rfl, rfl, grd_isGd ha⟩
      · rw [ofc_mid ha hb hg]
        exact .turn (midC_mf _ _ _) (M _ _ ha hb hg h1 h2) rfl rfl
theorem ofc_dep : ∀ (N : Nat) (a b : Ty) (n : Nm), a.dep ≤ N → b.dep ≤ N → (ofc a b n).dep ≤ 2 * N
  | 0, a, b, n, h, _ => by have := dep_pos a; omega
  | N + 1, a, b, n, h1, h2 => by
    have M : ∀ x y : Ty, x.dep ≤ N + 1 → y.dep ≤ N + 1 → (midC x y n).dep ≤ 2 * N + 1 := fun x y q1 q2 => by
      cases x <;> cases y <;> simp only [midC, Co.dep] <;> simp only [Ty.dep] at q1 q2 <;> try omega
      · rename_i x1 x2 y1 y2
        have g1 := ofc_dep N y1 x1 n.flip (by omega) (by omega)
        have g2 := ofc_dep N x2 y2 n (by omega) (by omega)
        omega
      · rename_i x1 x2 y1 y2
        have g1 := ofc_dep N x1 y1 n (by omega) (by omega)
        have g2 := ofc_dep N x2 y2 n (by omega) (by omega)
        omega
      · rename_i x1 y1
        have g1 := ofc_dep N x1 y1 n (by omega) (by omega)
        omega
    have ga := grd_dep a
    have gb := grd_dep b
    by_cases ha : a = .any
    · by_cases hb : b = .any
      · subst ha; subst hb; rw [ofc_any]; simp only [Co.dep]; omega
      · subst ha
        rw [ofc_down hb]
        have := M (grd b) b (by omega) h2
        simp only [Co.dep]; omega
    · by_cases hb : b = .any
      · subst hb
        rw [ofc_up ha]
        have := M a (grd a) h1 (by omega)
        simp only [Co.dep]; omega
      · by_cases hg : alike a b = true
        · rw [ofc_mid ha hb hg]
          have := M a b h1 h2
          simp only [Co.dep]; omega
        · have e := ofc_not ha hb (n := n)
          have := M a b h1 h2
          rcases e with e | e <;> rw [e] <;> simp only [Co.dep] <;> omega

end BK

/-! LgY: coercions done to values -/
namespace BK
open PySem PySem.Spec PyProof.Rows L2 RZ
abbrev Rb := Except Nm Va
def mapVs (f : Va → Except Nm Va) : Vs → Except Nm Vs
  | .nil => .ok .nil
  | .cons v l => match f v with
    | .error n => .error n
    | .ok w => match mapVs f l with
      | .error n => .error n
      | .ok m => .ok (.cons w m)
def headV : Option (Ty × Nm) → Va → Except Nm Va
  | none, v => .ok v
  | some (g, n), .tag g' w => if g' = g then .ok w else .error n
  | some _, v => .ok v
def tailV : Option Ty → Va → Va
  | none, v => v
  | some g, v => .tag g v
def bendV : Co → Va → Except Nm Va
  | .any, v => .ok v
  | .fail h n, v => match headV h v with
    | .error x => .error x
    | .ok _ => .error n
  | .turn h m t, v => match headV h v with
    | .error x => .error x
    | .ok w => match bendV m w with
      | .error x => .error x
      | .ok u => .ok (tailV t u)
  | .plain, v => .ok v
  | .fn _ _, v => .ok v
  | .pair c d, .pair x y => match bendV c x with
    | .error n => .error n
    | .ok x' => match bendV d y with
      | .error n => .error n
      | .ok y' => .ok (.pair x' y')
  | .list c, .items l => match mapVs (bendV c) l with
    | .error n => .error n
    | .ok l' => .ok (.items l')
  | _, v => .ok v
def resE : Except Nm Va → PV
  | .ok v => okP v
  | .error n => blP (encN n)
theorem mapVs_len {f : Va → Except Nm Va} : ∀ {l l' : Vs}, mapVs f l = .ok l' → l'.len = l.len
  | .nil, l', h => by simp only [mapVs, Except.ok.injEq] at h; rw [← h]
  | .cons v l, l', h => by
    simp only [mapVs] at h
    split at h
    · cases h
    · split at h
      · cases h
      · rename_i q
        cases h
        simp only [Vs.len, mapVs_len q]
/-- bend answers at n calls -/
def BendOk (T : Tab) (ix : Nat → Nat) (n : Nat) (v : Va) (c : Co) : Prop := ∀ st, T.call n (ix i_coercions_bend) [encV v, encC c] st = .ok (resE (bendV c v)) st
theorem app2b {m : EM} {a0 a1 a3 a4 a5 a6 a7 : Slot} {acc : List PV} {st : Sto} : sApp 2 m [a0, a1, .own (.lst acc), a3, a4, a5, a6, a7] st = @SR.ofK _ (m [a0, a1, .own (.lst acc), a3, a4, a5, a6, a7] st) ⟨fun x st1 => if acc.length < sizeLine then .nx [a0, a1, .own (.lst (acc ++ [x])), a3, a4, a5, a6, a7] st1 else .bad⟩ := x_appOwn rfl
theorem bend_go {T : Tab} {ix : Nat → Nat} [B_coercions_bend T ix] {m : Nat} {c : Co} {st : Sto} {a0 a4 a5 a7 : Slot} : ∀ (l : Vs) (acc : List PV) (s3 s6 : Slot), AllV (fun v => BendOk T ix m v c) l → acc.length + l.len ≤ 2000 →
    (∀ l', mapVs (bendV c) l = .ok l' → ∃ s3' s6', forGo (gNm 3) (c_coercions_bend_middle_4b ix (T.call m)) (encVs l) [a0, .val (encC (.list c)), .own (.lst acc), s3, a4, a5, s6, a7] st = .nx [a0, .val (encC (.list c)), .own (.lst (acc ++ encVs l')), s3', a4, a5, s6', a7] st) ∧
    (∀ x, mapVs (bendV c) l = .error x → forGo (gNm 3) (c_coercions_bend_middle_4b ix (T.call m)) (encVs l) [a0, .val (encC (.list c)), .own (.lst acc), s3, a4, a5, s6, a7] st = .ret (blP (encN x)) st)
  | .nil, acc, s3, s6, _, _ => ⟨fun l' h => by
      simp only [mapVs, Except.ok.injEq] at h
      subst h
      exact ⟨s3, s6, by simp [encVs]⟩, fun x h => by simp [mapVs] at h⟩
  | .cons v l, acc, s3, s6, h, hl => by
    obtain ⟨h1, h2⟩ := h
    simp only [Vs.len] at hl
    have hs : acc.length < sizeLine := Nat.lt_of_lt_of_le (by omega : acc.length < 3000) (by decide)
    have hv := h1 st
    have step : ∀ ρ, forGo (gNm 3) (c_coercions_bend_middle_4b ix (T.call m)) (encVs (.cons v l)) ρ st = (match c_coercions_bend_middle_4b ix (T.call m) (ρ.set 3 (.val (encV v))) st with
      | .nx ρ1 st1 => forGo (gNm 3) (c_coercions_bend_middle_4b ix (T.call m)) (encVs l) ρ1 st1
      | .ct ρ1 st1 => forGo (gNm 3) (c_coercions_bend_middle_4b ix (T.call m)) (encVs l) ρ1 st1
      | .brk ρ1 st1 => .nx ρ1 st1
      | r => r) := fun ρ => rfl
    cases e : bendV c v with
    | error x =>
      rw [e] at hv
      simp only [resE] at hv
      refine ⟨fun l' q => by simp [mapVs, e] at q, fun y q => ?_⟩
      simp only [mapVs, e, Except.error.injEq] at q
      subst q
      rw [step]
      have b : c_coercions_bend_middle_4b ix (T.call m) ([a0, .val (encC (.list c)), .own (.lst acc), s3, a4, a5, s6, a7].set 3 (.val (encV v))) st = .ret (blP (encN x)) st := by
        simp [c_coercions_bend_middle_4b, c_coercions_bend_middle_4_0, c_coercions_bend_middle_4_1, hv]
      rw [b]
    | ok w =>
      rw [e] at hv
      simp only [resE] at hv
      have b : c_coercions_bend_middle_4b ix (T.call m) ([a0, .val (encC (.list c)), .own (.lst acc), s3, a4, a5, s6, a7].set 3 (.val (encV v))) st = .nx [a0, .val (encC (.list c)), .own (.lst (acc ++ [encV w])), .val (encV v), a4, a5, .val (okP w), a7] st := by
        simp [c_coercions_bend_middle_4b, c_coercions_bend_middle_4_0, c_coercions_bend_middle_4_1, c_coercions_bend_middle_4_2, hv, app2b, hs]
      obtain ⟨i1, i2⟩ := bend_go (T := T) (ix := ix) (m := m) (c := c) (st := st) (a0 := a0) (a4 := a4) (a5 := a5) (a7 := a7) l (acc ++ [encV w]) (.val (encV v)) (.val (okP w)) h2 (by simp; omega)
      refine ⟨fun l' q => ?_, fun y q => ?_⟩
      · simp only [mapVs, e] at q
        cases q2 : mapVs (bendV c) l with
        | error x => rw [q2] at q; cases q
        | ok l2 =>
          rw [q2] at q
          cases q
          obtain ⟨s3', s6', g⟩ := i1 l2 q2
          refine ⟨s3', s6', ?_⟩
          rw [step, b]
          simp only
          rw [g]
          simp [encVs]
      · simp only [mapVs, e] at q
        rw [step, b]
        simp only
        refine i2 y ?_
        cases q2 : mapVs (bendV c) l with
        | error x => rw [q2] at q; exact q
        | ok l2 => rw [q2] at q; cases q
theorem AllV_has {a : Ty} {p : Va → Prop} (h : ∀ v, has a v = true → slim v = true → p v) : ∀ l : Vs, hasL a l = true → slimL l = true → AllV p l
  | .nil, _, _ => trivial
  | .cons v l, h1, h2 => by
    simp only [hasL, slimL, Bool.and_eq_true] at h1 h2
    exact ⟨h v h1.1 h2.1, AllV_has h l h1.2 h2.2⟩
def bendOr (T : Tab) (ix : Nat → Nat) (n : Nat) (c : Co) (v : Va) (st : Sto) : Prop := if mf c = true then T.call n (ix i_coercions_bend_middle) [encV v, encC c] st = .ok (resE (bendV c v)) st else T.call n (ix i_coercions_bend) [encV v, encC c] st = .ok (resE (bendV c v)) st
theorem bend_ok {T : Tab} {ix : Nat → Nat} [B_coercions_bend T ix] : ∀ (N n : Nat) (c : Co) (v : Va) (a b : Ty) (st : Sto), c.dep ≤ N → N ≤ n → CT c a b → has a v = true → slim v = true → bendOr T ix n c v st
  | 0, n, c, v, a, b, st, h, _, _, _, _ => by have := co_pos c; omega
  | N + 1, n, c, v, a, b, st, h1, hn, hc, hv, hs => by
    obtain ⟨m, rfl⟩ : ∃ m, n = m + 1 := ⟨n - 1, by omega⟩
    have ih := fun c v a b st q1 q2 q3 q4 => bend_ok (T := T) (ix := ix) N m c v a b st q1 (by omega) q2 q3 q4
    unfold bendOr
    cases hc with
    | any =>
      rw [if_neg (by simp [mf]), r_coercions_bend]
      unfold c_coercions_bend
      simp [bendV, resE]
    | fail k1 k2 =>
      rename_i h n a'
      rw [if_neg (by simp [mf]), r_coercions_bend]
      unfold c_coercions_bend
      cases h with
      | none => simp [bendV, headV, resE]
      | some p =>
        obtain ⟨g, x⟩ := p
        obtain ⟨rfl, rfl, hg⟩ := k1
        cases v <;> simp [has] at hv
        rename_i g' w
        have := isGr_dep hv.1
        by_cases q : g' = a'
        · subst q; simp [bendV, headV, ne_enc, show g'.dep ≤ 50 by omega, resE]
        · simp [bendV, headV, ne_enc, show g'.dep ≤ 50 by omega, resE, q]
    | turn k1 k2 k3 k4 =>
      rename_i h mm t a' b'
      simp only [Co.dep] at h1
      rw [if_neg (by simp [mf]), r_coercions_bend]
      unfold c_coercions_bend
      cases h with
      | none =>
        simp only [hk] at k3
        subst k3
        have g := ih mm v _ _ st (by omega) k2 hv hs
        unfold bendOr at g
        rw [if_pos k1] at g
        cases e : bendV mm v with
        | error x => rw [e] at g; simp only [resE] at g; simp [bendV, headV, e, g, resE]
        | ok u =>
          rw [e] at g; simp only [resE] at g
          cases t with
          | none => simp [bendV, headV, e, g, resE, tailV]
          | some g0 => simp [bendV, headV, e, g, resE, tailV, isN_enc]
      | some p =>
        obtain ⟨g0, x⟩ := p
        obtain ⟨rfl, rfl, hg⟩ := k3
        cases v <;> simp [has] at hv
        rename_i g' w
        simp only [slim] at hs
        have := isGr_dep hv.1
        by_cases q : g' = a'
        · subst q
          have g := ih mm w _ _ st (by omega) k2 hv.2 hs
          unfold bendOr at g
          rw [if_pos k1] at g
          cases e : bendV mm w with
          | error x => rw [e] at g; simp only [resE] at g; simp [bendV, headV, e, g, resE, ne_enc, show g'.dep ≤ 50 by omega]
          | ok u =>
            rw [e] at g; simp only [resE] at g
            cases t with
            | none => simp [bendV, headV, e, g, resE, tailV, ne_enc, show g'.dep ≤ 50 by omega]
            | some g1 => simp [bendV, headV, e, g, resE, tailV, isN_enc, ne_enc, show g'.dep ≤ 50 by omega]
        · simp [bendV, headV, ne_enc, show g'.dep ≤ 50 by omega, resE, q]
    | plainI =>
      rw [if_pos (by simp [mf]), r_coercions_bend_middle]
      simp [c_coercions_bend_middle, c_coercions_bend_middle_0, bendV, resE]
    | plainB =>
      rw [if_pos (by simp [mf]), r_coercions_bend_middle]
      simp [c_coercions_bend_middle, c_coercions_bend_middle_0, bendV, resE]
    | fn k1 k2 k3 k4 => cases v <;> simp [has] at hv
    | pair k1 k2 k3 k4 =>
      rename_i c1 c2 a1 a2 b1 b2
      cases v <;> simp [has] at hv
      rename_i x y
      simp only [Co.dep] at h1
      simp only [slim, Bool.and_eq_true] at hs
      rw [if_pos (by simp [mf]), r_coercions_bend_middle]
      have g1 := ih c1 x _ _ st (by omega) k3 hv.1 hs.1
      have g2 := ih c2 y _ _ st (by omega) k4 hv.2 hs.2
      unfold bendOr at g1 g2
      rw [if_neg (by simp [k1])] at g1
      rw [if_neg (by simp [k2])] at g2
      cases e1 : bendV c1 x with
      | error n => rw [e1] at g1; simp only [resE] at g1; simp [c_coercions_bend_middle, c_coercions_bend_middle_0, c_coercions_bend_middle_1, c_coercions_bend_middle_2, bendV, e1, g1, resE]
      | ok x' =>
        rw [e1] at g1; simp only [resE] at g1
        cases e2 : bendV c2 y with
        | error n => rw [e2] at g2; simp only [resE] at g2; simp [c_coercions_bend_middle, c_coercions_bend_middle_0, c_coercions_bend_middle_1, c_coercions_bend_middle_2, bendV, e1, g1, e2, g2, resE]
        | ok y' => rw [e2] at g2; simp only [resE] at g2; simp [c_coercions_bend_middle, c_coercions_bend_middle_0, c_coercions_bend_middle_1, c_coercions_bend_middle_2, bendV, e1, g1, e2, g2, resE]
    | list k1 k3 =>
      rename_i c1 a1 b1
      cases v <;> simp [has] at hv
      rename_i l
      simp only [Co.dep] at h1
      simp only [slim, Bool.and_eq_true, decide_eq_true_eq] at hs
      rw [if_pos (by simp [mf]), r_coercions_bend_middle]
      unfold c_coercions_bend_middle
      have A : AllV (fun v => BendOk T ix m v c1) l := AllV_has (a := a1) (fun v q1 q2 st => by
        have g := ih c1 v _ _ st (by omega) k3 q1 q2
        unfold bendOr at g
        rwa [if_neg (by simp [k1])] at g) l hv hs.2
      obtain ⟨i1, i2⟩ := bend_go (T := T) (ix := ix) (m := m) (c := c1) (st := st) (a0 := .val (encV (.items l))) (a4 := .no) (a5 := .no) (a7 := .no) l [] .no .no A (by simp; omega)
      have e0 : c_coercions_bend_middle_0 ix (T.call m) [.val (encV (.items l)), .val (encC (.list c1)), .no, .no, .no, .no, .no, .no] st = .nx [.val (encV (.items l)), .val (encC (.list c1)), .no, .no, .no, .no, .no, .no] st := by simp [c_coercions_bend_middle_0]
      have e1 : c_coercions_bend_middle_1 ix (T.call m) [.val (encV (.items l)), .val (encC (.list c1)), .no, .no, .no, .no, .no, .no] st = .nx [.val (encV (.items l)), .val (encC (.list c1)), .no, .no, .no, .no, .no, .no] st := by simp [c_coercions_bend_middle_1]
      have e2 : c_coercions_bend_middle_2 ix (T.call m) [.val (encV (.items l)), .val (encC (.list c1)), .no, .no, .no, .no, .no, .no] st = .nx [.val (encV (.items l)), .val (encC (.list c1)), .no, .no, .no, .no, .no, .no] st := by simp [c_coercions_bend_middle_2]
      have e3 : c_coercions_bend_middle_3 ix (T.call m) [.val (encV (.items l)), .val (encC (.list c1)), .no, .no, .no, .no, .no, .no] st = .nx [.val (encV (.items l)), .val (encC (.list c1)), .own (.lst []), .no, .no, .no, .no, .no] st := by simp [c_coercions_bend_middle_3]
      have e4 : c_coercions_bend_middle_4 ix (T.call m) [.val (encV (.items l)), .val (encC (.list c1)), .own (.lst []), .no, .no, .no, .no, .no] st = forGo (gNm 3) (c_coercions_bend_middle_4b ix (T.call m)) (encVs l) [.val (encV (.items l)), .val (encC (.list c1)), .own (.lst []), .no, .no, .no, .no, .no] st := by simp [c_coercions_bend_middle_4]
      rw [x_seq, e0, nextS_nx]
      show endOf false (sSeq (c_coercions_bend_middle_1 ix (T.call m)) _ _ _) = _
      rw [x_seq, e1, nextS_nx]
      show endOf false (sSeq (c_coercions_bend_middle_2 ix (T.call m)) _ _ _) = _
      rw [x_seq, e2, nextS_nx]
      show endOf false (sSeq (c_coercions_bend_middle_3 ix (T.call m)) _ _ _) = _
      rw [x_seq, e3, nextS_nx]
      show endOf false (sSeq (c_coercions_bend_middle_4 ix (T.call m)) _ _ _) = _
      rw [x_seq, e4]
      cases e : mapVs (bendV c1) l with
      | error x => rw [i2 x e]; simp [bendV, e, resE]
      | ok l' =>
        obtain ⟨s3', s6', g⟩ := i1 l' e
        rw [g]
        simp [c_coercions_bend_middle_5, bendV, e, resE]
end BK

/-! LgV: what coercions do -/
namespace BK
open PySem PySem.Spec PyProof.Rows L2 RZ
def okO {α : Type} : Except Nm α → Option α
  | .ok v => some v
  | .error _ => none
@[simp] theorem okO_ok {α : Type} {v : α} : okO (.ok v : Except Nm α) = some v := (rfl)
@[simp] theorem okO_err {α : Type} {n : Nm} : okO (.error n : Except Nm α) = none := (rfl)
def toE (n : Nm) : Option Va → Except Nm Va
  | none => .error n
  | some v => .ok v
theorem isGr_of {g : Ty} {u : Va} (h : isGd g) (k : has g u = true) : isGr g = true := by
  obtain ⟨h1, h2⟩ := h
  cases g <;> simp [grd] at h1 h2 ⊢
  · rfl
  · rfl
  · cases u <;> simp [has] at k
  · rw [← h2.1, ← h2.2]; rfl
  · rw [← h2]; rfl
theorem head_has {h : Option (Ty × Nm)} {a a' : Ty} {v w : Va} (k : hk h a a') (hv : has a v = true) (hs : slim v = true) (e : headV h v = .ok w) : has a' w = true ∧ slim w = true := by
  cases h with
  | none => simp only [hk] at k; cases e; subst k; exact ⟨hv, hs⟩
  | some p =>
    obtain ⟨g, n⟩ := p
    obtain ⟨rfl, rfl, _⟩ := k
    cases v <;> simp [has] at hv
    simp only [headV] at e
    split at e
    · rename_i q
      cases e
      subst q
      exact ⟨hv.2, hs⟩
    · cases e
theorem tail_has {t : Option Ty} {a b : Ty} {u : Va} (k : tk t a b) (hu : has a u = true) (hs : slim u = true) : has b (tailV t u) = true ∧ slim (tailV t u) = true := by
  cases t with
  | none => simp only [tk] at k; subst k; exact ⟨hu, hs⟩
  | some g =>
    obtain ⟨rfl, rfl, hg⟩ := k
    exact ⟨by simp [tailV, has, isGr_of hg hu, hu], hs⟩
theorem mapVs_has {f : Va → Except Nm Va} {a b : Ty} (h : ∀ v w, has a v = true → slim v = true → f v = .ok w → has b w = true ∧ slim w = true) : ∀ (l l' : Vs), hasL a l = true → slimL l = true → mapVs f l = .ok l' → hasL b l' = true ∧ slimL l' = true
  | .nil, l', _, _, e => by cases e; exact ⟨rfl, rfl⟩
  | .cons v l, l', h1, h2, e => by
    simp only [hasL, slimL, Bool.and_eq_true] at h1 h2
    simp only [mapVs] at e
    split at e
    · cases e
    · rename_i w q
      split at e
      · cases e
      · rename_i m q2
        cases e
        obtain ⟨a1, a2⟩ := h v w h1.1 h2.1 q
        obtain ⟨b1, b2⟩ := mapVs_has h l m h1.2 h2.2 q2
        simp [hasL, slimL, a1, a2, b1, b2]
theorem bend_has : ∀ (c : Co) (a b : Ty) (v w : Va), CT c a b → has a v = true → slim v = true → bendV c v = .ok w → has b w = true ∧ slim w = true
  | .any, a, b, v, w, hc, hv, hs, e => by cases hc; cases e; exact ⟨hv, hs⟩
  | .fail h n, a, b, v, w, hc, hv, hs, e => by simp only [bendV] at e; split at e <;> cases e
  | .turn h m t, a, b, v, w, hc, hv, hs, e => by
    cases hc with
    | turn k1 k2 k3 k4 =>
      simp only [bendV] at e
      split at e
      · cases e
      · rename_i w1 q1
        split at e
        · cases e
        · rename_i u q2
          cases e
          obtain ⟨a1, a2⟩ := head_has k3 hv hs q1
          obtain ⟨b1, b2⟩ := bend_has m _ _ _ _ k2 a1 a2 q2
          exact tail_has k4 b1 b2
  | .plain, a, b, v, w, hc, hv, hs, e => by cases hc <;> (cases e; exact ⟨hv, hs⟩)
  | .fn c d, a, b, v, w, hc, hv, hs, e => by cases hc; cases v <;> simp [has] at hv
  | .pair c d, a, b, v, w, hc, hv, hs, e => by
    cases hc with
    | pair k1 k2 k3 k4 =>
      cases v <;> simp [has] at hv
      rename_i x y
      simp only [slim, Bool.and_eq_true] at hs
      simp only [bendV] at e
      split at e
      · cases e
      · rename_i x' q1
        split at e
        · cases e
        · rename_i y' q2
          cases e
          obtain ⟨a1, a2⟩ := bend_has c _ _ _ _ k3 hv.1 hs.1 q1
          obtain ⟨b1, b2⟩ := bend_has d _ _ _ _ k4 hv.2 hs.2 q2
          simp [has, slim, a1, a2, b1, b2]
  | .list c, a, b, v, w, hc, hv, hs, e => by
    cases hc with
    | list k1 k3 =>
      cases v <;> simp [has] at hv
      rename_i l
      simp only [slim, Bool.and_eq_true, decide_eq_true_eq] at hs
      simp only [bendV] at e
      split at e
      · cases e
      · rename_i l' q
        cases e
        obtain ⟨a1, a2⟩ := mapVs_has (fun v w q1 q2 q3 => bend_has c _ _ v w k3 q1 q2 q3) l l' hv hs.2 q
        simp [has, slim, a1, a2, mapVs_len q, hs.1]
/-! ### one after the other does both -/
theorem mapVs_tog {f g k : Va → Except Nm Va} {a b : Ty} (h : ∀ v, has a v = true → slim v = true → okO (k v) = (okO (f v)).bind fun w => okO (g w)) : ∀ (l : Vs), hasL a l = true → slimL l = true → okO (mapVs k l) = (okO (mapVs f l)).bind fun m => okO (mapVs g m)
  | .nil, _, _ => rfl
  | .cons v l, h1, h2 => by
    simp only [hasL, slimL, Bool.and_eq_true] at h1 h2
    have a1 := h v h1.1 h2.1
    have a2 := mapVs_tog (f := f) (g := g) (k := k) (b := b) h l h1.2 h2.2
    simp only [mapVs]
    cases q1 : f v with
    | error n =>
      rw [q1] at a1
      cases q2 : k v with
      | error m => rfl
      | ok w => rw [q2] at a1; cases a1
    | ok w =>
      rw [q1] at a1
      simp only [okO_ok, Option.bind_some] at a1
      cases q2 : k v with
      | error m =>
        rw [q2] at a1
        cases q3 : mapVs f l with
        | error x => rfl
        | ok l1 =>
          simp only [okO_ok, Option.bind_some, mapVs]
          cases q4 : g w with
          | error y => rfl
          | ok y => rw [q4] at a1; cases a1
      | ok y =>
        rw [q2] at a1
        cases q3 : mapVs f l with
        | error x =>
          rw [q3] at a2
          cases q5 : mapVs k l with
          | error z => rfl
          | ok z => rw [q5] at a2; cases a2
        | ok l1 =>
          rw [q3] at a2
          simp only [okO_ok, Option.bind_some] at a2
          simp only [okO_ok, Option.bind_some, mapVs]
          cases q4 : g w with
          | error y => rw [q4] at a1; cases a1
          | ok y2 =>
            rw [q4] at a1
            cases a1
            cases q5 : mapVs k l with
            | error z =>
              rw [q5] at a2
              cases q6 : mapVs g l1 with
              | error z2 => rfl
              | ok z2 => rw [q6] at a2; cases a2
            | ok z =>
              rw [q5] at a2
              cases q6 : mapVs g l1 with
              | error z2 => rw [q6] at a2; cases a2
              | ok z2 => rw [q6] at a2; cases a2; rfl
theorem fail_none {h : Option (Ty × Nm)} {n : Nm} {v : Va} : okO (bendV (.fail h n) v) = none := by
  simp only [bendV]
  split <;> rfl
theorem head_tail {t : Option Ty} {h : Option (Ty × Nm)} {a b c : Ty} {u : Va} (h1 : tk t a b) (h2 : hk h b c) (ha : a ≠ .any) (hc : c ≠ .any) : headV h (tailV t u) = match clash t h with
    | some x => .error x
    | none => .ok u := by
  rcases link h1 h2 ha hc with ⟨rfl, rfl, e⟩ | ⟨g, g', x, rfl, rfl, q1, q2, _, _⟩
  · rfl
  · by_cases q : g = g'
    · simp [headV, tailV, clash, q]
    · simp [headV, tailV, clash, q]
theorem bend_tog : ∀ (N : Nat) (c d : Co) (a b e : Ty) (v : Va), c.dep ≤ N → d.dep ≤ N → CT c a b → CT d b e → mf c = mf d → has a v = true → slim v = true → okO (bendV (tog c d) v) = (okO (bendV c v)).bind fun w => okO (bendV d w)
  | 0, c, d, a, b, e, v, h, _, _, _, _, _, _ => by have := co_pos c; omega
  | N + 1, c, d, a, b, e, v, h1, h2, hc, hd, hm, hv, hs => by
    have ih := bend_tog N
    cases hc with
    | any => simp [bendV]
    | fail k1 k2 => rw [tog_fail_l, fail_none]; rfl
    | turn k1 k2 k3 k4 =>
      rename_i h m t a' b'
      have k5 := mf_ne k2 k1
      simp only [Co.dep] at h1
      cases hd with
      | any => simp [bendV]
      | fail l1 l2 =>
        rw [tog_tf, fail_none]
        cases okO (bendV (.turn h m t) v) with
        | none => rfl
        | some w => exact fail_none.symm
      | turn l1 l2 l3 l4 =>
        rename_i h' m' t' a2 b2
        have l5 := mf_ne l2 l1
        simp only [Co.dep] at h2
        rw [tog_tt]
        have ht := fun u => head_tail (u := u) k4 l3 k5.2 l5.1
        cases q : clash t h' with
        | some x =>
          rw [q] at ht
          simp only
          rw [fail_none]
          simp only [bendV]
          cases headV h v with
          | error _ => rfl
          | ok w =>
            simp only
            cases bendV m w with
            | error _ => rfl
            | ok u => simp [ht u]
        | none =>
          rw [q] at ht
          have y := link_eq k4 l3 k5.2 l5.1 q
          subst y
          simp only [bendV]
          cases q1 : headV h v with
          | error _ => rfl
          | ok w =>
            obtain ⟨w1, w2⟩ := head_has k3 hv hs q1
            have g := ih m m' _ _ _ w (by omega) (by omega) k2 l2 (by rw [k1, l1]) w1 w2
            simp only
            cases q2 : bendV m w with
            | error _ =>
              rw [q2] at g
              simp only [okO_err, Option.bind_none] at g ⊢
              cases q3 : bendV (tog m m') w with
              | error _ => rfl
              | ok z => rw [q3] at g; cases g
            | ok u =>
              rw [q2] at g
              simp only [okO_ok, Option.bind_some] at g ⊢
              rw [ht u]
              simp only
              cases q3 : bendV (tog m m') w with
              | error _ =>
                rw [q3] at g
                cases q4 : bendV m' u with
                | error _ => rfl
                | ok z => rw [q4] at g; cases g
              | ok z =>
                rw [q3] at g
                cases q4 : bendV m' u with
                | error _ => rw [q4] at g; cases g
                | ok z2 => rw [q4] at g; cases g; rfl
      | plainI => simp [mf] at hm
      | plainB => simp [mf] at hm
      | fn _ _ _ _ => simp [mf] at hm
      | pair _ _ _ _ => simp [mf] at hm
      | list _ _ => simp [mf] at hm
    | plainI => cases hd <;> simp [mf] at hm; simp [tog, bendV]
    | plainB => cases hd <;> simp [mf] at hm; simp [tog, bendV]
    | fn k1 k2 k3 k4 => cases v <;> simp [has] at hv
    | pair k1 k2 k3 k4 =>
      rename_i c1 c2 a1 a2 b1 b2
      cases hd <;> simp [mf] at hm
      rename_i d1 d2 e1 e2 l1 l2 l3 l4
      cases v <;> simp [has] at hv
      rename_i x y
      simp only [slim, Bool.and_eq_true] at hs
      simp only [Co.dep] at h1 h2
      have g1 := ih c1 d1 _ _ _ x (by omega) (by omega) k3 l3 (by rw [k1, l1]) hv.1 hs.1
      have g2 := ih c2 d2 _ _ _ y (by omega) (by omega) k4 l4 (by rw [k2, l2]) hv.2 hs.2
      simp only [tog, bendV]
      cases p1 : bendV c1 x <;> rw [p1] at g1 <;> cases p2 : bendV c2 y <;> rw [p2] at g2 <;> cases p3 : bendV (tog c1 d1) x <;> rw [p3] at g1 <;> cases p4 : bendV (tog c2 d2) y <;> rw [p4] at g2 <;> simp at g1 g2 ⊢ <;> simp only [bendV]
      all_goals (rename_i u1 u2 _ _)
      all_goals (cases p5 : bendV d1 u1 <;> rw [p5] at g1 <;> cases p6 : bendV d2 u2 <;> rw [p6] at g2 <;> simp at g1 g2 ⊢)
      all_goals exact ⟨g1, g2⟩
    | list k1 k3 =>
      rename_i c1 a1 b1
      cases hd <;> simp [mf] at hm
      rename_i d1 e1 l1 l3
      cases v <;> simp [has] at hv
      rename_i l
      simp only [slim, Bool.and_eq_true, decide_eq_true_eq] at hs
      simp only [Co.dep] at h1 h2
      have g := mapVs_tog (f := bendV c1) (g := bendV d1) (k := bendV (tog c1 d1)) (a := a1) (b := b1) (fun v q1 q2 => ih c1 d1 _ _ _ v (by omega) (by omega) k3 l3 (by rw [k1, l1]) q1 q2) l hv hs.2
      simp only [tog, bendV]
      cases p1 : mapVs (bendV c1) l <;> rw [p1] at g <;> cases p2 : mapVs (bendV (tog c1 d1)) l <;> rw [p2] at g <;> simp at g ⊢ <;> simp only [bendV]
      all_goals (rename_i u1 _)
      all_goals (cases p3 : mapVs (bendV d1) u1 <;> rw [p3] at g <;> simp at g ⊢)
      exact g
/-! ### the coercion of a cast does the cast -/
theorem up_grd {a : Ty} {v : Va} (h : a ≠ .any) (hv : has a v = true) : ∃ w, vcast a (grd a) v = some w ∧ up a v = .tag (grd a) w := by
  cases a <;> simp at h <;> cases v <;> simp [has] at hv
  · exact ⟨_, rfl, rfl⟩
  · exact ⟨_, rfl, rfl⟩
  · rename_i a b x y; exact ⟨.pair (up a x) (up b y), by simp [grd, vcast], by simp [up, grd]⟩
  · rename_i a l; exact ⟨.items (upL a l), by simp [grd, vcast, vcastL_any], by simp [up, grd]⟩
theorem mapVs_cast {f : Va → Except Nm Va} {a b : Ty} {n : Nm} (h : ∀ v, has a v = true → f v = toE n (vcast a b v)) : ∀ (l : Vs), hasL a l = true → mapVs f l = match vcastL a b l with
    | none => .error n
    | some m => .ok m
  | .nil, _ => rfl
  | .cons v l, h1 => by
    simp only [hasL, Bool.and_eq_true] at h1
    have a1 := h v h1.1
    have a2 := mapVs_cast h l h1.2
    simp only [mapVs, vcastL, a1, a2]
    cases vcast a b v with
    | none => rfl
    | some w =>
      simp only [toE, Option.bind_some]
      cases vcastL a b l <;> rfl
theorem bend_ofc : ∀ (N : Nat) (a b : Ty) (n : Nm) (v : Va), a.dep ≤ N → b.dep ≤ N → alike a b = true → has a v = true → bendV (ofc a b n) v = toE n (vcast a b v)
  | 0, a, b, n, v, h, _, _, _ => by have := dep_pos a; omega
  | N + 1, a, b, n, v, h1, h2, hg, hv => by
    have M : ∀ (x y : Ty) (w : Va), x ≠ .any → y ≠ .any → alike x y = true → x.dep ≤ N + 1 → y.dep ≤ N + 1 → has x w = true → bendV (midC x y n) w = toE n (vcast x y w) := fun x y w hx hy hxy q1 q2 hw => by
      cases x <;> cases y <;> simp [alike] at hx hy hxy <;> simp only [midC]
      · cases w <;> simp [has] at hw; rfl
      · cases w <;> simp [has] at hw; rfl
      · cases w <;> simp [has] at hw
      · simp only [Ty.dep] at q1 q2
        cases w <;> simp [has] at hw
        rename_i x1 x2 y1 y2 u1 u2
        simp only [bendV, vcast, bend_ofc N x1 y1 n u1 (by omega) (by omega) hxy.1 hw.1, bend_ofc N x2 y2 n u2 (by omega) (by omega) hxy.2 hw.2]
        cases vcast x1 y1 u1 with
        | none => rfl
        | some z => simp only [toE, Option.bind_some]; cases vcast x2 y2 u2 <;> rfl
      · simp only [Ty.dep] at q1 q2
        cases w <;> simp [has] at hw
        rename_i x1 y1 l
        simp only [bendV, vcast, mapVs_cast (n := n) (fun u hu => bend_ofc N x1 y1 n u (by omega) (by omega) hxy hu) l hw]
        cases vcastL x1 y1 l <;> rfl
    have ga := grd_dep a
    have gb := grd_dep b
    by_cases ha : a = .any
    · by_cases hb : b = .any
      · subst ha; subst hb; rw [ofc_any]; simp [bendV, vcast, up, toE]
      · subst ha
        rw [ofc_down hb]
        cases v <;> simp [has] at hv
        rename_i g w
        have e : vcast .any b (.tag g w) = if g = grd b then vcast g b w else none := by cases b <;> first | rfl | exact absurd rfl hb
        rw [e]
        by_cases q : g = grd b
        · simp only [bendV, headV, if_pos q]
          rw [M (grd b) b w (grd_ne hb) hb (alike_grd b) (by omega) h2 (by rw [← q]; exact hv.2), q]
          cases vcast (grd b) b w <;> rfl
        · simp only [bendV, headV, if_neg q, toE]
    · by_cases hb : b = .any
      · subst hb
        rw [ofc_up ha]
        obtain ⟨w, e1, e2⟩ := up_grd ha hv
        have e : vcast a .any v = some (up a v) := by cases a <;> cases v <;> rfl
        simp only [bendV, headV]
        rw [M a (grd a) v ha (grd_ne ha) (grd_alikeR a) h1 (by omega) hv, e1, e, e2]
        rfl
      · rw [ofc_mid ha hb hg]
        simp only [bendV, headV]
        rw [M a b v ha hb hg h1 h2 hv]
        cases vcast a b v <;> rfl
/-! ### idle ones -/
def idleC : Co → Bool
  | .any => true
  | .fail _ _ => false
  | .turn h m t => h.isNone && t.isNone && idleC m
  | .plain => true
  | .fn c d => idleC c && idleC d
  | .pair c d => idleC c && idleC d
  | .list c => idleC c
theorem mapVs_self {f : Va → Except Nm Va} {a : Ty} (h : ∀ v, has a v = true → f v = .ok v) : ∀ (l : Vs), hasL a l = true → mapVs f l = .ok l
  | .nil, _ => rfl
  | .cons v l, h1 => by
    simp only [hasL, Bool.and_eq_true] at h1
    simp only [mapVs, h v h1.1, mapVs_self h l h1.2]
theorem bend_idle : ∀ (c : Co) (a b : Ty) (v : Va), CT c a b → has a v = true → idleC c = true → bendV c v = .ok v
  | .any, a, b, v, hc, hv, hi => rfl
  | .fail h n, a, b, v, hc, hv, hi => by simp [idleC] at hi
  | .turn h m t, a, b, v, hc, hv, hi => by
    simp only [idleC, Bool.and_eq_true, Option.isNone_iff_eq_none] at hi
    obtain ⟨⟨rfl, rfl⟩, hi⟩ := hi
    cases hc with
    | turn k1 k2 k3 k4 =>
      simp only [hk] at k3
      subst k3
      simp only [bendV, headV, bend_idle m _ _ v k2 hv hi, tailV]
  | .plain, a, b, v, hc, hv, hi => rfl
  | .fn c d, a, b, v, hc, hv, hi => rfl
  | .pair c d, a, b, v, hc, hv, hi => by
    simp only [idleC, Bool.and_eq_true] at hi
    cases hc with
    | pair k1 k2 k3 k4 =>
      cases v <;> simp [has] at hv
      simp only [bendV, bend_idle c _ _ _ k3 hv.1 hi.1, bend_idle d _ _ _ k4 hv.2 hi.2]
  | .list c, a, b, v, hc, hv, hi => by
    simp only [idleC] at hi
    cases hc with
    | list k1 k3 =>
      cases v <;> simp [has] at hv
      simp only [bendV, mapVs_self (fun v hv => bend_idle c _ _ v k3 hv hi) _ hv]
theorem idle_ofc : ∀ (a : Ty) (n : Nm), idleC (ofc a a n) = true
  | .any, n => by simp [ofc, idleC]
  | .int, n => by simp [ofc, idleC]
  | .bool, n => by simp [ofc, idleC]
  | .fn a b, n => by simp [ofc, idleC, idle_ofc a, idle_ofc b]
  | .pair a b, n => by simp [ofc, idleC, idle_ofc a, idle_ofc b]
  | .list a, n => by simp [ofc, idleC, idle_ofc a]
theorem idle_ok {T : Tab} {ix : Nat → Nat} [B_coercions_is_idle T ix] : ∀ (N n : Nat) (c : Co) (a b : Ty) (st : Sto), c.dep ≤ N → N ≤ n → CT c a b → mf c = false → T.call n (ix i_coercions_is_idle) [encC c] st = .ok (.bl (idleC c)) st
  | 0, n, c, a, b, st, h, _, _, _ => by have := co_pos c; omega
  | N + 1, n, c, a, b, st, h, hn, hc, hm => by
    obtain ⟨m, rfl⟩ : ∃ m, n = m + 1 := ⟨n - 1, by omega⟩
    have ih := fun c a b q1 q2 q3 => idle_ok (T := T) (ix := ix) N m c a b st q1 (by omega) q2 q3
    rw [r_coercions_is_idle]
    unfold c_coercions_is_idle
    cases hc with
    | any => simp [idleC]
    | fail k1 k2 => simp [idleC]
    | turn k1 k2 k3 k4 =>
      rename_i hh mm t a' b'
      simp only [Co.dep] at h
      cases hh with
      | some p => simp [idleC]
      | none =>
        cases t with
        | some g => simp [idleC, isN_enc]
        | none =>
          cases k2 with
          | any => simp [mf] at k1
          | fail _ _ => simp [mf] at k1
          | turn _ _ _ _ => simp [mf] at k1
          | plainI => simp [idleC]
          | plainB => simp [idleC]
          | fn l1 l2 l3 l4 =>
            simp only [Co.dep] at h
            simp [idleC, ih _ _ _ (by omega) l3 l1, ih _ _ _ (by omega) l4 l2]
          | pair l1 l2 l3 l4 =>
            simp only [Co.dep] at h
            simp [idleC, ih _ _ _ (by omega) l3 l1, ih _ _ _ (by omega) l4 l2]
          | list l1 l3 =>
            simp only [Co.dep] at h
            simp [idleC, ih _ _ _ (by omega) l3 l1]
    | plainI => simp [mf] at hm
    | plainB => simp [mf] at hm
    | fn _ _ _ _ => simp [mf] at hm
    | pair _ _ _ _ => simp [mf] at hm
    | list _ _ => simp [mf] at hm
end BK

/-! LgP: loops over ranges, chains of types, what casts keep -/
namespace BK
open PySem PySem.Spec PyProof.Rows L2 RZ
/-- a loop over a range that never leaves early -/
theorem range_inv {i : Nat} {b : SM} {I : Nat → SEnv → Sto → Prop} : ∀ (m k : Nat) (ρ : SEnv) (st : Sto), I k ρ st →
    (∀ j, k ≤ j → j < k + m → ∀ ρ st, I j ρ st → ∃ ρ' st', b (ρ.set i (.val (.int j))) st = .nx ρ' st' ∧ I (j + 1) ρ' st') →
    ∃ ρ' st', forGo (gNm i) b (rangeL k m) ρ st = .nx ρ' st' ∧ I (k + m) ρ' st'
  | 0, k, ρ, st, h, _ => ⟨ρ, st, rfl, h⟩
  | m + 1, k, ρ, st, h, hs => by
    obtain ⟨ρ1, st1, h1, h2⟩ := hs k (Nat.le_refl _) (by omega) ρ st h
    obtain ⟨ρ2, st2, g1, g2⟩ := range_inv (i := i) (b := b) (I := I) m (k + 1) ρ1 st1 h2 (fun j q1 q2 => hs j (by omega) (by omega))
    refine ⟨ρ2, st2, ?_, by rw [show k + (m + 1) = k + 1 + m by omega]; exact g2⟩
    have e : forGo (gNm i) b (rangeL k (m + 1)) ρ st = (match b (ρ.set i (.val (.int k))) st with
      | .nx ρ1 st1 => forGo (gNm i) b (rangeL ((k : Int) + 1) m) ρ1 st1
      | .ct ρ1 st1 => forGo (gNm i) b (rangeL ((k : Int) + 1) m) ρ1 st1
      | .brk ρ1 st1 => .nx ρ1 st1
      | r => r) := rfl
    rw [e, h1]
    exact g1
theorem range_step {i : Nat} {b : SM} {k m : Nat} {ρ : SEnv} {st : Sto} : forGo (gNm i) b (rangeL k (m + 1)) ρ st = (match b (ρ.set i (.val (.int k))) st with
      | .nx ρ1 st1 => forGo (gNm i) b (rangeL ((k + 1 : Nat) : Int) m) ρ1 st1
      | .ct ρ1 st1 => forGo (gNm i) b (rangeL ((k + 1 : Nat) : Int) m) ρ1 st1
      | .brk ρ1 st1 => .nx ρ1 st1
      | r => r) := (rfl)
/-- each next to the one behind it -/
def Linked : List Ty → Prop
  | a :: b :: r => alike a b = true ∧ Linked (b :: r)
  | _ => True
theorem linked_snoc : ∀ (l : List Ty) (a b : Ty), Linked (l ++ [a]) → alike a b = true → Linked (l ++ [a] ++ [b])
  | [], a, b, _, h => ⟨h, trivial⟩
  | [x], a, b, h, k => ⟨h.1, k, trivial⟩
  | x :: y :: l, a, b, h, k => ⟨h.1, linked_snoc (y :: l) a b h.2 k⟩
/-- what a chain of plain types is -/
structure Chain (ks : List Ty) (many : Nat) : Prop where
  len : ks.length = many + 1
  dep : ∀ k ∈ ks, k.dep ≤ 3
  nofn : ∀ k ∈ ks, nofn k = true
  link : Linked ks
theorem atI_last {α : Type} (xs : List α) (x : α) : atI (xs ++ [x]) (xs.length : Int) = some x := by
  rw [atI_nat, List.getElem?_append_right (Nat.le_refl _), Nat.sub_self]
  rfl
def ChainI (many : Int) (j : Nat) (st0 : Sto) (k : Nat) (ρ : SEnv) (st : Sto) : Prop :=
  ∃ (l : List Ty) (a b : Ty) (s4 : Slot), ρ = [.val (.ref j), .val (.int many), .val (enc b), .own (.lst ((l ++ [a]).map enc)), s4] ∧ l.length = k ∧ Chain (l ++ [a]) k ∧ b.dep ≤ 3 ∧ nofn b = true ∧ Dr st j ∧ Off1 j st0 st
theorem vague3 {T : Tab} {ix : Nat → Nat} [B_law_vaguer T ix] {n : Nat} {t : Ty} {j : Nat} {st : Sto} (h : Dr st j) (ht : t.dep ≤ 3) (hn : nofn t = true) : ∃ u st', u.dep ≤ 3 ∧ nofn u = true ∧ finer t u = true ∧ Dr st' j ∧ Off1 j st st' ∧ T.call (n + 4) (ix i_law_vaguer) [.ref j, enc t] st = .ok (enc u) st' := by
  obtain ⟨u, st', h1, h2, h3, h4, h5⟩ := vague (T := T) (ix := ix) (n + 3) t j st h (by omega)
  exact ⟨u, st', by omega, nofn_finer t u h2 hn, h2, h3, h4, h5⟩
theorem x_appO {i : Nat} {m : EM} {ρ : SEnv} {st : Sto} {xs : List PV} (h : ρ[i]? = some (.own (.lst xs))) : sApp i m ρ st = @SR.ofK _ (m ρ st) ⟨fun x st1 => if xs.length < sizeLine then .nx (ρ.set i (.own (.lst (xs ++ [x])))) st1 else .bad⟩ := x_appOwn h
theorem alike_of_finer : ∀ (a b c : Ty), alike a b = true → finer b c = true → alike a c = true
  | .any, b, c => by intro _ _; rfl
  | .int, b, c => by cases b <;> cases c <;> simp [alike, finer]
  | .bool, b, c => by cases b <;> cases c <;> simp [alike, finer]
  | .fn a d, b, c => by
    cases b <;> cases c <;> simp [alike, finer]
    intro h1 h2 h3 h4
    exact ⟨alike_of_finer _ _ _ h1 h3, alike_of_finer _ _ _ h2 h4⟩
  | .pair a d, b, c => by
    cases b <;> cases c <;> simp [alike, finer]
    intro h1 h2 h3 h4
    exact ⟨alike_of_finer _ _ _ h1 h3, alike_of_finer _ _ _ h2 h4⟩
  | .list a, b, c => by
    cases b <;> cases c <;> simp [alike, finer]
    exact fun h1 h2 => alike_of_finer _ _ _ h1 h2
theorem chain_snoc {l : List Ty} {a b : Ty} {k : Nat} (h : Chain (l ++ [a]) k) (hb : b.dep ≤ 3) (hn : BK.nofn b = true) (ha : alike a b = true) : Chain (l ++ [a] ++ [b]) (k + 1) where
  len := by rw [List.length_append, h.len]; rfl
  dep := fun x hx => by
    rcases List.mem_append.mp hx with q | q
    · exact h.dep x q
    · rw [List.mem_singleton.mp q]; exact hb
  nofn := fun x hx => by
    rcases List.mem_append.mp hx with q | q
    · exact h.nofn x q
    · rw [List.mem_singleton.mp q]; exact hn
  link := linked_snoc l a b h.link ha
theorem chain_step {T : Tab} {ix : Nat → Nat} [B_law_plain_chain T ix] {n : Nat} {many : Int} {j : Nat} {st0 : Sto} {k : Nat} (hk : k ≤ 1000) {ρ : SEnv} {st : Sto} (h : ChainI many j st0 k ρ st) :
    ∃ ρ' st', c_law_plain_chain_2b ix (T.call (n + 4)) (ρ.set 4 (.val (.int k))) st = .nx ρ' st' ∧ ChainI many j st0 (k + 1) ρ' st' := by
  obtain ⟨l, a, b, s4, rfl, hl, hc, hb1, hb2, hd, ho⟩ := h
  have at1 : atI (l.map enc ++ [enc a]) (k : Int) = some (enc a) := by rw [← hl, ← List.length_map (f := enc)]; exact atI_last _ _
  have ad : a.dep ≤ 3 := hc.dep a (by simp)
  have hs : l.length + 1 < sizeLine := Nat.lt_of_lt_of_le (by omega : l.length + 1 < 3000) (by decide)
  -- the base
  have B : ∃ b' st1, b'.dep ≤ 3 ∧ BK.nofn b' = true ∧ Dr st1 j ∧ Off1 j st st1 ∧ c_law_plain_chain_2_0 ix (T.call (n + 4)) [.val (.ref j), .val (.int many), .val (enc b), .own (.lst ((l ++ [a]).map enc)), .val (.int k)] st = .nx [.val (.ref j), .val (.int many), .val (enc b'), .own (.lst ((l ++ [a]).map enc)), .val (.int k)] st1 := by
    by_cases q : a = .any
    · have at1q := at1
      rw [q] at at1q
      obtain ⟨v, st1, h1, h2, h3, h4, h5⟩ := drawV (T := T) (ix := ix) hd (n + 3) (lim := 2) (by decide) (by decide)
      rcases lt2 h1 h2 with rfl | rfl
      · obtain ⟨x, st2, k1, k2, k3, k4, k5⟩ := plain3 (T := T) (ix := ix) h3 n
        exact ⟨x, st2, k1, k2, k3, h4.trans k4, by simp [c_law_plain_chain_2_0, at1q, q, h5, k5, Ob.pv]⟩
      · exact ⟨b, st1, hb1, hb2, h3, h4, by simp [c_law_plain_chain_2_0, at1q, q, h5, Ob.pv]⟩
    · exact ⟨b, st, hb1, hb2, hd, Off1.refl _ _, by simp [c_law_plain_chain_2_0, at1, q, Ob.pv]⟩
  obtain ⟨b', st1, b1, b2, b3, b4, b5⟩ := B
  obtain ⟨v, st2, h1, h2, h3, h4, h5⟩ := drawV (T := T) (ix := ix) b3 (n + 3) (lim := 4) (by decide) (by decide)
  have al := lalike_ok (T := T) (ix := ix) (n + 4) a b' st2 (by omega)
  have fin : ∀ (d : Ty) (st3 : Sto), d.dep ≤ 3 → BK.nofn d = true → alike a d = true → Dr st3 j → Off1 j st2 st3 →
      c_law_plain_chain_2_1 ix (T.call (n + 4)) [.val (.ref j), .val (.int many), .val (enc b'), .own (.lst ((l ++ [a]).map enc)), .val (.int k)] st1 = .nx [.val (.ref j), .val (.int many), .val (enc b'), .own (.lst ((l ++ [a] ++ [d]).map enc)), .val (.int k)] st3 →
      ∃ ρ' st', c_law_plain_chain_2b ix (T.call (n + 4)) [.val (.ref j), .val (.int many), .val (enc b), .own (.lst ((l ++ [a]).map enc)), .val (.int k)] st = .nx ρ' st' ∧ ChainI many j st0 (k + 1) ρ' st' := fun d st3 q1 q2 q3 q4 q5 q6 => by
        refine ⟨_, st3, ?_, l ++ [a], d, b', .val (.int k), rfl, by simp [hl], chain_snoc hc q1 q2 q3, b1, b2, q4, ho.trans (b4.trans (h4.trans q5))⟩
        unfold c_law_plain_chain_2b
        rw [x_seq, b5, nextS_nx]
        show sSeq (c_law_plain_chain_2_1 ix (T.call (n + 4))) _ _ _ = _
        rw [x_seq, q6]
        rfl
  show ∃ ρ' st', c_law_plain_chain_2b ix (T.call (n + 4)) [.val (.ref j), .val (.int many), .val (enc b), .own (.lst ((l ++ [a]).map enc)), .val (.int k)] st = .nx ρ' st' ∧ _
  by_cases q : v = 0
  · exact fin .any st2 (by decide) rfl (alike_any a) h3 (Off1.refl _ _) (by simp [c_law_plain_chain_2_1, x_appO, h5, q, hs])
  · by_cases q2 : alike a b' = true
    · obtain ⟨u, st3, u1, u2, u3, u4, u5, u6⟩ := vague3 (T := T) (ix := ix) (n := n) h3 b1 b2
      rw [q2] at al
      exact fin u st3 u1 u2 (alike_of_finer a b' u q2 u3) u4 u5 (by simp [c_law_plain_chain_2_1, x_appO, h5, q, at1, al, u6, hs, Ob.pv])
    · simp only [Bool.not_eq_true] at q2
      rw [q2] at al
      exact fin .any st2 (by decide) rfl (alike_any a) h3 (Off1.refl _ _) (by simp [c_law_plain_chain_2_1, x_appO, h5, q, at1, al, hs, Ob.pv])
theorem chain_ok {T : Tab} {ix : Nat → Nat} [B_law_plain_chain T ix] {n : Nat} {many : Nat} {j : Nat} {st : Sto} (hm : many ≤ 900) (h : Dr st j) :
    ∃ ks st', Chain ks many ∧ Dr st' j ∧ Off1 j st st' ∧ T.call (n + 5) (ix i_law_plain_chain) [.ref j, .int many] st = .ok (.lst (ks.map enc)) st' := by
  obtain ⟨x, st1, k1, k2, k3, k4, k5⟩ := plain3 (T := T) (ix := ix) h n
  obtain ⟨u, st2, u1, u2, u3, u4, u5, u6⟩ := vague3 (T := T) (ix := ix) (n := n) k3 k1 k2
  have I0 : ChainI many j st 0 [.val (.ref j), .val (.int many), .val (enc x), .own (.lst [enc u]), .no] st2 :=
    ⟨[], u, x, .no, rfl, rfl, ⟨rfl, fun k hk => by rw [List.mem_singleton.mp hk]; exact u1, fun k hk => by rw [List.mem_singleton.mp hk]; exact u2, trivial⟩, k1, k2, u4, k4.trans u5⟩
  obtain ⟨ρ', st', g1, g2⟩ := range_inv (i := 4) (b := c_law_plain_chain_2b ix (T.call (n + 4))) (I := ChainI many j st) many 0 _ st2 I0 (fun q _ q2 ρ st hI => chain_step (T := T) (ix := ix) (by omega) hI)
  rw [Nat.zero_add] at g2
  obtain ⟨l, a, b, s4, rfl, hl, hc, _, _, hd, ho⟩ := g2
  refine ⟨l ++ [a], st', hc, hd, ho, ?_⟩
  rw [r_law_plain_chain]
  unfold c_law_plain_chain
  have hr : rOk (many : Int) = true := rOk_len (by omega)
  have g1' : forGo (gNm 4) (c_law_plain_chain_2b ix (T.call (n + 4))) (rangeL 0 many) [.val (.ref j), .val (.int many), .val (enc x), .own (.lst [enc u]), .no] st2 = _ := g1
  simp [c_law_plain_chain_0, c_law_plain_chain_1, c_law_plain_chain_2, c_law_plain_chain_3, k5, u6, hr, small_le (show many ≤ 1000 by omega), g1', Ob.pv]
/-! ### the depth without the tags -/
mutual
def Va.core : Va → Nat
  | .int _ | .bool _ => 1
  | .pair a b => max a.core b.core + 1
  | .items l => l.core + 1
  | .tag _ v => v.core
def Vs.core : Vs → Nat
  | .nil => 0
  | .cons v l => max v.core l.core
end
mutual
theorem core_le : ∀ v : Va, v.core ≤ v.dep
  | .int _ | .bool _ => Nat.le_refl _
  | .pair a b => by have := core_le a; have := core_le b; simp only [Va.core, Va.dep]; omega
  | .items l => by have := coreL_le l; simp only [Va.core, Va.dep]; omega
  | .tag _ v => by have := core_le v; simp only [Va.core, Va.dep]; omega
theorem coreL_le : ∀ l : Vs, l.core ≤ l.dep
  | .nil => Nat.le_refl _
  | .cons v l => by have := core_le v; have := coreL_le l; simp only [Vs.core, Vs.dep]; omega
end
mutual
theorem dep_core : ∀ (k : Ty) (v : Va), has k v = true → v.dep ≤ 2 * v.core ∧ (k ≠ .any → v.dep + 1 ≤ 2 * v.core)
  | k, .int _, h => by simp [Va.dep, Va.core]
  | k, .bool _, h => by simp [Va.dep, Va.core]
  | .pair a b, .pair x y, h => by
    simp only [has, Bool.and_eq_true] at h
    have h1 := dep_core a x h.1
    have h2 := dep_core b y h.2
    simp only [Va.dep, Va.core]
    exact ⟨by omega, fun _ => by omega⟩
  | .list a, .items l, h => by
    simp only [has] at h
    have h1 := depL_core a l h
    simp only [Va.dep, Va.core]
    exact ⟨by omega, fun _ => by omega⟩
  | .any, .tag g v, h => by
    simp only [has, Bool.and_eq_true] at h
    have h1 := dep_core g v h.2
    have h2 := h1.2 (by intro e; subst e; simp [isGr] at h)
    simp only [Va.dep, Va.core]
    exact ⟨by omega, fun q => absurd rfl q⟩
  | .any, .pair _ _, h | .any, .items _, h => by simp [has] at h
  | .int, .pair _ _, h | .int, .items _, h | .int, .tag _ _, h => by simp [has] at h
  | .bool, .pair _ _, h | .bool, .items _, h | .bool, .tag _ _, h => by simp [has] at h
  | .pair _ _, .items _, h | .pair _ _, .tag _ _, h => by simp [has] at h
  | .list _, .pair _ _, h | .list _, .tag _ _, h => by simp [has] at h
  | .fn _ _, .pair _ _, h | .fn _ _, .items _, h | .fn _ _, .tag _ _, h => by simp [has] at h
theorem depL_core : ∀ (k : Ty) (l : Vs), hasL k l = true → l.dep ≤ 2 * l.core
  | _, .nil, _ => by simp [Vs.dep]
  | k, .cons v l, h => by
    simp only [hasL, Bool.and_eq_true] at h
    have h1 := (dep_core k v h.1).1
    have h2 := depL_core k l h.2
    simp only [Vs.dep, Vs.core]
    omega
end
mutual
theorem up_core : ∀ (k : Ty) (v : Va), (up k v).core = v.core
  | .any, v => by simp only [up]
  | .pair a b, .pair x y => by simp only [up, Va.core, up_core a x, up_core b y]
  | .list a, .items l => by simp only [up, Va.core, upL_core a l]
  | .int, v => by cases v <;> simp only [up, Va.core]
  | .bool, v => by cases v <;> simp only [up, Va.core]
  | .fn _ _, v => by cases v <;> simp only [up, Va.core]
  | .pair _ _, .int _ | .pair _ _, .bool _ | .pair _ _, .items _ | .pair _ _, .tag _ _ => by simp only [up, Va.core]
  | .list _, .int _ | .list _, .bool _ | .list _, .pair _ _ | .list _, .tag _ _ => by simp only [up, Va.core]
theorem upL_core : ∀ (k : Ty) (l : Vs), (upL k l).core = l.core
  | _, .nil => rfl
  | k, .cons v l => by simp only [upL, Vs.core, up_core k v, upL_core k l]
end
mutual
theorem cast_core : ∀ (k d : Ty) (v w : Va), has k v = true → vcast k d v = some w → w.core = v.core
  | k, .any, v, w, _, e => by
    simp only [vcast, Option.some.injEq] at e
    subst e
    exact up_core k v
  | .any, d, .tag g v, w, h, e => by
    simp only [has, Bool.and_eq_true] at h
    by_cases hd : d = .any
    · subst hd
      simp only [vcast, Option.some.injEq] at e
      subst e
      exact up_core .any _
    · have e2 : vcast .any d (.tag g v) = if g = grd d then vcast g d v else none := by cases d <;> first | rfl | exact absurd rfl hd
      rw [e2] at e
      split at e
      · exact cast_core g d v w h.2 e
      · cases e
  | .pair a b, .pair c d, .pair x y, w, h, e => by
    simp only [has, Bool.and_eq_true] at h
    simp only [vcast, Option.bind_eq_some_iff, Option.map_eq_some_iff] at e
    obtain ⟨x', e1, y', e2, rfl⟩ := e
    simp only [Va.core, cast_core a c x x' h.1 e1, cast_core b d y y' h.2 e2]
  | .list a, .list c, .items l, w, h, e => by
    simp only [has] at h
    simp only [vcast, Option.map_eq_some_iff] at e
    obtain ⟨l', e1, rfl⟩ := e
    simp only [Va.core, castL_core a c l l' h e1]
  | .int, d, v, w, h, e => by
    cases d with
    | any =>
      simp only [vcast, Option.some.injEq] at e
      subst e
      exact up_core .int v
    | int =>
      have e2 : vcast .int .int v = some v := by cases v <;> rfl
      rw [e2] at e
      cases e
      rfl
    | _ => cases v <;> simp [vcast] at e
  | .bool, d, v, w, h, e => by
    cases d with
    | any =>
      simp only [vcast, Option.some.injEq] at e
      subst e
      exact up_core .bool v
    | bool =>
      have e2 : vcast .bool .bool v = some v := by cases v <;> rfl
      rw [e2] at e
      cases e
      rfl
    | _ => cases v <;> simp [vcast] at e
  | .any, d, .int _, w, h, e | .any, d, .bool _, w, h, e | .any, d, .pair _ _, w, h, e | .any, d, .items _, w, h, e => by simp [has] at h
  | .fn a b, d, v, w, h, e => by cases v <;> simp [has] at h
  | .pair a b, .int, v, w, _, e | .pair a b, .bool, v, w, _, e | .pair a b, .fn _ _, v, w, _, e | .pair a b, .list _, v, w, _, e => by cases v <;> simp [vcast] at e
  | .list a, .int, v, w, _, e | .list a, .bool, v, w, _, e | .list a, .fn _ _, v, w, _, e | .list a, .pair _ _, v, w, _, e => by cases v <;> simp [vcast] at e
  | .pair a b, .pair _ _, .int _, w, _, e | .pair a b, .pair _ _, .bool _, w, _, e | .pair a b, .pair _ _, .items _, w, _, e | .pair a b, .pair _ _, .tag _ _, w, _, e => by simp [vcast] at e
  | .list a, .list _, .int _, w, _, e | .list a, .list _, .bool _, w, _, e | .list a, .list _, .pair _ _, w, _, e | .list a, .list _, .tag _ _, w, _, e => by simp [vcast] at e
theorem castL_core : ∀ (k d : Ty) (l m : Vs), hasL k l = true → vcastL k d l = some m → m.core = l.core
  | _, _, .nil, m, _, e => by
    simp only [vcastL, Option.some.injEq] at e
    subst e
    rfl
  | k, d, .cons v l, m, h, e => by
    simp only [hasL, Bool.and_eq_true] at h
    simp only [vcastL, Option.bind_eq_some_iff, Option.map_eq_some_iff] at e
    obtain ⟨v', e1, l2, e2, rfl⟩ := e
    simp only [Vs.core, cast_core k d v v' h.1 e1, castL_core k d l l2 h.2 e2]
end
/-- what a cast makes is of the type due -/
theorem cast_has {k d : Ty} {v w : Va} (ha : alike k d = true) (hv : has k v = true) (hs : slim v = true) (e : vcast k d v = some w) : has d w = true ∧ slim w = true := by
  have h := bend_ofc (max k.dep d.dep) k d ⟨[], true⟩ v (Nat.le_max_left _ _) (Nat.le_max_right _ _) ha hv
  rw [e] at h
  exact bend_has _ k d v w (ofc_ct (max k.dep d.dep) k d _ (Nat.le_max_left _ _) (Nat.le_max_right _ _) ha) hv hs h
/-- one cast after the other -/
def chainV : List Ty → Va → Option Va
  | a :: b :: r, v => (vcast a b v).bind fun w => chainV (b :: r) w
  | _, v => some v
end BK

/-! LgQ: lists over ranges, chains of coercions -/
namespace BK
open PySem PySem.Spec PyProof.Rows L2 RZ
theorem stepX {s t : SM} {ρ ρ1 : SEnv} {st st1 : Sto} {G : SEnv → Sto → Prop} (h : s ρ st = .nx ρ1 st1) (k : ∃ ρ' st', t ρ1 st1 = .nx ρ' st' ∧ G ρ' st') : ∃ ρ' st', sSeq s t ρ st = .nx ρ' st' ∧ G ρ' st' := by
  rw [x_seq, h]
  exact k
theorem stepK {s t : SM} {ρ : SEnv} {st : Sto} {G : SEnv → Sto → Prop} (h : s ρ st = .nx ρ st) (k : ∃ ρ' st', t ρ st = .nx ρ' st' ∧ G ρ' st') : ∃ ρ' st', sSeq s t ρ st = .nx ρ' st' ∧ G ρ' st' := stepX h k
theorem comp_range {i : Nat} {elt : EM} {ρ : PEnv} {st : Sto} {f : Nat → PV} : ∀ (m k : Nat), (∀ j, k ≤ j → j < k + m → elt (ρ.set i (.val (.int j))) st = .ok (f j) st) →
    compGo (gNm i) bYes elt ρ (rangeL k m) st = .ok ((List.range' k m).map f) st
  | 0, k, _ => rfl
  | m + 1, k, h => by
    have h0 := h k (Nat.le_refl _) (by omega)
    have ih := comp_range (i := i) (elt := elt) (ρ := ρ) (st := st) (f := f) m (k + 1) (fun j q1 q2 => h j (by omega) (by omega))
    have e : compGo (gNm i) bYes elt ρ (rangeL k (m + 1)) st = (elt (ρ.set i (.val (.int k))) st).bind fun y st2 => (compGo (gNm i) bYes elt ρ (rangeL ((k + 1 : Nat) : Int) m) st2).bind fun ys st3 => .ok (y :: ys) st3 := rfl
    rw [e, h0]
    show (compGo (gNm i) bYes elt ρ (rangeL ((k + 1 : Nat) : Int) m) st).bind _ = _
    rw [ih]
    rfl
@[simp] theorem atI_0 {α : Type} {x : α} {xs : List α} : atI (x :: xs) 0 = some x := by show atI _ ((0 : Nat) : Int) = _; rw [atI_nat]; rfl
@[simp] theorem atI_1 {α : Type} {x y : α} {xs : List α} : atI (x :: y :: xs) 1 = some y := by show atI _ ((1 : Nat) : Int) = _; rw [atI_nat]; rfl
@[simp] theorem atI_2 {α : Type} {y0 y1 x : α} {xs : List α} : atI (y0 :: y1 :: x :: xs) 2 = some x := by show atI _ ((2 : Nat) : Int) = _; rw [atI_nat]; rfl
@[simp] theorem atI_3 {α : Type} {y0 y1 y2 x : α} {xs : List α} : atI (y0 :: y1 :: y2 :: x :: xs) 3 = some x := by show atI _ ((3 : Nat) : Int) = _; rw [atI_nat]; rfl
@[simp] theorem atI_4 {α : Type} {y0 y1 y2 y3 x : α} {xs : List α} : atI (y0 :: y1 :: y2 :: y3 :: x :: xs) 4 = some x := by show atI _ ((4 : Nat) : Int) = _; rw [atI_nat]; rfl
@[simp] theorem atI_5 {α : Type} {y0 y1 y2 y3 y4 x : α} {xs : List α} : atI (y0 :: y1 :: y2 :: y3 :: y4 :: x :: xs) 5 = some x := by show atI _ ((5 : Nat) : Int) = _; rw [atI_nat]; rfl
theorem cut_upto {α : Type} (xs : List α) {k : Nat} (h : k ≤ xs.length) : cut xs none (some (k : Int)) = xs.take k := by
  unfold cut
  rw [HT.sIx_nat, HT.sIx_none, Nat.min_eq_left h]
  simp
theorem cut_from {α : Type} (xs : List α) {k : Nat} (h : k ≤ xs.length) : cut xs (some (k : Int)) none = xs.drop k := by
  unfold cut
  rw [HT.sIx_nat, HT.sIx_none, Nat.min_eq_left h]
  rw [List.take_of_length_le (by rw [List.length_drop]; omega)]
theorem range_getD {α β : Type} (l : List α) (f : α → β) (d : α) : (List.range' 0 l.length).map (fun j => f (l.getD j d)) = l.map f := by
  apply List.ext_getElem
  · simp
  · intro i h1 h2
    simp only [List.length_map] at h2
    simp [List.getD_eq_getElem?_getD, List.getElem?_eq_getElem h2]
/-- a loop over a list that never leaves early -/
theorem list_inv {i : Nat} {b : SM} {α : Type} {f : α → PV} {I : List α → SEnv → Sto → Prop} : ∀ (xs : List α) (ρ : SEnv) (st : Sto), I xs ρ st →
    (∀ x r ρ st, I (x :: r) ρ st → ∃ ρ' st', b (ρ.set i (.val (f x))) st = .nx ρ' st' ∧ I r ρ' st') →
    ∃ ρ' st', forGo (gNm i) b (xs.map f) ρ st = .nx ρ' st' ∧ I [] ρ' st'
  | [], ρ, st, h, _ => ⟨ρ, st, rfl, h⟩
  | x :: r, ρ, st, h, hs => by
    obtain ⟨ρ1, st1, h1, h2⟩ := hs x r ρ st h
    obtain ⟨ρ2, st2, g1, g2⟩ := list_inv (i := i) (b := b) (f := f) (I := I) r ρ1 st1 h2 hs
    refine ⟨ρ2, st2, ?_, g2⟩
    have e : forGo (gNm i) b ((x :: r).map f) ρ st = (match b (ρ.set i (.val (f x))) st with
      | .nx ρ1 st1 => forGo (gNm i) b (r.map f) ρ1 st1
      | .ct ρ1 st1 => forGo (gNm i) b (r.map f) ρ1 st1
      | .brk ρ1 st1 => .nx ρ1 st1
      | r => r) := rfl
    rw [e, h1]
    exact g1
/-- the coercions of a chain of casts -/
def partsC : Nat → List Ty → List Co
  | k, a :: b :: r => ofc a b ⟨[(k : Int)], true⟩ :: partsC (k + 1) (b :: r)
  | _, _ => []
theorem partsC_len : ∀ (k : Nat) (ks : List Ty), (partsC k ks).length = ks.length - 1
  | _, [] => rfl
  | _, [_] => rfl
  | k, a :: b :: r => by simp [partsC, partsC_len (k + 1) (b :: r)]
/-- coercions that fit one behind the other -/
theorem partsC_get : ∀ (k : Nat) (ks : List Ty) (j : Nat), j + 1 < ks.length → ∃ a b, ks[j]? = some a ∧ ks[j + 1]? = some b ∧ (partsC k ks)[j]? = some (ofc a b ⟨[((k + j : Nat) : Int)], true⟩)
  | k, [], j, h => by simp at h
  | k, [_], j, h => by simp at h
  | k, a :: b :: r, 0, _ => ⟨a, b, rfl, rfl, rfl⟩
  | k, a :: b :: r, j + 1, h => by
    obtain ⟨x, y, h1, h2, h3⟩ := partsC_get (k + 1) (b :: r) j (by simp only [List.length_cons] at h ⊢; omega)
    exact ⟨x, y, h1, h2, by rw [show k + (j + 1) = k + 1 + j by omega]; exact h3⟩
theorem linked_get : ∀ (ks : List Ty) (j : Nat) (a b : Ty), Linked ks → ks[j]? = some a → ks[j + 1]? = some b → alike a b = true
  | [], j, a, b, _, h, _ => by simp at h
  | [_], j, a, b, _, _, h => by simp at h
  | x :: y :: r, 0, a, b, hl, h1, h2 => by cases h1; cases h2; exact hl.1
  | x :: y :: r, j + 1, a, b, hl, h1, h2 => linked_get (y :: r) j a b hl.2 h1 h2
def CTL : Ty → List Co → Ty → Prop
  | a, [], b => a = b
  | a, c :: cs, b => ∃ m, CT c a m ∧ mf c = false ∧ c.dep ≤ 6 ∧ (encC c).fair = true ∧ CTL m cs b
def lastT : Ty → List Ty → Ty
  | a, [] => a
  | _, b :: r => lastT b r
theorem encN_fair {n : Nm} (h : n.p.length ≤ 1000) : (encN n).fair = true := by
  show PV.fair (.tup [.tup (n.p.map PV.int), .bl n.s]) = true
  simp [PV.fair, PV.fairs, h, ints_fair]
theorem flip_p {n : Nm} : n.flip.p = n.p := rfl
theorem encH_fair {g : Ty} {n : Nm} (h : n.p.length ≤ 1000) : (encH (some (g, n))).fair = true := by
  show PV.fair (.tup [enc g, encN n]) = true
  simp [PV.fair, PV.fairs, enc_fair, encN_fair h]
theorem encO_fair : ∀ a : Option Ty, (encO a).fair = true
  | none => rfl
  | some a => enc_fair a
theorem fair_turn {h : Option (Ty × Nm)} {m : Co} {t : Option Ty} : (encC (.turn h m t)).fair = ((encH h).fair && (encC m).fair) := by
  show PV.fair (.tup [.str "turn", encH h, encC m, encO t]) = _
  simp [PV.fair, PV.fairs, encO_fair]
theorem fair_fail {h : Option (Ty × Nm)} {n : Nm} : (encC (.fail h n)).fair = ((encH h).fair && (encN n).fair) := by
  show PV.fair (.tup [.str "fail", encH h, encN n]) = _
  simp [PV.fair, PV.fairs]
theorem fair_fn {c d : Co} : (encC (.fn c d)).fair = ((encC c).fair && (encC d).fair) := by
  show PV.fair (.tup [.str "fn", encC c, encC d]) = _
  simp [PV.fair, PV.fairs]
theorem fair_pair {c d : Co} : (encC (.pair c d)).fair = ((encC c).fair && (encC d).fair) := by
  show PV.fair (.tup [.str "pair", encC c, encC d]) = _
  simp [PV.fair, PV.fairs]
theorem fair_list {c : Co} : (encC (.list c)).fair = (encC c).fair := by
  show PV.fair (.tup [.str "list", encC c]) = _
  simp [PV.fair, PV.fairs]
theorem fair_clash {t : Option Ty} {h : Option (Ty × Nm)} {x : Nm} (hf : (encH h).fair = true) (e : clash t h = some x) : (encN x).fair = true := by
  cases t <;> cases h <;> simp only [clash] at e
  · cases e
  · cases e
  · cases e
  · rename_i g p
    obtain ⟨g', n⟩ := p
    simp only at e
    split at e
    · cases e
    · cases e
      have : PV.fair (.tup [enc g', encN x]) = true := hf
      simp [PV.fair, PV.fairs] at this
      exact this.2
theorem ofc_fair : ∀ (N : Nat) (a b : Ty) (n : Nm), a.dep + b.dep ≤ N → n.p.length ≤ 1000 → (encC (ofc a b n)).fair = true
  | 0, a, b, n, h, _ => by have := dep_pos a; omega
  | N + 1, a, b, n, h, hn => by
    have ih := fun x y n' (q : x.dep + y.dep ≤ N) q2 => ofc_fair N x y n' q q2
    have hp := encN_fair hn
    have F : ∀ x : Ty, (encH (some (x, n))).fair = true := fun x => encH_fair hn
    have hN : (encH none).fair = true := rfl
    have hP : (encC .plain).fair = true := rfl
    have hf := fun x y (q : x.dep + y.dep ≤ N) => ih x y n.flip q (by rw [flip_p]; exact hn)
    have hs := fun x y (q : x.dep + y.dep ≤ N) => ih x y n q hn
    have dp := dep_pos
    have d1 : Ty.dep .any = 1 := rfl
    cases a <;> cases b <;> simp only [Ty.dep] at h <;> simp only [ofc, fair_turn, fair_fn, fair_pair, fair_list, F, hN, hP, Bool.true_and, Bool.and_true, Bool.and_eq_true, Bool.and_self] <;>
      first
      | rfl
      | (refine ⟨hf _ _ ?_, hs _ _ ?_⟩ <;> (try simp only [Ty.dep]) <;> omega)
      | (refine ⟨hs _ _ ?_, hs _ _ ?_⟩ <;> (try simp only [Ty.dep]) <;> omega)
      | (refine hs _ _ ?_ <;> (try simp only [Ty.dep]) <;> omega)
theorem tog_fair : ∀ (N : Nat) (c d : Co), c.dep ≤ N → d.dep ≤ N → (encC c).fair = true → (encC d).fair = true → (encC (tog c d)).fair = true
  | 0, c, d, h, _, _, _ => by have := co_pos c; omega
  | N + 1, c, d, h1, h2, hc, hd => by
    have ih := tog_fair N
    cases c with
    | any => simpa using hd
    | fail h n => simpa using hc
    | turn h m t =>
      cases d with
      | any => simpa using hc
      | fail h' n' =>
        rw [fair_turn, Bool.and_eq_true] at hc
        rw [fair_fail, Bool.and_eq_true] at hd
        rw [tog_tf, fair_fail, Bool.and_eq_true]
        refine ⟨hc.1, ?_⟩
        cases q : clash t h' with
        | none => exact hd.2
        | some x => exact fair_clash hd.1 q
      | turn h' m' t' =>
        rw [fair_turn, Bool.and_eq_true] at hc hd
        simp only [Co.dep] at h1 h2
        rw [tog_tt]
        cases q : clash t h' with
        | none => simp only; rw [fair_turn, Bool.and_eq_true]; exact ⟨hc.1, ih m m' (by omega) (by omega) hc.2 hd.2⟩
        | some x => simp only; rw [fair_fail, Bool.and_eq_true]; exact ⟨hc.1, fair_clash hd.1 q⟩
      | _ => simpa [tog] using hc
    | plain => cases d <;> simpa [tog] using hc
    | fn c1 c2 =>
      cases d <;> simp only [tog] <;> first | exact hc | skip
      rw [fair_fn, Bool.and_eq_true] at hc hd ⊢
      simp only [Co.dep] at h1 h2
      exact ⟨ih _ _ (by omega) (by omega) hd.1 hc.1, ih _ _ (by omega) (by omega) hc.2 hd.2⟩
    | pair c1 c2 =>
      cases d <;> simp only [tog] <;> first | exact hc | skip
      rw [fair_pair, Bool.and_eq_true] at hc hd ⊢
      simp only [Co.dep] at h1 h2
      exact ⟨ih _ _ (by omega) (by omega) hc.1 hd.1, ih _ _ (by omega) (by omega) hc.2 hd.2⟩
    | list c1 =>
      cases d <;> simp only [tog] <;> first | exact hc | skip
      rw [fair_list] at hc hd ⊢
      simp only [Co.dep] at h1 h2
      exact ih _ _ (by omega) (by omega) hc hd
theorem encO_depth {t : Option Ty} {a b : Ty} (h : tk t a b) : (encO t).depth ≤ 2 := by
  cases t with
  | none => decide
  | some g => show PV.depth (enc g) ≤ 2; rw [enc_depth]; exact isGd_dep h.2.2
theorem encH_depth {t : Option (Ty × Nm)} {a b : Ty} (h : hk t a b) : (encH t).depth ≤ 3 := by
  cases t with
  | none => decide
  | some p =>
    obtain ⟨g, n⟩ := p
    have := isGd_dep h.2.2
    show PV.depth (.tup [enc g, encN n]) ≤ 3
    simp only [PV.depth, PV.depths, enc_depth, encN_depth]
    omega
theorem encC_depth {c : Co} {a b : Ty} (h : CT c a b) : (encC c).depth ≤ c.dep + 3 := by
  induction h with
  | any => decide
  | fail k1 k2 =>
    rename_i h n _ _ _
    have := encH_depth k1
    show PV.depth (.tup [.str "fail", encH h, encN n]) ≤ _
    simp only [PV.depth, PV.depths, encN_depth, Co.dep]
    omega
  | turn k1 k2 k3 k4 ih =>
    rename_i h m t _ _ _ _
    have h1 := encH_depth k3
    have h2 := encO_depth k4
    show PV.depth (.tup [.str "turn", encH h, encC m, encO t]) ≤ _
    simp only [PV.depth, PV.depths, Co.dep]
    omega
  | plainI => decide
  | plainB => decide
  | fn _ _ _ _ i1 i2 =>
    rename_i c d _ _ _ _ _ _ _ _
    show PV.depth (.tup [.str "fn", encC c, encC d]) ≤ _
    simp only [PV.depth, PV.depths, Co.dep]
    omega
  | pair _ _ _ _ i1 i2 =>
    rename_i c d _ _ _ _ _ _ _ _
    show PV.depth (.tup [.str "pair", encC c, encC d]) ≤ _
    simp only [PV.depth, PV.depths, Co.dep]
    omega
  | list _ _ i1 =>
    rename_i c _ _ _ _
    show PV.depth (.tup [.str "list", encC c]) ≤ _
    simp only [PV.depth, PV.depths, Co.dep]
    omega
theorem partsC_ok : ∀ (k : Nat) (a : Ty) (r : List Ty), (∀ x ∈ a :: r, x.dep ≤ 3) → Linked (a :: r) → CTL a (partsC k (a :: r)) (lastT a r)
  | _, a, [], _, _ => rfl
  | k, a, b :: r, hd, hl => by
    have ha := hd a (by simp)
    have hb := hd b (by simp)
    exact ⟨b, ofc_ct 3 a b _ ha hb hl.1, ofc_mf _ _ _, ofc_dep 3 a b _ ha hb, ofc_fair 6 a b _ (by omega) (by show 1 ≤ 1000; omega), partsC_ok (k + 1) b r (fun x hx => hd x (by simp [hx])) hl.2⟩
/-- from the left: typed, small -/
theorem foldl_ct : ∀ (cs : List Co) (c : Co) (a m b : Ty), CT c a m → mf c = false → c.dep ≤ 6 → (encC c).fair = true → CTL m cs b → CT (cs.foldl tog c) a b ∧ mf (cs.foldl tog c) = false ∧ (cs.foldl tog c).dep ≤ 6 ∧ (encC (cs.foldl tog c)).fair = true
  | [], c, a, m, b, h1, h2, h3, h4, h5 => by cases h5; exact ⟨h1, h2, h3, h4⟩
  | d :: cs, c, a, m, b, h1, h2, h3, h4, h5 => by
    obtain ⟨m2, k1, k2, k3, k4, k5⟩ := h5
    exact foldl_ct cs (tog c d) a m2 b (tog_ct 6 c d a m m2 h3 k3 h1 k1 (by rw [h2, k2])) (by rw [tog_mf c d (by rw [h2, k2]), h2]) (tog_dep 6 c d h3 k3) (tog_fair 6 c d h3 k3 h4 k4) k5
theorem foldr_ct : ∀ (cs : List Co) (c : Co) (a m b : Ty), CTL a cs m → CT c m b → mf c = false → c.dep ≤ 6 → CT (cs.foldr tog c) a b ∧ mf (cs.foldr tog c) = false ∧ (cs.foldr tog c).dep ≤ 6
  | [], c, a, m, b, h, h1, h2, h3 => by cases h; exact ⟨h1, h2, h3⟩
  | d :: cs, c, a, m, b, h, h1, h2, h3 => by
    obtain ⟨m2, k1, k2, k3, _, k5⟩ := h
    obtain ⟨g1, g2, g3⟩ := foldr_ct cs c m2 m b k5 h1 h2 h3
    exact ⟨tog_ct 6 d _ a m2 b k3 g3 k1 g1 (by rw [g2, k2]), by rw [List.foldr_cons, tog_mf _ _ (by rw [g2, k2]), k2], tog_dep 6 d _ k3 g3⟩
theorem fold_both : ∀ (cs : List Co) (c d : Co) (a m m2 b : Ty), CT c a m → mf c = false → c.dep ≤ 6 → CTL m cs m2 → CT d m2 b → mf d = false → d.dep ≤ 6 → tog (cs.foldl tog c) d = tog c (cs.foldr tog d)
  | [], c, d, a, m, m2, b, _, _, _, _, _, _, _ => rfl
  | e :: cs, c, d, a, m, m2, b, h1, h2, h3, h4, h5, h6, h7 => by
    obtain ⟨m3, k1, k2, k3, _, k5⟩ := h4
    obtain ⟨g1, g2, g3⟩ := foldr_ct cs d m3 m2 b k5 h5 h6 h7
    show tog (cs.foldl tog (tog c e)) d = tog c (tog e (cs.foldr tog d))
    rw [fold_both cs (tog c e) d a m3 m2 b (tog_ct 6 c e a m m3 h3 k3 h1 k1 (by rw [h2, k2])) (by rw [tog_mf c e (by rw [h2, k2]), h2]) (tog_dep 6 c e h3 k3) k5 h5 h6 h7]
    exact (tog_assoc 6 c e _ a m m3 b h3 k3 g3 h1 k1 g1 (by rw [h2, k2]) (by rw [k2, g2])).symm
theorem ctl_append : ∀ (cs ds : List Co) (a b : Ty), CTL a (cs ++ ds) b → ∃ m, CTL a cs m ∧ CTL m ds b
  | [], ds, a, b, h => ⟨a, rfl, h⟩
  | c :: cs, ds, a, b, h => by
    obtain ⟨m, k1, k2, k3, k4, k5⟩ := h
    obtain ⟨m2, g1, g2⟩ := ctl_append cs ds m b k5
    exact ⟨m2, ⟨m, k1, k2, k3, k4, g1⟩, g2⟩
/-! ### what a chain does -/
/-- the told of the casts one after the other -/
def doneV : Nat → List Ty → Va → Except Nm Va
  | k, a :: b :: r, v => match vcast a b v with
    | none => .error ⟨[(k : Int)], true⟩
    | some w => doneV (k + 1) (b :: r) w
  | _, _, v => .ok v
def chainB : List Co → Va → Option Va
  | [], v => some v
  | c :: cs, v => (okO (bendV c v)).bind (chainB cs)
theorem foldl_bend : ∀ (cs : List Co) (c : Co) (a m b : Ty) (v : Va), CT c a m → mf c = false → c.dep ≤ 6 → CTL m cs b → has a v = true → slim v = true → okO (bendV (cs.foldl tog c) v) = (okO (bendV c v)).bind (chainB cs)
  | [], c, a, m, b, v, _, _, _, _, _, _ => by show okO (bendV c v) = _; cases okO (bendV c v) <;> rfl
  | d :: cs, c, a, m, b, v, h1, h2, h3, h4, hv, hs => by
    obtain ⟨m2, k1, k2, k3, _, k5⟩ := h4
    show okO (bendV (cs.foldl tog (tog c d)) v) = _
    rw [foldl_bend cs (tog c d) a m2 b v (tog_ct 6 c d a m m2 h3 k3 h1 k1 (by rw [h2, k2])) (by rw [tog_mf c d (by rw [h2, k2]), h2]) (tog_dep 6 c d h3 k3) k5 hv hs, bend_tog 6 c d a m m2 v h3 k3 h1 k1 (by rw [h2, k2]) hv hs]
    cases okO (bendV c v) <;> rfl
theorem chain_done : ∀ (k : Nat) (a : Ty) (r : List Ty) (v : Va), (∀ x ∈ a :: r, x.dep ≤ 3) → Linked (a :: r) → has a v = true → slim v = true → okO (doneV k (a :: r) v) = chainB (partsC k (a :: r)) v
  | _, a, [], v, _, _, _, _ => rfl
  | k, a, b :: r, v, hd, hl, hv, hs => by
    have ha := hd a (by simp)
    have hb := hd b (by simp)
    show okO (match vcast a b v with
      | none => .error ⟨[(k : Int)], true⟩
      | some w => doneV (k + 1) (b :: r) w) = (okO (bendV (ofc a b ⟨[(k : Int)], true⟩) v)).bind _
    rw [bend_ofc 3 a b _ v ha hb hl.1 hv]
    cases e : vcast a b v with
    | none => rfl
    | some w =>
      obtain ⟨w1, w2⟩ := cast_has hl.1 hv hs e
      exact chain_done (k + 1) b r w (fun x hx => hd x (by simp [hx])) hl.2 w1 w2
theorem done_has : ∀ (k : Nat) (a : Ty) (r : List Ty) (v w : Va), Linked (a :: r) → has a v = true → slim v = true → doneV k (a :: r) v = .ok w → has (lastT a r) w = true ∧ slim w = true ∧ w.core = v.core
  | _, a, [], v, w, _, hv, hs, e => by cases e; exact ⟨hv, hs, rfl⟩
  | k, a, b :: r, v, w, hl, hv, hs, e => by
    simp only [doneV] at e
    split at e
    · cases e
    · rename_i u q
      obtain ⟨w1, w2⟩ := cast_has hl.1 hv hs q
      obtain ⟨g1, g2, g3⟩ := done_has (k + 1) b r u w hl.2 w1 w2 e
      exact ⟨g1, g2, by rw [g3, cast_core a b v u hv q]⟩
end BK

/-! LgM: types in the middle -/
namespace BK
open PySem PySem.Spec PyProof.Rows L2 RZ
@[simp] theorem w_any_never : (("any" : Str) == ("never" : Str)) = false := by decide +kernel
@[simp] theorem w_never_any : (("never" : Str) == ("any" : Str)) = false := by decide +kernel
@[simp] theorem w_int_never : (("int" : Str) == ("never" : Str)) = false := by decide +kernel
@[simp] theorem w_never_int : (("never" : Str) == ("int" : Str)) = false := by decide +kernel
@[simp] theorem w_bool_never : (("bool" : Str) == ("never" : Str)) = false := by decide +kernel
@[simp] theorem w_never_bool : (("never" : Str) == ("bool" : Str)) = false := by decide +kernel
@[simp] theorem w_fn_never : (("fn" : Str) == ("never" : Str)) = false := by decide +kernel
@[simp] theorem w_never_fn : (("never" : Str) == ("fn" : Str)) = false := by decide +kernel
@[simp] theorem w_pair_never : (("pair" : Str) == ("never" : Str)) = false := by decide +kernel
@[simp] theorem w_never_pair : (("never" : Str) == ("pair" : Str)) = false := by decide +kernel
@[simp] theorem w_list_never : (("list" : Str) == ("never" : Str)) = false := by decide +kernel
@[simp] theorem w_never_list : (("never" : Str) == ("list" : Str)) = false := by decide +kernel
@[simp] theorem w_items_never : (("items" : Str) == ("never" : Str)) = false := by decide +kernel
@[simp] theorem w_never_items : (("never" : Str) == ("items" : Str)) = false := by decide +kernel
@[simp] theorem w_tag_never : (("tag" : Str) == ("never" : Str)) = false := by decide +kernel
@[simp] theorem w_never_tag : (("never" : Str) == ("tag" : Str)) = false := by decide +kernel
@[simp] theorem w_never_never : (("never" : Str) == ("never" : Str)) = true := by decide +kernel
inductive Mi where
  | any | int | bool | never
  | fn (a b : Mi) | pair (a b : Mi) | list (a : Mi)
deriving DecidableEq
def encM : Mi → PV
  | .any => enc .any
  | .int => enc .int
  | .bool => enc .bool
  | .never => .tup [.str "never"]
  | .fn a b => .tup [.str "fn", encM a, encM b]
  | .pair a b => .tup [.str "pair", encM a, encM b]
  | .list a => .tup [.str "list", encM a]
def Mi.dep : Mi → Nat
  | .any | .int | .bool | .never => 1
  | .fn a b => max a.dep b.dep + 1
  | .pair a b => max a.dep b.dep + 1
  | .list a => a.dep + 1
def tyM : Ty → Mi
  | .any => .any
  | .int => .int
  | .bool => .bool
  | .fn a b => .fn (tyM a) (tyM b)
  | .pair a b => .pair (tyM a) (tyM b)
  | .list a => .list (tyM a)
@[simp] theorem m_any : encM .any = enc .any := (rfl)
@[simp] theorem m_int : encM .int = enc .int := (rfl)
@[simp] theorem m_bool : encM .bool = enc .bool := (rfl)
@[simp] theorem m_never : PV.tup [.str "never"] = encM .never := (rfl)
@[simp] theorem m_fn {a b : Mi} : PV.tup [.str "fn", encM a, encM b] = encM (.fn a b) := (rfl)
@[simp] theorem m_pair {a b : Mi} : PV.tup [.str "pair", encM a, encM b] = encM (.pair a b) := (rfl)
@[simp] theorem m_list {a : Mi} : PV.tup [.str "list", encM a] = encM (.list a) := (rfl)
theorem encM_ty : ∀ t : Ty, encM (tyM t) = enc t
  | .any | .int | .bool => rfl
  | .fn a b => by show PV.tup [.str "fn", encM (tyM a), encM (tyM b)] = PV.tup [.str "fn", enc a, enc b]; rw [encM_ty a, encM_ty b]
  | .pair a b => by show PV.tup [.str "pair", encM (tyM a), encM (tyM b)] = PV.tup [.str "pair", enc a, enc b]; rw [encM_ty a, encM_ty b]
  | .list a => by show PV.tup [.str "list", encM (tyM a)] = PV.tup [.str "list", enc a]; rw [encM_ty a]
theorem tyM_dep : ∀ t : Ty, (tyM t).dep = t.dep
  | .any | .int | .bool => rfl
  | .fn a b => by simp only [tyM, Mi.dep, Ty.dep, tyM_dep a, tyM_dep b]
  | .pair a b => by simp only [tyM, Mi.dep, Ty.dep, tyM_dep a, tyM_dep b]
  | .list a => by simp only [tyM, Mi.dep, Ty.dep, tyM_dep a]
@[simp] theorem mx0_never {st : Sto} : opIx st (encM .never) (.int 0) = some (.str "never") := (rfl)
@[simp] theorem mslT_never : opSl (encM .never) (some 1) none = some (.tup []) := sl1
@[simp] theorem mlen_never {st : Sto} : Bf.f .len st [encM .never] = some (.int 1) := (rfl)
@[simp] theorem mmk_never : opAdd (.tup [.str "never"]) (.tup []) = some (encM .never) := add10
@[simp] theorem mx0_fn {a b : Mi} {st : Sto} : opIx st (encM (.fn a b)) (.int 0) = some (.str "fn") := (rfl)
@[simp] theorem mx1_fn {a b : Mi} {st : Sto} : opIx st (encM (.fn a b)) (.int 1) = some (encM a) := (rfl)
@[simp] theorem mx2_fn {a b : Mi} {st : Sto} : opIx st (encM (.fn a b)) (.int 2) = some (encM b) := (rfl)
@[simp] theorem mslT_fn {a b : Mi} : opSl (encM (.fn a b)) (some 1) none = some (.tup [encM a, encM b]) := sl1
@[simp] theorem mlen_fn {a b : Mi} {st : Sto} : Bf.f .len st [encM (.fn a b)] = some (.int 3) := (rfl)
@[simp] theorem mmk_fn {a b : Mi} : opAdd (.tup [.str "fn"]) (.tup [encM a, encM b]) = some (encM (.fn a b)) := add12
@[simp] theorem mx0_pair {a b : Mi} {st : Sto} : opIx st (encM (.pair a b)) (.int 0) = some (.str "pair") := (rfl)
@[simp] theorem mx1_pair {a b : Mi} {st : Sto} : opIx st (encM (.pair a b)) (.int 1) = some (encM a) := (rfl)
@[simp] theorem mx2_pair {a b : Mi} {st : Sto} : opIx st (encM (.pair a b)) (.int 2) = some (encM b) := (rfl)
@[simp] theorem mslT_pair {a b : Mi} : opSl (encM (.pair a b)) (some 1) none = some (.tup [encM a, encM b]) := sl1
@[simp] theorem mlen_pair {a b : Mi} {st : Sto} : Bf.f .len st [encM (.pair a b)] = some (.int 3) := (rfl)
@[simp] theorem mmk_pair {a b : Mi} : opAdd (.tup [.str "pair"]) (.tup [encM a, encM b]) = some (encM (.pair a b)) := add12
@[simp] theorem mx0_list {a : Mi} {st : Sto} : opIx st (encM (.list a)) (.int 0) = some (.str "list") := (rfl)
@[simp] theorem mx1_list {a : Mi} {st : Sto} : opIx st (encM (.list a)) (.int 1) = some (encM a) := (rfl)
@[simp] theorem mslT_list {a : Mi} : opSl (encM (.list a)) (some 1) none = some (.tup [encM a]) := sl1
@[simp] theorem mlen_list {a : Mi} {st : Sto} : Bf.f .len st [encM (.list a)] = some (.int 2) := (rfl)
@[simp] theorem mmk_list {a : Mi} : opAdd (.tup [.str "list"]) (.tup [encM a]) = some (encM (.list a)) := add11
theorem encM_plain : ∀ a : Mi, (encM a).plain = true
  | .any | .int | .bool | .never => rfl
  | .fn a b => by show PV.plain (.tup [.str "fn", encM a, encM b]) = true; simp only [PV.plain, PV.plains, encM_plain a, encM_plain b, Bool.and_self]
  | .pair a b => by show PV.plain (.tup [.str "pair", encM a, encM b]) = true; simp only [PV.plain, PV.plains, encM_plain a, encM_plain b, Bool.and_self]
  | .list a => by show PV.plain (.tup [.str "list", encM a]) = true; simp only [PV.plain, PV.plains, encM_plain a, Bool.and_self]
theorem encM_depth : ∀ a : Mi, (encM a).depth = a.dep
  | .any | .int | .bool | .never => rfl
  | .fn a b => by show PV.depth (.tup [.str "fn", encM a, encM b]) = _; simp [PV.depth, PV.depths, Mi.dep, encM_depth a, encM_depth b]
  | .pair a b => by show PV.depth (.tup [.str "pair", encM a, encM b]) = _; simp [PV.depth, PV.depths, Mi.dep, encM_depth a, encM_depth b]
  | .list a => by show PV.depth (.tup [.str "list", encM a]) = _; simp [PV.depth, PV.depths, Mi.dep, encM_depth a]
theorem encM_fair : ∀ a : Mi, (encM a).fair = true
  | .any | .int | .bool | .never => rfl
  | .fn a b => by show PV.fair (.tup [.str "fn", encM a, encM b]) = true; simp [PV.fair, PV.fairs, encM_fair a, encM_fair b]
  | .pair a b => by show PV.fair (.tup [.str "pair", encM a, encM b]) = true; simp [PV.fair, PV.fairs, encM_fair a, encM_fair b]
  | .list a => by show PV.fair (.tup [.str "list", encM a]) = true; simp [PV.fair, PV.fairs, encM_fair a]
def Mi.word : Mi → Str
  | .any => "any" | .int => "int" | .bool => "bool" | .never => "never" | .fn _ _ => "fn" | .pair _ _ => "pair" | .list _ => "list"
def Mi.kids : Mi → List Mi
  | .fn a b => [a, b] | .pair a b => [a, b] | .list a => [a] | _ => []
theorem encM_form (a : Mi) : encM a = .tup (.str a.word :: a.kids.map encM) := by cases a <;> rfl
theorem encM_eqv : ∀ a b : Mi, (encM a).eqv (encM b) = decide (a = b) := by
  intro a b
  induction a generalizing b <;> rw [encM_form, encM_form b] <;> cases b <;> simp_all [Mi.word, Mi.kids, PV.eqv, PV.eqvs, -m_any, -m_int, -m_bool, -m_never, -m_fn, -m_pair, -m_list, -fold_any, -fold_int, -fold_bool]
theorem eq_encM (a b : Mi) (h : a.dep ≤ 50) : opEq (encM a) (encM b) = some (.bl (decide (a = b))) := by
  unfold opEq
  rw [if_pos (by unfold eqOk; rw [encM_plain, encM_plain, encM_depth, encM_depth]; simp; omega), encM_eqv]
theorem ne_encM (a b : Mi) (h : a.dep ≤ 50) : opNe (encM a) (encM b) = some (.bl (!decide (a = b))) := by
  unfold opNe
  rw [if_pos (by unfold eqOk; rw [encM_plain, encM_plain, encM_depth, encM_depth]; simp; omega), encM_eqv]
theorem eq_encM2 (a b : Mi) (h : b.dep ≤ 50) : opEq (encM a) (encM b) = some (.bl (decide (a = b))) := by
  unfold opEq
  rw [if_pos (by unfold eqOk; rw [encM_plain, encM_plain, encM_depth, encM_depth]; simp; omega), encM_eqv]
theorem ne_encM2 (a b : Mi) (h : b.dep ≤ 50) : opNe (encM a) (encM b) = some (.bl (!decide (a = b))) := by
  unfold opNe
  rw [if_pos (by unfold eqOk; rw [encM_plain, encM_plain, encM_depth, encM_depth]; simp; omega), encM_eqv]
@[simp] theorem m_eq_any (a : Mi) : opEq (encM a) (enc .any) = some (.bl (decide (a = .any))) := eq_encM2 a .any (by decide)
@[simp] theorem m_eq_never (a : Mi) : opEq (encM a) (encM .never) = some (.bl (decide (a = .never))) := eq_encM2 a .never (by decide)
@[simp] theorem m_ne_never (a : Mi) : opNe (encM a) (encM .never) = some (.bl (!decide (a = .never))) := ne_encM2 a .never (by decide)
theorem e_eq_never (a : Ty) : opEq (enc a) (encM .never) = some (.bl false) := by
  rw [← encM_ty, m_eq_never]
  cases a <;> rfl
theorem e_ne_never (a : Ty) : opNe (enc a) (encM .never) = some (.bl true) := by
  rw [← encM_ty, m_ne_never]
  cases a <;> rfl
theorem in_list2 (n a b : Mi) (h : n.dep ≤ 50) : opIn (encM n) (.lst [encM a, encM b]) = some (.bl (decide (a = n) || decide (b = n))) := by
  unfold opIn
  simp only
  unfold opIn0
  simp only
  rw [if_pos (by unfold inOk; simp only [PV.plains, encM_plain, encM_depth, Bool.and_self, Bool.true_and, decide_eq_true_eq]; omega)]
  simp [encM_eqv]
theorem in_list1 (n a : Mi) (h : n.dep ≤ 50) : opIn (encM n) (.lst [encM a]) = some (.bl (decide (a = n))) := by
  unfold opIn
  simp only
  unfold opIn0
  simp only
  rw [if_pos (by unfold inOk; simp only [PV.plains, encM_plain, encM_depth, Bool.and_self, Bool.true_and, decide_eq_true_eq]; omega)]
  simp [encM_eqv]
@[simp] theorem in_any2 (a b : Mi) : opIn (enc .any) (.lst [encM a, encM b]) = some (.bl (decide (a = .any) || decide (b = .any))) := in_list2 .any a b (by decide)
@[simp] theorem in_never2 (a b : Mi) : opIn (encM .never) (.lst [encM a, encM b]) = some (.bl (decide (a = .never) || decide (b = .never))) := in_list2 .never a b (by decide)
@[simp] theorem in_never1 (a : Mi) : opIn (encM .never) (.lst [encM a]) = some (.bl (decide (a = .never))) := in_list1 .never a (by decide)
theorem ty_any (a : Ty) : (tyM a = .any) ↔ (a = .any) := by cases a <;> simp [tyM]
theorem ty_nev (a : Ty) : (tyM a = .never) ↔ False := by cases a <;> simp [tyM]
theorem in_any_eM (a : Ty) (b : Mi) : opIn (enc .any) (.lst [enc a, encM b]) = some (.bl (decide (a = .any) || decide (b = .any))) := by rw [← encM_ty a, in_any2]; simp only [ty_any]
theorem in_any_Me (a : Mi) (b : Ty) : opIn (enc .any) (.lst [encM a, enc b]) = some (.bl (decide (a = .any) || decide (b = .any))) := by rw [← encM_ty b, in_any2]; simp only [ty_any]
theorem in_nev_eM (a : Ty) (b : Mi) : opIn (encM .never) (.lst [enc a, encM b]) = some (.bl (decide (b = .never))) := by rw [← encM_ty a, in_never2]; simp [ty_nev]
theorem in_nev_Me (a : Mi) (b : Ty) : opIn (encM .never) (.lst [encM a, enc b]) = some (.bl (decide (a = .never))) := by rw [← encM_ty b, in_never2]; simp [ty_nev]
theorem in_nev_ee (a b : Ty) : opIn (encM .never) (.lst [enc a, enc b]) = some (.bl false) := by rw [← encM_ty b, in_nev_eM]; simp [ty_nev]
/-! ### the middle of both -/
def pairM (a b : Mi) : Mi := if a = .never ∨ b = .never then .never else .pair a b
def mm : Mi → Mi → Mi
  | .any, b => b
  | a, .any => a
  | .int, .int => .int
  | .bool, .bool => .bool
  | .fn a b, .fn c d => .fn (mm a c) (mm b d)
  | .pair a b, .pair c d => pairM (mm a c) (mm b d)
  | .list a, .list c => .list (mm a c)
  | _, _ => .never
theorem mm_ok {T : Tab} {ix : Nat → Nat} [B_threesomes_middle_meet T ix] : ∀ (n : Nat) (a b : Mi) (st : Sto), a.dep ≤ n → T.call n (ix i_threesomes_middle_meet) [encM a, encM b] st = .ok (encM (mm a b)) st
  | 0, a, b, st, h => by cases a <;> simp [Mi.dep] at h
  | n + 1, a, b, st, h => by
    have ih := mm_ok (T := T) (ix := ix) n
    rw [r_threesomes_middle_meet]
    unfold c_threesomes_middle_meet
    by_cases ha : a = .any
    · subst ha; simp [mm]
    · by_cases hb : b = .any
      · subst hb
        have e : mm a .any = a := by cases a <;> rfl
        simp [ha, e]
      · have fa : encM a = .tup (.str a.word :: a.kids.map encM) := encM_form a
        cases a <;> simp at ha <;> cases b <;> simp at hb <;> simp [Mi.dep, Nat.max_le] at h <;> simp [mm, ih, h, e_eq_never, eq_enc, Ty.dep]
        rename_i a1 a2 b1 b2
        by_cases q1 : mm a1 b1 = .never
        · simp [pairM, q1]
        · by_cases q2 : mm a2 b2 = .never
          · simp [pairM, q2]
          · simp [pairM, q1, q2]
theorem mm_any_r (a : Mi) : mm a .any = a := by cases a <;> rfl
theorem mm_any_l (a : Mi) : mm .any a = a := by cases a <;> rfl
theorem mm_never_l {a : Mi} : mm .never a = .never := by cases a <;> rfl
theorem mm_never_r {a : Mi} : mm a .never = .never := by cases a <;> rfl
theorem pairM_l {b : Mi} : pairM .never b = .never := by simp [pairM]
theorem pairM_r {a : Mi} : pairM a .never = .never := by simp [pairM]
theorem mm_pairM (a b c d : Mi) : mm (pairM a b) (.pair c d) = pairM (mm a c) (mm b d) := by
  by_cases q1 : a = .never
  · simp [q1, pairM_l, mm_never_l]
  · by_cases q2 : b = .never
    · simp [q2, pairM_r, mm_never_l]
    · rw [show pairM a b = .pair a b by simp [pairM, q1, q2]]
      rfl
theorem mm_pairM2 (a b c d : Mi) : mm (.pair c d) (pairM a b) = pairM (mm c a) (mm d b) := by
  by_cases q1 : a = .never
  · simp [q1, pairM_l, mm_never_r]
  · by_cases q2 : b = .never
    · simp [q2, pairM_r, mm_never_r]
    · rw [show pairM a b = .pair a b by simp [pairM, q1, q2]]
      rfl
theorem mm_comm : ∀ a b : Mi, mm a b = mm b a := by
  intro a
  induction a with
  | fn a b ia ib => intro c; cases c <;> simp [mm, ia, ib]
  | pair a b ia ib => intro c; cases c <;> simp [mm, ia, ib]
  | list a ia => intro c; cases c <;> simp [mm, ia]
  | _ => intro c; cases c <;> rfl
theorem pairM_other (a b c : Mi) (h : ∀ x y, c ≠ .pair x y) (h2 : c ≠ .any) : mm (pairM a b) c = .never := by
  unfold pairM
  split
  · exact mm_never_l
  · cases c <;> simp at h h2 <;> rfl
theorem mm_assoc : ∀ a b c : Mi, mm (mm a b) c = mm a (mm b c) := by
  intro a
  induction a with
  | any => intro b c; simp [mm_any_l]
  | never => intro b c; simp [mm_never_l]
  | int =>
    intro b c
    cases b <;> cases c <;> simp [mm, mm_never_l, mm_never_r, mm_any_l, mm_any_r]
    rw [mm_comm]; exact (pairM_other _ _ _ (by simp) (by simp)).symm
  | bool =>
    intro b c
    cases b <;> cases c <;> simp [mm, mm_never_l, mm_never_r, mm_any_l, mm_any_r]
    rw [mm_comm]; exact (pairM_other _ _ _ (by simp) (by simp)).symm
  | fn a b ia ib =>
    intro c d
    cases c <;> cases d <;> simp [mm, mm_never_l, mm_never_r, mm_any_l, mm_any_r, ia, ib]
    rw [mm_comm]; exact (pairM_other _ _ _ (by simp) (by simp)).symm
  | pair a b ia ib =>
    intro c d
    cases c <;> cases d <;> simp [mm, mm_never_l, mm_never_r, mm_any_l, mm_any_r, mm_pairM, mm_pairM2, ia, ib] <;> exact pairM_other _ _ _ (by simp) (by simp)
  | list a ia =>
    intro c d
    cases c <;> cases d <;> simp [mm, mm_never_l, mm_never_r, mm_any_l, mm_any_r, ia]
    rw [mm_comm]; exact (pairM_other _ _ _ (by simp) (by simp)).symm
/-- no pair with a part through which nothing goes -/
def nf : Mi → Bool
  | .pair a b => decide (a ≠ .never) && decide (b ≠ .never) && nf a && nf b
  | .fn a b => nf a && nf b
  | .list a => nf a
  | _ => true
theorem nf_pairM {a b : Mi} (ha : nf a = true) (hb : nf b = true) : nf (pairM a b) = true := by
  unfold pairM
  split
  · rfl
  · rename_i h
    simp only [not_or] at h
    simp [nf, h.1, h.2, ha, hb]
theorem nf_mm : ∀ a b : Mi, nf a = true → nf b = true → nf (mm a b) = true := by
  intro a
  induction a with
  | any => intro b _ h; rw [mm_any_l]; exact h
  | fn a b ia ib =>
    intro c h k
    cases c <;> simp only [mm, nf, Bool.and_eq_true] at * <;> first | exact h | exact ⟨ia _ h.1 k.1, ib _ h.2 k.2⟩
  | pair a b ia ib =>
    intro c h k
    cases c <;> simp only [mm, nf, Bool.and_eq_true] at * <;> first | exact h | exact nf_pairM (ia _ h.1.2 k.1.2) (ib _ h.2 k.2)
  | list a ia =>
    intro c h k
    cases c <;> simp only [mm, nf] at * <;> first | exact h | exact ia _ h k
  | _ => intro b _ h; cases b <;> simp [mm, nf] at *
theorem mm_idem : ∀ a : Mi, nf a = true → mm a a = a
  | .any, _ | .int, _ | .bool, _ | .never, _ => rfl
  | .fn a b, h => by simp only [nf, Bool.and_eq_true] at h; simp [mm, mm_idem a h.1, mm_idem b h.2]
  | .pair a b, h => by
    simp only [nf, Bool.and_eq_true, decide_eq_true_eq] at h
    simp [mm, mm_idem a h.1.2, mm_idem b h.2, pairM, h.1.1.1, h.1.1.2]
  | .list a, h => by simp only [nf] at h; simp [mm, mm_idem a h]
theorem ty_ne (t : Ty) : tyM t ≠ .never := by cases t <;> simp [tyM]
theorem nf_ty : ∀ t : Ty, nf (tyM t) = true
  | .any | .int | .bool => rfl
  | .fn a b => by simp [tyM, nf, nf_ty a, nf_ty b]
  | .pair a b => by simp [tyM, nf, nf_ty a, nf_ty b, ty_ne]
  | .list a => by simp [tyM, nf, nf_ty a]
theorem pairM_dep (a b : Mi) : (pairM a b).dep ≤ max a.dep b.dep + 1 := by
  unfold pairM
  split <;> simp only [Mi.dep] <;> omega
theorem mi_pos (a : Mi) : 1 ≤ a.dep := by cases a <;> simp [Mi.dep]
theorem mm_dep : ∀ a b : Mi, (mm a b).dep ≤ max a.dep b.dep := by
  intro a
  induction a with
  | any => intro b; rw [mm_any_l]; omega
  | fn a b ia ib =>
    intro c
    cases c <;> simp only [mm, Mi.dep] <;> try omega
    rename_i c d
    have := ia c; have := ib d
    omega
  | pair a b ia ib =>
    intro c
    cases c <;> simp only [mm, Mi.dep] <;> try omega
    rename_i c d
    have := ia c; have := ib d; have := pairM_dep (mm a c) (mm b d)
    omega
  | list a ia =>
    intro c
    cases c <;> simp only [mm, Mi.dep] <;> try omega
    rename_i c
    have := ia c
    omega
  | _ => intro c; cases c <;> simp only [mm, Mi.dep] <;> omega
/-! ### what a middle tells -/
def tellsM : Mi → Ty → Bool
  | .never, _ => true
  | _, .any => true
  | .int, .int => true
  | .bool, .bool => true
  | .fn a b, .fn c d => tellsM a c && tellsM b d
  | .pair a b, .pair c d => tellsM a c && tellsM b d
  | .list a, .list c => tellsM a c
  | _, _ => false
theorem tells_ok {T : Tab} {ix : Nat → Nat} [B_threesomes_tells T ix] : ∀ (n : Nat) (a : Mi) (k : Ty) (st : Sto), a.dep ≤ n → T.call n (ix i_threesomes_tells) [encM a, enc k] st = .ok (.bl (tellsM a k)) st
  | 0, a, k, st, h => by cases a <;> simp [Mi.dep] at h
  | n + 1, a, k, st, h => by
    have ih := tells_ok (T := T) (ix := ix) n
    rw [r_threesomes_tells]
    unfold c_threesomes_tells
    cases a <;> cases k <;> simp [Mi.dep, Nat.max_le] at h <;> simp [tellsM, ih, h, e_eq_never]
theorem tells_pairM {a b : Mi} {k : Ty} (h : tellsM (.pair a b) k = true) : tellsM (pairM a b) k = true := by
  unfold pairM
  split
  · cases k <;> rfl
  · exact h
theorem tells_any (a : Mi) : tellsM a .any = true := by cases a <;> rfl
theorem tells_ty : ∀ a k : Ty, tellsM (tyM a) k = finer a k
  | .any, k => by cases k <;> rfl
  | .int, k => by cases k <;> rfl
  | .bool, k => by cases k <;> rfl
  | .fn a b, k => by cases k <;> simp [tyM, tellsM, finer, tells_ty a, tells_ty b]
  | .pair a b, k => by cases k <;> simp [tyM, tellsM, finer, tells_ty a, tells_ty b]
  | .list a, k => by cases k <;> simp [tyM, tellsM, finer, tells_ty a]
theorem tells_self (k : Ty) : tellsM (tyM k) k = true := by rw [tells_ty]; exact finer_refl k
theorem tells_left : ∀ (k : Ty) (x : Mi), tellsM (mm (tyM k) x) k = true
  | .any, x => tells_any _
  | .int, x => by cases x <;> rfl
  | .bool, x => by cases x <;> rfl
  | .fn a b, x => by
    cases x <;> simp [tyM, mm, tellsM, tells_left a, tells_left b, tells_self]
  | .pair a b, x => by
    cases x <;> simp [tyM, mm, tellsM, tells_self]
    exact tells_pairM (by simp [tellsM, tells_left a, tells_left b])
  | .list a, x => by
    cases x <;> simp [tyM, mm, tellsM, tells_left a, tells_self]
theorem tells_right (k : Ty) (x : Mi) : tellsM (mm x (tyM k)) k = true := by rw [mm_comm]; exact tells_left k x
/-! ### plain ones -/
def plainM : Mi → Bool
  | .never => false
  | .fn a b => plainM a && plainM b
  | .pair a b => plainM a && plainM b
  | .list a => plainM a
  | _ => true
theorem plainM_ok {T : Tab} {ix : Nat → Nat} [B_threesomes_is_plain_middle T ix] : ∀ (n : Nat) (a : Mi) (st : Sto), a.dep ≤ n → T.call n (ix i_threesomes_is_plain_middle) [encM a] st = .ok (.bl (plainM a)) st
  | 0, a, st, h => by cases a <;> simp [Mi.dep] at h
  | n + 1, a, st, h => by
    have ih := plainM_ok (T := T) (ix := ix) n
    rw [r_threesomes_is_plain_middle]
    unfold c_threesomes_is_plain_middle
    cases a <;> simp [Mi.dep, Nat.max_le] at h <;> simp [plainM, ih, h, e_ne_never]
theorem plain_ty : ∀ t : Ty, plainM (tyM t) = true
  | .any | .int | .bool => rfl
  | .fn a b => by simp [tyM, plainM, plain_ty a, plain_ty b]
  | .pair a b => by simp [tyM, plainM, plain_ty a, plain_ty b]
  | .list a => by simp [tyM, plainM, plain_ty a]
theorem plain_pairM (a b : Mi) : plainM (pairM a b) = (plainM a && plainM b) := by
  unfold pairM
  split
  · rename_i h
    rcases h with rfl | rfl <;> simp [plainM]
  · rfl
theorem not_plain : ∀ a b : Mi, plainM a = false → plainM (mm a b) = false := by
  intro a
  induction a with
  | fn a b ia ib =>
    intro c h
    cases c <;> simp only [mm, plainM, Bool.and_eq_false_iff] at * <;> first | exact h | rfl | exact h.imp (ia _) (ib _)
  | pair a b ia ib =>
    intro c h
    cases c <;> simp only [mm, plainM, plain_pairM, Bool.and_eq_false_iff] at * <;> first | exact h | rfl | exact h.imp (ia _) (ib _)
  | list a ia =>
    intro c h
    cases c <;> simp only [mm, plainM] at * <;> first | exact h | rfl | exact ia _ h
  | never => intro c _; rw [mm_never_l]; rfl
  | _ => intro c h; simp [plainM] at h
theorem meet_mm : ∀ a b : Ty, match meet a b with
    | some m => mm (tyM a) (tyM b) = tyM m
    | none => plainM (mm (tyM a) (tyM b)) = false
  | .any, b => by simp [meet, tyM, mm_any_l]
  | .int, b => by cases b <;> simp [meet, tyM, mm, plainM]
  | .bool, b => by cases b <;> simp [meet, tyM, mm, plainM]
  | .fn a c, b => by
    cases b <;> simp [meet, tyM, mm, plainM]
    rename_i x y
    have h1 := meet_mm a x
    have h2 := meet_mm c y
    cases q1 : meet a x <;> rw [q1] at h1 <;> cases q2 : meet c y <;> rw [q2] at h2 <;> simp only [both] at * <;> simp [h1, h2, tyM]
  | .pair a c, b => by
    cases b <;> simp [meet, tyM, mm, plainM]
    rename_i x y
    have h1 := meet_mm a x
    have h2 := meet_mm c y
    cases q1 : meet a x <;> rw [q1] at h1 <;> cases q2 : meet c y <;> rw [q2] at h2 <;> simp only [both] at * <;> simp [h1, h2, tyM, plain_pairM]
    simp [pairM, ty_ne]
  | .list a, b => by
    cases b <;> simp [meet, tyM, mm, plainM]
    rename_i x
    have h1 := meet_mm a x
    cases q1 : meet a x <;> rw [q1] at h1 <;> simp at * <;> simp [h1, tyM]
theorem meet_alike {a b : Ty} (h : alike a b = true) : ∃ m, meet a b = some m ∧ mm (tyM a) (tyM b) = tyM m := by
  have h1 := meet_mm a b
  have h2 := meet_some a b
  rw [h] at h2
  cases q : meet a b with
  | none => rw [q] at h2; cases h2
  | some m => rw [q] at h1; exact ⟨m, rfl, h1⟩

end BK

/-! LgG: what goes through middles; triples -/
namespace BK
open PySem PySem.Spec PyProof.Rows L2 RZ
@[simp] theorem dpK_nil {x : PV} : dPutK x [] = [x] := (rfl)
@[simp] theorem dpV_nil {x y : PV} : dPutV x y [] [] = [y] := (rfl)
theorem boolsOf_bl : ∀ bs : List Bool, boolsOf (bs.map PV.bl) = some bs
  | [] => rfl
  | b :: bs => by simp [boolsOf, boolsOf_bl bs]
theorem all_bl (bs : List Bool) {st : Sto} : Bf.f .all st [.lst (bs.map PV.bl)] = some (.bl (bs.all id)) := by
  show (boolsOf (bs.map PV.bl)).map _ = _
  rw [boolsOf_bl]
  rfl
def Vs.toL : Vs → List Va
  | .nil => []
  | .cons v l => v :: l.toL
theorem encVs_toL : ∀ l : Vs, encVs l = l.toL.map encV
  | .nil => rfl
  | .cons v l => by simp [encVs, Vs.toL, encVs_toL l]
/-- a comprehension over a list of data, with no test -/
theorem comp_list {i : Nat} {elt : EM} {ρ : PEnv} {st : Sto} {α : Type} {f : α → PV} {g : α → PV} : ∀ (xs : List α), (∀ x ∈ xs, elt (ρ.set i (.val (f x))) st = .ok (g x) st) → compGo (gNm i) bYes elt ρ (xs.map f) st = .ok (xs.map g) st
  | [], _ => rfl
  | x :: r, h => by
    have h0 := h x (by simp)
    have ih := comp_list (i := i) (elt := elt) (ρ := ρ) (st := st) (f := f) (g := g) r (fun y hy => h y (by simp [hy]))
    have e : compGo (gNm i) bYes elt ρ ((x :: r).map f) st = (elt (ρ.set i (.val (f x))) st).bind fun y st2 => (compGo (gNm i) bYes elt ρ (r.map f) st2).bind fun ys st3 => .ok (y :: ys) st3 := rfl
    rw [e, h0]
    show (compGo (gNm i) bYes elt ρ (r.map f) st).bind _ = _
    rw [ih]
    rfl
mutual
def goesM : Mi → Va → Bool
  | .any, _ => true
  | .int, .int _ => true
  | .bool, .bool _ => true
  | .pair a b, .pair x y => goesM a x && goesM b y
  | .list a, .items l => goesL a l
  | _, _ => false
def goesL : Mi → Vs → Bool
  | _, .nil => true
  | a, .cons v l => goesM a v && goesL a l
end
theorem goesL_all (a : Mi) : ∀ l : Vs, goesL a l = (l.toL.map (goesM a)).all id
  | .nil => rfl
  | .cons v l => by simp [goesL, Vs.toL, goesL_all a l]
theorem dep_mem : ∀ (l : Vs) (v : Va), v ∈ l.toL → v.dep ≤ l.dep
  | .nil, v, h => by simp [Vs.toL] at h
  | .cons w l, v, h => by
    simp only [Vs.toL, List.mem_cons] at h
    simp only [Vs.dep]
    rcases h with rfl | h
    · omega
    · have := dep_mem l v h; omega
theorem goes_ok {T : Tab} {ix : Nat → Nat} [B_threesomes_goes T ix] : ∀ (n : Nat) (v : Va) (a : Mi) (st : Sto), v.dep ≤ n → T.call n (ix i_threesomes_goes) [encV v, encM a] st = .ok (.bl (goesM a v)) st
  | 0, v, a, st, h => by have := va_pos v; omega
  | n + 1, v, a, st, h => by
    have ih := goes_ok (T := T) (ix := ix) n
    rw [r_threesomes_goes]
    unfold c_threesomes_goes
    cases v with
    | pair x y =>
      cases a <;> simp [Va.dep, Nat.max_le] at h <;> simp [goesM, ih, h, e_eq_never]
      rename_i a b
      cases goesM a x <;> simp
    | items l =>
      simp only [Va.dep] at h
      cases a with
      | list a =>
        have g := comp_list (i := 2) (ρ := [.val (encV (.items l)), .val (encM (.list a)), .no]) (st := st) (elt := mCall (T.call n (ix i_threesomes_goes)) (aCons (mVar 2) (aCons (mBinS opIx (mVar 1) (mC (.int 1))) aNil)) []) (f := encV) (g := fun v => PV.bl (goesM a v)) l.toL (fun x hx => by
          have := dep_mem l x hx
          simp [ih x a st (by omega)])
        rw [← encVs_toL] at g
        have ha := all_bl (l.toL.map (goesM a)) (st := st)
        rw [List.map_map] at ha
        have ha' : Bf.f .all st [.lst (l.toL.map fun v => PV.bl (goesM a v))] = _ := ha
        simp [goesM, g, ha', goesL_all]
      | _ => simp [goesM, e_eq_never]
    | _ => cases a <;> simp [goesM, e_eq_never]
mutual
theorem goes_mm : ∀ (v : Va) (a b : Mi), goesM (mm a b) v = (goesM a v && goesM b v)
  | .int i, a, b => by cases a <;> cases b <;> simp [mm, goesM] <;> (unfold pairM; split <;> rfl)
  | .bool i, a, b => by cases a <;> cases b <;> simp [mm, goesM] <;> (unfold pairM; split <;> rfl)
  | .tag _ _, a, b => by cases a <;> cases b <;> simp [mm, goesM] <;> (unfold pairM; split <;> rfl)
  | .pair x y, a, b => by
    cases a <;> cases b <;> simp [mm, goesM]
    rename_i a1 a2 b1 b2
    have h1 := goes_mm x a1 b1
    have h2 := goes_mm y a2 b2
    have e : goesM (pairM (mm a1 b1) (mm a2 b2)) (.pair x y) = (goesM (mm a1 b1) x && goesM (mm a2 b2) y) := by
      unfold pairM
      split
      · rename_i h
        rcases h with h | h <;> rw [h] <;> simp [goesM]
      · rfl
    rw [e, h1, h2]
    cases goesM a1 x <;> cases goesM b1 x <;> cases goesM a2 y <;> cases goesM b2 y <;> rfl
  | .items l, a, b => by
    cases a <;> cases b <;> simp [mm, goesM] <;> first | (exact goesL_mm l _ _) | (unfold pairM; split <;> rfl)
theorem goesL_mm : ∀ (l : Vs) (a b : Mi), goesL (mm a b) l = (goesL a l && goesL b l)
  | .nil, a, b => rfl
  | .cons v l, a, b => by
    simp only [goesL, goes_mm v a b, goesL_mm l a b]
    cases goesM a v <;> cases goesM b v <;> cases goesL a l <;> cases goesL b l <;> rfl
end
mutual
theorem goes_fit : ∀ (d : Ty) (v : Va), goesM (tyM d) (sh v) = fit d v
  | d, .tag _ v => by simp only [sh, fit]; exact goes_fit d v
  | d, .int i => by cases d <;> rfl
  | d, .bool i => by cases d <;> rfl
  | d, .pair x y => by cases d <;> simp [tyM, sh, goesM, fit, goes_fit]
  | d, .items l => by cases d <;> simp [tyM, sh, goesM, fit, goes_fitL]
theorem goes_fitL : ∀ (d : Ty) (l : Vs), goesL (tyM d) (shL l) = fitL d l
  | _, .nil => rfl
  | d, .cons v l => by simp only [shL, goesL, fitL, goes_fit d v, goes_fitL d l]
end
mutual
theorem has_fit : ∀ (k : Ty) (v : Va), has k v = true → fit k v = true
  | .any, v, _ => fits_any v
  | .int, .int _, _ => rfl
  | .bool, .bool _, _ => rfl
  | .pair a b, .pair x y, h => by
    simp only [has, Bool.and_eq_true] at h
    simp [fit, has_fit a x h.1, has_fit b y h.2]
  | .list a, .items l, h => by
    simp only [has] at h
    simp only [fit]
    exact has_fitL a l h
  | .int, .bool _, h | .int, .pair _ _, h | .int, .items _, h | .int, .tag _ _, h => by simp [has] at h
  | .bool, .int _, h | .bool, .pair _ _, h | .bool, .items _, h | .bool, .tag _ _, h => by simp [has] at h
  | .pair _ _, .int _, h | .pair _ _, .bool _, h | .pair _ _, .items _, h | .pair _ _, .tag _ _, h => by simp [has] at h
  | .list _, .int _, h | .list _, .bool _, h | .list _, .pair _ _, h | .list _, .tag _ _, h => by simp [has] at h
  | .fn _ _, .int _, h | .fn _ _, .bool _, h | .fn _ _, .pair _ _, h | .fn _ _, .items _, h | .fn _ _, .tag _ _, h => by simp [has] at h
theorem has_fitL : ∀ (k : Ty) (l : Vs), hasL k l = true → fitL k l = true
  | _, .nil, _ => rfl
  | k, .cons v l, h => by
    simp only [hasL, Bool.and_eq_true] at h
    simp [fitL, has_fit k v h.1, has_fitL k l h.2]
end
/-! ### what is left without the tags -/
theorem bare_ok {T : Tab} {ix : Nat → Nat} [B_law_bare T ix] : ∀ (n : Nat) (v : Va) (st : Sto), v.dep ≤ n → T.call n (ix i_law_bare) [encV v] st = .ok (encV (sh v)) st
  | 0, v, st, h => by have := va_pos v; omega
  | n + 1, v, st, h => by
    have ih := bare_ok (T := T) (ix := ix) n
    rw [r_law_bare]
    unfold c_law_bare
    cases v with
    | int i => simp [sh]
    | bool b => simp [sh]
    | tag g w => simp only [Va.dep] at h; simp [sh, ih w st (by omega)]
    | pair a b => simp only [Va.dep] at h; simp [sh, ih a st (by omega), ih b st (by omega)]
    | items l =>
      simp only [Va.dep] at h
      have g := comp_list (i := 1) (ρ := [.val (encV (.items l)), .no]) (st := st) (elt := mCall (T.call n (ix i_law_bare)) (aCons (mVar 1) aNil) []) (f := encV) (g := fun v => encV (sh v)) l.toL (fun x hx => by
        have := dep_mem l x hx
        simp [ih x st (by omega)])
      rw [← encVs_toL] at g
      have e : l.toL.map (fun v => encV (sh v)) = encVs (shL l) := by
        clear g h
        have : ∀ l : Vs, l.toL.map (fun v => encV (sh v)) = encVs (shL l) := fun l => by
          induction l using Vs.rec (motive_1 := fun _ => True) with
          | nil => rfl
          | cons v l _ i => simp [Vs.toL, shL, encVs, i]
          | _ => trivial
        exact this l
      rw [e] at g
      simp [sh, g]
mutual
theorem sh_dep : ∀ v : Va, (sh v).dep ≤ v.dep
  | .int _ | .bool _ => Nat.le_refl _
  | .pair a b => by have := sh_dep a; have := sh_dep b; simp only [sh, Va.dep]; omega
  | .items l => by have := shL_dep l; simp only [sh, Va.dep]; omega
  | .tag _ v => by have := sh_dep v; simp only [sh, Va.dep]; omega
theorem shL_dep : ∀ l : Vs, (shL l).dep ≤ l.dep
  | .nil => Nat.le_refl _
  | .cons v l => by have := sh_dep v; have := shL_dep l; simp only [shL, Vs.dep]; omega
end
/-! ### triples -/
structure Tr where
  a : Ty
  m : Mi
  b : Ty
def encT (t : Tr) : PV := .tup [enc t.a, encM t.m, enc t.b]
@[simp] theorem tx_0 {t : Tr} {st : Sto} : opIx st (encT t) (.int 0) = some (enc t.a) := (rfl)
@[simp] theorem tx_1 {t : Tr} {st : Sto} : opIx st (encT t) (.int 1) = some (encM t.m) := (rfl)
@[simp] theorem tx_2 {t : Tr} {st : Sto} : opIx st (encT t) (.int 2) = some (enc t.b) := (rfl)
@[simp] theorem tx_len {t : Tr} {st : Sto} : Bf.f .len st [encT t] = some (.int 3) := (rfl)
@[simp] theorem t_fold {a b : Ty} {m : Mi} : PV.tup [enc a, encM m, enc b] = encT ⟨a, m, b⟩ := (rfl)
theorem triple_ok {T : Tab} {ix : Nat → Nat} [B_threesomes_triple T ix] {n : Nat} {a b : Ty} {st : Sto} (hd : a.dep ≤ n) (h : alike a b = true) : T.call (n + 1) (ix i_threesomes_triple) [enc a, enc b] st = .ok (encT ⟨a, mm (tyM a) (tyM b), b⟩) st := by
  obtain ⟨m, h1, h2⟩ := meet_alike h
  have g := meet_ok (T := T) (ix := ix) n a b st hd
  rw [h1] at g
  rw [r_threesomes_triple]
  unfold c_threesomes_triple
  rw [h2]
  have e : encT ⟨a, tyM m, b⟩ = .tup [enc a, enc m, enc b] := by rw [← encM_ty m]; rfl
  simp [g, encO, e]
theorem joined_ok {T : Tab} {ix : Nat → Nat} [B_threesomes_joined T ix] {n : Nat} {x y : Tr} {st : Sto} (hd : x.m.dep ≤ n) : T.call (n + 1) (ix i_threesomes_joined) [encT x, encT y] st = .ok (encT ⟨x.a, mm x.m y.m, y.b⟩) st := by
  have g := mm_ok (T := T) (ix := ix) n x.m y.m st hd
  rw [r_threesomes_joined]
  unfold c_threesomes_joined
  simp [g]
/-- the middle of a chain -/
def midL (m : Mi) (ks : List Ty) : Mi := ks.foldl (fun m k => mm m (tyM k)) m
theorem mid_dep : ∀ (ks : List Ty) (m : Mi) (N : Nat), m.dep ≤ N → (∀ k ∈ ks, k.dep ≤ N) → (midL m ks).dep ≤ N
  | [], m, N, h, _ => h
  | k :: ks, m, N, h, hk => by
    refine mid_dep ks (mm m (tyM k)) N ?_ (fun x hx => hk x (by simp [hx]))
    have := mm_dep m (tyM k)
    have h2 := hk k (by simp)
    rw [tyM_dep] at this
    omega
theorem mid_nf : ∀ (ks : List Ty) (m : Mi), nf m = true → nf (midL m ks) = true
  | [], m, h => h
  | k :: ks, m, h => mid_nf ks _ (nf_mm m _ h (nf_ty k))
theorem mid_mm : ∀ (ks : List Ty) (x m : Mi), midL (mm x m) ks = mm x (midL m ks)
  | [], x, m => rfl
  | k :: ks, x, m => by
    show midL (mm (mm x m) (tyM k)) ks = mm x (midL (mm m (tyM k)) ks)
    rw [mm_assoc, mid_mm ks x (mm m (tyM k))]
theorem tells_first (k : Ty) (ks : List Ty) : tellsM (midL (tyM k) ks) k = true := by
  have h := mid_mm ks (tyM k) .any
  rw [mm_any_r] at h
  rw [h]
  exact tells_left k _
theorem tells_last : ∀ (ks : List Ty) (k : Ty) (m : Mi), tellsM m k = true → tellsM (midL m ks) (lastT k ks) = true
  | [], k, m, h => h
  | x :: ks, k, m, _ => tells_last ks x _ (tells_right x m)
/-- a fold that does not see doubled ones -/
theorem mm_absorb (x a b : Mi) (ha : nf a = true) : mm (mm x a) (mm a b) = mm (mm x a) b := by
  rw [mm_assoc x a (mm a b), ← mm_assoc a a b, mm_idem a ha, ← mm_assoc]
def zipK (a : Ty) : List Ty → List (Ty × Ty)
  | [] => []
  | b :: r => (a, b) :: zipK b r
theorem pairs_zipK : ∀ (a : Ty) (r : List Ty), pairs ((a :: r).map enc) (r.map enc) = (zipK a r).map fun p => .tup [enc p.1, enc p.2]
  | a, [] => by simp [zipK]
  | a, b :: r => by
    have h := pairs_zipK b r
    simp only [List.map_cons] at h ⊢
    rw [show pairs (enc a :: enc b :: r.map enc) (enc b :: r.map enc) = .tup [enc a, enc b] :: pairs (enc b :: r.map enc) (r.map enc) from rfl, h]
    rfl
theorem forGo_cons {t : GM} {b : SM} {x : PV} {xs : List PV} {ρ : SEnv} {st : Sto} {as : List (Nat × PV)} (h : t x = some as) : forGo t b (x :: xs) ρ st = (match b (setS ρ as) st with
      | .nx ρ1 st1 => forGo t b xs ρ1 st1
      | .ct ρ1 st1 => forGo t b xs ρ1 st1
      | .brk ρ1 st1 => .nx ρ1 st1
      | r => r) := by
  show (match t x with | none => SR.bad | some as => _) = _
  rw [h] <;> rfl
theorem joined_go {T : Tab} {ix : Nat → Nat} [B_threesomes_joined_all T ix] {n : Nat} {st : Sto} {s0 : Slot} {k0 : Ty} : ∀ (r : List Ty) (a : Ty) (m x : Mi) (s2 s3 : Slot), m = mm x (tyM a) → m.dep ≤ n + 1 → (∀ k ∈ a :: r, k.dep ≤ n + 1) → Linked (a :: r) →
    ∃ s2' s3', forGo (gTp (gsCons (gNm 2) (gsCons (gNm 3) gsNil))) (c_threesomes_joined_all_1b ix (T.call (n + 2))) ((zipK a r).map fun p => .tup [enc p.1, enc p.2]) [s0, .val (encT ⟨k0, m, a⟩), s2, s3] st = .nx [s0, .val (encT ⟨k0, midL m r, lastT a r⟩), s2', s3'] st
  | [], a, m, x, s2, s3, _, _, _, _ => ⟨s2, s3, rfl⟩
  | b :: r, a, m, x, s2, s3, hm, hd, hk, hl => by
    have ha := hk a (by simp)
    have hb := hk b (by simp)
    have t := triple_ok (T := T) (ix := ix) (st := st) (n := n + 1) ha hl.1
    have j := joined_ok (T := T) (ix := ix) (n := n + 1) (x := ⟨k0, m, a⟩) (y := ⟨a, mm (tyM a) (tyM b), b⟩) (st := st) hd
    have e : mm m (mm (tyM a) (tyM b)) = mm m (tyM b) := by rw [hm]; exact mm_absorb x _ _ (nf_ty a)
    simp only [e] at j
    have hd2 : (mm m (tyM b)).dep ≤ n + 1 := by have := mm_dep m (tyM b); rw [tyM_dep] at this; omega
    obtain ⟨s2', s3', g⟩ := joined_go (T := T) (ix := ix) (n := n) (st := st) (s0 := s0) (k0 := k0) r b (mm m (tyM b)) m (.val (enc a)) (.val (enc b)) rfl hd2 (fun k h => hk k (by simp [h])) hl.2
    refine ⟨s2', s3', ?_⟩
    rw [show (zipK a (b :: r)).map (fun p => PV.tup [enc p.1, enc p.2]) = .tup [enc a, enc b] :: (zipK b r).map (fun p => PV.tup [enc p.1, enc p.2]) from rfl, forGo_cons (as := [(2, enc a), (3, enc b)]) rfl]
    have B : c_threesomes_joined_all_1b ix (T.call (n + 2)) (setS [s0, .val (encT ⟨k0, m, a⟩), s2, s3] [(2, enc a), (3, enc b)]) st = .nx [s0, .val (encT ⟨k0, mm m (tyM b), b⟩), .val (enc a), .val (enc b)] st := by
      simp [c_threesomes_joined_all_1b, c_threesomes_joined_all_1_0, setS, t, j]
    rw [B]
    exact g
theorem joinedAll_ok {T : Tab} {ix : Nat → Nat} [B_threesomes_joined_all T ix] {n : Nat} {st : Sto} {a : Ty} {r : List Ty} (hk : ∀ k ∈ a :: r, k.dep ≤ n + 1) (hl : Linked (a :: r)) :
    T.call (n + 3) (ix i_threesomes_joined_all) [.lst ((a :: r).map enc)] st = .ok (encT ⟨a, midL (tyM a) r, lastT a r⟩) st := by
  have ha := hk a (by simp)
  have t := triple_ok (T := T) (ix := ix) (st := st) (n := n + 1) ha (alike_refl a)
  rw [mm_idem _ (nf_ty a)] at t
  obtain ⟨s2', s3', g⟩ := joined_go (T := T) (ix := ix) (n := n) (st := st) (s0 := .val (.lst ((a :: r).map enc))) (k0 := a) r a (tyM a) (tyM a) .no .no (mm_idem _ (nf_ty a)).symm (by rw [tyM_dep]; exact ha) hk hl
  rw [r_threesomes_joined_all]
  unfold c_threesomes_joined_all
  have pz := pairs_zipK a r
  simp only [List.map_cons] at g pz ⊢
  simp [c_threesomes_joined_all_0, c_threesomes_joined_all_1, c_threesomes_joined_all_2, t, pz, g]
theorem isTriple_ok {T : Tab} {ix : Nat → Nat} [B_threesomes_is_triple T ix] {n : Nat} {t : Tr} {st : Sto} (hd : t.m.dep ≤ n) : T.call (n + 1) (ix i_threesomes_is_triple) [encT t] st = .ok (.bl (tellsM t.m t.a && tellsM t.m t.b)) st := by
  have g1 := tells_ok (T := T) (ix := ix) n t.m t.a st hd
  have g2 := tells_ok (T := T) (ix := ix) n t.m t.b st hd
  rw [r_threesomes_is_triple]
  unfold c_threesomes_is_triple
  cases q : tellsM t.m t.a <;> rw [q] at g1 <;> simp [g1, g2]
/-! ### the meet of all -/
def leastO : Option Ty → List Ty → Option Ty
  | o, [] => o
  | o, k :: ks => leastO (o.bind fun x => meet x k) ks
theorem least_go {T : Tab} {ix : Nat → Nat} [B_threesomes_least_middle T ix] {n : Nat} {st : Sto} {s0 : Slot} : ∀ (r : List Ty) (o : Option Ty) (s2 : Slot), (∀ t, o = some t → t.dep ≤ n) → (∀ k ∈ r, k.dep ≤ n) →
    ∃ s2', forGo (gNm 2) (c_threesomes_least_middle_1b ix (T.call n)) (r.map enc) [s0, .val (encO o), s2] st = .nx [s0, .val (encO (leastO o r)), s2'] st
  | [], o, s2, _, _ => ⟨s2, rfl⟩
  | k :: r, o, s2, ho, hk => by
    have hkd := hk k (by simp)
    have ho2 : ∀ t, (o.bind fun x => meet x k) = some t → t.dep ≤ n := fun t ht => by
      rw [Option.bind_eq_some_iff] at ht
      obtain ⟨x, h1, h2⟩ := ht
      have := ho x h1
      have := meet_dep x k t h2
      omega
    obtain ⟨s2', g⟩ := least_go (T := T) (ix := ix) (n := n) (st := st) (s0 := s0) r (o.bind fun x => meet x k) (.val (enc k)) ho2 (fun x hx => hk x (by simp [hx]))
    refine ⟨s2', ?_⟩
    rw [show (k :: r).map enc = enc k :: r.map enc from rfl, forGo_cons (as := [(2, enc k)]) rfl]
    have B : c_threesomes_least_middle_1b ix (T.call n) (setS [s0, .val (encO o), s2] [(2, enc k)]) st = .nx [s0, .val (encO (o.bind fun x => meet x k)), .val (enc k)] st := by
      cases o with
      | none => simp [c_threesomes_least_middle_1b, c_threesomes_least_middle_1_0, setS]
      | some x =>
        have m := meet_ok (T := T) (ix := ix) n x k st (ho x rfl)
        simp [c_threesomes_least_middle_1b, c_threesomes_least_middle_1_0, setS, isN_enc, m]
    rw [B]
    exact g
theorem least_ok {T : Tab} {ix : Nat → Nat} [B_threesomes_least_middle T ix] {n : Nat} {st : Sto} {a : Ty} {r : List Ty} (hk : ∀ k ∈ a :: r, k.dep ≤ n) :
    T.call (n + 1) (ix i_threesomes_least_middle) [.lst ((a :: r).map enc)] st = .ok (encO (leastO (some a) r)) st := by
  obtain ⟨s2', g⟩ := least_go (T := T) (ix := ix) (n := n) (st := st) (s0 := .val (.lst ((a :: r).map enc))) r (some a) .no (fun t h => by cases h; exact hk a (by simp)) (fun k h => hk k (by simp [h]))
  rw [r_threesomes_least_middle]
  unfold c_threesomes_least_middle
  simp only [List.map_cons, o_some] at g ⊢
  simp [c_threesomes_least_middle_0, c_threesomes_least_middle_1, c_threesomes_least_middle_2, g]
theorem least_none : ∀ ks : List Ty, leastO none ks = none
  | [] => rfl
  | k :: ks => least_none ks
theorem mid_notplain : ∀ (ks : List Ty) (m : Mi), plainM m = false → plainM (midL m ks) = false
  | [], m, h => h
  | k :: ks, m, h => mid_notplain ks _ (not_plain m _ h)
theorem least_mid : ∀ (ks : List Ty) (t : Ty), match leastO (some t) ks with
    | some u => midL (tyM t) ks = tyM u ∧ finer u t = true ∧ ∀ k ∈ ks, finer u k = true
    | none => plainM (midL (tyM t) ks) = false
  | [], t => by exact ⟨rfl, finer_refl t, fun k h => by simp at h⟩
  | k :: ks, t => by
    have h := meet_mm t k
    show match leastO (meet t k) ks with
      | some u => midL (mm (tyM t) (tyM k)) ks = tyM u ∧ finer u t = true ∧ ∀ x ∈ k :: ks, finer u x = true
      | none => plainM (midL (mm (tyM t) (tyM k)) ks) = false
    cases q : meet t k with
    | none =>
      rw [q] at h
      rw [least_none]
      exact mid_notplain ks _ h
    | some m =>
      rw [q] at h
      simp only at h
      rw [h]
      have ih := least_mid ks m
      cases q2 : leastO (some m) ks with
      | none => rw [q2] at ih; exact ih
      | some u =>
        rw [q2] at ih
        obtain ⟨i1, i2, i3⟩ := ih
        refine ⟨i1, finer_trans u m t i2 (meet_le t k m q), fun x hx => ?_⟩
        rcases List.mem_cons.mp hx with rfl | hx
        · exact finer_trans u m x i2 (by rw [meet_symm] at q; exact meet_le x t m q)
        · exact i3 x hx
theorem finest_ok {T : Tab} {ix : Nat → Nat} [B_threesomes_is_finest T ix] {n : Nat} {st : Sto} {m : Ty} {ks : List Ty} (hd : m.dep ≤ n) : T.call (n + 1) (ix i_threesomes_is_finest) [enc m, .lst (ks.map enc)] st = .ok (.bl ((ks.map (finer m)).all id)) st := by
  have g := comp_list (i := 2) (ρ := [.val (enc m), .val (.lst (ks.map enc)), .no]) (st := st) (elt := mCall (T.call n (ix i_relations_finer)) (aCons (mVar 0) (aCons (mVar 2) aNil)) []) (f := enc) (g := fun k => PV.bl (finer m k)) ks (fun x hx => by
    have f := finer_ok (T := T) (ix := ix) n m x st hd
    simp [f])
  have ha := all_bl (ks.map (finer m)) (st := st)
  rw [List.map_map] at ha
  have ha' : Bf.f .all st [.lst (ks.map fun k => PV.bl (finer m k))] = _ := ha
  rw [r_threesomes_is_finest]
  unfold c_threesomes_is_finest
  simp [g, ha']
end BK

/-! LgK: contracts of types -/
namespace BK
open PySem PySem.Spec PyProof.Rows L2 RZ
@[simp] theorem w_all_all : (("all" : Str) == ("all" : Str)) = true := by decide +kernel
@[simp] theorem w_all_is : (("all" : Str) == ("is" : Str)) = false := by decide +kernel
@[simp] theorem w_all_to : (("all" : Str) == ("to" : Str)) = false := by decide +kernel
@[simp] theorem w_all_both : (("all" : Str) == ("both" : Str)) = false := by decide +kernel
@[simp] theorem w_all_each : (("all" : Str) == ("each" : Str)) = false := by decide +kernel
@[simp] theorem w_all_guarded : (("all" : Str) == ("guarded" : Str)) = false := by decide +kernel
@[simp] theorem w_all_int : (("all" : Str) == ("int" : Str)) = false := by decide +kernel
@[simp] theorem w_int_all : (("int" : Str) == ("all" : Str)) = false := by decide +kernel
@[simp] theorem w_all_bool : (("all" : Str) == ("bool" : Str)) = false := by decide +kernel
@[simp] theorem w_bool_all : (("bool" : Str) == ("all" : Str)) = false := by decide +kernel
@[simp] theorem w_all_pair : (("all" : Str) == ("pair" : Str)) = false := by decide +kernel
@[simp] theorem w_pair_all : (("pair" : Str) == ("all" : Str)) = false := by decide +kernel
@[simp] theorem w_all_items : (("all" : Str) == ("items" : Str)) = false := by decide +kernel
@[simp] theorem w_items_all : (("items" : Str) == ("all" : Str)) = false := by decide +kernel
@[simp] theorem w_all_tag : (("all" : Str) == ("tag" : Str)) = false := by decide +kernel
@[simp] theorem w_tag_all : (("tag" : Str) == ("all" : Str)) = false := by decide +kernel
@[simp] theorem w_all_ok : (("all" : Str) == ("ok" : Str)) = false := by decide +kernel
@[simp] theorem w_ok_all : (("ok" : Str) == ("all" : Str)) = false := by decide +kernel
@[simp] theorem w_all_blame : (("all" : Str) == ("blame" : Str)) = false := by decide +kernel
@[simp] theorem w_blame_all : (("blame" : Str) == ("all" : Str)) = false := by decide +kernel
@[simp] theorem w_all_any : (("all" : Str) == ("any" : Str)) = false := by decide +kernel
@[simp] theorem w_any_all : (("any" : Str) == ("all" : Str)) = false := by decide +kernel
@[simp] theorem w_all_p : (("all" : Str) == ("p" : Str)) = false := by decide +kernel
@[simp] theorem w_p_all : (("p" : Str) == ("all" : Str)) = false := by decide +kernel
@[simp] theorem w_all_fn : (("all" : Str) == ("fn" : Str)) = false := by decide +kernel
@[simp] theorem w_fn_all : (("fn" : Str) == ("all" : Str)) = false := by decide +kernel
@[simp] theorem w_all_list : (("all" : Str) == ("list" : Str)) = false := by decide +kernel
@[simp] theorem w_list_all : (("list" : Str) == ("all" : Str)) = false := by decide +kernel
@[simp] theorem w_is_all : (("is" : Str) == ("all" : Str)) = false := by decide +kernel
@[simp] theorem w_is_is : (("is" : Str) == ("is" : Str)) = true := by decide +kernel
@[simp] theorem w_is_to : (("is" : Str) == ("to" : Str)) = false := by decide +kernel
@[simp] theorem w_is_both : (("is" : Str) == ("both" : Str)) = false := by decide +kernel
@[simp] theorem w_is_each : (("is" : Str) == ("each" : Str)) = false := by decide +kernel
@[simp] theorem w_is_guarded : (("is" : Str) == ("guarded" : Str)) = false := by decide +kernel
@[simp] theorem w_is_int : (("is" : Str) == ("int" : Str)) = false := by decide +kernel
@[simp] theorem w_int_is : (("int" : Str) == ("is" : Str)) = false := by decide +kernel
@[simp] theorem w_is_bool : (("is" : Str) == ("bool" : Str)) = false := by decide +kernel
@[simp] theorem w_bool_is : (("bool" : Str) == ("is" : Str)) = false := by decide +kernel
@[simp] theorem w_is_pair : (("is" : Str) == ("pair" : Str)) = false := by decide +kernel
@[simp] theorem w_pair_is : (("pair" : Str) == ("is" : Str)) = false := by decide +kernel
@[simp] theorem w_is_items : (("is" : Str) == ("items" : Str)) = false := by decide +kernel
@[simp] theorem w_items_is : (("items" : Str) == ("is" : Str)) = false := by decide +kernel
@[simp] theorem w_is_tag : (("is" : Str) == ("tag" : Str)) = false := by decide +kernel
@[simp] theorem w_tag_is : (("tag" : Str) == ("is" : Str)) = false := by decide +kernel
@[simp] theorem w_is_ok : (("is" : Str) == ("ok" : Str)) = false := by decide +kernel
@[simp] theorem w_ok_is : (("ok" : Str) == ("is" : Str)) = false := by decide +kernel
@[simp] theorem w_is_blame : (("is" : Str) == ("blame" : Str)) = false := by decide +kernel
@[simp] theorem w_blame_is : (("blame" : Str) == ("is" : Str)) = false := by decide +kernel
@[simp] theorem w_is_any : (("is" : Str) == ("any" : Str)) = false := by decide +kernel
@[simp] theorem w_any_is : (("any" : Str) == ("is" : Str)) = false := by decide +kernel
@[simp] theorem w_is_p : (("is" : Str) == ("p" : Str)) = false := by decide +kernel
@[simp] theorem w_p_is : (("p" : Str) == ("is" : Str)) = false := by decide +kernel
@[simp] theorem w_is_fn : (("is" : Str) == ("fn" : Str)) = false := by decide +kernel
@[simp] theorem w_fn_is : (("fn" : Str) == ("is" : Str)) = false := by decide +kernel
@[simp] theorem w_is_list : (("is" : Str) == ("list" : Str)) = false := by decide +kernel
@[simp] theorem w_list_is : (("list" : Str) == ("is" : Str)) = false := by decide +kernel
@[simp] theorem w_to_all : (("to" : Str) == ("all" : Str)) = false := by decide +kernel
@[simp] theorem w_to_is : (("to" : Str) == ("is" : Str)) = false := by decide +kernel
@[simp] theorem w_to_to : (("to" : Str) == ("to" : Str)) = true := by decide +kernel
@[simp] theorem w_to_both : (("to" : Str) == ("both" : Str)) = false := by decide +kernel
@[simp] theorem w_to_each : (("to" : Str) == ("each" : Str)) = false := by decide +kernel
@[simp] theorem w_to_guarded : (("to" : Str) == ("guarded" : Str)) = false := by decide +kernel
@[simp] theorem w_to_int : (("to" : Str) == ("int" : Str)) = false := by decide +kernel
@[simp] theorem w_int_to : (("int" : Str) == ("to" : Str)) = false := by decide +kernel
@[simp] theorem w_to_bool : (("to" : Str) == ("bool" : Str)) = false := by decide +kernel
@[simp] theorem w_bool_to : (("bool" : Str) == ("to" : Str)) = false := by decide +kernel
@[simp] theorem w_to_pair : (("to" : Str) == ("pair" : Str)) = false := by decide +kernel
@[simp] theorem w_pair_to : (("pair" : Str) == ("to" : Str)) = false := by decide +kernel
@[simp] theorem w_to_items : (("to" : Str) == ("items" : Str)) = false := by decide +kernel
@[simp] theorem w_items_to : (("items" : Str) == ("to" : Str)) = false := by decide +kernel
@[simp] theorem w_to_tag : (("to" : Str) == ("tag" : Str)) = false := by decide +kernel
@[simp] theorem w_tag_to : (("tag" : Str) == ("to" : Str)) = false := by decide +kernel
@[simp] theorem w_to_ok : (("to" : Str) == ("ok" : Str)) = false := by decide +kernel
@[simp] theorem w_ok_to : (("ok" : Str) == ("to" : Str)) = false := by decide +kernel
@[simp] theorem w_to_blame : (("to" : Str) == ("blame" : Str)) = false := by decide +kernel
@[simp] theorem w_blame_to : (("blame" : Str) == ("to" : Str)) = false := by decide +kernel
@[simp] theorem w_to_any : (("to" : Str) == ("any" : Str)) = false := by decide +kernel
@[simp] theorem w_any_to : (("any" : Str) == ("to" : Str)) = false := by decide +kernel
@[simp] theorem w_to_p : (("to" : Str) == ("p" : Str)) = false := by decide +kernel
@[simp] theorem w_p_to : (("p" : Str) == ("to" : Str)) = false := by decide +kernel
@[simp] theorem w_to_fn : (("to" : Str) == ("fn" : Str)) = false := by decide +kernel
@[simp] theorem w_fn_to : (("fn" : Str) == ("to" : Str)) = false := by decide +kernel
@[simp] theorem w_to_list : (("to" : Str) == ("list" : Str)) = false := by decide +kernel
@[simp] theorem w_list_to : (("list" : Str) == ("to" : Str)) = false := by decide +kernel
@[simp] theorem w_both_all : (("both" : Str) == ("all" : Str)) = false := by decide +kernel
@[simp] theorem w_both_is : (("both" : Str) == ("is" : Str)) = false := by decide +kernel
@[simp] theorem w_both_to : (("both" : Str) == ("to" : Str)) = false := by decide +kernel
@[simp] theorem w_both_both : (("both" : Str) == ("both" : Str)) = true := by decide +kernel
@[simp] theorem w_both_each : (("both" : Str) == ("each" : Str)) = false := by decide +kernel
@[simp] theorem w_both_guarded : (("both" : Str) == ("guarded" : Str)) = false := by decide +kernel
@[simp] theorem w_both_int : (("both" : Str) == ("int" : Str)) = false := by decide +kernel
@[simp] theorem w_int_both : (("int" : Str) == ("both" : Str)) = false := by decide +kernel
@[simp] theorem w_both_bool : (("both" : Str) == ("bool" : Str)) = false := by decide +kernel
@[simp] theorem w_bool_both : (("bool" : Str) == ("both" : Str)) = false := by decide +kernel
@[simp] theorem w_both_pair : (("both" : Str) == ("pair" : Str)) = false := by decide +kernel
@[simp] theorem w_pair_both : (("pair" : Str) == ("both" : Str)) = false := by decide +kernel
@[simp] theorem w_both_items : (("both" : Str) == ("items" : Str)) = false := by decide +kernel
@[simp] theorem w_items_both : (("items" : Str) == ("both" : Str)) = false := by decide +kernel
@[simp] theorem w_both_tag : (("both" : Str) == ("tag" : Str)) = false := by decide +kernel
@[simp] theorem w_tag_both : (("tag" : Str) == ("both" : Str)) = false := by decide +kernel
@[simp] theorem w_both_ok : (("both" : Str) == ("ok" : Str)) = false := by decide +kernel
@[simp] theorem w_ok_both : (("ok" : Str) == ("both" : Str)) = false := by decide +kernel
@[simp] theorem w_both_blame : (("both" : Str) == ("blame" : Str)) = false := by decide +kernel
@[simp] theorem w_blame_both : (("blame" : Str) == ("both" : Str)) = false := by decide +kernel
@[simp] theorem w_both_any : (("both" : Str) == ("any" : Str)) = false := by decide +kernel
@[simp] theorem w_any_both : (("any" : Str) == ("both" : Str)) = false := by decide +kernel
@[simp] theorem w_both_p : (("both" : Str) == ("p" : Str)) = false := by decide +kernel
@[simp] theorem w_p_both : (("p" : Str) == ("both" : Str)) = false := by decide +kernel
@[simp] theorem w_both_fn : (("both" : Str) == ("fn" : Str)) = false := by decide +kernel
@[simp] theorem w_fn_both : (("fn" : Str) == ("both" : Str)) = false := by decide +kernel
@[simp] theorem w_both_list : (("both" : Str) == ("list" : Str)) = false := by decide +kernel
@[simp] theorem w_list_both : (("list" : Str) == ("both" : Str)) = false := by decide +kernel
@[simp] theorem w_each_all : (("each" : Str) == ("all" : Str)) = false := by decide +kernel
@[simp] theorem w_each_is : (("each" : Str) == ("is" : Str)) = false := by decide +kernel
@[simp] theorem w_each_to : (("each" : Str) == ("to" : Str)) = false := by decide +kernel
@[simp] theorem w_each_both : (("each" : Str) == ("both" : Str)) = false := by decide +kernel
@[simp] theorem w_each_each : (("each" : Str) == ("each" : Str)) = true := by decide +kernel
@[simp] theorem w_each_guarded : (("each" : Str) == ("guarded" : Str)) = false := by decide +kernel
@[simp] theorem w_each_int : (("each" : Str) == ("int" : Str)) = false := by decide +kernel
@[simp] theorem w_int_each : (("int" : Str) == ("each" : Str)) = false := by decide +kernel
@[simp] theorem w_each_bool : (("each" : Str) == ("bool" : Str)) = false := by decide +kernel
@[simp] theorem w_bool_each : (("bool" : Str) == ("each" : Str)) = false := by decide +kernel
@[simp] theorem w_each_pair : (("each" : Str) == ("pair" : Str)) = false := by decide +kernel
@[simp] theorem w_pair_each : (("pair" : Str) == ("each" : Str)) = false := by decide +kernel
@[simp] theorem w_each_items : (("each" : Str) == ("items" : Str)) = false := by decide +kernel
@[simp] theorem w_items_each : (("items" : Str) == ("each" : Str)) = false := by decide +kernel
@[simp] theorem w_each_tag : (("each" : Str) == ("tag" : Str)) = false := by decide +kernel
@[simp] theorem w_tag_each : (("tag" : Str) == ("each" : Str)) = false := by decide +kernel
@[simp] theorem w_each_ok : (("each" : Str) == ("ok" : Str)) = false := by decide +kernel
@[simp] theorem w_ok_each : (("ok" : Str) == ("each" : Str)) = false := by decide +kernel
@[simp] theorem w_each_blame : (("each" : Str) == ("blame" : Str)) = false := by decide +kernel
@[simp] theorem w_blame_each : (("blame" : Str) == ("each" : Str)) = false := by decide +kernel
@[simp] theorem w_each_any : (("each" : Str) == ("any" : Str)) = false := by decide +kernel
@[simp] theorem w_any_each : (("any" : Str) == ("each" : Str)) = false := by decide +kernel
@[simp] theorem w_each_p : (("each" : Str) == ("p" : Str)) = false := by decide +kernel
@[simp] theorem w_p_each : (("p" : Str) == ("each" : Str)) = false := by decide +kernel
@[simp] theorem w_each_fn : (("each" : Str) == ("fn" : Str)) = false := by decide +kernel
@[simp] theorem w_fn_each : (("fn" : Str) == ("each" : Str)) = false := by decide +kernel
@[simp] theorem w_each_list : (("each" : Str) == ("list" : Str)) = false := by decide +kernel
@[simp] theorem w_list_each : (("list" : Str) == ("each" : Str)) = false := by decide +kernel
@[simp] theorem w_guarded_all : (("guarded" : Str) == ("all" : Str)) = false := by decide +kernel
@[simp] theorem w_guarded_is : (("guarded" : Str) == ("is" : Str)) = false := by decide +kernel
@[simp] theorem w_guarded_to : (("guarded" : Str) == ("to" : Str)) = false := by decide +kernel
@[simp] theorem w_guarded_both : (("guarded" : Str) == ("both" : Str)) = false := by decide +kernel
@[simp] theorem w_guarded_each : (("guarded" : Str) == ("each" : Str)) = false := by decide +kernel
@[simp] theorem w_guarded_guarded : (("guarded" : Str) == ("guarded" : Str)) = true := by decide +kernel
@[simp] theorem w_guarded_int : (("guarded" : Str) == ("int" : Str)) = false := by decide +kernel
@[simp] theorem w_int_guarded : (("int" : Str) == ("guarded" : Str)) = false := by decide +kernel
@[simp] theorem w_guarded_bool : (("guarded" : Str) == ("bool" : Str)) = false := by decide +kernel
@[simp] theorem w_bool_guarded : (("bool" : Str) == ("guarded" : Str)) = false := by decide +kernel
@[simp] theorem w_guarded_pair : (("guarded" : Str) == ("pair" : Str)) = false := by decide +kernel
@[simp] theorem w_pair_guarded : (("pair" : Str) == ("guarded" : Str)) = false := by decide +kernel
@[simp] theorem w_guarded_items : (("guarded" : Str) == ("items" : Str)) = false := by decide +kernel
@[simp] theorem w_items_guarded : (("items" : Str) == ("guarded" : Str)) = false := by decide +kernel
@[simp] theorem w_guarded_tag : (("guarded" : Str) == ("tag" : Str)) = false := by decide +kernel
@[simp] theorem w_tag_guarded : (("tag" : Str) == ("guarded" : Str)) = false := by decide +kernel
@[simp] theorem w_guarded_ok : (("guarded" : Str) == ("ok" : Str)) = false := by decide +kernel
@[simp] theorem w_ok_guarded : (("ok" : Str) == ("guarded" : Str)) = false := by decide +kernel
@[simp] theorem w_guarded_blame : (("guarded" : Str) == ("blame" : Str)) = false := by decide +kernel
@[simp] theorem w_blame_guarded : (("blame" : Str) == ("guarded" : Str)) = false := by decide +kernel
@[simp] theorem w_guarded_any : (("guarded" : Str) == ("any" : Str)) = false := by decide +kernel
@[simp] theorem w_any_guarded : (("any" : Str) == ("guarded" : Str)) = false := by decide +kernel
@[simp] theorem w_guarded_p : (("guarded" : Str) == ("p" : Str)) = false := by decide +kernel
@[simp] theorem w_p_guarded : (("p" : Str) == ("guarded" : Str)) = false := by decide +kernel
@[simp] theorem w_guarded_fn : (("guarded" : Str) == ("fn" : Str)) = false := by decide +kernel
@[simp] theorem w_fn_guarded : (("fn" : Str) == ("guarded" : Str)) = false := by decide +kernel
@[simp] theorem w_guarded_list : (("guarded" : Str) == ("list" : Str)) = false := by decide +kernel
@[simp] theorem w_list_guarded : (("list" : Str) == ("guarded" : Str)) = false := by decide +kernel
/-- the contract of a type -/
def kt : Ty → PV
  | .any => .tup [.str "all"]
  | .int => .tup [.str "is", .str "int"]
  | .bool => .tup [.str "is", .str "bool"]
  | .fn a b => .tup [.str "to", kt a, kt b]
  | .pair a b => .tup [.str "both", kt a, kt b]
  | .list a => .tup [.str "each", kt a]
@[simp] theorem k_any : PV.tup [.str "all"] = kt .any := (rfl)
@[simp] theorem k_int : PV.tup [.str "is", .str "int"] = kt .int := (rfl)
@[simp] theorem k_bool : PV.tup [.str "is", .str "bool"] = kt .bool := (rfl)
@[simp] theorem k_fn {a b : Ty} : PV.tup [.str "to", kt a, kt b] = kt (.fn a b) := (rfl)
@[simp] theorem k_pair {a b : Ty} : PV.tup [.str "both", kt a, kt b] = kt (.pair a b) := (rfl)
@[simp] theorem k_list {a : Ty} : PV.tup [.str "each", kt a] = kt (.list a) := (rfl)
@[simp] theorem vs_pair {x y : Va} : opSl (encV (.pair x y)) (some 1) none = some (.tup [encV x, encV y]) := sl1
@[simp] theorem kx0_any {st : Sto} : opIx st (kt .any) (.int 0) = some (.str "all") := (rfl)
@[simp] theorem kx0_int {st : Sto} : opIx st (kt .int) (.int 0) = some (.str "is") := (rfl)
@[simp] theorem kx1_int {st : Sto} : opIx st (kt .int) (.int 1) = some (.str "int") := (rfl)
@[simp] theorem kx0_bool {st : Sto} : opIx st (kt .bool) (.int 0) = some (.str "is") := (rfl)
@[simp] theorem kx1_bool {st : Sto} : opIx st (kt .bool) (.int 1) = some (.str "bool") := (rfl)
@[simp] theorem kx0_fn {a b : Ty} {st : Sto} : opIx st (kt (.fn a b)) (.int 0) = some (.str "to") := (rfl)
@[simp] theorem kx1_fn {a b : Ty} {st : Sto} : opIx st (kt (.fn a b)) (.int 1) = some (kt a) := (rfl)
@[simp] theorem kx2_fn {a b : Ty} {st : Sto} : opIx st (kt (.fn a b)) (.int 2) = some (kt b) := (rfl)
@[simp] theorem kx0_pair {a b : Ty} {st : Sto} : opIx st (kt (.pair a b)) (.int 0) = some (.str "both") := (rfl)
@[simp] theorem kx1_pair {a b : Ty} {st : Sto} : opIx st (kt (.pair a b)) (.int 1) = some (kt a) := (rfl)
@[simp] theorem kx2_pair {a b : Ty} {st : Sto} : opIx st (kt (.pair a b)) (.int 2) = some (kt b) := (rfl)
@[simp] theorem kx0_list {a : Ty} {st : Sto} : opIx st (kt (.list a)) (.int 0) = some (.str "each") := (rfl)
@[simp] theorem kx1_list {a : Ty} {st : Sto} : opIx st (kt (.list a)) (.int 1) = some (kt a) := (rfl)
@[simp] theorem ks_pair {a b : Ty} : opSl (kt (.pair a b)) (some 1) none = some (.tup [kt a, kt b]) := sl1
@[simp] theorem ks_list {a : Ty} : opSl (kt (.list a)) (some 1) none = some (.tup [kt a]) := sl1
@[simp] theorem kmk_fn {a b : Ty} : opAdd (.tup [.str "to"]) (.tup [kt a, kt b]) = some (kt (.fn a b)) := add12
@[simp] theorem kmk_pair {a b : Ty} : opAdd (.tup [.str "both"]) (.tup [kt a, kt b]) = some (kt (.pair a b)) := add12
@[simp] theorem kmk_list {a : Ty} : opAdd (.tup [.str "each"]) (.tup [kt a]) = some (kt (.list a)) := add11
theorem kt_plain : ∀ a : Ty, (kt a).plain = true
  | .any | .int | .bool => rfl
  | .fn a b => by show PV.plain (.tup [.str "to", kt a, kt b]) = true; simp only [PV.plain, PV.plains, kt_plain a, kt_plain b, Bool.and_self]
  | .pair a b => by show PV.plain (.tup [.str "both", kt a, kt b]) = true; simp only [PV.plain, PV.plains, kt_plain a, kt_plain b, Bool.and_self]
  | .list a => by show PV.plain (.tup [.str "each", kt a]) = true; simp only [PV.plain, PV.plains, kt_plain a, Bool.and_self]
theorem kt_depth : ∀ a : Ty, (kt a).depth = a.dep
  | .any | .int | .bool => rfl
  | .fn a b => by show PV.depth (.tup [.str "to", kt a, kt b]) = _; simp [PV.depth, PV.depths, Ty.dep, kt_depth a, kt_depth b]
  | .pair a b => by show PV.depth (.tup [.str "both", kt a, kt b]) = _; simp [PV.depth, PV.depths, Ty.dep, kt_depth a, kt_depth b]
  | .list a => by show PV.depth (.tup [.str "each", kt a]) = _; simp [PV.depth, PV.depths, Ty.dep, kt_depth a]
theorem eqvT {xs ys : List PV} : (PV.tup xs).eqv (.tup ys) = PV.eqvs xs ys := by rw [PV.eqv]
theorem eqvS {a b : Str} : (PV.str a).eqv (.str b) = (a == b) := by rw [PV.eqv]
theorem eqvC {x y : PV} {xs ys : List PV} : PV.eqvs (x :: xs) (y :: ys) = (x.eqv y && PV.eqvs xs ys) := by rw [PV.eqvs]
theorem eqvN : PV.eqvs [] [] = true := by rw [PV.eqvs]
theorem kt_eqv : ∀ a b : Ty, (kt a).eqv (kt b) = decide (a = b) := by
  intro a b
  induction a generalizing b <;> cases b <;> simp only [kt, eqvT, eqvC, eqvS, eqvN, w_all_all, w_all_is, w_all_to, w_all_both, w_all_each, w_is_all, w_is_is, w_is_to, w_is_both, w_is_each, w_to_all, w_to_is, w_to_to, w_to_both, w_to_each, w_both_all, w_both_is, w_both_to, w_both_both, w_both_each, w_each_all, w_each_is, w_each_to, w_each_both, w_each_each, w_int_int, w_int_bool, w_bool_int, w_bool_bool, Bool.true_and, Bool.false_and, Bool.and_true] <;> simp_all
theorem ne_kt (a b : Ty) (h : a.dep ≤ 50) : opNe (kt a) (kt b) = some (.bl (!decide (a = b))) := by
  unfold opNe
  rw [if_pos (by unfold eqOk; rw [kt_plain, kt_plain, kt_depth, kt_depth]; simp; omega), kt_eqv]
theorem contract_ok {T : Tab} {ix : Nat → Nat} [B_contracts_contract_of T ix] : ∀ (n : Nat) (a : Ty) (st : Sto), a.dep ≤ n → T.call n (ix i_contracts_contract_of) [enc a] st = .ok (kt a) st
  | 0, a, st, h => by have := dep_pos a; omega
  | n + 1, a, st, h => by
    have ih := contract_ok (T := T) (ix := ix) n
    rw [r_contracts_contract_of]
    unfold c_contracts_contract_of
    cases a <;> simp [Ty.dep, Nat.max_le] at h <;> simp [ih, h, dPutK, dPutV, dSet]
def tight : Ty → Ty → Bool
  | _, .any => true
  | .int, .int => true
  | .bool, .bool => true
  | .fn a b, .fn c d => tight c a && tight b d
  | .pair a b, .pair c d => tight a c && tight b d
  | .list a, .list c => tight a c
  | _, _ => false
termination_by a b => sizeOf a + sizeOf b
theorem tighter_ok {T : Tab} {ix : Nat → Nat} [B_contracts_tighter T ix] : ∀ (n : Nat) (a b : Ty) (st : Sto), a.dep ≤ n → b.dep ≤ n → a.dep ≤ 50 → b.dep ≤ 50 → T.call n (ix i_contracts_tighter) [kt a, kt b] st = .ok (.bl (tight a b)) st
  | 0, a, b, st, h, _, _, _ => by have := dep_pos a; omega
  | n + 1, a, b, st, h, h2, ha, hb => by
    have ih := fun a b st q1 q2 q3 q4 => tighter_ok (T := T) (ix := ix) n a b st q1 q2 q3 q4
    have hb' := ne_kt a b ha
    rw [r_contracts_tighter]
    unfold c_contracts_tighter
    cases a <;> cases b <;> simp only [Ty.dep] at h h2 ha hb <;> simp at hb' <;> simp [tight, hb']
    · rename_i a1 a2 b1 b2
      have i1 := ih b1 a1 st (by omega) (by omega) (by omega) (by omega)
      have i2 := ih a2 b2 st (by omega) (by omega) (by omega) (by omega)
      simp [i1, i2]
      cases tight b1 a1 <;> simp
    · rename_i a1 a2 b1 b2
      have i1 := ih a1 b1 st (by omega) (by omega) (by omega) (by omega)
      have i2 := ih a2 b2 st (by omega) (by omega) (by omega) (by omega)
      simp [i1, i2]
    · rename_i a1 b1
      have i1 := ih a1 b1 st (by omega) (by omega) (by omega) (by omega)
      simp [i1]
theorem tight_finer : ∀ a b : Ty, nofn a = true → nofn b = true → tight a b = finer a b
  | .any, b, _, hb => by cases b <;> simp [tight, finer, nofn] at hb ⊢
  | .int, b, _, hb => by cases b <;> simp [tight, finer, nofn] at hb ⊢
  | .bool, b, _, hb => by cases b <;> simp [tight, finer, nofn] at hb ⊢
  | .fn _ _, b, ha, _ => by simp [nofn] at ha
  | .pair a c, b, ha, hb => by
    cases b <;> simp [tight, finer, nofn] at ha hb ⊢
    rw [tight_finer a _ ha.1 hb.1, tight_finer c _ ha.2 hb.2]
  | .list a, b, ha, hb => by
    cases b <;> simp [tight, finer, nofn] at ha hb ⊢
    rw [tight_finer a _ ha hb]
/-- what guard_value tells -/
def gres (nm : PV) (t : Ty) (v : Va) : PV := if goesM (tyM t) v = true then okP v else blP nm
theorem goes_finer : ∀ (a b : Ty) (v : Va), finer a b = true → goesM (tyM a) v = true → goesM (tyM b) v = true := by
  intro a b v h k
  obtain ⟨m, h1, h2⟩ := meet_great a b a (finer_refl a) h
  have e := meet_mm a b
  rw [h1] at e
  have m1 := meet_le a b m h1
  have e2 : m = a := finer_anti m a m1 h2
  rw [e2] at e
  have g := goes_mm v (tyM a) (tyM b)
  rw [show mm (tyM a) (tyM b) = tyM a from e, k] at g
  simpa using g.symm
theorem pairs_const {α : Type} (l : List α) (f : α → PV) (x : PV) : pairs (l.map f) (l.map fun _ => x) = l.map fun v => .tup [f v, x] := by
  induction l with
  | nil => rfl
  | cons v l ih => simp [ih]
theorem app8 {m : EM} {a0 a1 a2 a3 a4 a5 a6 a7 a9 a10 a11 a12 : Slot} {acc : List PV} {st : Sto} : sApp 8 m [a0, a1, a2, a3, a4, a5, a6, a7, .own (.lst acc), a9, a10, a11, a12] st = @SR.ofK _ (m [a0, a1, a2, a3, a4, a5, a6, a7, .own (.lst acc), a9, a10, a11, a12] st) ⟨fun x st1 => if acc.length < sizeLine then .nx [a0, a1, a2, a3, a4, a5, a6, a7, .own (.lst (acc ++ [x])), a9, a10, a11, a12] st1 else .bad⟩ := x_appOwn rfl
theorem guard_go {T : Tab} {ix : Nat → Nat} [B_contracts_guard_value T ix] {n : Nat} {t : Ty} {nm ot : PV} {st : Sto} {a0 a1 a4 a5 a6 a7 a12 : Slot} : ∀ (l : List Va) (acc : List PV) (s9 s10 s11 : Slot), (∀ v ∈ l, T.call n (ix i_contracts_guard_value) [encV v, kt t, nm, ot] st = .ok (gres nm t v) st) → acc.length + l.length ≤ 2000 →
    ((l.all fun v => goesM (tyM t) v) = true → ∃ s9' s10' s11', forGo (gTp (gsCons (gNm 9) (gsCons (gNm 10) gsNil))) (c_contracts_guard_value_9b ix (T.call n)) (l.map fun v => .tup [encV v, kt t]) [a0, a1, .val nm, .val ot, a4, a5, a6, a7, .own (.lst acc), s9, s10, s11, a12] st = .nx [a0, a1, .val nm, .val ot, a4, a5, a6, a7, .own (.lst (acc ++ l.map encV)), s9', s10', s11', a12] st) ∧
    ((l.all fun v => goesM (tyM t) v) = false → forGo (gTp (gsCons (gNm 9) (gsCons (gNm 10) gsNil))) (c_contracts_guard_value_9b ix (T.call n)) (l.map fun v => .tup [encV v, kt t]) [a0, a1, .val nm, .val ot, a4, a5, a6, a7, .own (.lst acc), s9, s10, s11, a12] st = .ret (blP nm) st)
  | [], acc, s9, s10, s11, _, _ => ⟨fun _ => ⟨s9, s10, s11, by simp⟩, fun h => by simp at h⟩
  | v :: l, acc, s9, s10, s11, h, hl => by
    simp only [List.length_cons] at hl
    have hv := h v (by simp)
    have hs : acc.length < sizeLine := Nat.lt_of_lt_of_le (by omega : acc.length < 3000) (by decide)
    have step : forGo (gTp (gsCons (gNm 9) (gsCons (gNm 10) gsNil))) (c_contracts_guard_value_9b ix (T.call n)) ((v :: l).map fun v => .tup [encV v, kt t]) [a0, a1, .val nm, .val ot, a4, a5, a6, a7, .own (.lst acc), s9, s10, s11, a12] st = _ := forGo_cons (as := [(9, encV v), (10, kt t)]) rfl
    rw [step]
    clear step
    cases q : goesM (tyM t) v with
    | false =>
      rw [show gres nm t v = blP nm by simp [gres, q]] at hv
      have B : c_contracts_guard_value_9b ix (T.call n) (setS [a0, a1, .val nm, .val ot, a4, a5, a6, a7, .own (.lst acc), s9, s10, s11, a12] [(9, encV v), (10, kt t)]) st = .ret (blP nm) st := by
        simp [c_contracts_guard_value_9b, c_contracts_guard_value_9_0, c_contracts_guard_value_9_1, setS, hv]
      rw [B]
      exact ⟨fun z => by simp [q] at z, fun _ => rfl⟩
    | true =>
      rw [show gres nm t v = okP v by simp [gres, q]] at hv
      have B : c_contracts_guard_value_9b ix (T.call n) (setS [a0, a1, .val nm, .val ot, a4, a5, a6, a7, .own (.lst acc), s9, s10, s11, a12] [(9, encV v), (10, kt t)]) st = .nx [a0, a1, .val nm, .val ot, a4, a5, a6, a7, .own (.lst (acc ++ [encV v])), .val (encV v), .val (kt t), .val (okP v), a12] st := by
        simp [c_contracts_guard_value_9b, c_contracts_guard_value_9_0, c_contracts_guard_value_9_1, c_contracts_guard_value_9_2, setS, hv, app8, hs]
      rw [B]
      obtain ⟨i1, i2⟩ := guard_go (T := T) (ix := ix) (n := n) (t := t) (nm := nm) (ot := ot) (st := st) (a0 := a0) (a1 := a1) (a4 := a4) (a5 := a5) (a6 := a6) (a7 := a7) (a12 := a12) l (acc ++ [encV v]) (.val (encV v)) (.val (kt t)) (.val (okP v)) (fun w hw => h w (by simp [hw])) (by simp; omega)
      refine ⟨fun z => ?_, fun z => i2 (by simpa [q] using z)⟩
      obtain ⟨b9, b10, b11, g⟩ := i1 (by simpa [q] using z)
      exact ⟨b9, b10, b11, by rw [show acc ++ (v :: l).map encV = acc ++ [encV v] ++ l.map encV by simp]; exact g⟩
theorem slim_mem : ∀ (l : Vs) (v : Va), v ∈ l.toL → slimL l = true → slim v = true
  | .nil, v, h, _ => by simp [Vs.toL] at h
  | .cons w l, v, h, hs => by
    simp only [slimL, Bool.and_eq_true] at hs
    simp only [Vs.toL, List.mem_cons] at h
    rcases h with rfl | h
    · exact hs.1
    · exact slim_mem l v h hs.2
theorem toL_len : ∀ l : Vs, l.toL.length = l.len
  | .nil => rfl
  | .cons v l => by simp [Vs.toL, Vs.len, toL_len l]
theorem guard_ok {T : Tab} {ix : Nat → Nat} [B_contracts_guard_value T ix] {nm ot : PV} : ∀ (n : Nat) (v : Va) (t : Ty) (st : Sto), v.dep ≤ n → slim v = true → T.call n (ix i_contracts_guard_value) [encV v, kt t, nm, ot] st = .ok (gres nm t v) st
  | 0, v, t, st, h, _ => by have := va_pos v; omega
  | n + 1, v, t, st, h, hs => by
    have ih := guard_ok (T := T) (ix := ix) (nm := nm) (ot := ot) n
    rw [r_contracts_guard_value]
    unfold c_contracts_guard_value
    cases v with
    | pair x y =>
      simp [Va.dep, Nat.max_le] at h
      simp only [slim, Bool.and_eq_true] at hs
      cases t with
      | pair a b =>
        have g1 := ih x a st h.1 hs.1
        have g2 := ih y b st h.2 hs.2
        have l0 : (0 : Nat) < sizeLine := by decide
        have l1 : (1 : Nat) < sizeLine := by decide
        cases q1 : goesM (tyM a) x with
        | false =>
          rw [show gres nm a x = blP nm by simp [gres, q1]] at g1
          simp [c_contracts_guard_value_0, c_contracts_guard_value_1, c_contracts_guard_value_2, c_contracts_guard_value_3, c_contracts_guard_value_4, c_contracts_guard_value_5, c_contracts_guard_value_6, c_contracts_guard_value_7, c_contracts_guard_value_8, c_contracts_guard_value_9, c_contracts_guard_value_9b, c_contracts_guard_value_9_0, c_contracts_guard_value_9_1, c_contracts_guard_value_9_2, forGo, setS, g1, gres, tyM, goesM, q1]
        | true =>
          rw [show gres nm a x = okP x by simp [gres, q1]] at g1
          cases q2 : goesM (tyM b) y with
          | false =>
            rw [show gres nm b y = blP nm by simp [gres, q2]] at g2
            simp [c_contracts_guard_value_0, c_contracts_guard_value_1, c_contracts_guard_value_2, c_contracts_guard_value_3, c_contracts_guard_value_4, c_contracts_guard_value_5, c_contracts_guard_value_6, c_contracts_guard_value_7, c_contracts_guard_value_8, c_contracts_guard_value_9, c_contracts_guard_value_9b, c_contracts_guard_value_9_0, c_contracts_guard_value_9_1, c_contracts_guard_value_9_2, forGo, setS, g1, g2, gres, tyM, goesM, q1, q2, app8, l0]
          | true =>
            rw [show gres nm b y = okP y by simp [gres, q2]] at g2
            simp [c_contracts_guard_value_0, c_contracts_guard_value_1, c_contracts_guard_value_2, c_contracts_guard_value_3, c_contracts_guard_value_4, c_contracts_guard_value_5, c_contracts_guard_value_6, c_contracts_guard_value_7, c_contracts_guard_value_8, c_contracts_guard_value_9, c_contracts_guard_value_9b, c_contracts_guard_value_9_0, c_contracts_guard_value_9_1, c_contracts_guard_value_9_2, c_contracts_guard_value_10, forGo, setS, g1, g2, gres, tyM, goesM, q1, q2, app8, l0, l1]
      | _ => simp [c_contracts_guard_value_0, c_contracts_guard_value_1, c_contracts_guard_value_2, c_contracts_guard_value_3, gres, tyM, goesM]
    | items l =>
      simp only [Va.dep] at h
      simp only [slim, Bool.and_eq_true, decide_eq_true_eq] at hs
      cases t with
      | list a =>
        have A : ∀ v ∈ l.toL, T.call n (ix i_contracts_guard_value) [encV v, kt a, nm, ot] st = .ok (gres nm a v) st := fun v hv => ih v a st (by have := dep_mem l v hv; omega) (slim_mem l v hv hs.2)
        have cg := comp_list (i := 12) (ρ := [.val (encV (.items l)), .val (kt (.list a)), .val nm, .val ot, .val (.str "items"), .val (.str "items"), .val (.tup (encVs l)), .no, .no, .no, .no, .no, .no]) (st := st) (elt := mBinS opIx (mVar 1) (mC (.int 1))) (f := encV) (g := fun _ => kt a) l.toL (fun x hx => by simp)
        rw [← encVs_toL] at cg
        have pc := pairs_const l.toL encV (kt a)
        rw [← encVs_toL] at pc
        obtain ⟨i1, i2⟩ := guard_go (T := T) (ix := ix) (n := n) (t := a) (nm := nm) (ot := ot) (st := st) (a0 := .val (encV (.items l))) (a1 := .val (kt (.list a))) (a4 := .val (.str "items")) (a5 := .val (.str "items")) (a6 := .val (.tup (encVs l))) (a7 := .val (.tup (l.toL.map fun _ => kt a))) (a12 := .no) l.toL [] .no .no .no A (by rw [toL_len]; simp; omega)
        have ga : goesL (tyM a) l = (l.toL.all fun v => goesM (tyM a) v) := by rw [goesL_all]; simp
        cases q : goesL (tyM a) l with
        | false =>
          have g := i2 (by rw [← ga]; exact q)
          simp [c_contracts_guard_value_0, c_contracts_guard_value_1, c_contracts_guard_value_2, c_contracts_guard_value_3, c_contracts_guard_value_4, c_contracts_guard_value_5, c_contracts_guard_value_6, c_contracts_guard_value_7, c_contracts_guard_value_8, c_contracts_guard_value_9, cg, pc, g, gres, tyM, goesM, q]
        | true =>
          obtain ⟨b9, b10, b11, g⟩ := i1 (by rw [← ga]; exact q)
          rw [List.nil_append, ← encVs_toL] at g
          simp [c_contracts_guard_value_0, c_contracts_guard_value_1, c_contracts_guard_value_2, c_contracts_guard_value_3, c_contracts_guard_value_4, c_contracts_guard_value_5, c_contracts_guard_value_6, c_contracts_guard_value_7, c_contracts_guard_value_8, c_contracts_guard_value_9, c_contracts_guard_value_10, cg, pc, g, gres, tyM, goesM, q]
      | _ => simp [c_contracts_guard_value_0, c_contracts_guard_value_1, c_contracts_guard_value_2, c_contracts_guard_value_3, gres, tyM, goesM]
    | _ => cases t <;> simp [c_contracts_guard_value_0, c_contracts_guard_value_1, c_contracts_guard_value_2, c_contracts_guard_value_3, c_contracts_guard_value_4, gres, tyM, goesM]

end BK

namespace Law
open PySem PySem.Spec PyProof.Rows L2 RZ BK
/-! ### the table of defs (printed by gen.py) -/
abbrev topS (i : Nat) : Stmt := PySem.Challenge.pw_blamekeep_k59_whole_contracts_and_casts.main.body.getD i (.Pass ⟨0, 0, 0, 0⟩)
def d0 : BK.FD := ⟨"ground_of", topS 5, ["kind"], 1, false, [], [], [], ["ground_of"]⟩
def d1 : BK.FD := ⟨"cast_value", topS 7, ["value", "kind", "due", "name"], 4, false, [], [], [], ["cast_value"]⟩
def d2 : BK.FD := ⟨"tagged", topS 8, ["value", "kind", "name", "ground", "told"], 3, false, [], [], [], ["tagged"]⟩
def d3 : BK.FD := ⟨"cast_pair", topS 9, ["value", "kind", "due", "name", "first", "other"], 4, false, [], [], [], ["cast_pair"]⟩
def d4 : BK.FD := ⟨"cast_items", topS 10, ["value", "kind", "due", "name", "found", "item", "told"], 4, false, [], [4], [], ["cast_items"]⟩
def d5 : BK.FD := ⟨"shown", topS 11, ["value", "item"], 1, false, [], [], [], ["shown"]⟩
def d6 : BK.FD := ⟨"is_contract", topS 15, ["value", "left", "part"], 2, false, [(.int 8)], [], [], ["is_contract"]⟩
def d7 : BK.FD := ⟨"contract_of", topS 16, ["kind", "word", "part"], 1, false, [], [], [], ["contract_of"]⟩
def d8 : BK.FD := ⟨"guarded", topS 17, ["term", "contract", "name", "other"], 4, false, [], [], [], ["guarded"]⟩
def d9 : BK.FD := ⟨"guard_value", topS 18, ["value", "contract", "name", "other", "word", "form", "items", "parts", "found", "item", "part", "told", "_"], 4, false, [], [8], [], ["guard_value"]⟩
def d10 : BK.FD := ⟨"shown_guarded", topS 19, ["value", "item"], 1, false, [], [], [], ["shown_guarded"]⟩
def d11 : BK.FD := ⟨"tighter", topS 20, ["one", "two", "first", "other"], 2, false, [], [], [], ["tighter"]⟩
def d12 : BK.FD := ⟨"_law_draws", topS 22, ["script"], 1, true, [], [], [], ["_law_draws"]⟩
def d13 : BK.FD := ⟨"_law_draw", topS 23, ["draws", "limit", "cell", "value"], 2, false, [], [], [], ["_law_draw"]⟩
def d14 : BK.FD := ⟨"_law_same", topS 24, ["actual", "expected", "k"], 2, false, [], [], [], ["_law_same"]⟩
def d15 : BK.FD := ⟨"_law_type", topS 25, ["draws", "deep", "kind"], 2, false, [], [], [], ["_law_type"]⟩
def d16 : BK.FD := ⟨"_law_vaguer", topS 26, ["draws", "kind", "part"], 2, false, [], [], [], ["_law_vaguer"]⟩
def d17 : BK.FD := ⟨"_law_alike", topS 27, ["one", "two", "k"], 2, false, [], [], [], []⟩
def d18 : BK.FD := ⟨"_law_finer", topS 28, ["one", "two", "k"], 2, false, [], [], [], []⟩
def d19 : BK.FD := ⟨"_law_value", topS 29, ["draws", "kind", "deep", "ground", "k"], 3, false, [], [], [], ["_law_value"]⟩
def d20 : BK.FD := ⟨"_law_plain", topS 30, ["draws", "deep", "form"], 2, false, [], [], [], ["_law_plain"]⟩
def d21 : BK.FD := ⟨"_law_plain_chain", topS 31, ["draws", "many", "base", "kinds", "k"], 2, false, [], [3], [], []⟩
def d22 : BK.FD := ⟨"_law_contract", topS 32, ["kind", "word", "part"], 1, false, [], [], [], ["_law_contract"]⟩
def d23 : BK.FD := ⟨"_law_bare", topS 33, ["value", "one"], 1, false, [], [], [], ["_law_bare"]⟩
def d24 : BK.FD := ⟨"_law_tighter", topS 34, ["one", "two", "k"], 2, false, [], [], [], ["_law_tighter"]⟩
def d25 : BK.FD := ⟨"_law_refused", topS 35, ["value", "e"], 1, false, [], [], [], ["_law_refused"]⟩
def d26 : BK.FD := ⟨"law", topS 36, ["script", "draws", "turn", "kind", "contract", "other", "plain", "ground", "value", "vague", "wrong", "bad", "due", "told"], 1, false, [], [], [1], ["law"]⟩
def tab : BK.Tab := ⟨[d0, d1, d2, d3, d4, d5, d6, d7, d8, d9, d10, d11, d12, d13, d14, d15, d16, d26, d26, d19, d20, d26, d22, d23, d24, d25, d26], [("ANY", (.tup [(.str "any")])), ("WORD_OF", (.kct [(.str "int"), (.str "bool"), (.str "to"), (.str "both"), (.str "each")] [(.str "int"), (.str "bool"), (.str "closure"), (.str "pair"), (.str "items")])), ("PARTS", (.kct [(.str "to"), (.str "both"), (.str "each")] [(.int 2), (.int 2), (.int 1)]))], ["len", "range", "list", "tuple", "int", "zip", "all", "isinstance", "str", "bool"], [("TypeFault", 0), ("Refused", 5)]⟩
def ix : Nat → Nat := fun i => match i with
  | 109 => 13
  | 110 => 12
  | 112 => 20
  | 114 => 14
  | 115 => 15
  | 116 => 16
  | 117 => 19
  | 122 => 0
  | 123 => 4
  | 124 => 3
  | 125 => 1
  | 127 => 5
  | 128 => 2
  | 132 => 23
  | 143 => 7
  | 144 => 9
  | 145 => 11
  | 5006 => 6
  | 5008 => 8
  | 5010 => 10
  | 5022 => 22
  | 5024 => 24
  | 5025 => 25
  | 5026 => 26
  | _ => 0
abbrev i_own_contracts_is_contract : Nat := 5006
abbrev i_own_contracts_guarded : Nat := 5008
abbrev i_own_contracts_shown_guarded : Nat := 5010
abbrev i_own_law_contract : Nat := 5022
abbrev i_own_law_tighter : Nat := 5024
abbrev i_own_law_refused : Nat := 5025
abbrev i_own_law : Nat := 5026
theorem q_types_ground_of (call) : tab.code call d0 = some (c_types_ground_of ix call) := by kernel_rfl
theorem e_types_ground_of (n : Nat) (xs : List PV) (st : Sto) (h : xs.length = 1) : tab.call (n + 1) (ix i_types_ground_of) xs st = endOf false (c_types_ground_of ix (tab.call n) (xs.map Slot.val ++ List.replicate (1 - xs.length) Slot.no) st) := by
  show tab.run (tab.call n) d0 xs st = _
  unfold Tab.run
  rw [q_types_ground_of]
  exact if_pos h
instance : H_types_ground_of tab ix := ⟨⟨fun n xs st h => e_types_ground_of n xs st h⟩⟩
theorem q_values_cast_value (call) : tab.code call d1 = some (c_values_cast_value ix call) := by kernel_rfl
theorem e_values_cast_value (n : Nat) (xs : List PV) (st : Sto) (h : xs.length = 4) : tab.call (n + 1) (ix i_values_cast_value) xs st = endOf false (c_values_cast_value ix (tab.call n) (xs.map Slot.val ++ List.replicate (4 - xs.length) Slot.no) st) := by
  show tab.run (tab.call n) d1 xs st = _
  unfold Tab.run
  rw [q_values_cast_value]
  exact if_pos h
instance : H_values_cast_value tab ix := ⟨⟨fun n xs st h => e_values_cast_value n xs st h⟩⟩
theorem q_values_tagged (call) : tab.code call d2 = some (c_values_tagged ix call) := by kernel_rfl
theorem e_values_tagged (n : Nat) (xs : List PV) (st : Sto) (h : xs.length = 3) : tab.call (n + 1) (ix i_values_tagged) xs st = endOf false (c_values_tagged ix (tab.call n) (xs.map Slot.val ++ List.replicate (5 - xs.length) Slot.no) st) := by
  show tab.run (tab.call n) d2 xs st = _
  unfold Tab.run
  rw [q_values_tagged]
  exact if_pos h
instance : H_values_tagged tab ix := ⟨⟨fun n xs st h => e_values_tagged n xs st h⟩⟩
theorem q_values_cast_pair (call) : tab.code call d3 = some (c_values_cast_pair ix call) := by kernel_rfl
theorem e_values_cast_pair (n : Nat) (xs : List PV) (st : Sto) (h : xs.length = 4) : tab.call (n + 1) (ix i_values_cast_pair) xs st = endOf false (c_values_cast_pair ix (tab.call n) (xs.map Slot.val ++ List.replicate (6 - xs.length) Slot.no) st) := by
  show tab.run (tab.call n) d3 xs st = _
  unfold Tab.run
  rw [q_values_cast_pair]
  exact if_pos h
instance : H_values_cast_pair tab ix := ⟨⟨fun n xs st h => e_values_cast_pair n xs st h⟩⟩
theorem q_values_cast_items (call) : tab.code call d4 = some (c_values_cast_items ix call) := by kernel_rfl
theorem e_values_cast_items (n : Nat) (xs : List PV) (st : Sto) (h : xs.length = 4) : tab.call (n + 1) (ix i_values_cast_items) xs st = endOf false (c_values_cast_items ix (tab.call n) (xs.map Slot.val ++ List.replicate (7 - xs.length) Slot.no) st) := by
  show tab.run (tab.call n) d4 xs st = _
  unfold Tab.run
  rw [q_values_cast_items]
  exact if_pos h
instance : H_values_cast_items tab ix := ⟨⟨fun n xs st h => e_values_cast_items n xs st h⟩⟩
theorem q_values_shown (call) : tab.code call d5 = some (c_values_shown ix call) := by kernel_rfl
theorem e_values_shown (n : Nat) (xs : List PV) (st : Sto) (h : xs.length = 1) : tab.call (n + 1) (ix i_values_shown) xs st = endOf false (c_values_shown ix (tab.call n) (xs.map Slot.val ++ List.replicate (2 - xs.length) Slot.no) st) := by
  show tab.run (tab.call n) d5 xs st = _
  unfold Tab.run
  rw [q_values_shown]
  exact if_pos h
instance : H_values_shown tab ix := ⟨⟨fun n xs st h => e_values_shown n xs st h⟩⟩
/-- is_contract -/
def c_own_contracts_is_contract (ix : Nat → Nat) (call : Nat → List PV → Sto → Res PV) : SM := (sSeq (sIf (bOr (bNot (bVal (mBi (Bf.f .isi) (aCons (mVar 0) (aCons (mC (.ty "tuple")) aNil))))) (bOr (bVal (mBin opEq (mBi (Bf.f .len) (aCons (mVar 0) aNil)) (mC (.int 0)))) (bOr (bVal (mBin opEq (mVar 1) (mC (.int 0)))) (bNot (bVal (mBi (Bf.f .isi) (aCons (mBinS opIx (mVar 0) (mC (.int 0))) (aCons (mC (.ty "str")) aNil)))))))) (sSeq (sRet (mC (.bl false))) sNil) sNil) (sSeq (sIf (bVal (mBin opEq (mBinS opIx (mVar 0) (mC (.int 0))) (mC (.str "all")))) (sSeq (sRet (mBin opEq (mBi (Bf.f .len) (aCons (mVar 0) aNil)) (mC (.int 1)))) sNil) sNil) (sSeq (sIf (bVal (mBin opEq (mBinS opIx (mVar 0) (mC (.int 0))) (mC (.str "is")))) (sSeq (sRet (mAndV (mBin opEq (mBi (Bf.f .len) (aCons (mVar 0) aNil)) (mC (.int 2))) (mAndV (mBi (Bf.f .isi) (aCons (mBinS opIx (mVar 0) (mC (.int 1))) (aCons (mC (.ty "str")) aNil))) (mBin opIn (mBinS opIx (mVar 0) (mC (.int 1))) (mTup (aCons (mC (.str "int")) (aCons (mC (.str "bool")) aNil))))))) sNil) sNil) (sSeq (sIf (bOr (bVal (mBin opNotIn (mBinS opIx (mVar 0) (mC (.int 0))) (mC (.kct [(.str "to"), (.str "both"), (.str "each")] [(.int 2), (.int 2), (.int 1)])))) (bVal (mBin opNe (mBi (Bf.f .len) (aCons (mVar 0) aNil)) (mBin opAdd (mC (.int 1)) (mBinS opIx (mC (.kct [(.str "to"), (.str "both"), (.str "each")] [(.int 2), (.int 2), (.int 1)])) (mBinS opIx (mVar 0) (mC (.int 0)))))))) (sSeq (sRet (mC (.bl false))) sNil) sNil) (sSeq (sRet (mBi (Bf.f .all) (aCons (mFz (aLc (aSeq (mSl (mVar 0) (oInt (mC (.int 1))) oNo)) [2] (gNm 2) bYes (mCall (call (ix i_own_contracts_is_contract)) (aCons (mVar 2) (aCons (mBin opSub (mVar 1) (mC (.int 1))) aNil)) []))) aNil))) sNil)))))
theorem q_own_contracts_is_contract (call) : tab.code call d6 = some (c_own_contracts_is_contract ix call) := by kernel_rfl
theorem e_own_contracts_is_contract (n : Nat) (xs : List PV) (st : Sto) (h : xs.length = 2) : tab.call (n + 1) (ix i_own_contracts_is_contract) xs st = endOf false (c_own_contracts_is_contract ix (tab.call n) (xs.map Slot.val ++ List.replicate (3 - xs.length) Slot.no) st) := by
  show tab.run (tab.call n) d6 xs st = _
  unfold Tab.run
  rw [q_own_contracts_is_contract]
  exact if_pos h
theorem r_own_contracts_is_contract (n : Nat) (a0 a1 : PV) (st : Sto) : tab.call (n + 1) (ix i_own_contracts_is_contract) [a0, a1] st = endOf false (c_own_contracts_is_contract ix (tab.call n) [.val a0, .val a1, .no] st) := e_own_contracts_is_contract n _ st rfl
theorem q_contracts_contract_of (call) : tab.code call d7 = some (c_contracts_contract_of ix call) := by kernel_rfl
theorem e_contracts_contract_of (n : Nat) (xs : List PV) (st : Sto) (h : xs.length = 1) : tab.call (n + 1) (ix i_contracts_contract_of) xs st = endOf false (c_contracts_contract_of ix (tab.call n) (xs.map Slot.val ++ List.replicate (3 - xs.length) Slot.no) st) := by
  show tab.run (tab.call n) d7 xs st = _
  unfold Tab.run
  rw [q_contracts_contract_of]
  exact if_pos h
instance : H_contracts_contract_of tab ix := ⟨⟨fun n xs st h => e_contracts_contract_of n xs st h⟩⟩
/-- guarded -/
def c_own_contracts_guarded (ix : Nat → Nat) (call : Nat → List PV → Sto → Res PV) : SM := (sSeq (sIf (bNot (bVal (mCall (call (ix i_own_contracts_is_contract)) (aCons (mVar 1) aNil) [(.int 8)]))) (sSeq (sRaise 5 1 (aCons (mC (.str "contract")) aNil)) sNil) sNil) (sSeq (sRet (mTup (aCons (mC (.str "guard")) (aCons (mVar 0) (aCons (mVar 1) (aCons (mVar 2) (aCons (mVar 3) aNil))))))) sNil))
theorem q_own_contracts_guarded (call) : tab.code call d8 = some (c_own_contracts_guarded ix call) := by kernel_rfl
theorem e_own_contracts_guarded (n : Nat) (xs : List PV) (st : Sto) (h : xs.length = 4) : tab.call (n + 1) (ix i_own_contracts_guarded) xs st = endOf false (c_own_contracts_guarded ix (tab.call n) (xs.map Slot.val ++ List.replicate (4 - xs.length) Slot.no) st) := by
  show tab.run (tab.call n) d8 xs st = _
  unfold Tab.run
  rw [q_own_contracts_guarded]
  exact if_pos h
theorem r_own_contracts_guarded (n : Nat) (a0 a1 a2 a3 : PV) (st : Sto) : tab.call (n + 1) (ix i_own_contracts_guarded) [a0, a1, a2, a3] st = endOf false (c_own_contracts_guarded ix (tab.call n) [.val a0, .val a1, .val a2, .val a3] st) := e_own_contracts_guarded n _ st rfl
theorem q_contracts_guard_value (call) : tab.code call d9 = some (c_contracts_guard_value ix call) := by kernel_rfl
theorem e_contracts_guard_value (n : Nat) (xs : List PV) (st : Sto) (h : xs.length = 4) : tab.call (n + 1) (ix i_contracts_guard_value) xs st = endOf false (c_contracts_guard_value ix (tab.call n) (xs.map Slot.val ++ List.replicate (13 - xs.length) Slot.no) st) := by
  show tab.run (tab.call n) d9 xs st = _
  unfold Tab.run
  rw [q_contracts_guard_value]
  exact if_pos h
instance : H_contracts_guard_value tab ix := ⟨⟨fun n xs st h => e_contracts_guard_value n xs st h⟩⟩
/-- shown_guarded -/
def c_own_contracts_shown_guarded (ix : Nat → Nat) (call : Nat → List PV → Sto → Res PV) : SM := (sSeq (sIf (bVal (mBin opIn (mBinS opIx (mVar 0) (mC (.int 0))) (mTup (aCons (mC (.str "closure")) (aCons (mC (.str "guarded")) aNil))))) (sSeq (sRet (mTup (aCons (mC (.str "fn")) aNil))) sNil) sNil) (sSeq (sIf (bVal (mBin opEq (mBinS opIx (mVar 0) (mC (.int 0))) (mC (.str "pair")))) (sSeq (sRet (mTup (aCons (mC (.str "pair")) (aCons (mCall (call (ix i_own_contracts_shown_guarded)) (aCons (mBinS opIx (mVar 0) (mC (.int 1))) aNil) []) (aCons (mCall (call (ix i_own_contracts_shown_guarded)) (aCons (mBinS opIx (mVar 0) (mC (.int 2))) aNil) []) aNil))))) sNil) sNil) (sSeq (sIf (bVal (mBin opEq (mBinS opIx (mVar 0) (mC (.int 0))) (mC (.str "items")))) (sSeq (sRet (mTup (aCons (mC (.str "items")) (aCons (mBi (Bf.f .tup) (aCons (mFz (aLc (aSeq (mBinS opIx (mVar 0) (mC (.int 1)))) [1] (gNm 1) bYes (mCall (call (ix i_own_contracts_shown_guarded)) (aCons (mVar 1) aNil) []))) aNil)) aNil)))) sNil) sNil) (sSeq (sRet (mVar 0)) sNil))))
theorem q_own_contracts_shown_guarded (call) : tab.code call d10 = some (c_own_contracts_shown_guarded ix call) := by kernel_rfl
theorem e_own_contracts_shown_guarded (n : Nat) (xs : List PV) (st : Sto) (h : xs.length = 1) : tab.call (n + 1) (ix i_own_contracts_shown_guarded) xs st = endOf false (c_own_contracts_shown_guarded ix (tab.call n) (xs.map Slot.val ++ List.replicate (2 - xs.length) Slot.no) st) := by
  show tab.run (tab.call n) d10 xs st = _
  unfold Tab.run
  rw [q_own_contracts_shown_guarded]
  exact if_pos h
theorem r_own_contracts_shown_guarded (n : Nat) (a0 : PV) (st : Sto) : tab.call (n + 1) (ix i_own_contracts_shown_guarded) [a0] st = endOf false (c_own_contracts_shown_guarded ix (tab.call n) [.val a0, .no] st) := e_own_contracts_shown_guarded n _ st rfl
theorem q_contracts_tighter (call) : tab.code call d11 = some (c_contracts_tighter ix call) := by kernel_rfl
theorem e_contracts_tighter (n : Nat) (xs : List PV) (st : Sto) (h : xs.length = 2) : tab.call (n + 1) (ix i_contracts_tighter) xs st = endOf false (c_contracts_tighter ix (tab.call n) (xs.map Slot.val ++ List.replicate (4 - xs.length) Slot.no) st) := by
  show tab.run (tab.call n) d11 xs st = _
  unfold Tab.run
  rw [q_contracts_tighter]
  exact if_pos h
instance : H_contracts_tighter tab ix := ⟨⟨fun n xs st h => e_contracts_tighter n xs st h⟩⟩
theorem q_law_draws (call) : tab.code call d12 = some (c_law_draws ix call) := by kernel_rfl
theorem e_law_draws (n : Nat) (xs : List PV) (st : Sto) (h : xs.length = 1) : tab.call (n + 1) (ix i_law_draws) xs st = endOf true (c_law_draws ix (tab.call n) (xs.map Slot.val ++ List.replicate (1 - xs.length) Slot.no) st) := by
  show tab.run (tab.call n) d12 xs st = _
  unfold Tab.run
  rw [q_law_draws]
  exact if_pos h
instance : H_law_draws tab ix := ⟨⟨fun n xs st h => e_law_draws n xs st h⟩⟩
theorem q_law_draw (call) : tab.code call d13 = some (c_law_draw ix call) := by kernel_rfl
theorem e_law_draw (n : Nat) (xs : List PV) (st : Sto) (h : xs.length = 2) : tab.call (n + 1) (ix i_law_draw) xs st = endOf false (c_law_draw ix (tab.call n) (xs.map Slot.val ++ List.replicate (4 - xs.length) Slot.no) st) := by
  show tab.run (tab.call n) d13 xs st = _
  unfold Tab.run
  rw [q_law_draw]
  exact if_pos h
instance : H_law_draw tab ix := ⟨⟨fun n xs st h => e_law_draw n xs st h⟩⟩
theorem q_law_same (call) : tab.code call d14 = some (c_law_same ix call) := by kernel_rfl
theorem e_law_same (n : Nat) (xs : List PV) (st : Sto) (h : xs.length = 2) : tab.call (n + 1) (ix i_law_same) xs st = endOf false (c_law_same ix (tab.call n) (xs.map Slot.val ++ List.replicate (3 - xs.length) Slot.no) st) := by
  show tab.run (tab.call n) d14 xs st = _
  unfold Tab.run
  rw [q_law_same]
  exact if_pos h
instance : H_law_same tab ix := ⟨⟨fun n xs st h => e_law_same n xs st h⟩⟩
theorem q_law_type (call) : tab.code call d15 = some (c_law_type ix call) := by kernel_rfl
theorem e_law_type (n : Nat) (xs : List PV) (st : Sto) (h : xs.length = 2) : tab.call (n + 1) (ix i_law_type) xs st = endOf false (c_law_type ix (tab.call n) (xs.map Slot.val ++ List.replicate (3 - xs.length) Slot.no) st) := by
  show tab.run (tab.call n) d15 xs st = _
  unfold Tab.run
  rw [q_law_type]
  exact if_pos h
instance : H_law_type tab ix := ⟨⟨fun n xs st h => e_law_type n xs st h⟩⟩
theorem q_law_vaguer (call) : tab.code call d16 = some (c_law_vaguer ix call) := by kernel_rfl
theorem e_law_vaguer (n : Nat) (xs : List PV) (st : Sto) (h : xs.length = 2) : tab.call (n + 1) (ix i_law_vaguer) xs st = endOf false (c_law_vaguer ix (tab.call n) (xs.map Slot.val ++ List.replicate (3 - xs.length) Slot.no) st) := by
  show tab.run (tab.call n) d16 xs st = _
  unfold Tab.run
  rw [q_law_vaguer]
  exact if_pos h
instance : H_law_vaguer tab ix := ⟨⟨fun n xs st h => e_law_vaguer n xs st h⟩⟩
theorem q_law_value (call) : tab.code call d19 = some (c_law_value ix call) := by kernel_rfl
theorem e_law_value (n : Nat) (xs : List PV) (st : Sto) (h : xs.length = 3) : tab.call (n + 1) (ix i_law_value) xs st = endOf false (c_law_value ix (tab.call n) (xs.map Slot.val ++ List.replicate (5 - xs.length) Slot.no) st) := by
  show tab.run (tab.call n) d19 xs st = _
  unfold Tab.run
  rw [q_law_value]
  exact if_pos h
instance : H_law_value tab ix := ⟨⟨fun n xs st h => e_law_value n xs st h⟩⟩
theorem q_law_plain (call) : tab.code call d20 = some (c_law_plain ix call) := by kernel_rfl
theorem e_law_plain (n : Nat) (xs : List PV) (st : Sto) (h : xs.length = 2) : tab.call (n + 1) (ix i_law_plain) xs st = endOf false (c_law_plain ix (tab.call n) (xs.map Slot.val ++ List.replicate (3 - xs.length) Slot.no) st) := by
  show tab.run (tab.call n) d20 xs st = _
  unfold Tab.run
  rw [q_law_plain]
  exact if_pos h
instance : H_law_plain tab ix := ⟨⟨fun n xs st h => e_law_plain n xs st h⟩⟩
/-- _law_contract -/
def c_own_law_contract (ix : Nat → Nat) (call : Nat → List PV → Sto → Res PV) : SM := (sSeq (sIf (bVal (mBin opEq (mVar 0) (mTup (aCons (mC (.str "any")) aNil)))) (sSeq (sRet (mTup (aCons (mC (.str "all")) aNil))) sNil) sNil) (sSeq (sSet 1 (mDm fGetM (mFzD (dDisp [((mC (.str "fn")), (mC (.str "to"))), ((mC (.str "pair")), (mC (.str "both"))), ((mC (.str "list")), (mC (.str "each")))])) (aCons (mBinS opIx (mVar 0) (mC (.int 0))) aNil))) (sSeq (sRet (mIf (bVal (mBin opIs (mVar 1) (mC .non))) (mTup (aCons (mC (.str "is")) (aCons (mBinS opIx (mVar 0) (mC (.int 0))) aNil))) (mBin opAdd (mTup (aCons (mVar 1) aNil)) (mBi (Bf.f .tup) (aCons (mFz (aLc (aSeq (mSl (mVar 0) (oInt (mC (.int 1))) oNo)) [2] (gNm 2) bYes (mCall (call (ix i_own_law_contract)) (aCons (mVar 2) aNil) []))) aNil))))) sNil)))
theorem q_own_law_contract (call) : tab.code call d22 = some (c_own_law_contract ix call) := by kernel_rfl
theorem e_own_law_contract (n : Nat) (xs : List PV) (st : Sto) (h : xs.length = 1) : tab.call (n + 1) (ix i_own_law_contract) xs st = endOf false (c_own_law_contract ix (tab.call n) (xs.map Slot.val ++ List.replicate (3 - xs.length) Slot.no) st) := by
  show tab.run (tab.call n) d22 xs st = _
  unfold Tab.run
  rw [q_own_law_contract]
  exact if_pos h
theorem r_own_law_contract (n : Nat) (a0 : PV) (st : Sto) : tab.call (n + 1) (ix i_own_law_contract) [a0] st = endOf false (c_own_law_contract ix (tab.call n) [.val a0, .no, .no] st) := e_own_law_contract n _ st rfl
theorem q_law_bare (call) : tab.code call d23 = some (c_law_bare ix call) := by kernel_rfl
theorem e_law_bare (n : Nat) (xs : List PV) (st : Sto) (h : xs.length = 1) : tab.call (n + 1) (ix i_law_bare) xs st = endOf false (c_law_bare ix (tab.call n) (xs.map Slot.val ++ List.replicate (2 - xs.length) Slot.no) st) := by
  show tab.run (tab.call n) d23 xs st = _
  unfold Tab.run
  rw [q_law_bare]
  exact if_pos h
instance : H_law_bare tab ix := ⟨⟨fun n xs st h => e_law_bare n xs st h⟩⟩
/-- _law_tighter -/
def c_own_law_tighter (ix : Nat → Nat) (call : Nat → List PV → Sto → Res PV) : SM := (sSeq (sIf (bVal (mBin opEq (mVar 1) (mTup (aCons (mC (.str "all")) aNil)))) (sSeq (sRet (mC (.bl true))) sNil) sNil) (sSeq (sIf (bVal (mBin opNe (mBinS opIx (mVar 0) (mC (.int 0))) (mBinS opIx (mVar 1) (mC (.int 0))))) (sSeq (sRet (mC (.bl false))) sNil) sNil) (sSeq (sIf (bVal (mBin opEq (mBinS opIx (mVar 0) (mC (.int 0))) (mC (.str "is")))) (sSeq (sRet (mBin opEq (mVar 0) (mVar 1))) sNil) sNil) (sSeq (sIf (bVal (mBin opEq (mBinS opIx (mVar 0) (mC (.int 0))) (mC (.str "to")))) (sSeq (sRet (mAndV (mCall (call (ix i_own_law_tighter)) (aCons (mBinS opIx (mVar 1) (mC (.int 1))) (aCons (mBinS opIx (mVar 0) (mC (.int 1))) aNil)) []) (mCall (call (ix i_own_law_tighter)) (aCons (mBinS opIx (mVar 0) (mC (.int 2))) (aCons (mBinS opIx (mVar 1) (mC (.int 2))) aNil)) []))) sNil) sNil) (sSeq (sRet (mBin opEq (mBi (Bf.f .len) (aCons (mFz (aLc (aRange2 (aCons (mC (.int 1)) (aCons (mBi (Bf.f .len) (aCons (mVar 0) aNil)) aNil))) [2] (gNm 2) (bNot (bVal (mCall (call (ix i_own_law_tighter)) (aCons (mBinS opIx (mVar 0) (mVar 2)) (aCons (mBinS opIx (mVar 1) (mVar 2)) aNil)) []))) (mVar 2))) aNil)) (mC (.int 0)))) sNil)))))
theorem q_own_law_tighter (call) : tab.code call d24 = some (c_own_law_tighter ix call) := by kernel_rfl
theorem e_own_law_tighter (n : Nat) (xs : List PV) (st : Sto) (h : xs.length = 2) : tab.call (n + 1) (ix i_own_law_tighter) xs st = endOf false (c_own_law_tighter ix (tab.call n) (xs.map Slot.val ++ List.replicate (3 - xs.length) Slot.no) st) := by
  show tab.run (tab.call n) d24 xs st = _
  unfold Tab.run
  rw [q_own_law_tighter]
  exact if_pos h
theorem r_own_law_tighter (n : Nat) (a0 a1 : PV) (st : Sto) : tab.call (n + 1) (ix i_own_law_tighter) [a0, a1] st = endOf false (c_own_law_tighter ix (tab.call n) [.val a0, .val a1, .no] st) := e_own_law_tighter n _ st rfl
/-- _law_refused -/
def c_own_law_refused (ix : Nat → Nat) (call : Nat → List PV → Sto → Res PV) : SM := (sSeq (sTry (sSeq (sDrop (mCall (call (ix i_own_contracts_guarded)) (aCons (mTup (aCons (mC (.str "int")) (aCons (mC (.int 1)) aNil))) (aCons (mVar 0) (aCons (mC (.int 1)) (aCons (mC (.int 2)) aNil)))) [])) sNil) (fun j => gsub j 5) (suF gxn "word")) (sSeq (sRet (mC .non)) sNil))
theorem q_own_law_refused (call) : tab.code call d25 = some (c_own_law_refused ix call) := by kernel_rfl
theorem e_own_law_refused (n : Nat) (xs : List PV) (st : Sto) (h : xs.length = 1) : tab.call (n + 1) (ix i_own_law_refused) xs st = endOf false (c_own_law_refused ix (tab.call n) (xs.map Slot.val ++ List.replicate (2 - xs.length) Slot.no) st) := by
  show tab.run (tab.call n) d25 xs st = _
  unfold Tab.run
  rw [q_own_law_refused]
  exact if_pos h
theorem r_own_law_refused (n : Nat) (a0 : PV) (st : Sto) : tab.call (n + 1) (ix i_own_law_refused) [a0] st = endOf false (c_own_law_refused ix (tab.call n) [.val a0, .no] st) := e_own_law_refused n _ st rfl
/-- law -/
def c_own_law_0 (ix : Nat → Nat) (call : Nat → List PV → Sto → Res PV) : SM := (sNew 1 (aCall (call (ix i_law_draws)) (aCons (mVar 0) aNil) []))
def c_own_law_1_0 (ix : Nat → Nat) (call : Nat → List PV → Sto → Res PV) : SM := (sSet 3 (mCall (call (ix i_law_vaguer)) (aCons (mVar 1) (aCons (mCall (call (ix i_law_type)) (aCons (mVar 1) (aCons (mC (.int 3)) aNil)) []) aNil)) []))
def c_own_law_1_1 (ix : Nat → Nat) (call : Nat → List PV → Sto → Res PV) : SM := (sSet 4 (mCall (call (ix i_own_law_contract)) (aCons (mVar 3) aNil) []))
def c_own_law_1_2 (ix : Nat → Nat) (call : Nat → List PV → Sto → Res PV) : SM := (sIf (bOr (bVal (mBin opIsNot (mCall (call (ix i_own_contracts_is_contract)) (aCons (mVar 4) aNil) [(.int 8)]) (mC (.bl true)))) (bNot (bVal (mCall (call (ix i_law_same)) (aCons (mCall (call (ix i_contracts_contract_of)) (aCons (mVar 3) aNil) []) (aCons (mVar 4) aNil)) [])))) (sSeq (sRet (mC (.bl false))) sNil) sNil)
def c_own_law_1_3 (ix : Nat → Nat) (call : Nat → List PV → Sto → Res PV) : SM := (sIf (bNot (bVal (mCall (call (ix i_law_same)) (aCons (mCall (call (ix i_own_contracts_guarded)) (aCons (mTup (aCons (mC (.str "int")) (aCons (mC (.int 1)) aNil))) (aCons (mVar 4) (aCons (mC (.int 1)) (aCons (mC (.int 2)) aNil)))) []) (aCons (mTup (aCons (mC (.str "guard")) (aCons (mTup (aCons (mC (.str "int")) (aCons (mC (.int 1)) aNil))) (aCons (mVar 4) (aCons (mC (.int 1)) (aCons (mC (.int 2)) aNil)))))) aNil)) []))) (sSeq (sRet (mC (.bl false))) sNil) sNil)
def c_own_law_1_4 (ix : Nat → Nat) (call : Nat → List PV → Sto → Res PV) : SM := (sSet 5 (mCall (call (ix i_own_law_contract)) (aCons (mCall (call (ix i_law_vaguer)) (aCons (mVar 1) (aCons (mVar 3) aNil)) []) aNil) []))
def c_own_law_1_5 (ix : Nat → Nat) (call : Nat → List PV → Sto → Res PV) : SM := (sIf (bOr (bNot (bVal (mCall (call (ix i_law_same)) (aCons (mCall (call (ix i_contracts_tighter)) (aCons (mVar 4) (aCons (mVar 5) aNil)) []) (aCons (mCall (call (ix i_own_law_tighter)) (aCons (mVar 4) (aCons (mVar 5) aNil)) []) aNil)) []))) (bOr (bNot (bVal (mCall (call (ix i_law_same)) (aCons (mCall (call (ix i_contracts_tighter)) (aCons (mVar 5) (aCons (mVar 4) aNil)) []) (aCons (mCall (call (ix i_own_law_tighter)) (aCons (mVar 5) (aCons (mVar 4) aNil)) []) aNil)) []))) (bVal (mBin opIsNot (mCall (call (ix i_contracts_tighter)) (aCons (mVar 4) (aCons (mVar 4) aNil)) []) (mC (.bl true)))))) (sSeq (sRet (mC (.bl false))) sNil) sNil)
def c_own_law_1_6 (ix : Nat → Nat) (call : Nat → List PV → Sto → Res PV) : SM := (sSet 6 (mCall (call (ix i_law_plain)) (aCons (mVar 1) (aCons (mC (.int 3)) aNil)) []))
def c_own_law_1_7 (ix : Nat → Nat) (call : Nat → List PV → Sto → Res PV) : SM := (sSet 7 (mBin opAdd (mTup (aCons (mBinS opIx (mVar 6) (mC (.int 0))) aNil)) (mBin opMul (mTup (aCons (mTup (aCons (mC (.str "any")) aNil)) aNil)) (mBin opSub (mBi (Bf.f .len) (aCons (mVar 6) aNil)) (mC (.int 1))))))
def c_own_law_1_8 (ix : Nat → Nat) (call : Nat → List PV → Sto → Res PV) : SM := (sSet 8 (mTup (aCons (mC (.str "tag")) (aCons (mVar 7) (aCons (mCall (call (ix i_law_value)) (aCons (mVar 1) (aCons (mVar 7) (aCons (mC (.int 2)) aNil))) []) aNil)))))
def c_own_law_1_9 (ix : Nat → Nat) (call : Nat → List PV → Sto → Res PV) : SM := (sIf (bOr (bVal (mBin opEq (mVar 6) (mTup (aCons (mC (.str "any")) aNil)))) (bVal (mBin opEq (mCall (call (ix i_law_draw)) (aCons (mVar 1) (aCons (mC (.int 2)) aNil)) []) (mC (.int 0))))) (sSeq (sSet 8 (mCall (call (ix i_law_value)) (aCons (mVar 1) (aCons (mTup (aCons (mC (.str "any")) aNil)) (aCons (mC (.int 3)) aNil))) [])) sNil) sNil)
def c_own_law_1_10 (ix : Nat → Nat) (call : Nat → List PV → Sto → Res PV) : SM := (sAsg (gTp (gsCons (gNm 12) (gsCons (gNm 13) gsNil))) (mTup (aCons (mCall (call (ix i_values_cast_value)) (aCons (mVar 8) (aCons (mTup (aCons (mC (.str "any")) aNil)) (aCons (mVar 6) (aCons (mTup (aCons (mTup (aCons (mC (.str "p")) aNil)) (aCons (mC (.bl true)) aNil))) aNil)))) []) (aCons (mCall (call (ix i_contracts_guard_value)) (aCons (mCall (call (ix i_law_bare)) (aCons (mVar 8) aNil) []) (aCons (mCall (call (ix i_own_law_contract)) (aCons (mVar 6) aNil) []) (aCons (mC (.str "p")) (aCons (mC (.str "q")) aNil)))) []) aNil))))
def c_own_law_1_11 (ix : Nat → Nat) (call : Nat → List PV → Sto → Res PV) : SM := (sIf (bOr (bVal (mBin opNe (mBinS opIx (mVar 12) (mC (.int 0))) (mBinS opIx (mVar 13) (mC (.int 0))))) (bAnd (bVal (mBin opEq (mBinS opIx (mVar 12) (mC (.int 0))) (mC (.str "blame")))) (bVal (mBin opNe (mVar 13) (mTup (aCons (mC (.str "blame")) (aCons (mC (.str "p")) aNil))))))) (sSeq (sRet (mC (.bl false))) sNil) sNil)
def c_own_law_1_12 (ix : Nat → Nat) (call : Nat → List PV → Sto → Res PV) : SM := (sIf (bAnd (bVal (mBin opEq (mBinS opIx (mVar 12) (mC (.int 0))) (mC (.str "ok")))) (bOr (bNot (bVal (mCall (call (ix i_law_same)) (aCons (mBinS opIx (mVar 13) (mC (.int 1))) (aCons (mCall (call (ix i_law_bare)) (aCons (mVar 8) aNil) []) aNil)) []))) (bNot (bVal (mCall (call (ix i_law_same)) (aCons (mCall (call (ix i_own_contracts_shown_guarded)) (aCons (mBinS opIx (mVar 13) (mC (.int 1))) aNil) []) (aCons (mCall (call (ix i_values_shown)) (aCons (mBinS opIx (mVar 12) (mC (.int 1))) aNil) []) aNil)) []))))) (sSeq (sRet (mC (.bl false))) sNil) sNil)
def c_own_law_1_13 (ix : Nat → Nat) (call : Nat → List PV → Sto → Res PV) : SM := (sSet 9 (mCall (call (ix i_own_law_contract)) (aCons (mCall (call (ix i_law_vaguer)) (aCons (mVar 1) (aCons (mVar 6) aNil)) []) aNil) []))
def c_own_law_1_14 (ix : Nat → Nat) (call : Nat → List PV → Sto → Res PV) : SM := (sIf (bAnd (bVal (mBin opEq (mBinS opIx (mVar 13) (mC (.int 0))) (mC (.str "ok")))) (bVal (mBin opNe (mBinS opIx (mCall (call (ix i_contracts_guard_value)) (aCons (mCall (call (ix i_law_bare)) (aCons (mVar 8) aNil) []) (aCons (mVar 9) (aCons (mC (.str "p")) (aCons (mC (.str "q")) aNil)))) []) (mC (.int 0))) (mC (.str "ok"))))) (sSeq (sRet (mC (.bl false))) sNil) sNil)
def c_own_law_1_15 (ix : Nat → Nat) (call : Nat → List PV → Sto → Res PV) : SM := (sSet 10 (mFz (aCons (mC .non) (aCons (mTup aNil) (aCons (mTup (aCons (mC (.str "is")) (aCons (mC (.str "any")) aNil))) (aCons (mTup (aCons (mC (.str "is")) aNil)) (aCons (mTup (aCons (mC (.str "to")) (aCons (mVar 4) aNil))) (aCons (mTup (aCons (mC (.str "both")) (aCons (mVar 4) (aCons (mVar 4) (aCons (mVar 4) aNil))))) (aCons (mTup (aCons (mC (.str "each")) aNil)) (aCons (mFz (aCons (mC (.str "all")) aNil)) (aCons (mTup (aCons (mC (.str "all")) (aCons (mVar 4) aNil))) (aCons (mTup (aCons (mC (.str "each")) (aCons (mC .non) aNil))) (aCons (mTup (aCons (mC (.str "every")) (aCons (mVar 4) aNil))) aNil)))))))))))))
def c_own_law_1_16 (ix : Nat → Nat) (call : Nat → List PV → Sto → Res PV) : SM := (sSet 11 (mBinS opIx (mVar 10) (mCall (call (ix i_law_draw)) (aCons (mVar 1) (aCons (mC (.int 11)) aNil)) [])))
def c_own_law_1_17 (ix : Nat → Nat) (call : Nat → List PV → Sto → Res PV) : SM := (sIf (bOr (bVal (mBin opIsNot (mCall (call (ix i_own_contracts_is_contract)) (aCons (mVar 11) aNil) [(.int 8)]) (mC (.bl false)))) (bVal (mBin opNe (mCall (call (ix i_own_law_refused)) (aCons (mVar 11) aNil) []) (mC (.str "contract"))))) (sSeq (sRet (mC (.bl false))) sNil) sNil)
def c_own_law_1b (ix : Nat → Nat) (call : Nat → List PV → Sto → Res PV) : SM := (sSeq (c_own_law_1_0 ix call) (sSeq (c_own_law_1_1 ix call) (sSeq (c_own_law_1_2 ix call) (sSeq (c_own_law_1_3 ix call) (sSeq (c_own_law_1_4 ix call) (sSeq (c_own_law_1_5 ix call) (sSeq (c_own_law_1_6 ix call) (sSeq (c_own_law_1_7 ix call) (sSeq (c_own_law_1_8 ix call) (sSeq (c_own_law_1_9 ix call) (sSeq (c_own_law_1_10 ix call) (sSeq (c_own_law_1_11 ix call) (sSeq (c_own_law_1_12 ix call) (sSeq (c_own_law_1_13 ix call) (sSeq (c_own_law_1_14 ix call) (sSeq (c_own_law_1_15 ix call) (sSeq (c_own_law_1_16 ix call) (sSeq (c_own_law_1_17 ix call) sNil))))))))))))))))))
def c_own_law_1 (ix : Nat → Nat) (call : Nat → List PV → Sto → Res PV) : SM := (sFor (gNm 2) (aRange1 (aCons (mC (.int 6)) aNil)) (c_own_law_1b ix call))
def c_own_law_2 (ix : Nat → Nat) (call : Nat → List PV → Sto → Res PV) : SM := (sRet (mC (.bl true)))
def c_own_law (ix : Nat → Nat) (call : Nat → List PV → Sto → Res PV) : SM := (sSeq (c_own_law_0 ix call) (sSeq (c_own_law_1 ix call) (sSeq (c_own_law_2 ix call) sNil)))
theorem q_own_law (call) : tab.code call d26 = some (c_own_law ix call) := by kernel_rfl
theorem e_own_law (n : Nat) (xs : List PV) (st : Sto) (h : xs.length = 1) : tab.call (n + 1) (ix i_own_law) xs st = endOf false (c_own_law ix (tab.call n) (xs.map Slot.val ++ List.replicate (14 - xs.length) Slot.no) st) := by
  show tab.run (tab.call n) d26 xs st = _
  unfold Tab.run
  rw [q_own_law]
  exact if_pos h
theorem r_own_law (n : Nat) (a0 : PV) (st : Sto) : tab.call (n + 1) (ix i_own_law) [a0] st = endOf false (c_own_law ix (tab.call n) [.val a0, .no, .no, .no, .no, .no, .no, .no, .no, .no, .no, .no, .no, .no] st) := e_own_law n _ st rfl
instance : B_types_ground_of tab ix := ⟨inferInstance⟩
instance : B_values_cast_value tab ix := ⟨inferInstance, inferInstance, inferInstance, inferInstance, inferInstance⟩
instance : B_values_tagged tab ix := ⟨inferInstance, inferInstance, inferInstance, inferInstance, inferInstance⟩
instance : B_values_cast_pair tab ix := ⟨inferInstance, inferInstance, inferInstance, inferInstance, inferInstance⟩
instance : B_values_cast_items tab ix := ⟨inferInstance, inferInstance, inferInstance, inferInstance, inferInstance⟩
instance : B_values_shown tab ix := ⟨inferInstance⟩
instance : B_contracts_contract_of tab ix := ⟨inferInstance⟩
instance : B_contracts_guard_value tab ix := ⟨inferInstance⟩
instance : B_contracts_tighter tab ix := ⟨inferInstance⟩
instance : B_law_draws tab ix := ⟨inferInstance⟩
instance : B_law_draw tab ix := ⟨inferInstance⟩
instance : B_law_same tab ix := ⟨inferInstance⟩
instance : B_law_type tab ix := ⟨inferInstance, inferInstance⟩
instance : B_law_vaguer tab ix := ⟨inferInstance, inferInstance⟩
instance : B_law_value tab ix := ⟨inferInstance, inferInstance⟩
instance : B_law_plain tab ix := ⟨inferInstance, inferInstance⟩
instance : B_law_bare tab ix := ⟨inferInstance⟩
end Law

/-! K59B: contracts, the law's own -/
namespace Law
open PySem PySem.Spec PyProof.Rows L2 RZ BK
abbrev C := tab.call 99
theorem in_str2 {x a b : Str} : opIn (.str x) (.tup [.str a, .str b]) = some (.bl (a == x || b == x)) := by
  unfold opIn
  simp only
  unfold opIn0 inOk
  simp [PV.plain, PV.plains, PV.depth, PV.depths, PV.eqv]
theorem eq_kt (a b : BK.Ty) (h : a.dep ≤ 50) : opEq (kt a) (kt b) = some (.bl (decide (a = b))) := by
  unfold opEq
  rw [if_pos (by unfold eqOk; rw [kt_plain, kt_plain, kt_depth, kt_depth]; simp; omega), kt_eqv]
theorem eq_kany (a : BK.Ty) : opEq (kt a) (kt .any) = some (.bl (decide (a = .any))) := by
  unfold opEq
  have e : BK.Ty.any.dep = 1 := rfl
  rw [if_pos (by unfold eqOk; rw [kt_plain, kt_plain, kt_depth, kt_depth, e]; simp; omega), kt_eqv]
section
variable {st : Sto}
@[simp] theorem kl_any : Bf.f .len st [kt .any] = some (.int 1) := (rfl)
@[simp] theorem kl_int : Bf.f .len st [kt .int] = some (.int 2) := (rfl)
@[simp] theorem kl_bool : Bf.f .len st [kt .bool] = some (.int 2) := (rfl)
@[simp] theorem kl_fn {a b : BK.Ty} : Bf.f .len st [kt (.fn a b)] = some (.int 3) := (rfl)
@[simp] theorem kl_pair {a b : BK.Ty} : Bf.f .len st [kt (.pair a b)] = some (.int 3) := (rfl)
@[simp] theorem kl_list {a : BK.Ty} : Bf.f .len st [kt (.list a)] = some (.int 2) := (rfl)
@[simp] theorem ki (a : BK.Ty) : Bf.f .isi st [kt a, .ty "tuple"] = some (.bl true) := by cases a <;> rfl
@[simp] theorem ks_fn {a b : BK.Ty} : opSl (kt (.fn a b)) (some 1) none = some (.tup [kt a, kt b]) := sl1
end
@[simp] theorem isN_str (x : Str) : isN (.str x) = false := rfl
theorem isc_ok : ∀ (n : Nat) (a : BK.Ty) (l : Int) (st : Sto), a.dep ≤ n → (a.dep : Int) ≤ l → tab.call n (ix i_own_contracts_is_contract) [kt a, .int l] st = .ok (.bl true) st
  | 0, a, l, st, h, _ => by have := dep_pos a; omega
  | n + 1, a, l, st, h, hl => by
    have ih := isc_ok n
    have l0 : l ≠ 0 := by have := dep_pos a; omega
    rw [r_own_contracts_is_contract]
    unfold c_own_contracts_is_contract
    cases a with
    | any => simp [l0]
    | int => simp [l0, in_str2]
    | bool => simp [l0, in_str2]
    | fn a b =>
      simp only [Ty.dep] at h hl
      have i1 := ih a (l - 1) st (by omega) (by omega)
      have i2 := ih b (l - 1) st (by omega) (by omega)
      simp [l0, i1, i2]
    | pair a b =>
      simp only [Ty.dep] at h hl
      have i1 := ih a (l - 1) st (by omega) (by omega)
      have i2 := ih b (l - 1) st (by omega) (by omega)
      simp [l0, i1, i2]
    | list a =>
      simp only [Ty.dep] at h hl
      have i1 := ih a (l - 1) st (by omega) (by omega)
      simp [l0, i1]
theorem lcontract_ok : ∀ (n : Nat) (a : BK.Ty) (st : Sto), a.dep ≤ n → tab.call n (ix i_own_law_contract) [enc a] st = .ok (kt a) st
  | 0, a, st, h => by have := dep_pos a; omega
  | n + 1, a, st, h => by
    have ih := lcontract_ok n
    rw [r_own_law_contract]
    unfold c_own_law_contract
    cases a <;> simp [Ty.dep, Nat.max_le] at h <;> simp [ih, h, dPutK, dPutV, dSet]
theorem ltighter_ok : ∀ (n : Nat) (a b : BK.Ty) (st : Sto), a.dep ≤ n → b.dep ≤ n → tab.call n (ix i_own_law_tighter) [kt a, kt b] st = .ok (.bl (tight a b)) st
  | 0, a, b, st, h, _ => by have := dep_pos a; omega
  | n + 1, a, b, st, h, h2 => by
    have ih := fun a b st q1 q2 => ltighter_ok n a b st q1 q2
    have e1 := eq_kt .int .int (by decide)
    have e2 := eq_kt .bool .bool (by decide)
    have e3 := eq_kt .int .bool (by decide)
    have e4 := eq_kt .bool .int (by decide)
    rw [r_own_law_tighter]
    unfold c_own_law_tighter
    cases a <;> cases b <;> simp [Ty.dep, Nat.max_le] at h h2 <;> simp [tight, eq_kany, e1, e2, e3, e4, rangeL, ih, h, h2]
    · rename_i a1 b1 a2 b2
      cases tight a2 a1 <;> simp
    · rename_i a1 b1 a2 b2
      cases tight a1 a2 <;> cases tight b1 b2 <;> simp
    · rename_i a1 a2
      cases tight a1 a2 <;> simp
theorem shg_go {m : Nat} {x : PV} {st : Sto} : ∀ l : Vs, AllV (fun v => ∀ st, tab.call m (ix i_own_contracts_shown_guarded) [encV (sh v)] st = .ok (encV (sh v)) st) l → compGo (gNm 1) bYes (mCall (tab.call m (ix i_own_contracts_shown_guarded)) (aCons (mVar 1) aNil) []) [.val x, .no] (encVs (shL l)) st = .ok (encVs (shL l)) st
  | .nil, _ => rfl
  | .cons v l, h => by
    have ih := shg_go (m := m) (x := x) (st := st) l h.2
    simp [encVs, shL, h.1 st, ih]
theorem shg_ok : ∀ (D : Nat) (v : Va) (n : Nat), v.dep ≤ D → D ≤ n → ∀ st, tab.call n (ix i_own_contracts_shown_guarded) [encV (sh v)] st = .ok (encV (sh v)) st
  | 0, v, n, h, _ => by have := va_pos v; omega
  | D + 1, v, n, hv, hn => fun st => by
    have ih := shg_ok D
    obtain ⟨m, rfl⟩ : ∃ m, n = m + 1 := ⟨n - 1, by omega⟩
    cases v with
    | tag g w =>
      simp only [Va.dep] at hv
      exact shg_ok D w (m + 1) (by omega) (by omega) st
    | int i => rw [r_own_contracts_shown_guarded]; unfold c_own_contracts_shown_guarded; simp [sh, in_str2]
    | bool b => rw [r_own_contracts_shown_guarded]; unfold c_own_contracts_shown_guarded; simp [sh, in_str2]
    | pair a b =>
      simp only [Va.dep] at hv
      rw [r_own_contracts_shown_guarded]; unfold c_own_contracts_shown_guarded
      simp [sh, in_str2, ih a m (by omega) (by omega) st, ih b m (by omega) (by omega) st]
    | items l =>
      simp only [Va.dep] at hv
      have go := shg_go (m := m) (x := encV (.items (shL l))) (st := st) l (AllV_dep (fun v hd => ih v m hd (by omega)) l (by omega))
      rw [r_own_contracts_shown_guarded]; unfold c_own_contracts_shown_guarded
      simp [sh, in_str2, go]
end Law

/-! K59C: a turn of the law -/
namespace Law
open PySem PySem.Spec PyProof.Rows L2 RZ BK
theorem kt_fair : ∀ a : BK.Ty, (kt a).fair = true
  | .any | .int | .bool => rfl
  | .fn a b => by show PV.fair (.tup [.str "to", kt a, kt b]) = true; simp [PV.fair, PV.fairs, kt_fair a, kt_fair b]
  | .pair a b => by show PV.fair (.tup [.str "both", kt a, kt b]) = true; simp [PV.fair, PV.fairs, kt_fair a, kt_fair b]
  | .list a => by show PV.fair (.tup [.str "each", kt a]) = true; simp [PV.fair, PV.fairs, kt_fair a]
theorem sh_slim : ∀ v : Va, slim v = true → slim (sh v) = true := fun v => by
  refine Va.rec (motive_1 := fun v => slim v = true → slim (sh v) = true) (motive_2 := fun l => slimL l = true → slimL (shL l) = true ∧ (shL l).len = l.len) ?_ ?_ ?_ ?_ ?_ ?_ ?_ v
  · exact fun i h => h
  · exact fun b h => h
  · intro a b ia ib h
    simp only [slim, Bool.and_eq_true] at h
    simp [sh, slim, ia h.1, ib h.2]
  · intro l il h
    simp only [slim, Bool.and_eq_true, decide_eq_true_eq] at h
    obtain ⟨h1, h2⟩ := il h.2
    simp [sh, slim, h1, h2, h.1]
  · intro g v iv h
    exact iv h
  · exact fun _ => ⟨rfl, rfl⟩
  · intro v l iv il h
    simp only [slimL, Bool.and_eq_true] at h
    obtain ⟨h1, h2⟩ := il h.2
    simp [shL, slimL, iv h.1, h1, Vs.len, h2]
/-- what is no contract -/
inductive NoC (k : BK.Ty) : PV → Prop
  | a0 : NoC k .non
  | a1 : NoC k (.tup [])
  | a2 : NoC k (.tup [.str "is", .str "any"])
  | a3 : NoC k (.tup [.str "is"])
  | a4 : NoC k (.tup [.str "to", kt k])
  | a5 : NoC k (.tup [.str "both", kt k, kt k, kt k])
  | a6 : NoC k (.tup [.str "each"])
  | a7 : NoC k (.lst [.str "all"])
  | a8 : NoC k (.tup [.str "all", kt k])
  | a9 : NoC k (.tup [.str "each", .non])
  | a10 : NoC k (.tup [.str "every", kt k])
theorem noc_ok {k : BK.Ty} {x : PV} (h : NoC k x) (n : Nat) (st : Sto) : tab.call (n + 2) (ix i_own_contracts_is_contract) [x, .int 8] st = .ok (.bl false) st := by
  have z : tab.call (n + 1) (ix i_own_contracts_is_contract) [.non, .int 7] st = .ok (.bl false) st := by
    rw [r_own_contracts_is_contract]
    unfold c_own_contracts_is_contract
    simp
  rw [r_own_contracts_is_contract]
  unfold c_own_contracts_is_contract
  cases h <;> simp [in_str2, z]
theorem suF_5 {a : PV} : suF gxn "word" 5 [a] = some a := rfl
theorem ref_ok {k : BK.Ty} {x : PV} (h : NoC k x) (n : Nat) (st : Sto) : tab.call (n + 4) (ix i_own_law_refused) [x] st = .ok (.str "contract") st := by
  have z : tab.call (n + 3) (ix i_own_contracts_guarded) [encV (.int 1), x, .int 1, .int 2] st = .exn 5 [.str "contract"] st := by
    rw [r_own_contracts_guarded]
    unfold c_own_contracts_guarded
    simp [noc_ok h n st, x_raise]
  have z' : tab.call (n + 3) (ix i_own_contracts_guarded) [.tup [.str "int", .int 1], x, .int 1, .int 2] st = .exn 5 [.str "contract"] st := z
  rw [r_own_law_refused]
  unfold c_own_law_refused
  simp [z, z', gsub, suF_5]
def gnd : BK.Ty → BK.Ty
  | .pair _ _ => .pair .any .any
  | .list _ => .list .any
  | a => a
def G (s0 : Slot) (ρ : SEnv) (st : Sto) : Prop := ∃ l : List Slot, ρ = s0 :: .val (.ref 0) :: l ∧ l.length = 12 ∧ Dr st 0
theorem turn {s0 a2 a3 a4 a5 a6 a7 a8 a9 a10 a11 a12 a13 : Slot} {st : Sto} (h : Dr st 0) :
    ∃ ρ' st', c_own_law_1b ix C [s0, .val (.ref 0), a2, a3, a4, a5, a6, a7, a8, a9, a10, a11, a12, a13] st = .nx ρ' st' ∧ G s0 ρ' st' := by
  obtain ⟨k0, st1, b1, b3, _, b5⟩ := type3 (T := tab) (ix := ix) h 95
  obtain ⟨k, st2, o1, o3, o4, _, o5⟩ := BK.vague (T := tab) (ix := ix) 98 k0 0 st1 b3 (by omega)
  obtain ⟨k2, st3, t1, t3, t4, _, t5⟩ := BK.vague (T := tab) (ix := ix) 98 k 0 st2 o4 (by omega)
  obtain ⟨pl, st4, p1, p2, p3, _, p5⟩ := plain3 (T := tab) (ix := ix) t4 95
  have e0 : C (ix i_law_type) [.ref 0, .int 3] st = .ok (enc k0) st1 := b5
  have e1 : C (ix i_law_vaguer) [.ref 0, enc k0] st1 = .ok (enc k) st2 := o5
  have e2 : C (ix i_law_vaguer) [.ref 0, enc k] st2 = .ok (enc k2) st3 := t5
  have e3 : C (ix i_law_plain) [.ref 0, .int 3] st3 = .ok (enc pl) st4 := p5
  have lc := fun (t : BK.Ty) (st : Sto) (ht : t.dep ≤ 99) => lcontract_ok 99 t st ht
  have lk := lc k st2 (by omega)
  have lk2 := lc k2 st3 (by omega)
  have is1 := isc_ok 99 k 8 st2 (by omega) (by omega)
  have cn := contract_ok (T := tab) (ix := ix) 99 k st2 (by omega)
  have dk : (kt k).depth ≤ 10 := by rw [kt_depth]; omega
  have s1 := same_ok (T := tab) (ix := ix) (n := 99) (by decide) (kt k) st2 (kt_fair k) (by omega)
  have gd : C (ix i_own_contracts_guarded) [encV (.int 1), kt k, .int 1, .int 2] st2 = .ok (.tup [.str "guard", encV (.int 1), kt k, .int 1, .int 2]) st2 := by
    show tab.call (98 + 1) _ _ _ = _
    rw [r_own_contracts_guarded]
    unfold c_own_contracts_guarded
    simp [isc_ok 98 k 8 st2 (by omega) (by omega)]
  have s2 := same_ok (T := tab) (ix := ix) (n := 99) (by decide) (.tup [.str "guard", encV (.int 1), kt k, .int 1, .int 2]) st2 (by simp [PV.fair, PV.fairs, kt_fair]; rfl) (by
    have e : (encV (.int 1)).depth = 1 := rfl
    simp only [PV.depth, PV.depths, e]; omega)
  have tg := fun (a b : BK.Ty) (st : Sto) (ha : a.dep ≤ 5) (hb : b.dep ≤ 5) => tighter_ok (T := tab) (ix := ix) 99 a b st (by omega) (by omega) (by omega) (by omega)
  have lt := fun (a b : BK.Ty) (st : Sto) (ha : a.dep ≤ 5) (hb : b.dep ≤ 5) => ltighter_ok 99 a b st (by omega) (by omega)
  have u1 := tg k k2 st3 (by omega) (by omega)
  have u2 := tg k2 k st3 (by omega) (by omega)
  have u3 := tg k k st3 (by omega) (by omega)
  have u4 := lt k k2 st3 (by omega) (by omega)
  have u5 := lt k2 k st3 (by omega) (by omega)
  have tr : tight k k = true := by
    have : ∀ a : BK.Ty, tight a a = true := fun a => by induction a <;> simp_all [tight]
    exact this k
  rw [tr] at u3
  have sb : ∀ (a : Bool) st, C (ix i_law_same) [.bl a, .bl a] st = .ok (.bl true) st := fun a st => same_bool (T := tab) (ix := ix) (by decide) a st
  -- the value
  have hgn : nofn (gnd pl) = true ∧ (gnd pl).dep ≤ 2 := by cases pl <;> first | exact ⟨rfl, by simp [gnd, Ty.dep]⟩ | (simp [nofn] at p2; done)
  obtain ⟨v0, st5, h1, h2, h3, h4, _, h6⟩ := value_ok (T := tab) (ix := ix) 90 6 (gnd pl) 2 0 st4 p3 hgn.1 (by omega) (by have := hgn.2; show 2 * 2 + _ ≤ 6; omega)
  have e4 : C (ix i_law_value) [.ref 0, enc (gnd pl), .int 2] st4 = .ok (encV v0) st5 := h6
  obtain ⟨w, st6, w1, w2, w3, _, w5⟩ := drawV (T := tab) (ix := ix) h4 98 (lim := 2) (by decide) (by decide)
  have e5 : C (ix i_law_draw) [.ref 0, .int 2] st5 = .ok (.int w) st6 := w5
  -- whichever stands
  have any3 : ∀ st0, Dr st0 0 → ∃ v st', has .any v = true ∧ slim v = true ∧ v.dep ≤ 10 ∧ Dr st' 0 ∧ C (ix i_law_value) [.ref 0, enc .any, .int 3] st0 = .ok (encV v) st' := fun st0 hd => by
    obtain ⟨v, st', q1, q2, q3, q4, _, q6⟩ := value_ok (T := tab) (ix := ix) 89 7 .any 3 0 st0 hd rfl (by decide) (by decide)
    exact ⟨v, st', q1, q2, q3, q4, q6⟩
  obtain ⟨v, st7, v1, v2, v3, v4, v5⟩ : ∃ v st7, has .any v = true ∧ slim v = true ∧ v.dep ≤ 10 ∧ Dr st7 0 ∧ ∀ {b0 b4 b5 b7 b9 b10 b11 b12 b13 b14 : Slot}, c_own_law_1_9 ix C [s0, .val (.ref 0), b0, b4, b5, b7, .val (enc pl), b9, .val (encV (.tag (gnd pl) v0)), b10, b11, b12, b13, b14] st5 = .nx [s0, .val (.ref 0), b0, b4, b5, b7, .val (enc pl), b9, .val (encV v), b10, b11, b12, b13, b14] st7 := by
    by_cases ha : pl = .any
    · subst ha
      obtain ⟨v, st7, q1, q2, q3, q4, q6⟩ := any3 st5 h4
      exact ⟨v, st7, q1, q2, q3, q4, by intros; simp [c_own_law_1_9, q6]⟩
    · by_cases hw : w = 0
      · subst hw
        obtain ⟨v, st7, q1, q2, q3, q4, q6⟩ := any3 st6 w3
        exact ⟨v, st7, q1, q2, q3, q4, by intros; simp [c_own_law_1_9, e5, q6, ha]⟩
      · refine ⟨.tag (gnd pl) v0, st6, ?_, h2, by simp only [Va.dep]; omega, w3, by intros; simp [c_own_law_1_9, e5, ha, hw]⟩
        have : isGr (gnd pl) = true := by cases pl <;> first | rfl | exact absurd rfl ha | (simp [nofn] at p2; done)
        simp [has, this, h1]
  have co := cast_ok (T := tab) (ix := ix) 10 v .any pl 99 v3 (by decide) v1 v2 (by cases pl <;> rfl) (by decide) (by omega)
  have c1 := co (.tup [.tup [.str "p"], .bl true]) st7
  have br := bare_ok (T := tab) (ix := ix) 99 v st7 (by omega)
  have sd := sh_dep v
  have lp := lc pl st7 (by omega)
  have g1 := fun t st => guard_ok (T := tab) (ix := ix) (nm := .str "p") (ot := .str "q") 99 (sh v) t st (by omega) (sh_slim v v2)
  have gp := g1 pl st7
  have gf := goes_fit pl v
  have cf := cast_fits .any pl v v1 (by cases pl <;> rfl) p2
  obtain ⟨x, st8, x1, x2, x3, _, x5⟩ := BK.vague (T := tab) (ix := ix) 98 pl 0 st7 v4 (by omega)
  have e6 : C (ix i_law_vaguer) [.ref 0, enc pl] st7 = .ok (enc x) st8 := x5
  have lx := lc x st8 (by omega)
  have gx := g1 x st8
  have gxf := goes_finer pl x (sh v) x2
  have br8 := bare_ok (T := tab) (ix := ix) 99 v st8 (by omega)
  obtain ⟨y, st9, y1, y2, y3, _, y5⟩ := drawV (T := tab) (ix := ix) x3 98 (lim := 11) (by decide) (by decide)
  have e7 : C (ix i_law_draw) [.ref 0, .int 11] st8 = .ok (.int y) st9 := y5
  have sv := same_ok (T := tab) (ix := ix) (n := 99) (by decide) (encV (sh v)) st7 (encV_fair _ (sh_slim v v2)) (by have := sh_depth v; omega)
  have sg := shg_ok 10 v 99 v3 (by decide) st7
  unfold c_own_law_1b
  refine stepX (by simp [-SR.nx.injEq, c_own_law_1_0, e0, e1]; try rfl) ?_
  refine stepX (by simp [-SR.nx.injEq, c_own_law_1_1, lk]; try rfl) ?_
  refine stepK (by simp [c_own_law_1_2, is1, cn, s1]) ?_
  refine stepK (by simp [c_own_law_1_3, gd, s2]) ?_
  refine stepX (by simp [-SR.nx.injEq, c_own_law_1_4, e2, lk2]; try rfl) ?_
  refine stepK (by simp [c_own_law_1_5, u1, u2, u3, u4, u5, sb]) ?_
  refine stepX (by simp [-SR.nx.injEq, c_own_law_1_6, e3]; try rfl) ?_
  refine stepX (ρ1 := [s0, .val (.ref 0), a2, .val (enc k), .val (kt k), .val (kt k2), .val (enc pl), .val (enc (gnd pl)), a8, a9, a10, a11, a12, a13]) (st1 := st4) (by
    cases pl with
    | fn => simp [nofn] at p2
    | _ => simp [c_own_law_1_7, gnd, opMul] <;> rfl) ?_
  refine stepX (ρ1 := [s0, .val (.ref 0), a2, .val (enc k), .val (kt k), .val (kt k2), .val (enc pl), .val (enc (gnd pl)), .val (encV (.tag (gnd pl) v0)), a9, a10, a11, a12, a13]) (st1 := st5) (by simp [c_own_law_1_8, e4]) ?_
  refine stepX v5 ?_
  refine stepX (ρ1 := [s0, .val (.ref 0), a2, .val (enc k), .val (kt k), .val (kt k2), .val (enc pl), .val (enc (gnd pl)), .val (encV v), a9, a10, a11, .val (BK.res (.tup [.tup [.str "p"], .bl true]) (vcast .any pl v)), .val (gres (.str "p") pl (sh v))]) (st1 := st7) (by simp [c_own_law_1_10, c1, br, lp, gp]) ?_
  obtain ⟨z, z1, z2⟩ : ∃ z, opIx st9 (.lst [.non, .tup [], .tup [.str "is", .str "any"], .tup [.str "is"], .tup [.str "to", kt k], .tup [.str "both", kt k, kt k, kt k], .tup [.str "each"], .lst [.str "all"], .tup [.str "all", kt k], .tup [.str "each", .non], .tup [.str "every", kt k]]) (.int y) = some z ∧ NoC k z := by
    have hy : y = 0 ∨ y = 1 ∨ y = 2 ∨ y = 3 ∨ y = 4 ∨ y = 5 ∨ y = 6 ∨ y = 7 ∨ y = 8 ∨ y = 9 ∨ y = 10 := by omega
    rcases hy with rfl | rfl | rfl | rfl | rfl | rfl | rfl | rfl | rfl | rfl | rfl
    · exact ⟨_, rfl, .a0⟩
    · exact ⟨_, rfl, .a1⟩
    · exact ⟨_, rfl, .a2⟩
    · exact ⟨_, rfl, .a3⟩
    · exact ⟨_, rfl, .a4⟩
    · exact ⟨_, rfl, .a5⟩
    · exact ⟨_, rfl, .a6⟩
    · exact ⟨_, rfl, .a7⟩
    · exact ⟨_, rfl, .a8⟩
    · exact ⟨_, rfl, .a9⟩
    · exact ⟨_, rfl, .a10⟩
  have nc := noc_ok z2 97 st9
  have rf := ref_ok z2 95 st9
  have nc' : C (ix i_own_contracts_is_contract) [z, .int 8] st9 = .ok (.bl false) st9 := nc
  have rf' : C (ix i_own_law_refused) [z] st9 = .ok (.str "contract") st9 := rf
  have nes : opNe (.str "contract") (.str "contract") = some (.bl false) := by simp
  have last : ∀ {b8 b9 b12 b13 : Slot}, ∃ ρ' st', sSeq (c_own_law_1_15 ix C) (sSeq (c_own_law_1_16 ix C) (sSeq (c_own_law_1_17 ix C) sNil)) [s0, .val (.ref 0), a2, .val (enc k), .val (kt k), .val (kt k2), .val (enc pl), .val (enc (gnd pl)), b8, b9, a10, a11, b12, b13] st8 = .nx ρ' st' ∧ G s0 ρ' st' := by
    intro b8 b9 b12 b13
    refine stepX (by simp [-SR.nx.injEq, c_own_law_1_15]; try rfl) ?_
    refine stepX (ρ1 := _) (st1 := st9) (by simp [-SR.nx.injEq, c_own_law_1_16, e7, z1]; try rfl) ?_
    refine stepK (by simp [c_own_law_1_17, nc', rf']) ?_
    exact ⟨_, st9, rfl, _, rfl, rfl, y3⟩
  cases q : vcast .any pl v with
  | none =>
    rw [q] at cf
    have fit0 : goesM (tyM pl) (sh v) = false := by rw [gf, ← cf]; rfl
    have gr : gres (.str "p") pl (sh v) = blP (.str "p") := by unfold gres; rw [fit0]; simp
    rw [gr]
    have ne1 : opNe (blP (.str "p")) (blP (.str "p")) = some (.bl false) := ne_self _ rfl (by decide)
    refine stepK (by simp [c_own_law_1_11, BK.res, ne1]) ?_
    refine stepK (by simp [c_own_law_1_12, BK.res]) ?_
    refine stepX (by simp [-SR.nx.injEq, c_own_law_1_13, e6, lx]; try rfl) ?_
    refine stepK (by simp [c_own_law_1_14]) ?_
    exact last
  | some v' =>
    rw [q] at cf
    have fit1 : goesM (tyM pl) (sh v) = true := by rw [gf, ← cf]; rfl
    have gr : gres (.str "p") pl (sh v) = okP (sh v) := by unfold gres; rw [fit1]; simp
    have grx : gres (.str "p") x (sh v) = okP (sh v) := by unfold gres; rw [gxf fit1]; simp
    rw [grx] at gx
    rw [gr]
    have ks := (cast_keeps .any pl v v' v1 (by cases pl <;> rfl) q).1
    have vd := (cast_dep .any pl v v' q).1
    have so := shown_ok (T := tab) (ix := ix) 20 v' 99 (by omega) (by decide) st7
    rw [ks] at so
    refine stepK (by simp [c_own_law_1_11, BK.res]) ?_
    refine stepK (by simp [c_own_law_1_12, BK.res, br, sv, sg, so]) ?_
    refine stepX (by simp [-SR.nx.injEq, c_own_law_1_13, e6, lx]; try rfl) ?_
    refine stepK (by simp [c_own_law_1_14, br8, gx]) ?_
    exact last
theorem lawTrue (ns : List Int) (h : ns.length ≤ 63) : ∃ st, tab.call 100 26 [.scr (ns.map PV.int)] [] = .ok (.bl true) st := by
  have hd : Dr [SO.lst [.lst (ns.map PV.int), .int 0, .int 0, .int 1]] 0 := ⟨ns, 0, 0, 1, rfl, by decide, by decide⟩
  obtain ⟨ρ', st', g, l, rfl, hl, hd2⟩ := range_inv (i := 2) (b := c_own_law_1b ix C) (I := fun _ ρ st => G (.val (.scr (ns.map PV.int))) ρ st) 6 0 (.val (.scr (ns.map PV.int)) :: .val (.ref 0) :: List.replicate 12 .no) _ ⟨_, rfl, rfl, hd⟩ (fun j _ _ ρ st hI => by
    obtain ⟨l, rfl, hl, hd⟩ := hI
    match l, hl with
    | [a2, a3, a4, a5, a6, a7, a8, a9, a10, a11, a12, a13], _ => exact turn hd)
  refine ⟨st', ?_⟩
  show tab.call (99 + 1) (ix i_own_law) _ _ = _
  rw [r_own_law]
  have e0 : c_own_law_0 ix C [.val (.scr (ns.map PV.int)), .no, .no, .no, .no, .no, .no, .no, .no, .no, .no, .no, .no, .no] [] = .nx (.val (.scr (ns.map PV.int)) :: .val (.ref 0) :: List.replicate 12 .no) [SO.lst [.lst (ns.map PV.int), .int 0, .int 0, .int 1]] := by
    simp [c_own_law_0, draws7 (T := tab) (ix := ix) 98 ns [], PV.noRs, PV.noR, noRs_ints]
  have e1 : c_own_law_1 ix C (.val (.scr (ns.map PV.int)) :: .val (.ref 0) :: List.replicate 12 .no) [SO.lst [.lst (ns.map PV.int), .int 0, .int 0, .int 1]] = .nx (.val (.scr (ns.map PV.int)) :: .val (.ref 0) :: l) st' := by
    rw [← g]
    simp only [c_own_law_1]
    rfl
  unfold c_own_law
  rw [x_seq, e0, nextS_nx]
  show endOf false (sSeq (c_own_law_1 ix C) _ _ _) = _
  rw [x_seq, e1, nextS_nx]
  rfl
end Law


namespace Law
open PySem PySem.Spec PyProof.Rows L2 RZ BK
/-! ### the head (printed by gen.py) -/
theorem bnd0 {d : BK.FD} (h : ∀ (kV doc pm : Value) (an : Option Addr) (cdv ct : Value) (us : List Value), us.length = d.ps.length → bindArgs (BK.fdOf d .none kV doc pm an cdv ct) ⟨us, []⟩ = pure (d.ps.zip us)) : BK.Bnd0 d := h
theorem s0 : FnScope d0.N d0.ps (defScope d0.st) := ⟨rfl, rfl, rfl, by decide +kernel, rfl, by decide +kernel, by decide +kernel⟩
theorem b0 : BK.Bnd0 d0 := fun _ _ _ _ _ _ us hl => match us, hl with | [_], _ => rfl
theorem s1 : FnScope d1.N d1.ps (defScope d1.st) := ⟨rfl, rfl, rfl, by decide +kernel, rfl, by decide +kernel, by decide +kernel⟩
theorem b1 : BK.Bnd0 d1 := fun _ _ _ _ _ _ us hl => match us, hl with | [_, _, _, _], _ => rfl
theorem s2 : FnScope d2.N d2.ps (defScope d2.st) := ⟨rfl, rfl, rfl, by decide +kernel, rfl, by decide +kernel, by decide +kernel⟩
theorem b2 : BK.Bnd0 d2 := fun _ _ _ _ _ _ us hl => match us, hl with | [_, _, _], _ => rfl
theorem s3 : FnScope d3.N d3.ps (defScope d3.st) := ⟨rfl, rfl, rfl, by decide +kernel, rfl, by decide +kernel, by decide +kernel⟩
theorem b3 : BK.Bnd0 d3 := fun _ _ _ _ _ _ us hl => match us, hl with | [_, _, _, _], _ => rfl
theorem s4 : FnScope d4.N d4.ps (defScope d4.st) := ⟨rfl, rfl, rfl, by decide +kernel, rfl, by decide +kernel, by decide +kernel⟩
theorem b4 : BK.Bnd0 d4 := fun _ _ _ _ _ _ us hl => match us, hl with | [_, _, _, _], _ => rfl
theorem s5 : FnScope d5.N d5.ps (defScope d5.st) := ⟨rfl, rfl, rfl, by decide +kernel, rfl, by decide +kernel, by decide +kernel⟩
theorem b5 : BK.Bnd0 d5 := fun _ _ _ _ _ _ us hl => match us, hl with | [_], _ => rfl
theorem s6 : FnScope d6.N d6.ps (defScope d6.st) := ⟨rfl, rfl, rfl, by decide +kernel, rfl, by decide +kernel, by decide +kernel⟩
theorem s7 : FnScope d7.N d7.ps (defScope d7.st) := ⟨rfl, rfl, rfl, by decide +kernel, rfl, by decide +kernel, by decide +kernel⟩
theorem b7 : BK.Bnd0 d7 := fun _ _ _ _ _ _ us hl => match us, hl with | [_], _ => rfl
theorem s8 : FnScope d8.N d8.ps (defScope d8.st) := ⟨rfl, rfl, rfl, by decide +kernel, rfl, by decide +kernel, by decide +kernel⟩
theorem b8 : BK.Bnd0 d8 := fun _ _ _ _ _ _ us hl => match us, hl with | [_, _, _, _], _ => rfl
theorem s9 : FnScope d9.N d9.ps (defScope d9.st) := ⟨rfl, rfl, rfl, by decide +kernel, rfl, by decide +kernel, by decide +kernel⟩
theorem b9 : BK.Bnd0 d9 := fun _ _ _ _ _ _ us hl => match us, hl with | [_, _, _, _], _ => rfl
theorem s10 : FnScope d10.N d10.ps (defScope d10.st) := ⟨rfl, rfl, rfl, by decide +kernel, rfl, by decide +kernel, by decide +kernel⟩
theorem b10 : BK.Bnd0 d10 := fun _ _ _ _ _ _ us hl => match us, hl with | [_], _ => rfl
theorem s11 : FnScope d11.N d11.ps (defScope d11.st) := ⟨rfl, rfl, rfl, by decide +kernel, rfl, by decide +kernel, by decide +kernel⟩
theorem b11 : BK.Bnd0 d11 := fun _ _ _ _ _ _ us hl => match us, hl with | [_, _], _ => rfl
theorem s12 : FnScope d12.N d12.ps (defScope d12.st) := ⟨rfl, rfl, rfl, by decide +kernel, rfl, by decide +kernel, by decide +kernel⟩
theorem b12 : BK.Bnd0 d12 := fun _ _ _ _ _ _ us hl => match us, hl with | [_], _ => rfl
theorem s13 : FnScope d13.N d13.ps (defScope d13.st) := ⟨rfl, rfl, rfl, by decide +kernel, rfl, by decide +kernel, by decide +kernel⟩
theorem b13 : BK.Bnd0 d13 := fun _ _ _ _ _ _ us hl => match us, hl with | [_, _], _ => rfl
theorem s14 : FnScope d14.N d14.ps (defScope d14.st) := ⟨rfl, rfl, rfl, by decide +kernel, rfl, by decide +kernel, by decide +kernel⟩
theorem b14 : BK.Bnd0 d14 := fun _ _ _ _ _ _ us hl => match us, hl with | [_, _], _ => rfl
theorem s15 : FnScope d15.N d15.ps (defScope d15.st) := ⟨rfl, rfl, rfl, by decide +kernel, rfl, by decide +kernel, by decide +kernel⟩
theorem b15 : BK.Bnd0 d15 := fun _ _ _ _ _ _ us hl => match us, hl with | [_, _], _ => rfl
theorem s16 : FnScope d16.N d16.ps (defScope d16.st) := ⟨rfl, rfl, rfl, by decide +kernel, rfl, by decide +kernel, by decide +kernel⟩
theorem b16 : BK.Bnd0 d16 := fun _ _ _ _ _ _ us hl => match us, hl with | [_, _], _ => rfl
theorem s19 : FnScope d19.N d19.ps (defScope d19.st) := ⟨rfl, rfl, rfl, by decide +kernel, rfl, by decide +kernel, by decide +kernel⟩
theorem b19 : BK.Bnd0 d19 := fun _ _ _ _ _ _ us hl => match us, hl with | [_, _, _], _ => rfl
theorem s20 : FnScope d20.N d20.ps (defScope d20.st) := ⟨rfl, rfl, rfl, by decide +kernel, rfl, by decide +kernel, by decide +kernel⟩
theorem b20 : BK.Bnd0 d20 := fun _ _ _ _ _ _ us hl => match us, hl with | [_, _], _ => rfl
theorem s22 : FnScope d22.N d22.ps (defScope d22.st) := ⟨rfl, rfl, rfl, by decide +kernel, rfl, by decide +kernel, by decide +kernel⟩
theorem b22 : BK.Bnd0 d22 := fun _ _ _ _ _ _ us hl => match us, hl with | [_], _ => rfl
theorem s23 : FnScope d23.N d23.ps (defScope d23.st) := ⟨rfl, rfl, rfl, by decide +kernel, rfl, by decide +kernel, by decide +kernel⟩
theorem b23 : BK.Bnd0 d23 := fun _ _ _ _ _ _ us hl => match us, hl with | [_], _ => rfl
theorem s24 : FnScope d24.N d24.ps (defScope d24.st) := ⟨rfl, rfl, rfl, by decide +kernel, rfl, by decide +kernel, by decide +kernel⟩
theorem b24 : BK.Bnd0 d24 := fun _ _ _ _ _ _ us hl => match us, hl with | [_, _], _ => rfl
theorem s25 : FnScope d25.N d25.ps (defScope d25.st) := ⟨rfl, rfl, rfl, by decide +kernel, rfl, by decide +kernel, by decide +kernel⟩
theorem b25 : BK.Bnd0 d25 := fun _ _ _ _ _ _ us hl => match us, hl with | [_], _ => rfl
theorem s26 : FnScope d26.N d26.ps (defScope d26.st) := ⟨rfl, rfl, rfl, by decide +kernel, rfl, by decide +kernel, by decide +kernel⟩
theorem b26 : BK.Bnd0 d26 := fun _ _ _ _ _ _ us hl => match us, hl with | [_], _ => rfl
abbrev xst1 : Stmt := BK.memS (topS 2) 0
theorem xsc1 : FnScope ["self", "word"] ["self", "word"] (defScope xst1) := ⟨rfl, rfl, rfl, by decide +kernel, rfl, by decide +kernel, by decide +kernel⟩
theorem xin1 : BK.isInit1 "TypeFault" "word" (defBody xst1) = true := by kernel_rfl
theorem xgl1 : (defScope xst1).names.lookup ("TypeFault" : Str) = some .globalImplicit := by kernel_rfl
theorem xbn1 (kV doc pm : Value) (an : Option Addr) (cdv ct : Value) (us : List Value) (h : us.length = 2) : bindArgs (PySem.W.fnOf "__init__" "Refused.__init__" (defArgs xst1) (defBody xst1) (defScope xst1) .none kV doc pm an cdv ct) ⟨us, []⟩ = pure ((["self", "word"] : List Str).zip us) := match us, h with | [_, _], _ => rfl
theorem all_mk {P : Program} {w : World} {K : PySem.W.Frag} {h : Heap} {mg : Str → Option Value} {fa : Addr} (X : K.In h) (G : h.Ns mainGlobals mg) (hfa : mg "law" = some (.ref fa))
    {k_1 : Tok}
    {t1 : Addr} {td1 : Option Addr} {tn1 : Nat} {ts1 : Array (Option Value)}
    {k_2 : Tok}
    {k_3 : Tok}
    {k_4 : Tok}
    {k_5 : Tok}
    {k_6 : Tok}
    {k_7 : Tok}
    {k_8 : Tok}
    {k_9 : Tok}
    {k_10 : Tok}
    {k_11 : Tok}
    {t2 : Addr} {tn2 : Nat}
    {k_12 : Tok}
    {k_13 : Tok}
    {k_14 : Tok}
    {k_15 : Tok}
    {k_16 : Tok}
    {k_17 : Tok}
    {t3 : Addr} {tn3 : Nat}
    {f0 : Addr} {od0 an0 : Option Addr} {sl0 : Array (Option Value)} {oc0 kV0 dc0 pm0 cd0 ct0 : Value}
    {f1 : Addr} {od1 an1 : Option Addr} {sl1 : Array (Option Value)} {oc1 kV1 dc1 pm1 cd1 ct1 : Value}
    {f2 : Addr} {od2 an2 : Option Addr} {sl2 : Array (Option Value)} {oc2 kV2 dc2 pm2 cd2 ct2 : Value}
    {f3 : Addr} {od3 an3 : Option Addr} {sl3 : Array (Option Value)} {oc3 kV3 dc3 pm3 cd3 ct3 : Value}
    {f4 : Addr} {od4 an4 : Option Addr} {sl4 : Array (Option Value)} {oc4 kV4 dc4 pm4 cd4 ct4 : Value}
    {f5 : Addr} {od5 an5 : Option Addr} {sl5 : Array (Option Value)} {oc5 kV5 dc5 pm5 cd5 ct5 : Value}
    {k_18 : Tok}
    {t4 : Addr} {td4 : Option Addr} {tn4 : Nat} {ts4 : Array (Option Value)} {tc4 : Value}
    {f6 : Addr} {od6 an6 : Option Addr} {sl6 : Array (Option Value)} {oc6 kV6 dc6 pm6 cd6 ct6 : Value}
    {f7 : Addr} {od7 an7 : Option Addr} {sl7 : Array (Option Value)} {oc7 kV7 dc7 pm7 cd7 ct7 : Value}
    {f8 : Addr} {od8 an8 : Option Addr} {sl8 : Array (Option Value)} {oc8 kV8 dc8 pm8 cd8 ct8 : Value}
    {f9 : Addr} {od9 an9 : Option Addr} {sl9 : Array (Option Value)} {oc9 kV9 dc9 pm9 cd9 ct9 : Value}
    {f10 : Addr} {od10 an10 : Option Addr} {sl10 : Array (Option Value)} {oc10 kV10 dc10 pm10 cd10 ct10 : Value}
    {f11 : Addr} {od11 an11 : Option Addr} {sl11 : Array (Option Value)} {oc11 kV11 dc11 pm11 cd11 ct11 : Value}
    {f12 : Addr} {od12 an12 : Option Addr} {sl12 : Array (Option Value)} {oc12 kV12 dc12 pm12 cd12 ct12 : Value}
    {f13 : Addr} {od13 an13 : Option Addr} {sl13 : Array (Option Value)} {oc13 kV13 dc13 pm13 cd13 ct13 : Value}
    {f14 : Addr} {od14 an14 : Option Addr} {sl14 : Array (Option Value)} {oc14 kV14 dc14 pm14 cd14 ct14 : Value}
    {f15 : Addr} {od15 an15 : Option Addr} {sl15 : Array (Option Value)} {oc15 kV15 dc15 pm15 cd15 ct15 : Value}
    {f16 : Addr} {od16 an16 : Option Addr} {sl16 : Array (Option Value)} {oc16 kV16 dc16 pm16 cd16 ct16 : Value}
    {f19 : Addr} {od19 an19 : Option Addr} {sl19 : Array (Option Value)} {oc19 kV19 dc19 pm19 cd19 ct19 : Value}
    {f20 : Addr} {od20 an20 : Option Addr} {sl20 : Array (Option Value)} {oc20 kV20 dc20 pm20 cd20 ct20 : Value}
    {f22 : Addr} {od22 an22 : Option Addr} {sl22 : Array (Option Value)} {oc22 kV22 dc22 pm22 cd22 ct22 : Value}
    {f23 : Addr} {od23 an23 : Option Addr} {sl23 : Array (Option Value)} {oc23 kV23 dc23 pm23 cd23 ct23 : Value}
    {f24 : Addr} {od24 an24 : Option Addr} {sl24 : Array (Option Value)} {oc24 kV24 dc24 pm24 cd24 ct24 : Value}
    {f25 : Addr} {od25 an25 : Option Addr} {sl25 : Array (Option Value)} {oc25 kV25 dc25 pm25 cd25 ct25 : Value}
    {f26 : Addr} {od26 an26 : Option Addr} {sl26 : Array (Option Value)} {oc26 kV26 dc26 pm26 cd26 ct26 : Value}
    {x0 : Addr} {x1 : Addr}
    {xnm1 xq1 : Str} {xN1 xI1 : Addr} {xbs1 xsub1 : List Value} {xsn1 : List Str} {xab1 : Bool} {xcol1 : Option Bool} {xdd1 : Option Addr} {xm01 xm11 xm21 xm31 xm51 : Option Value}
    {xoc1 xkV1 xdc1 xpm1 xcd1 xct1 : Value} {xod1 xan1 : Option Addr} {xsl1 : Array (Option Value)}
    (e0 : PySem.W.nsIn K mainGlobals "ANY" = some (some (.ref t1)))
    (e1 : PySem.W.nsIn K mainGlobals "WORD_OF" = some (some (.ref t2)))
    (e2 : PySem.W.nsIn K mainGlobals "PARTS" = some (some (.ref t3)))
    (a0 : PySem.W.nsIn K mainGlobals "ground_of" = some (some (.ref f0)))
    (a1 : PySem.W.nsIn K mainGlobals "cast_value" = some (some (.ref f1)))
    (a2 : PySem.W.nsIn K mainGlobals "tagged" = some (some (.ref f2)))
    (a3 : PySem.W.nsIn K mainGlobals "cast_pair" = some (some (.ref f3)))
    (a4 : PySem.W.nsIn K mainGlobals "cast_items" = some (some (.ref f4)))
    (a5 : PySem.W.nsIn K mainGlobals "shown" = some (some (.ref f5)))
    (a6 : PySem.W.nsIn K mainGlobals "is_contract" = some (some (.ref f6)))
    (a7 : PySem.W.nsIn K mainGlobals "contract_of" = some (some (.ref f7)))
    (a8 : PySem.W.nsIn K mainGlobals "guarded" = some (some (.ref f8)))
    (a9 : PySem.W.nsIn K mainGlobals "guard_value" = some (some (.ref f9)))
    (a10 : PySem.W.nsIn K mainGlobals "shown_guarded" = some (some (.ref f10)))
    (a11 : PySem.W.nsIn K mainGlobals "tighter" = some (some (.ref f11)))
    (a12 : PySem.W.nsIn K mainGlobals "_law_draws" = some (some (.ref f12)))
    (a13 : PySem.W.nsIn K mainGlobals "_law_draw" = some (some (.ref f13)))
    (a14 : PySem.W.nsIn K mainGlobals "_law_same" = some (some (.ref f14)))
    (a15 : PySem.W.nsIn K mainGlobals "_law_type" = some (some (.ref f15)))
    (a16 : PySem.W.nsIn K mainGlobals "_law_vaguer" = some (some (.ref f16)))
    (a19 : PySem.W.nsIn K mainGlobals "_law_value" = some (some (.ref f19)))
    (a20 : PySem.W.nsIn K mainGlobals "_law_plain" = some (some (.ref f20)))
    (a22 : PySem.W.nsIn K mainGlobals "_law_contract" = some (some (.ref f22)))
    (a23 : PySem.W.nsIn K mainGlobals "_law_bare" = some (some (.ref f23)))
    (a24 : PySem.W.nsIn K mainGlobals "_law_tighter" = some (some (.ref f24)))
    (a25 : PySem.W.nsIn K mainGlobals "_law_refused" = some (some (.ref f25)))
    (a26 : PySem.W.nsIn K mainGlobals "law" = some (some (.ref f26)))
    (l0 : K.lookup f0 = some ⟨oc0, od0, .func (BK.fdOf d0 .none kV0 dc0 pm0 an0 cd0 ct0), sl0⟩)
    (l1 : K.lookup f1 = some ⟨oc1, od1, .func (BK.fdOf d1 .none kV1 dc1 pm1 an1 cd1 ct1), sl1⟩)
    (l2 : K.lookup f2 = some ⟨oc2, od2, .func (BK.fdOf d2 .none kV2 dc2 pm2 an2 cd2 ct2), sl2⟩)
    (l3 : K.lookup f3 = some ⟨oc3, od3, .func (BK.fdOf d3 .none kV3 dc3 pm3 an3 cd3 ct3), sl3⟩)
    (l4 : K.lookup f4 = some ⟨oc4, od4, .func (BK.fdOf d4 .none kV4 dc4 pm4 an4 cd4 ct4), sl4⟩)
    (l5 : K.lookup f5 = some ⟨oc5, od5, .func (BK.fdOf d5 .none kV5 dc5 pm5 an5 cd5 ct5), sl5⟩)
    (l6 : K.lookup f6 = some ⟨oc6, od6, .func (BK.fdOf d6 (.ref t4) kV6 dc6 pm6 an6 cd6 ct6), sl6⟩)
    (l7 : K.lookup f7 = some ⟨oc7, od7, .func (BK.fdOf d7 .none kV7 dc7 pm7 an7 cd7 ct7), sl7⟩)
    (l8 : K.lookup f8 = some ⟨oc8, od8, .func (BK.fdOf d8 .none kV8 dc8 pm8 an8 cd8 ct8), sl8⟩)
    (l9 : K.lookup f9 = some ⟨oc9, od9, .func (BK.fdOf d9 .none kV9 dc9 pm9 an9 cd9 ct9), sl9⟩)
    (l10 : K.lookup f10 = some ⟨oc10, od10, .func (BK.fdOf d10 .none kV10 dc10 pm10 an10 cd10 ct10), sl10⟩)
    (l11 : K.lookup f11 = some ⟨oc11, od11, .func (BK.fdOf d11 .none kV11 dc11 pm11 an11 cd11 ct11), sl11⟩)
    (l12 : K.lookup f12 = some ⟨oc12, od12, .func (BK.fdOf d12 .none kV12 dc12 pm12 an12 cd12 ct12), sl12⟩)
    (l13 : K.lookup f13 = some ⟨oc13, od13, .func (BK.fdOf d13 .none kV13 dc13 pm13 an13 cd13 ct13), sl13⟩)
    (l14 : K.lookup f14 = some ⟨oc14, od14, .func (BK.fdOf d14 .none kV14 dc14 pm14 an14 cd14 ct14), sl14⟩)
    (l15 : K.lookup f15 = some ⟨oc15, od15, .func (BK.fdOf d15 .none kV15 dc15 pm15 an15 cd15 ct15), sl15⟩)
    (l16 : K.lookup f16 = some ⟨oc16, od16, .func (BK.fdOf d16 .none kV16 dc16 pm16 an16 cd16 ct16), sl16⟩)
    (l19 : K.lookup f19 = some ⟨oc19, od19, .func (BK.fdOf d19 .none kV19 dc19 pm19 an19 cd19 ct19), sl19⟩)
    (l20 : K.lookup f20 = some ⟨oc20, od20, .func (BK.fdOf d20 .none kV20 dc20 pm20 an20 cd20 ct20), sl20⟩)
    (l22 : K.lookup f22 = some ⟨oc22, od22, .func (BK.fdOf d22 .none kV22 dc22 pm22 an22 cd22 ct22), sl22⟩)
    (l23 : K.lookup f23 = some ⟨oc23, od23, .func (BK.fdOf d23 .none kV23 dc23 pm23 an23 cd23 ct23), sl23⟩)
    (l24 : K.lookup f24 = some ⟨oc24, od24, .func (BK.fdOf d24 .none kV24 dc24 pm24 an24 cd24 ct24), sl24⟩)
    (l25 : K.lookup f25 = some ⟨oc25, od25, .func (BK.fdOf d25 .none kV25 dc25 pm25 an25 cd25 ct25), sl25⟩)
    (l26 : K.lookup f26 = some ⟨oc26, od26, .func (BK.fdOf d26 .none kV26 dc26 pm26 an26 cd26 ct26), sl26⟩)
    (u1 : K.lookup t1 = some ⟨.type "tuple", td1, .seq #[(.str "any" k_1)] tn1, ts1⟩)
    (u2 : K.lookup t2 = some ⟨.type "dict", none, .dict #[⟨PyData.keyHash w.params "int", .str "int" k_2, (.str "int" k_3)⟩, ⟨PyData.keyHash w.params "bool", .str "bool" k_4, (.str "bool" k_5)⟩, ⟨PyData.keyHash w.params "to", .str "to" k_6, (.str "closure" k_7)⟩, ⟨PyData.keyHash w.params "both", .str "both" k_8, (.str "pair" k_9)⟩, ⟨PyData.keyHash w.params "each", .str "each" k_10, (.str "items" k_11)⟩] tn2, #[]⟩)
    (u3 : K.lookup t3 = some ⟨.type "dict", none, .dict #[⟨PyData.keyHash w.params "to", .str "to" k_12, (.int (2) k_13)⟩, ⟨PyData.keyHash w.params "both", .str "both" k_14, (.int (2) k_15)⟩, ⟨PyData.keyHash w.params "each", .str "each" k_16, (.int (1) k_17)⟩] tn3, #[]⟩)
    (u4 : K.lookup t4 = some ⟨tc4, td4, .seq #[(.int (8) k_18)] tn4, ts4⟩)
    (v2 : (t2 == sysModules) = false)
    (v3 : (t3 == sysModules) = false)
    (c0 : PySem.W.codeIn K cd0 "ground_of" = true)
    (k0 : PySem.W.keepIn K (.ref f0) = true)
    (c1 : PySem.W.codeIn K cd1 "cast_value" = true)
    (k1 : PySem.W.keepIn K (.ref f1) = true)
    (c2 : PySem.W.codeIn K cd2 "tagged" = true)
    (k2 : PySem.W.keepIn K (.ref f2) = true)
    (c3 : PySem.W.codeIn K cd3 "cast_pair" = true)
    (k3 : PySem.W.keepIn K (.ref f3) = true)
    (c4 : PySem.W.codeIn K cd4 "cast_items" = true)
    (k4 : PySem.W.keepIn K (.ref f4) = true)
    (c5 : PySem.W.codeIn K cd5 "shown" = true)
    (k5 : PySem.W.keepIn K (.ref f5) = true)
    (c6 : PySem.W.codeIn K cd6 "is_contract" = true)
    (k6 : PySem.W.keepIn K (.ref f6) = true)
    (c7 : PySem.W.codeIn K cd7 "contract_of" = true)
    (k7 : PySem.W.keepIn K (.ref f7) = true)
    (c8 : PySem.W.codeIn K cd8 "guarded" = true)
    (k8 : PySem.W.keepIn K (.ref f8) = true)
    (c9 : PySem.W.codeIn K cd9 "guard_value" = true)
    (k9 : PySem.W.keepIn K (.ref f9) = true)
    (c10 : PySem.W.codeIn K cd10 "shown_guarded" = true)
    (k10 : PySem.W.keepIn K (.ref f10) = true)
    (c11 : PySem.W.codeIn K cd11 "tighter" = true)
    (k11 : PySem.W.keepIn K (.ref f11) = true)
    (c12 : PySem.W.codeIn K cd12 "_law_draws" = true)
    (k12 : PySem.W.keepIn K (.ref f12) = true)
    (c13 : PySem.W.codeIn K cd13 "_law_draw" = true)
    (k13 : PySem.W.keepIn K (.ref f13) = true)
    (c14 : PySem.W.codeIn K cd14 "_law_same" = true)
    (k14 : PySem.W.keepIn K (.ref f14) = true)
    (c15 : PySem.W.codeIn K cd15 "_law_type" = true)
    (k15 : PySem.W.keepIn K (.ref f15) = true)
    (c16 : PySem.W.codeIn K cd16 "_law_vaguer" = true)
    (k16 : PySem.W.keepIn K (.ref f16) = true)
    (c19 : PySem.W.codeIn K cd19 "_law_value" = true)
    (k19 : PySem.W.keepIn K (.ref f19) = true)
    (c20 : PySem.W.codeIn K cd20 "_law_plain" = true)
    (k20 : PySem.W.keepIn K (.ref f20) = true)
    (c22 : PySem.W.codeIn K cd22 "_law_contract" = true)
    (k22 : PySem.W.keepIn K (.ref f22) = true)
    (c23 : PySem.W.codeIn K cd23 "_law_bare" = true)
    (k23 : PySem.W.keepIn K (.ref f23) = true)
    (c24 : PySem.W.codeIn K cd24 "_law_tighter" = true)
    (k24 : PySem.W.keepIn K (.ref f24) = true)
    (c25 : PySem.W.codeIn K cd25 "_law_refused" = true)
    (k25 : PySem.W.keepIn K (.ref f25) = true)
    (c26 : PySem.W.codeIn K cd26 "law" = true)
    (k26 : PySem.W.keepIn K (.ref f26) = true)
    (z0 : PySem.W.nsIn K mainGlobals "len" = some none)
    (z1 : PySem.W.nsIn K mainGlobals "range" = some none)
    (z2 : PySem.W.nsIn K mainGlobals "list" = some none)
    (z3 : PySem.W.nsIn K mainGlobals "tuple" = some none)
    (z4 : PySem.W.nsIn K mainGlobals "int" = some none)
    (z5 : PySem.W.nsIn K mainGlobals "zip" = some none)
    (z6 : PySem.W.nsIn K mainGlobals "all" = some none)
    (z7 : PySem.W.nsIn K mainGlobals "isinstance" = some none)
    (z8 : PySem.W.nsIn K mainGlobals "str" = some none)
    (z9 : PySem.W.nsIn K mainGlobals "bool" = some none)
    (xa0 : PySem.W.nsIn K mainGlobals "TypeFault" = some (some (.ref x0)))
    (xa1 : PySem.W.nsIn K mainGlobals "Refused" = some (some (.ref x1)))
    (xx0 : PySem.W.specialIn K (.builtin "object.__class__") "__get__" = some (some (.builtin "getset_descriptor.__get__")))
    (xx1 : PySem.W.takesIn K (.builtin "object.__class__") = some true)
    (xq0 : PySem.W.excIn K x0 [.type "ValueError", .type "Exception", .type "BaseException", .type "object"] "ValueError.__new__" = true)
    (xg0 : PySem.W.findIn K (.ref x0) "__getattribute__" = some (some (.builtin "BaseException.__getattribute__")))
    (xh0 : PySem.W.findIn K (.ref x0) "__getattr__" = some none)
    (xe0 : PySem.W.keepIn K (.ref x0) = true)
    (xb0 : PySem.W.subIn K (.ref x0) (.type "BaseException") = some true)
    (xy0 : PySem.W.typeIn K (.ref x0) = some (.type "type"))
    (xd0 : PySem.W.hasDictIn K x0 = true)
    (xo0 : PySem.W.findIn K (.ref x0) "__class__" = some (some (.builtin "object.__class__")))
    (xr0 : PySem.W.mroIn K x0 (.type "object") = some true)
    (xj0 : PySem.W.isClsIn K x0 = true)
    (xA0 : PySem.W.specialIn K (.ref x0) "__getattribute__" = some (some (.builtin "type.__getattribute__")))
    (xB0 : PySem.W.readsIn K x0 (.type "type") = true)
    (xC0 : PySem.W.findCls K (.ref x0) (.type "type") "__init__" = some (.val (.builtin "ValueError.__init__")))
    (xv0_0 : PySem.W.subIn K (.ref x0) (.ref x0) = some true)
    (xv0_1 : PySem.W.subIn K (.ref x0) (.ref x1) = some false)
    (xl1 : K.lookup x1 = some (excClassObj xnm1 xq1 x1 xN1 xbs1 [.ref x0, .type "ValueError", .type "Exception", .type "BaseException", .type "object"] true xsn1 xsub1 xab1 xcol1 xdd1 xm01 xm11 xm21 xm31 xm51 "ValueError.__new__"))
    (xs1 : PySem.W.findIn K (.ref x1) "__setattr__" = some (some (.builtin "object.__setattr__")))
    (xi1 : PySem.W.findIn K (.ref x1) "__init__" = some (some (.ref xI1)))
    (xt1 : PySem.W.typeIn K (.ref xI1) = some (.type "function"))
    (xk1 : K.lookup xI1 = some ⟨xoc1, xod1, .func (PySem.W.fnOf "__init__" "Refused.__init__" (defArgs xst1) (defBody xst1) (defScope xst1) .none xkV1 xdc1 xpm1 xan1 xcd1 xct1), xsl1⟩)
    (xc1 : PySem.W.codeIn K xcd1 "Refused.__init__" = true)
    (xp1 : PySem.W.keepIn K (.ref xI1) = true)
    (xn1_0 : PySem.W.findIn K (.ref x1) "word" = some none)
    (xg1 : PySem.W.findIn K (.ref x1) "__getattribute__" = some (some (.builtin "BaseException.__getattribute__")))
    (xh1 : PySem.W.findIn K (.ref x1) "__getattr__" = some none)
    (xe1 : PySem.W.keepIn K (.ref x1) = true)
    (xb1 : PySem.W.subIn K (.ref x1) (.type "BaseException") = some true)
    (xy1 : PySem.W.typeIn K (.ref x1) = some (.type "type"))
    (xd1 : PySem.W.hasDictIn K x1 = true)
    (xo1 : PySem.W.findIn K (.ref x1) "__class__" = some (some (.builtin "object.__class__")))
    (xr1 : PySem.W.mroIn K x1 (.type "object") = some true)
    (xj1 : PySem.W.isClsIn K x1 = true)
    (xv1_0 : PySem.W.subIn K (.ref x1) (.ref x0) = some true)
    (xv1_1 : PySem.W.subIn K (.ref x1) (.ref x1) = some true)
    : ∃ fd : FuncData, (∀ (s : Shared) (u : Value), BindsTo s fd ⟨[u], []⟩ [("script", u)]) ∧ ∀ base : Heap, K.In base → base.Ns mainGlobals mg → FnOk P w K mg base (L2.CX P w) 102 fa fd ["script"] (BK.spOf K) := by
  let fn : Nat → Addr := fun k => match k with
    | 0 => f0
    | 1 => f1
    | 2 => f2
    | 3 => f3
    | 4 => f4
    | 5 => f5
    | 6 => f6
    | 7 => f7
    | 8 => f8
    | 9 => f9
    | 10 => f10
    | 11 => f11
    | 12 => f12
    | 13 => f13
    | 14 => f14
    | 15 => f15
    | 16 => f16
    | 17 => f26
    | 18 => f26
    | 19 => f19
    | 20 => f20
    | 21 => f26
    | 22 => f22
    | 23 => f23
    | 24 => f24
    | 25 => f25
    | _ => f26
  let fd : Nat → FuncData := fun k => match k with
    | 0 => BK.fdOf d0 .none kV0 dc0 pm0 an0 cd0 ct0
    | 1 => BK.fdOf d1 .none kV1 dc1 pm1 an1 cd1 ct1
    | 2 => BK.fdOf d2 .none kV2 dc2 pm2 an2 cd2 ct2
    | 3 => BK.fdOf d3 .none kV3 dc3 pm3 an3 cd3 ct3
    | 4 => BK.fdOf d4 .none kV4 dc4 pm4 an4 cd4 ct4
    | 5 => BK.fdOf d5 .none kV5 dc5 pm5 an5 cd5 ct5
    | 6 => BK.fdOf d6 (.ref t4) kV6 dc6 pm6 an6 cd6 ct6
    | 7 => BK.fdOf d7 .none kV7 dc7 pm7 an7 cd7 ct7
    | 8 => BK.fdOf d8 .none kV8 dc8 pm8 an8 cd8 ct8
    | 9 => BK.fdOf d9 .none kV9 dc9 pm9 an9 cd9 ct9
    | 10 => BK.fdOf d10 .none kV10 dc10 pm10 an10 cd10 ct10
    | 11 => BK.fdOf d11 .none kV11 dc11 pm11 an11 cd11 ct11
    | 12 => BK.fdOf d12 .none kV12 dc12 pm12 an12 cd12 ct12
    | 13 => BK.fdOf d13 .none kV13 dc13 pm13 an13 cd13 ct13
    | 14 => BK.fdOf d14 .none kV14 dc14 pm14 an14 cd14 ct14
    | 15 => BK.fdOf d15 .none kV15 dc15 pm15 an15 cd15 ct15
    | 16 => BK.fdOf d16 .none kV16 dc16 pm16 an16 cd16 ct16
    | 17 => BK.fdOf d26 .none kV26 dc26 pm26 an26 cd26 ct26
    | 18 => BK.fdOf d26 .none kV26 dc26 pm26 an26 cd26 ct26
    | 19 => BK.fdOf d19 .none kV19 dc19 pm19 an19 cd19 ct19
    | 20 => BK.fdOf d20 .none kV20 dc20 pm20 an20 cd20 ct20
    | 21 => BK.fdOf d26 .none kV26 dc26 pm26 an26 cd26 ct26
    | 22 => BK.fdOf d22 .none kV22 dc22 pm22 an22 cd22 ct22
    | 23 => BK.fdOf d23 .none kV23 dc23 pm23 an23 cd23 ct23
    | 24 => BK.fdOf d24 .none kV24 dc24 pm24 an24 cd24 ct24
    | 25 => BK.fdOf d25 .none kV25 dc25 pm25 an25 cd25 ct25
    | _ => BK.fdOf d26 .none kV26 dc26 pm26 an26 cd26 ct26
  let fx : BK.Fx := ⟨tab.fnV fn, fun a ks vs => (a = t2 ∧ ks = [.str "int", .str "bool", .str "to", .str "both", .str "each"] ∧ vs = [(.str "int"), (.str "bool"), (.str "closure"), (.str "pair"), (.str "items")]) ∨ (a = t3 ∧ ks = [.str "to", .str "both", .str "each"] ∧ vs = [(.int 2), (.int 2), (.int 1)]) ∨ False, fun _ => none⟩
  let fc : Nat → Option Addr := fun c => match c with
    | 0 => some x0
    | 5 => some x1
    | _ => none
  have fcI : ∀ c C, fc c = some C → (c = 0 ∧ C = x0) ∨ (c = 5 ∧ C = x1) := fun c C h => by
    match c, h with
    | 0, h => cases h; simp
    | 1, h => cases h
    | 2, h => cases h
    | 3, h => cases h
    | 4, h => cases h
    | 5, h => cases h; simp
    | c + 6, h => cases h
  have A : BK.TabAt ⟨K, fx, fc, BK.gxn⟩ mg tab fn fd w := by
    refine ⟨fun k d hk => ?_, ?_, ?_, ?_, rfl, ?_, ?_, ?_, rfl⟩
    · match k, hk with
      | 0, hk => cases hk; exact BK.fnAt_mk (BK.gnC (PySem.W.mg_of X G a0) BK.gn0) l0 c0 k0 s0 (by decide +kernel) rfl b0
      | 1, hk => cases hk; exact BK.fnAt_mk (BK.gnC (PySem.W.mg_of X G a1) BK.gn0) l1 c1 k1 s1 (by decide +kernel) rfl b1
      | 2, hk => cases hk; exact BK.fnAt_mk (BK.gnC (PySem.W.mg_of X G a2) BK.gn0) l2 c2 k2 s2 (by decide +kernel) rfl b2
      | 3, hk => cases hk; exact BK.fnAt_mk (BK.gnC (PySem.W.mg_of X G a3) BK.gn0) l3 c3 k3 s3 (by decide +kernel) rfl b3
      | 4, hk => cases hk; exact BK.fnAt_mk (BK.gnC (PySem.W.mg_of X G a4) BK.gn0) l4 c4 k4 s4 (by decide +kernel) rfl b4
      | 5, hk => cases hk; exact BK.fnAt_mk (BK.gnC (PySem.W.mg_of X G a5) BK.gn0) l5 c5 k5 s5 (by decide +kernel) rfl b5
      | 6, hk =>
        cases hk
        have F : FunD K d6.nm d6.nm (defArgs d6.st) (defBody d6.st) (defScope d6.st) [.int (8)] [] f6 (BK.fdOf d6 (.ref t4) kV6 dc6 pm6 an6 cd6 ct6) :=
          ⟨⟨_, _, _, _, _, _, _, _, _, _, rfl, l6, c6, .inr ⟨by simp, t4, _, [(.int (8) k_18)], tn4, rfl, u4, rfl, (.cons ⟨_, rfl⟩ .nil)⟩, .inl rfl⟩, k6⟩
        refine ⟨⟨_, _, F⟩, s6, by decide +kernel, (BK.gnC (PySem.W.mg_of X G a6) BK.gn0), k6, fun j hj => ?_⟩
        match j, hj with
        | 0, _ =>
          obtain ⟨ds, h1, h2⟩ := F.binds1 (ps := d6.ps) 1 0 (by simp) rfl (fun T kV doc pm an cdv ct us its h1 h2 => match us, its, h1, h2 with
            | [u0], [i0], _, _ => ⟨_, rfl, rfl⟩)
          exact ⟨_, ds, h1, h2, fun F μ => (.cons (.int _) .nil)⟩
        | 1, _ =>
          obtain ⟨ds, h1, h2⟩ := F.binds1 (ps := d6.ps) 2 1 (by simp) rfl (fun T kV doc pm an cdv ct us its h1 h2 => match us, its, h1, h2 with
            | [u0, u1], [i0], _, _ => ⟨_, rfl, rfl⟩)
          exact ⟨_, ds, h1, h2, fun F μ => .nil⟩
        | j + 2, hj => exact absurd hj (by show ¬ (j + 2 ≤ 1); omega)
      | 7, hk => cases hk; exact BK.fnAt_mk (BK.gnC (PySem.W.mg_of X G a7) BK.gn0) l7 c7 k7 s7 (by decide +kernel) rfl b7
      | 8, hk => cases hk; exact BK.fnAt_mk (BK.gnC (PySem.W.mg_of X G a8) BK.gn0) l8 c8 k8 s8 (by decide +kernel) rfl b8
      | 9, hk => cases hk; exact BK.fnAt_mk (BK.gnC (PySem.W.mg_of X G a9) BK.gn0) l9 c9 k9 s9 (by decide +kernel) rfl b9
      | 10, hk => cases hk; exact BK.fnAt_mk (BK.gnC (PySem.W.mg_of X G a10) BK.gn0) l10 c10 k10 s10 (by decide +kernel) rfl b10
      | 11, hk => cases hk; exact BK.fnAt_mk (BK.gnC (PySem.W.mg_of X G a11) BK.gn0) l11 c11 k11 s11 (by decide +kernel) rfl b11
      | 12, hk => cases hk; exact BK.fnAt_mk (BK.gnC (PySem.W.mg_of X G a12) BK.gn0) l12 c12 k12 s12 (by decide +kernel) rfl b12
      | 13, hk => cases hk; exact BK.fnAt_mk (BK.gnC (PySem.W.mg_of X G a13) BK.gn0) l13 c13 k13 s13 (by decide +kernel) rfl b13
      | 14, hk => cases hk; exact BK.fnAt_mk (BK.gnC (PySem.W.mg_of X G a14) BK.gn0) l14 c14 k14 s14 (by decide +kernel) rfl b14
      | 15, hk => cases hk; exact BK.fnAt_mk (BK.gnC (PySem.W.mg_of X G a15) BK.gn0) l15 c15 k15 s15 (by decide +kernel) rfl b15
      | 16, hk => cases hk; exact BK.fnAt_mk (BK.gnC (PySem.W.mg_of X G a16) BK.gn0) l16 c16 k16 s16 (by decide +kernel) rfl b16
      | 17, hk => cases hk; exact BK.fnAt_mk (BK.gnC (PySem.W.mg_of X G a26) BK.gn0) l26 c26 k26 s26 (by decide +kernel) rfl b26
      | 18, hk => cases hk; exact BK.fnAt_mk (BK.gnC (PySem.W.mg_of X G a26) BK.gn0) l26 c26 k26 s26 (by decide +kernel) rfl b26
      | 19, hk => cases hk; exact BK.fnAt_mk (BK.gnC (PySem.W.mg_of X G a19) BK.gn0) l19 c19 k19 s19 (by decide +kernel) rfl b19
      | 20, hk => cases hk; exact BK.fnAt_mk (BK.gnC (PySem.W.mg_of X G a20) BK.gn0) l20 c20 k20 s20 (by decide +kernel) rfl b20
      | 21, hk => cases hk; exact BK.fnAt_mk (BK.gnC (PySem.W.mg_of X G a26) BK.gn0) l26 c26 k26 s26 (by decide +kernel) rfl b26
      | 22, hk => cases hk; exact BK.fnAt_mk (BK.gnC (PySem.W.mg_of X G a22) BK.gn0) l22 c22 k22 s22 (by decide +kernel) rfl b22
      | 23, hk => cases hk; exact BK.fnAt_mk (BK.gnC (PySem.W.mg_of X G a23) BK.gn0) l23 c23 k23 s23 (by decide +kernel) rfl b23
      | 24, hk => cases hk; exact BK.fnAt_mk (BK.gnC (PySem.W.mg_of X G a24) BK.gn0) l24 c24 k24 s24 (by decide +kernel) rfl b24
      | 25, hk => cases hk; exact BK.fnAt_mk (BK.gnC (PySem.W.mg_of X G a25) BK.gn0) l25 c25 k25 s25 (by decide +kernel) rfl b25
      | 26, hk => cases hk; exact BK.fnAt_mk (BK.gnC (PySem.W.mg_of X G a26) BK.gn0) l26 c26 k26 s26 (by decide +kernel) rfl b26
      | k + 27, hk => simp [tab] at hk
    · intro p hp
      simp only [tab, List.mem_cons, List.not_mem_nil, or_false] at hp
      rcases hp with rfl | rfl | rfl
      · exact ⟨_, .ref t1, PySem.W.mg_of X G e0, rfl, fun F μ => (.tup (vs := [.str "any"]) (.inr ⟨_, _, _, u1, rfl, rfl, by show 1 ≤ sizeLine; decide, (.cons ⟨_, rfl⟩ .nil)⟩) (by show 1 ≤ sizeLine; decide) (.cons (.str _ (by decide +kernel) (by decide +kernel)) .nil))⟩
      · exact ⟨_, .ref t2, PySem.W.mg_of X G e1, rfl, fun F μ => (.kct (.inl ⟨rfl, rfl, rfl⟩))⟩
      · exact ⟨_, .ref t3, PySem.W.mg_of X G e2, rfl, fun F μ => (.kct (.inr (.inl ⟨rfl, rfl, rfl⟩)))⟩
    · intro x hx
      simp only [tab, List.mem_cons, List.not_mem_nil, or_false] at hx
      rcases hx with rfl | rfl | rfl | rfl | rfl | rfl | rfl | rfl | rfl | rfl
      · exact PySem.W.mg_none_of X G z0
      · exact PySem.W.mg_none_of X G z1
      · exact PySem.W.mg_none_of X G z2
      · exact PySem.W.mg_none_of X G z3
      · exact PySem.W.mg_none_of X G z4
      · exact PySem.W.mg_none_of X G z5
      · exact PySem.W.mg_none_of X G z6
      · exact PySem.W.mg_none_of X G z7
      · exact PySem.W.mg_none_of X G z8
      · exact PySem.W.mg_none_of X G z9
    · intro a ks vs h
      rcases h with ⟨rfl, rfl, rfl⟩ | ⟨rfl, rfl, rfl⟩ | h
      · refine BK.kd_mk u2 v2 [("int", k_2, (.str "int" k_3), .str "int", (.str "int")), ("bool", k_4, (.str "bool" k_5), .str "bool", (.str "bool")), ("to", k_6, (.str "closure" k_7), .str "closure", (.str "closure")), ("both", k_8, (.str "pair" k_9), .str "pair", (.str "pair")), ("each", k_10, (.str "items" k_11), .str "items", (.str "items"))] rfl (fun p hp => ?_)
        simp only [List.mem_cons, List.not_mem_nil, or_false] at hp
        rcases hp with rfl | rfl | rfl | rfl | rfl
        · exact ⟨⟨_, rfl⟩, fun F μ => (.str _ (by decide +kernel) (by decide +kernel))⟩
        · exact ⟨⟨_, rfl⟩, fun F μ => (.str _ (by decide +kernel) (by decide +kernel))⟩
        · exact ⟨⟨_, rfl⟩, fun F μ => (.str _ (by decide +kernel) (by decide +kernel))⟩
        · exact ⟨⟨_, rfl⟩, fun F μ => (.str _ (by decide +kernel) (by decide +kernel))⟩
        · exact ⟨⟨_, rfl⟩, fun F μ => (.str _ (by decide +kernel) (by decide +kernel))⟩
      · refine BK.kd_mk u3 v3 [("to", k_12, (.int (2) k_13), .int (2), (.int 2)), ("both", k_14, (.int (2) k_15), .int (2), (.int 2)), ("each", k_16, (.int (1) k_17), .int (1), (.int 1))] rfl (fun p hp => ?_)
        simp only [List.mem_cons, List.not_mem_nil, or_false] at hp
        rcases hp with rfl | rfl | rfl
        · exact ⟨⟨_, rfl⟩, fun F μ => (.int _)⟩
        · exact ⟨⟨_, rfl⟩, fun F μ => (.int _)⟩
        · exact ⟨⟨_, rfl⟩, fun F μ => (.int _)⟩
      · exact h.elim
    · intro d h
      simp only [tab, List.mem_cons, List.not_mem_nil, or_false] at h
      rcases h with rfl | rfl
      · exact ⟨x0, rfl, PySem.W.mg_of X G xa0, fun h => by (cases h), fun _ => ⟨xq0, xe0, xb0, xy0⟩⟩
      · refine ⟨x1, rfl, PySem.W.mg_of X G xa1, fun _ P base => ⟨⟨⟨_, _, _, _, _, _, _, _, _, _, _, _, _, _, _, xl1, by first | rfl | decide +kernel⟩, xs1, xb1, xy1, xe1⟩, xI1, PySem.W.fnOf "__init__" "Refused.__init__" (defArgs xst1) (defBody xst1) (defScope xst1) .none xkV1 xdc1 xpm1 xan1 xcd1 xct1, ["self", "word"], xi1, xt1, ?_, ?_⟩, fun h => by cases h⟩
        · have D : FunD K "__init__" "Refused.__init__" (defArgs xst1) (defBody xst1) (defScope xst1) [] [] xI1 _ := ⟨⟨_, _, _, _, _, _, _, _, _, _, rfl, xk1, xc1, .inl ⟨rfl, rfl⟩, .inl rfl⟩, xp1⟩
          exact BK.init1_ok 0 D xsc1 xin1 ⟨xA0, xB0, xC0⟩ (PySem.W.mg_of X G xa0) xgl1 rfl rfl rfl ⟨⟨_, _, _, _, _, _, _, _, _, _, _, _, _, _, _, xl1, by first | rfl | decide +kernel⟩, xs1, xb1, xy1, xe1⟩ xn1_0
        · exact BK.binds_mk fun us hl => xbn1 _ _ _ _ _ _ us hl
    · intro c c' C C' b h h' e
      rcases fcI c C h with ⟨rfl, rfl⟩ | ⟨rfl, rfl⟩ <;> rcases fcI c' C' h' with ⟨rfl, rfl⟩ | ⟨rfl, rfl⟩ <;> cases e
      · exact BK.exk_of xb0 xj0 xy0 xv0_0 xv0_0
      · exact BK.exk_of xb1 xj1 xy1 xv1_1 xv0_1
      · exact BK.exk_of xb0 xj0 xy0 xv0_0 xv1_0
      · exact BK.exk_of xb1 xj1 xy1 xv1_1 xv1_1
    · refine ⟨fun c C h => ?_, fun c C h f hf => ?_, fun c => ?_, fun c C h => ?_⟩
      · rcases fcI c C h with ⟨rfl, rfl⟩ | ⟨rfl, rfl⟩
        · exact ⟨xg0, xh0, xb0, xd0⟩
        · exact ⟨xg1, xh1, xb1, xd1⟩
      · rcases fcI c C h with ⟨rfl, rfl⟩ | ⟨rfl, rfl⟩
        · cases hf
        · have hf : f ∈ (["word"] : List Str) := hf
          simp only [List.mem_cons, List.not_mem_nil, or_false] at hf
          rcases hf with rfl
          · exact xn1_0
      · exact BK.gxn_nodup c
      · rcases fcI c C h with ⟨rfl, rfl⟩ | ⟨rfl, rfl⟩
        · exact ⟨xg0, xh0, xb0, xo0, xx0, xx1, xr0, xj0⟩
        · exact ⟨xg1, xh1, xb1, xo1, xx0, xx1, xr1, xj1⟩
  exact BK.law_end (d := d26) (k := 26) (n := 100) hfa A rfl (by decide +kernel) rfl rfl rfl rfl (fun s v => .of_eq rfl) lawTrue
end Law
open PySem PySem.W PyProof.Rows
set_option maxRecDepth 100000 in
set_option pp.maxSteps 300 in
set_option maxHeartbeats 0 in
theorem PySem.Challenge.cw_blamekeep_k59_whole_contracts_and_casts_holds : PySem.Challenge.rw_blamekeep_k59_whole_contracts_and_casts.Holds := by
  w_on; o_law; k_head; (case hw => w_witness2)
  k_fill
  refine BK.walkT (l := PySem.Challenge.rw_blamekeep_k59_whole_contracts_and_casts) (level := 102) rfl rfl ⟨rfl, by decide, by decide⟩ (fun w h Y => PySem.W.kIn_of Y) ?F
  case F =>
    intro w mg fa h KX G hmg
    refine' Law.all_mk KX G hmg ?e0 ?e1 ?e2 ?a0 ?a1 ?a2 ?a3 ?a4 ?a5 ?a6 ?a7 ?a8 ?a9 ?a10 ?a11 ?a12 ?a13 ?a14 ?a15 ?a16 ?a19 ?a20 ?a22 ?a23 ?a24 ?a25 ?a26 ?l0 ?l1 ?l2 ?l3 ?l4 ?l5 ?l6 ?l7 ?l8 ?l9 ?l10 ?l11 ?l12 ?l13 ?l14 ?l15 ?l16 ?l19 ?l20 ?l22 ?l23 ?l24 ?l25 ?l26 ?u1 ?u2 ?u3 ?u4 ?v2 ?v3 ?c0 ?k0 ?c1 ?k1 ?c2 ?k2 ?c3 ?k3 ?c4 ?k4 ?c5 ?k5 ?c6 ?k6 ?c7 ?k7 ?c8 ?k8 ?c9 ?k9 ?c10 ?k10 ?c11 ?k11 ?c12 ?k12 ?c13 ?k13 ?c14 ?k14 ?c15 ?k15 ?c16 ?k16 ?c19 ?k19 ?c20 ?k20 ?c22 ?k22 ?c23 ?k23 ?c24 ?k24 ?c25 ?k25 ?c26 ?k26 ?z0 ?z1 ?z2 ?z3 ?z4 ?z5 ?z6 ?z7 ?z8 ?z9 ?xa0 ?xa1 ?xx0 ?xx1 ?xq0 ?xg0 ?xh0 ?xe0 ?xb0 ?xy0 ?xd0 ?xo0 ?xr0 ?xj0 ?xA0 ?xB0 ?xC0 ?xv0_0 ?xv0_1 ?xl1 ?xs1 ?xi1 ?xt1 ?xk1 ?xc1 ?xp1 ?xn1_0 ?xg1 ?xh1 ?xe1 ?xb1 ?xy1 ?xd1 ?xo1 ?xr1 ?xj1 ?xv1_0 ?xv1_1
    (case e0 => k_is)
    (case e1 => k_is)
    (case e2 => k_is)
    (case a0 => k_is)
    (case a1 => k_is)
    (case a2 => k_is)
    (case a3 => k_is)
    (case a4 => k_is)
    (case a5 => k_is)
    (case a6 => k_is)
    (case a7 => k_is)
    (case a8 => k_is)
    (case a9 => k_is)
    (case a10 => k_is)
    (case a11 => k_is)
    (case a12 => k_is)
    (case a13 => k_is)
    (case a14 => k_is)
    (case a15 => k_is)
    (case a16 => k_is)
    (case a19 => k_is)
    (case a20 => k_is)
    (case a22 => k_is)
    (case a23 => k_is)
    (case a24 => k_is)
    (case a25 => k_is)
    (case a26 => k_is)
    (case l0 => k_is)
    (case l1 => k_is)
    (case l2 => k_is)
    (case l3 => k_is)
    (case l4 => k_is)
    (case l5 => k_is)
    (case l6 => k_is)
    (case l7 => k_is)
    (case l8 => k_is)
    (case l9 => k_is)
    (case l10 => k_is)
    (case l11 => k_is)
    (case l12 => k_is)
    (case l13 => k_is)
    (case l14 => k_is)
    (case l15 => k_is)
    (case l16 => k_is)
    (case l19 => k_is)
    (case l20 => k_is)
    (case l22 => k_is)
    (case l23 => k_is)
    (case l24 => k_is)
    (case l25 => k_is)
    (case l26 => k_is)
    (case u1 => k_is)
    (case u2 => k_is)
    (case u3 => k_is)
    (case u4 => k_is)
    (case v2 => first | k_is | decide)
    (case v3 => first | k_is | decide)
    (case c0 => k_is)
    (case k0 => k_is)
    (case c1 => k_is)
    (case k1 => k_is)
    (case c2 => k_is)
    (case k2 => k_is)
    (case c3 => k_is)
    (case k3 => k_is)
    (case c4 => k_is)
    (case k4 => k_is)
    (case c5 => k_is)
    (case k5 => k_is)
    (case c6 => k_is)
    (case k6 => k_is)
    (case c7 => k_is)
    (case k7 => k_is)
    (case c8 => k_is)
    (case k8 => k_is)
    (case c9 => k_is)
    (case k9 => k_is)
    (case c10 => k_is)
    (case k10 => k_is)
    (case c11 => k_is)
    (case k11 => k_is)
    (case c12 => k_is)
    (case k12 => k_is)
    (case c13 => k_is)
    (case k13 => k_is)
    (case c14 => k_is)
    (case k14 => k_is)
    (case c15 => k_is)
    (case k15 => k_is)
    (case c16 => k_is)
    (case k16 => k_is)
    (case c19 => k_is)
    (case k19 => k_is)
    (case c20 => k_is)
    (case k20 => k_is)
    (case c22 => k_is)
    (case k22 => k_is)
    (case c23 => k_is)
    (case k23 => k_is)
    (case c24 => k_is)
    (case k24 => k_is)
    (case c25 => k_is)
    (case k25 => k_is)
    (case c26 => k_is)
    (case k26 => k_is)
    (case z0 => k_is)
    (case z1 => k_is)
    (case z2 => k_is)
    (case z3 => k_is)
    (case z4 => k_is)
    (case z5 => k_is)
    (case z6 => k_is)
    (case z7 => k_is)
    (case z8 => k_is)
    (case z9 => k_is)
    (case xa0 => k_is)
    (case xa1 => k_is)
    (case xx0 => k_is)
    (case xx1 => k_is)
    (case xq0 => k_exc)
    (case xg0 => k_is)
    (case xh0 => k_is)
    (case xe0 => k_is)
    (case xb0 => k_is)
    (case xy0 => k_is)
    (case xd0 => k_is)
    (case xo0 => k_is)
    (case xr0 => k_is)
    (case xj0 => k_is)
    (case xA0 => k_is)
    (case xB0 => k_is)
    (case xC0 => k_is)
    (case xv0_0 => first | rfl | k_is)
    (case xv0_1 => first | rfl | k_is)
    (case xl1 => k_is)
    (case xs1 => k_is)
    (case xi1 => k_is)
    (case xt1 => k_is)
    (case xk1 => k_is)
    (case xc1 => k_is)
    (case xp1 => k_is)
    (case xn1_0 => k_is)
    (case xg1 => k_is)
    (case xh1 => k_is)
    (case xe1 => k_is)
    (case xb1 => k_is)
    (case xy1 => k_is)
    (case xd1 => k_is)
    (case xo1 => k_is)
    (case xr1 => k_is)
    (case xj1 => k_is)
    (case xv1_0 => first | rfl | k_is)
    (case xv1_1 => first | rfl | k_is)
