import PyProof.Rows.All
import Wide.All
import OpenK.AllK
import Wide.FinOn
import KE.KStateDown
import KE.LtData
import HandS.ForExc
import HandS.Defaults
import HandS.Comp
import HandS.Dict
import HandS.Iter
import HandS.Text
import HandS.Wide
import HandS.TupAny
import HandS.TupLe
import HandS.IsInst
import HandS.ExcIs
import HandS.Deep
import HandS.Rev
import KE.KDictKeyed
import PyProof.P3In
import HandS.HeadHook1
import HandS.HeadHook2
import HandS.Head0
import HandS.Head1
import HandS.Head2
import HandS.HeadEnd
import HandS.Conv
import HandS.Zip
import HandS.Replace
import KE.SortData
import HandS.SortInts
import KE.DataCmp
import HandS.RevTup
import HandS.TupLen
import Lean
import PySem.Challenge.RW_kindturn_k14_whole_put_to_both
set_option Elab.async false
set_option linter.all false
set_option maxRecDepth 100000
set_option maxHeartbeats 4000000
namespace KT
open PySem PySem.Spec PyProof.Rows L2

/-! ## data -/
inductive D where
  | non
  | bl (b : Bool)
  | int (i : Int)
  | str (s : String)
  | tup (ds : List D)
deriving Inhabited

mutual
def D.deq : D → D → Bool
  | .non, .non => true
  | .bl a, .bl b => a == b
  | .bl a, .int j => (if a then 1 else 0) == j
  | .int i, .bl b => i == (if b then 1 else 0)
  | .int i, .int j => i == j
  | .str s, .str t => s == t
  | .tup xs, .tup ys => D.deqs xs ys
  | _, _ => false
def D.deqs : List D → List D → Bool
  | [], [] => true
  | x :: xs, y :: ys => D.deq x y && D.deqs xs ys
  | _, _ => false
end
mutual
def D.dep : D → Nat
  | .tup ds => D.deps ds + 1
  | _ => 0
def D.deps : List D → Nat
  | [] => 0
  | d :: ds => Nat.max (D.dep d) (D.deps ds)
end
mutual
def D.py : D → PyData
  | .non => .none
  | .bl b => .bool b
  | .int i => .int i
  | .str s => .str (Str.ofString s)
  | .tup ds => .tuple (D.pys ds)
def D.pys : List D → List PyData
  | [] => []
  | d :: ds => D.py d :: D.pys ds
end

mutual
inductive Rep (H : Hp) : V → D → Prop
  | non : Rep H .non .non
  | bl (b : Bool) : Rep H (.bl b) (.bl b)
  | int (i : Int) : Rep H (.int i) (.int i)
  | str (s : String) : Rep H (.str (Str.ofString s)) (.str s)
  | tup {a : Addr} {xs : List V} {ds : List D} : H a = some (.tup xs) → Reps H xs ds → Rep H (.ref a) (.tup ds)
inductive Reps (H : Hp) : List V → List D → Prop
  | nil : Reps H [] []
  | cons {v : V} {vs : List V} {d : D} {ds : List D} : Rep H v d → Reps H vs ds → Reps H (v :: vs) (d :: ds)
end

/-- tuples stay -/
def Tp (H H' : Hp) : Prop := ∀ a xs, H a = some (.tup xs) → H' a = some (.tup xs)
theorem Tp.refl (H : Hp) : Tp H H := fun _ _ h => h
theorem Tp.trans {H H1 H2 : Hp} (a : Tp H H1) (b : Tp H1 H2) : Tp H H2 := fun c o h => b c o (a c o h)
theorem _root_.L2.Same.tp {H H' : Hp} (s : Same H H') : Tp H H' := fun a xs h => s a _ h
theorem same_upd {H : Hp} {p : Addr} {o : HO} (h : H p = none) : Same H (upd H p o) := fun b u q => by
  rw [upd_ne (ne_of_none q h)]; exact q
theorem fresh_of {H H' : Hp} (s : Same H H') {p : Addr} (h : H' p = none) : H p = none := s.free h

mutual
theorem Rep.mono {H H' : Hp} (t : Tp H H') : ∀ (d : D) (v : V), Rep H v d → Rep H' v d
  | .non, _, h => by cases h; exact .non
  | .bl _, _, h => by cases h; exact .bl _
  | .int _, _, h => by cases h; exact .int _
  | .str _, _, h => by cases h; exact .str _
  | .tup ds, _, h => by
    cases h with
    | tup e r => exact .tup (t _ _ e) (Reps.mono t ds _ r)
theorem Reps.mono {H H' : Hp} (t : Tp H H') : ∀ (ds : List D) (vs : List V), Reps H vs ds → Reps H' vs ds
  | [], _, h => by cases h; exact .nil
  | d :: ds, _, h => by
    cases h with
    | cons a b => exact .cons (Rep.mono t d _ a) (Reps.mono t ds _ b)
end
theorem Reps.length {H : Hp} : ∀ {vs : List V} {ds : List D}, Reps H vs ds → vs.length = ds.length
  | _, [], h => by cases h; rfl
  | _, d :: ds, h => by
    cases h with
    | cons a b => rw [List.length_cons, List.length_cons, Reps.length b]
theorem Reps.get {H : Hp} : ∀ {vs : List V} {ds : List D} {i : Nat} {d : D}, Reps H vs ds → ds[i]? = some d → ∃ v, vs[i]? = some v ∧ Rep H v d
  | _, [], i, d, h, e => by simp at e
  | _, c :: ds, 0, d, h, e => by
    cases h with
    | cons a b => simp at e; subst e; exact ⟨_, rfl, a⟩
  | _, c :: ds, i + 1, d, h, e => by
    cases h with
    | cons a b =>
      obtain ⟨v, e1, r⟩ := Reps.get (i := i) (d := d) b (by simpa using e)
      exact ⟨v, by simpa using e1, r⟩
theorem Reps.getV {H : Hp} : ∀ {vs : List V} {ds : List D} {i : Nat} {v : V}, Reps H vs ds → vs[i]? = some v → ∃ d, ds[i]? = some d ∧ Rep H v d := fun {vs ds i v} h e => by
  have hl := h.length
  obtain ⟨hi, _⟩ := List.getElem?_eq_some_iff.mp e
  obtain ⟨v', e', r⟩ := h.get (i := i) (d := ds[i]'(by omega)) (List.getElem?_eq_getElem _)
  rw [e] at e'; cases e'
  exact ⟨_, List.getElem?_eq_getElem _, r⟩
theorem Reps.append {H : Hp} : ∀ {vs ws : List V} {ds es : List D}, Reps H vs ds → Reps H ws es → Reps H (vs ++ ws) (ds ++ es)
  | _, _, [], _, h, g => by cases h; exact g
  | _, _, d :: ds, _, h, g => by
    cases h with
    | cons a b => exact .cons a (Reps.append b g)
theorem Reps.take {H : Hp} : ∀ {vs : List V} {ds : List D} (n : Nat), Reps H vs ds → Reps H (vs.take n) (ds.take n)
  | _, _, 0, h => by simpa using .nil
  | _, [], n + 1, h => by cases h; exact .nil
  | _, d :: ds, n + 1, h => by
    cases h with
    | cons a b => exact .cons a (Reps.take n b)
theorem Reps.drop {H : Hp} : ∀ {vs : List V} {ds : List D} (n : Nat), Reps H vs ds → Reps H (vs.drop n) (ds.drop n)
  | _, _, 0, h => by simpa using h
  | _, [], n + 1, h => by cases h; exact .nil
  | _, d :: ds, n + 1, h => by
    cases h with
    | cons a b => exact Reps.drop n b
theorem Reps.reverse {H : Hp} : ∀ {vs : List V} {ds : List D}, Reps H vs ds → Reps H vs.reverse ds.reverse
  | _, [], h => by cases h; exact .nil
  | _, d :: ds, h => by
    cases h with
    | cons a b =>
      rw [List.reverse_cons, List.reverse_cons]
      exact (Reps.reverse b).append (.cons a .nil)
theorem Reps.dropLast {H : Hp} {vs : List V} {ds : List D} (h : Reps H vs ds) : Reps H vs.dropLast ds.dropLast := by
  rw [List.dropLast_eq_take, List.dropLast_eq_take, h.length]
  exact h.take _
theorem Reps.repl {H : Hp} {vs : List V} {ds : List D} (h : Reps H vs ds) : ∀ k : Nat, Reps H (List.replicate k vs).flatten (List.replicate k ds).flatten
  | 0 => .nil
  | k + 1 => by
    rw [List.replicate_succ, List.replicate_succ, List.flatten_cons, List.flatten_cons]
    exact h.append (h.repl k)

/-! ## PyData -/
mutual
theorem Rep.dp {K : PySem.W.Frag} {H : Hp} : ∀ (d : D) (v : V), Rep H v d → Dp K H v d.py
  | .non, _, h => by cases h; exact .non
  | .bl _, _, h => by cases h; exact .bl _
  | .int _, _, h => by cases h; exact .int _
  | .str _, _, h => by cases h; exact .str _
  | .tup ds, _, h => by
    cases h with
    | tup e r => exact .tup (SqT.of e) (Reps.dp ds _ r)
theorem Reps.dp {K : PySem.W.Frag} {H : Hp} : ∀ (ds : List D) (vs : List V), Reps H vs ds → DpAll K H vs (D.pys ds)
  | [], _, h => by cases h; exact .nil
  | d :: ds, _, h => by
    cases h with
    | cons a b => exact .cons (Rep.dp d _ a) (Reps.dp ds _ b)
end
mutual
theorem D.lay : ∀ d : D, d.py.canLay0 = true
  | .non => by simp [D.py, PyData.canLay0]
  | .bl _ => by simp [D.py, PyData.canLay0]
  | .int _ => by simp [D.py, PyData.canLay0]
  | .str t => by
    have h : PyData.strOk (Str.ofString t) = true := by
      rw [Str.ofString_eq_toList]
      unfold PyData.strOk
      rw [← Array.all_toList, List.all_eq_true]
      intro c hc
      have hc' : c ∈ t.toList.map Char.toNat := by simpa using hc
      obtain ⟨ch, _, rfl⟩ := List.mem_map.mp hc'
      have hv := ch.valid
      have e : ch.toNat = ch.val.toNat := rfl
      simp only [UInt32.isValidChar, Nat.isValidChar] at hv
      rw [decide_eq_true_iff, e]
      omega
    simp [D.py, PyData.canLay0, h]
  | .tup ds => by simpa [D.py, PyData.canLay0] using D.lays ds
theorem D.lays : ∀ ds : List D, PyData.canLayAll0 (D.pys ds) = true
  | [] => by simp [D.pys, PyData.canLayAll0]
  | d :: ds => by simp [D.pys, PyData.canLayAll0, D.lay d, D.lays ds]
end
mutual
theorem D.py_dep : ∀ d : D, d.py.depth = d.dep
  | .non => by simp [D.py, PyData.depth, D.dep]
  | .bl _ => by simp [D.py, PyData.depth, D.dep]
  | .int _ => by simp [D.py, PyData.depth, D.dep]
  | .str _ => by simp [D.py, PyData.depth, D.dep]
  | .tup ds => by simp [D.py, PyData.depth, D.dep, D.pys_dep ds]
theorem D.pys_dep : ∀ ds : List D, PyData.depthAll (D.pys ds) = D.deps ds
  | [] => by simp [D.pys, PyData.depthAll, D.deps]
  | d :: ds => by simp [D.pys, PyData.depthAll, D.deps, D.py_dep d, D.pys_dep ds]
end

theorem str_inj {s t : String} (h : Str.ofString s = Str.ofString t) : s = t := by
  rw [Str.ofString_eq_toList, Str.ofString_eq_toList] at h
  have h2 : (s.toList.map Char.toNat) = t.toList.map Char.toNat := by
    have := congrArg (fun z : Str => z.cps.toList) h
    simpa using this
  have inj : ∀ {a b : Char}, a.toNat = b.toNat → a = b := fun {a b} e => Char.toNat_inj.mp e
  have h3 : s.toList = t.toList := (List.map_inj_right (fun a b e => inj e)).mp h2
  exact String.toList_inj.mp h3
theorem str_beq (s t : String) : (Str.ofString s == Str.ofString t) = (s == t) := by
  by_cases h : s = t
  · subst h; simp
  · have h2 : ¬ Str.ofString s = Str.ofString t := fun e => h (str_inj e)
    rw [beq_eq_false_iff_ne.mpr h, beq_eq_false_iff_ne.mpr h2]
mutual
theorem D.py_eqv : ∀ a b : D, PyData.eqv a.py b.py = D.deq a b
  | .non, .non => by simp [D.py, PyData.eqv, D.deq]
  | .non, .bl _ => by simp [D.py, PyData.eqv, D.deq]
  | .non, .int _ => by simp [D.py, PyData.eqv, D.deq]
  | .non, .str _ => by simp [D.py, PyData.eqv, D.deq]
  | .non, .tup _ => by simp [D.py, PyData.eqv, D.deq]
  | .bl _, .non => by simp [D.py, PyData.eqv, D.deq]
  | .bl _, .bl _ => by simp [D.py, PyData.eqv, D.deq]
  | .bl _, .int _ => by simp [D.py, PyData.eqv, D.deq]
  | .bl _, .str _ => by simp [D.py, PyData.eqv, D.deq]
  | .bl _, .tup _ => by simp [D.py, PyData.eqv, D.deq]
  | .int _, .non => by simp [D.py, PyData.eqv, D.deq]
  | .int _, .bl _ => by simp [D.py, PyData.eqv, D.deq]
  | .int _, .int _ => by simp [D.py, PyData.eqv, D.deq]
  | .int _, .str _ => by simp [D.py, PyData.eqv, D.deq]
  | .int _, .tup _ => by simp [D.py, PyData.eqv, D.deq]
  | .str _, .non => by simp [D.py, PyData.eqv, D.deq]
  | .str _, .bl _ => by simp [D.py, PyData.eqv, D.deq]
  | .str _, .int _ => by simp [D.py, PyData.eqv, D.deq]
  | .str s, .str t => by simp only [D.py, PyData.eqv, D.deq]; exact str_beq s t
  | .str _, .tup _ => by simp [D.py, PyData.eqv, D.deq]
  | .tup _, .non => by simp [D.py, PyData.eqv, D.deq]
  | .tup _, .bl _ => by simp [D.py, PyData.eqv, D.deq]
  | .tup _, .int _ => by simp [D.py, PyData.eqv, D.deq]
  | .tup _, .str _ => by simp [D.py, PyData.eqv, D.deq]
  | .tup xs, .tup ys => by simp only [D.py, PyData.eqv, D.deq]; exact D.pys_eqv xs ys
theorem D.pys_eqv : ∀ a b : List D, PyData.eqvAll (D.pys a) (D.pys b) = D.deqs a b
  | [], [] => by simp [D.pys, PyData.eqvAll, D.deqs]
  | [], _ :: _ => by simp [D.pys, PyData.eqvAll, D.deqs]
  | _ :: _, [] => by simp [D.pys, PyData.eqvAll, D.deqs]
  | x :: xs, y :: ys => by simp [D.pys, PyData.eqvAll, D.deqs, D.py_eqv x y, D.pys_eqv xs ys]
end

/-! ## a dict whose values are True: its keys are ints, or tuples -/
mutual
def nk : D → NestedKey
  | .non => .none
  | .bl b => .num (if b = true then 1 else 0)
  | .int i => .num i
  | .str s => .text (Str.ofString s)
  | .tup ds => .tup (nks ds)
def nks : List D → List NestedKey
  | [] => []
  | d :: ds => nk d :: nks ds
end
def isTupD : D → Bool
  | .tup _ => true
  | _ => false
def isIntD : D → Bool
  | .int _ => true
  | _ => false
def RawM (a : Addr) (es : Array DictEntry) : HO := .ext fun h => (a == sysModules) = false ∧ ∃ o ep, h.get? a = some o ∧ o.ExactDict ∧ o.data = .dict es ep
inductive MetKs (H : Hp) : List D → List (NestedKey × Addr × Value) → Prop
  | nil : MetKs H [] []
  | cons {d : D} {b : Addr} {ds : List D} {xs : List (NestedKey × Addr × Value)} : Rep H (.ref b) d → (nk d).depth ≤ 8 → isTupD d = true → MetKs H ds xs → MetKs H (d :: ds) ((nk d, b, .bool true) :: xs)
def entM (w : World) (x : NestedKey × Addr × Value) : DictEntry := ⟨x.1.hash w, .ref x.2.1, x.2.2⟩
def intKv (ns : List Int) : List (Key × V) := ns.map fun n => (Sum.inl n, V.bl true)
def MetOk (w : World) (H : Hp) (a : Addr) (ks : List D) : Prop :=
  (∃ ns : List Int, ks = ns.map D.int ∧ H a = some (.dK (intKv ns))) ∨
  (ks ≠ [] ∧ ∃ es xs, H a = some (RawM a es) ∧ es.toList = xs.map (entM w) ∧ MetKs H ks xs ∧ (xs.map (·.1)).Nodup)
theorem MetKs.mono {H H' : Hp} (t : Tp H H') {ks : List D} {xs : List (NestedKey × Addr × Value)} (h : MetKs H ks xs) : MetKs H' ks xs := by
  induction h with
  | nil => exact .nil
  | cons r d i _ ih => exact .cons (Rep.mono t _ _ r) d i ih
theorem MetOk.mono {w : World} {H H' : Hp} {a : Addr} {ks : List D} (t : Tp H H') (e : ∀ o, (∀ xs, o ≠ .lst xs) → H a = some o → H' a = some o) (h : MetOk w H a ks) : MetOk w H' a ks := by
  rcases h with ⟨ns, h1, h2⟩ | ⟨h0, es, xs, h1, h2, h3, h4⟩
  · exact .inl ⟨ns, h1, e _ (fun _ z => by cases z) h2⟩
  · exact .inr ⟨h0, es, xs, e _ (fun _ z => by cases z) h1, h2, h3.mono t, h4⟩
/-! ## a dict from rows of ints to ints -/
def dkv (kvs : List (List Int × Int)) : List (List Key × V) := kvs.map fun kv => (kv.1.map Sum.inl, V.int kv.2)
def DAt (H : Hp) (a : Addr) (kvs : List (List Int × Int)) : Prop := H a = some (.dT (dkv kvs)) ∨ ∃ o, H a = some (.frz o (.dT (dkv kvs)))
theorem DAt.mono {H H' : Hp} {a : Addr} {kvs : List (List Int × Int)} (s : ∀ o, H a = some o → H' a = some o) (h : DAt H a kvs) : DAt H' a kvs := by
  rcases h with h | ⟨o, h⟩
  · exact .inl (s _ h)
  · exact .inr ⟨o, s _ h⟩
/-! ## a tuple of a text and two lists -/
def TwoAt (H : Hp) (v : V) (s : String) (r1 r2 : List D) (a b : Addr) : Prop := ∃ p xs ys, v = .ref p ∧ H p = some (.tup [.str (Str.ofString s), .ref a, .ref b]) ∧ H a = some (.lst xs) ∧ Reps H xs r1 ∧ H b = some (.lst ys) ∧ Reps H ys r2 ∧ a ≠ b
theorem TwoAt.mono {H H' : Hp} {v : V} {s : String} {r1 r2 : List D} {a b : Addr} (t : Tp H H') (ka : ∀ xs, H a = some (.lst xs) → H' a = some (.lst xs)) (kb : ∀ xs, H b = some (.lst xs) → H' b = some (.lst xs)) (h : TwoAt H v s r1 r2 a b) : TwoAt H' v s r1 r2 a b := by
  obtain ⟨p, xs, ys, e, h1, h2, h3, h4, h5, h6⟩ := h
  exact ⟨p, xs, ys, e, t _ _ h1, ka _ h2, Reps.mono t _ _ h3, kb _ h4, Reps.mono t _ _ h5, h6⟩
theorem TwoAt.same {H H' : Hp} {v : V} {s : String} {r1 r2 : List D} {a b : Addr} (t : Same H H') (h : TwoAt H v s r1 r2 a b) : TwoAt H' v s r1 r2 a b := h.mono t.tp (fun _ q => t _ _ q) (fun _ q => t _ _ q)
/-! ## slots and what an expression yields -/
inductive DV where
  | dat (d : D)
  | own (ds : List D)
  | bor (ds : List D)
  | io (ds : List D)
  | obj (ds : List D)
  | dict (kvs : List (List Int × Int))
  | bd (kvs : List (List Int × Int))
  | two (s : String) (r1 r2 : List D)
  | btwo (s : String) (r1 r2 : List D)
  | bdict (w : World) (ks : List D)
  | exc (c : String × Addr)
  | scr (ds : List D)
  | lent (ds : List D)
deriving Inhabited
def isDic : DV → Bool
  | .bdict _ _ => true
  | .dict _ => true
  | _ => false
abbrev Rho := List (Option DV)

inductive EO where
  | ok (r : DV)
  | exc (c : String)
  | no
inductive CO where
  | ok (b : Bool)
  | exc (c : String)
  | no
inductive AO where
  | ok (rs : List DV)
  | exc (c : String)
  | no
abbrev EF := Rho → EO
abbrev TF := Rho → CO
abbrev AF := Rho → AO

/-- the script: a list that is never written -/
def ScrOk (K : PySem.W.Frag) (H : Hp) (a : Addr) (xs : List V) : Prop :=
  (∃ o, H a = some (.frz o (.lst xs))) ∨
    ∃ (o : Obj) (its : Array Value) (n : Nat), K.lookup a = some o ∧ o.cls = .type "list" ∧ o.dict = none ∧ o.data = .seq its n ∧ its.size ≤ sizeLine ∧ Vals xs its.toList
theorem ScrOk.sq {K : PySem.W.Frag} {H : Hp} {a : Addr} {xs : List V} (h : ScrOk K H a xs) : SqL K H a xs := by
  rcases h with h | h
  · exact .inl (.inr h)
  · exact .inr h
theorem ScrOk.mono {K : PySem.W.Frag} {H H' : Hp} {a : Addr} {xs : List V} (s : ∀ o, H a = some (.frz o (.lst xs)) → H' a = some (.frz o (.lst xs))) (h : ScrOk K H a xs) : ScrOk K H' a xs := by
  rcases h with ⟨o, h⟩ | h
  · exact .inl ⟨o, s o h⟩
  · exact .inr h
/-- a list at v -/
def LsOk (H : Hp) (v : V) (ds : List D) : Prop := ∃ a xs, v = .ref a ∧ H a = some (.lst xs) ∧ Reps H xs ds
theorem LsOk.mono {H H' : Hp} {v : V} {ds : List D} (s : Same H H') (h : LsOk H v ds) : LsOk H' v ds := by
  obtain ⟨a, xs, e, q, r⟩ := h
  exact ⟨a, xs, e, s _ _ q, Reps.mono s.tp ds xs r⟩
/-- what v stands for at H -/
def RdOk (K : PySem.W.Frag) (H : Hp) (v : V) : DV → Prop
  | .dat d => Rep H v d
  | .own ds => LsOk H v ds
  | .bor ds => LsOk H v ds
  | .io ds => LsOk H v ds
  | .lent ds => LsOk H v ds
  | .scr ds => ∃ a xs, v = .ref a ∧ ScrOk K H a xs ∧ Reps H xs ds
  | .exc p => v = .ref p.2
  | .obj _ => True
  | .dict kvs => ∃ a, v = .ref a ∧ DAt H a kvs
  | .bd kvs => ∃ a, v = .ref a ∧ DAt H a kvs
  | .two s r1 r2 => ∃ a b, TwoAt H v s r1 r2 a b
  | .btwo s r1 r2 => ∃ a b, TwoAt H v s r1 r2 a b
  | .bdict w ks => ∃ a, v = .ref a ∧ MetOk w H a ks
theorem RdOk.mono {K : PySem.W.Frag} {H H' : Hp} {v : V} (s : Same H H') : ∀ {r : DV}, RdOk K H v r → RdOk K H' v r
  | .dat d, h => Rep.mono s.tp d v h
  | .own ds, h => LsOk.mono s h
  | .bor ds, h => LsOk.mono s h
  | .io ds, h => LsOk.mono s h
  | .lent ds, h => LsOk.mono s h
  | .scr ds, ⟨a, xs, e, q, r⟩ => ⟨a, xs, e, q.mono fun o h => s _ _ h, Reps.mono s.tp ds xs r⟩
  | .exc _, h => h
  | .obj _, _ => True.intro
  | .dict _, ⟨a, e, m⟩ => ⟨a, e, m.mono fun _ q => s _ _ q⟩
  | .bd _, ⟨a, e, m⟩ => ⟨a, e, m.mono fun _ q => s _ _ q⟩
  | .two _ _ _, ⟨a, b, h⟩ => ⟨a, b, h.same s⟩
  | .btwo _ _ _, ⟨a, b, h⟩ => ⟨a, b, h.same s⟩
  | .bdict _ _, ⟨a, e, m⟩ => ⟨a, e, m.mono s.tp (fun _ _ q => s _ _ q)⟩
/-- a result: H0 ahead of its making -/
def ValOk (K : PySem.W.Frag) (H0 H : Hp) (v : V) : DV → Prop
  | .dat d => Rep H v d
  | .own ds => (∃ a, v = .ref a ∧ H0 a = none) ∧ LsOk H v ds
  | .bor ds => LsOk H v ds
  | .scr ds => ∃ a xs, v = .ref a ∧ ScrOk K H a xs ∧ Reps H xs ds
  | .exc _ => False
  | .io _ => False
  | .lent _ => False
  | .obj _ => False
  | .dict kvs => (∃ a, v = .ref a ∧ H0 a = none) ∧ ∃ a, v = .ref a ∧ H a = some (.dT (dkv kvs))
  | .bd kvs => ∃ a, v = .ref a ∧ DAt H a kvs
  | .two s r1 r2 => ∃ a b, TwoAt H v s r1 r2 a b ∧ H0 a = none ∧ H0 b = none
  | .btwo s r1 r2 => ∃ a b, TwoAt H v s r1 r2 a b
  | .bdict _ _ => False
theorem ValOk.mono {K : PySem.W.Frag} {H0 H H' : Hp} {v : V} (s : Same H H') : ∀ {r : DV}, ValOk K H0 H v r → ValOk K H0 H' v r
  | .dat d, h => Rep.mono s.tp d v h
  | .own ds, h => ⟨h.1, h.2.mono s⟩
  | .bor ds, h => LsOk.mono s h
  | .scr ds, ⟨a, xs, e, q, r⟩ => ⟨a, xs, e, q.mono fun o h => s _ _ h, Reps.mono s.tp ds xs r⟩
  | .io _, h => h.elim
  | .lent _, h => h.elim
  | .exc _, h => h.elim
  | .obj _, h => h.elim
  | .dict _, ⟨f, a, e, q⟩ => ⟨f, a, e, s _ _ q⟩
  | .bd _, ⟨a, e, q⟩ => ⟨a, e, q.mono fun _ q => s _ _ q⟩
  | .two _ _ _, ⟨a, b, h, f⟩ => ⟨a, b, h.same s, f⟩
  | .btwo _ _ _, ⟨a, b, h⟩ => ⟨a, b, h.same s⟩
  | .bdict _ _, h => h.elim
theorem ValOk.back {K : PySem.W.Frag} {H0 H1 H : Hp} {v : V} (s : Same H0 H1) : ∀ {r : DV}, ValOk K H1 H v r → ValOk K H0 H v r
  | .dat d, h => h
  | .own ds, ⟨⟨a, e, n⟩, r⟩ => ⟨⟨a, e, fresh_of s n⟩, r⟩
  | .bor ds, h => h
  | .scr ds, h => h
  | .io _, h => h.elim
  | .lent _, h => h.elim
  | .exc _, h => h.elim
  | .obj _, h => h.elim
  | .dict _, ⟨⟨a, e, n⟩, r⟩ => ⟨⟨a, e, fresh_of s n⟩, r⟩
  | .bd _, h => h
  | .two _ _ _, ⟨a, b, h, f, g⟩ => ⟨a, b, h, fresh_of s f, fresh_of s g⟩
  | .btwo _ _ _, h => h
  | .bdict _ _, h => h.elim
theorem ValOk.rd {K : PySem.W.Frag} {H0 H : Hp} {v : V} : ∀ {r : DV}, ValOk K H0 H v r → RdOk K H v r
  | .dat d, h => h
  | .own ds, h => h.2
  | .bor ds, h => h
  | .scr ds, h => h
  | .io _, h => h.elim
  | .lent _, h => h.elim
  | .exc _, h => h.elim
  | .obj _, h => h.elim
  | .dict _, ⟨_, a, e, q⟩ => ⟨a, e, .inl q⟩
  | .bd _, h => h
  | .two _ _ _, ⟨a, b, h, _⟩ => ⟨a, b, h⟩
  | .btwo _ _ _, h => h
  | .bdict _ _, h => h.elim

/-- the slots may be read -/
def SlR (K : PySem.W.Frag) (ρ : Rho) (σ : L2.St) (H : Hp) : Prop := ∀ (i : Nat) (s : DV), ρ[i]? = some (some s) → ∃ v, σ[i]? = some (some v) ∧ RdOk K H v s
theorem SlR.mono {K : PySem.W.Frag} {ρ : Rho} {σ : L2.St} {H H' : Hp} (h : SlR K ρ σ H) (s : Same H H') : SlR K ρ σ H' := fun i r e =>
  let ⟨v, e1, q⟩ := h i r e
  ⟨v, e1, q.mono s⟩

/-! ## the reading of a pure expression -/
section
variable (K : PySem.W.Frag) (cl : String → Addr) (W : WX)
def EPost (σ : L2.St) (H : Hp) (Q : VK) : EO → Prop
  | .ok r => ∀ v H', Same H H' → ValOk K H H' v r → Q v H'
  | .exc c => ∀ H', Same H H' → W (.ref (cl c)) none σ H'
  | .no => False
def TPost (σ : L2.St) (H : Hp) (Q : Bool → Hp → Prop) : CO → Prop
  | .ok b => ∀ H', Same H H' → Q b H'
  | .exc c => ∀ H', Same H H' → W (.ref (cl c)) none σ H'
  | .no => False
inductive ValsOk (H0 H : Hp) : List V → List DV → Prop
  | nil : ValsOk H0 H [] []
  | cons {v : V} {vs : List V} {r : DV} {rs : List DV} : ValOk K H0 H v r → ValsOk H0 H vs rs → ValsOk H0 H (v :: vs) (r :: rs)
def APost (σ : L2.St) (H : Hp) (Q : List V → Hp → Prop) : AO → Prop
  | .ok rs => ∀ vs H', Same H H' → ValsOk K H H' vs rs → Q vs H'
  | .exc c => ∀ H', Same H H' → W (.ref (cl c)) none σ H'
  | .no => False
def tI (f : EF) : TE := fun σ H Q => ∃ ρ, SlR K ρ σ H ∧ EPost K cl W σ H Q (f ρ)
def tT (f : TF) : TT := fun σ H Q => ∃ ρ, SlR K ρ σ H ∧ TPost cl W σ H Q (f ρ)
def tA (f : AF) : TA := fun σ H Q => ∃ ρ, SlR K ρ σ H ∧ APost K cl W σ H Q (f ρ)
end
theorem ValsOk.mono {K : PySem.W.Frag} {H0 H H' : Hp} (s : Same H H') : ∀ {vs : List V} {rs : List DV}, ValsOk K H0 H vs rs → ValsOk K H0 H' vs rs
  | _, _, .nil => .nil
  | _, _, .cons a b => .cons (a.mono s) (b.mono s)
theorem ValsOk.back {K : PySem.W.Frag} {H0 H1 H : Hp} (s : Same H0 H1) : ∀ {vs : List V} {rs : List DV}, ValsOk K H1 H vs rs → ValsOk K H0 H vs rs
  | _, _, .nil => .nil
  | _, _, .cons a b => .cons (a.back s) (b.back s)
section
variable {X : Cx} {e : Expr} {t t' : TE}
theorem _root_.L2.PE.imp (h : PE X e t) (k : ∀ σ H Q, t' σ H Q → t σ H Q) : PE X e t' := ⟨fun pins s σ H Q I q => h.run pins s σ H Q I (k σ H Q q)⟩
theorem _root_.L2.PT.imp {t t' : TT} (h : PT X e t) (k : ∀ σ H Q, t' σ H Q → t σ H Q) : PT X e t' := ⟨fun pins s σ H Q I q => h.run pins s σ H Q I (k σ H Q q)⟩
theorem _root_.L2.PW.imp {t t' : TT} (h : PW X e t) (k : ∀ σ H Q, t' σ H Q → t σ H Q) : PW X e t' := ⟨fun wh pins s σ H Q I q => h.run wh pins s σ H Q I (k σ H Q q)⟩
theorem _root_.L2.PA.imp {es : List Expr} {t t' : TA} (h : PA X es t) (k : ∀ σ H Q, t' σ H Q → t σ H Q) : PA X es t' := ⟨fun pos pins s σ H Q I q => h.run pos pins s σ H Q I (k σ H Q q)⟩
theorem _root_.L2.PS.imp {st : Stmt} {t t' : TS} (h : PS X st t) (k : ∀ D σ H, t' D σ H → t D σ H) : PS X st t' := ⟨fun pins s σ H D I q => h.run pins s σ H D I (k D σ H q)⟩
theorem _root_.L2.PSs.imp {st : List Stmt} {t t' : TS} (h : PSs X st t) (k : ∀ D σ H, t' D σ H → t D σ H) : PSs X st t' := ⟨fun pins s σ H D I q => h.run pins s σ H D I (k D σ H q)⟩
end

def EO.bind (x : EO) (k : DV → EO) : EO := match x with
  | .ok r => k r
  | .exc c => .exc c
  | .no => .no
@[simp] theorem EO.bind_ok (r : DV) (k : DV → EO) : (EO.ok r).bind k = k r := rfl
@[simp] theorem EO.bind_exc (c : String) (k : DV → EO) : (EO.exc c).bind k = .exc c := rfl
@[simp] theorem EO.bind_no (k : DV → EO) : EO.no.bind k = .no := rfl
section
variable {K : PySem.W.Frag} {cl : String → Addr} {W : WX} {σ : L2.St} {H : Hp} {ρ : Rho}
/-- one part of an expression, then what is made of it -/
theorem EPost.bindI {x : EO} {k : DV → EO} {Q Q1 : VK} (h : EPost K cl W σ H Q (x.bind k)) (hk : ∀ r v H1, x = .ok r → Same H H1 → ValOk K H H1 v r → EPost K cl W σ H1 Q (k r) → Q1 v H1) : EPost K cl W σ H Q1 x := by
  cases x with
  | no => exact h
  | exc c => exact h
  | ok r =>
    intro v H1 s1 va
    refine hk r v H1 rfl s1 va ?_
    have h : EPost K cl W σ H Q (k r) := h
    cases e : k r with
    | no => rw [e] at h; exact h
    | exc c => rw [e] at h; exact fun H' s' => h H' (s1.trans s')
    | ok z => rw [e] at h; exact fun w H' s' q => h w H' (s1.trans s') (q.back s1)
theorem EPost.imp {x : EO} {Q Q' : VK} (h : EPost K cl W σ H Q x) (k : ∀ v H', Same H H' → Q v H' → Q' v H') : EPost K cl W σ H Q' x := by
  cases x with
  | no => exact h
  | exc c => exact h
  | ok z => exact fun v H' s q => k v H' s (h v H' s q)
end
end KT

set_option Elab.async false
set_option linter.all false
set_option maxRecDepth 100000
set_option maxHeartbeats 4000000
namespace KT
open PySem PySem.Spec PyProof.Rows L2

/-! ## names, constants -/
def eVar (i : Nat) : EF := fun ρ => match ρ[i]? with
  | some (some (.dat d)) => .ok (.dat d)
  | some (some (.own ds)) => .ok (.bor ds)
  | some (some (.bor ds)) => .ok (.bor ds)
  | some (some (.io ds)) => .ok (.bor ds)
  | some (some (.lent ds)) => .ok (.bor ds)
  | some (some (.scr ds)) => .ok (.scr ds)
  | some (some (.dict kvs)) => .ok (.bd kvs)
  | some (some (.bd kvs)) => .ok (.bd kvs)
  | _ => .no
def eC (d : D) : EF := fun _ => .ok (.dat d)
section
variable {K : PySem.W.Frag} {cl : String → Addr} {W : WX} {X : Cx} {pos : Pos}
theorem eVar_cases {ρ : Rho} {i : Nat} {r : DV} (h : eVar i ρ = .ok r) : ∃ s, ρ[i]? = some (some s) ∧ ((∃ d, s = .dat d ∧ r = .dat d) ∨ (∃ ds, (s = .own ds ∨ s = .bor ds ∨ s = .io ds ∨ s = .lent ds) ∧ r = .bor ds) ∨ (∃ ds, s = .scr ds ∧ r = .scr ds) ∨ ∃ kvs, (s = .dict kvs ∨ s = .bd kvs) ∧ r = .bd kvs) := by
  unfold eVar at h
  split at h
  · rename_i d e; cases h; exact ⟨_, e, .inl ⟨d, rfl, rfl⟩⟩
  · rename_i d e; cases h; exact ⟨_, e, .inr (.inl ⟨d, .inl rfl, rfl⟩)⟩
  · rename_i d e; cases h; exact ⟨_, e, .inr (.inl ⟨d, .inr (.inl rfl), rfl⟩)⟩
  · rename_i d e; cases h; exact ⟨_, e, .inr (.inl ⟨d, .inr (.inr (.inl rfl)), rfl⟩)⟩
  · rename_i d e; cases h; exact ⟨_, e, .inr (.inl ⟨d, .inr (.inr (.inr rfl)), rfl⟩)⟩
  · rename_i d e; cases h; exact ⟨_, e, .inr (.inr (.inl ⟨d, rfl, rfl⟩))⟩
  · rename_i d e; cases h; exact ⟨_, e, .inr (.inr (.inr ⟨d, .inl rfl, rfl⟩))⟩
  · rename_i d e; cases h; exact ⟨_, e, .inr (.inr (.inr ⟨d, .inr rfl, rfl⟩))⟩
  · cases h
theorem i_var (i : Nat) {x : Str} (hN : X.N[i]? = some x := by rfl) (hv : Vis X.env.scope x := by first | exact Or.inl rfl | exact Or.inr (Or.inl rfl) | exact Or.inr (Or.inr rfl)) (hd : (x == ("__debug__" : Str)) = false := by decide)
    (hcd : (x == ("__classdict__" : Str)) = false := by decide) : PE X (.Name x pos) (tI X.K cl W (eVar i)) :=
  (pe_var hN hv hd hcd).imp fun σ H Q ⟨ρ, S, h⟩ => by
    cases e : eVar i ρ with
    | no => rw [e] at h; exact h.elim
    | exc c =>
      exfalso
      unfold eVar at e
      split at e <;> cases e
    | ok r =>
      rw [e] at h
      obtain ⟨s, hs, q⟩ := eVar_cases e
      obtain ⟨v, e1, q1⟩ := S i s hs
      refine ⟨v, e1, h v H (Same.refl H) ?_⟩
      rcases q with ⟨d, rfl, rfl⟩ | ⟨ds, hs', rfl⟩ | ⟨ds, rfl, rfl⟩ | ⟨ds, hs', rfl⟩
      · exact q1
      · rcases hs' with rfl | rfl | rfl | rfl
        · exact q1
        · exact q1
        · exact q1
        · exact q1
      · exact q1
      · rcases hs' with rfl | rfl
        · exact q1
        · exact q1
theorem i_c {e : Expr} {v : V} {d : D} (h : PE X e (tC v)) (r : ∀ H, Rep H v d) : PE X e (tI X.K cl W (eC d)) :=
  h.imp fun σ H Q ⟨ρ, S, q⟩ => q v H (Same.refl H) (r H)
theorem i_int {i j pos} : PE X (.Constant (.int i) j pos) (tI X.K cl W (eC (.int i))) := i_c pe_int fun _ => .int _
theorem i_bl {b j pos} : PE X (.Constant (.bool b) j pos) (tI X.K cl W (eC (.bl b))) := i_c pe_bl fun _ => .bl _
theorem i_non {j pos} : PE X (.Constant .none j pos) (tI X.K cl W (eC .non)) := i_c pe_non fun _ => .non
theorem i_str {s : String} {j pos} : PE X (.Constant (.str (Str.ofString s)) j pos) (tI X.K cl W (eC (.str s))) := i_c pe_str fun _ => .str _
/-- a module's constant -/
theorem i_globI {x : Str} {i : Int} {t : Tok} {pos : Pos} (hg : Gl X x) (hm : X.mg x = some (.int i t)) (hd : (x == ("__debug__" : Str)) = false := by decide) : PE X (.Name x pos) (tI X.K cl W (eC (.int i))) :=
  i_c (pe_glob (v := .int i) hg hm ⟨t, rfl⟩ hd) fun _ => .int _
theorem i_globS {x : Str} {s : String} {t : Tok} {pos : Pos} (hg : Gl X x) (hm : X.mg x = some (.str (Str.ofString s) t)) (hd : (x == ("__debug__" : Str)) = false := by decide) : PE X (.Name x pos) (tI X.K cl W (eC (.str s))) :=
  i_c (pe_glob (v := .str (Str.ofString s)) hg hm ⟨t, rfl⟩ hd) fun _ => .str _
end

/-! ## two parts -/
def eTwo (k : DV → DV → EO) (f g : EF) : EF := fun ρ => (f ρ).bind fun a => (g ρ).bind fun b => k a b
def eOne (k : DV → EO) (f : EF) : EF := fun ρ => (f ρ).bind k
/-- what an operation on values answers for k -/
def KPost (K : PySem.W.Frag) (H : Hp) (Q : VK) (P : Prop) : EO → Prop
  | .ok z => (∀ v' H', Same H H' → ValOk K H H' v' z → Q v' H') → P
  | .exc _ => False
  | .no => True
def KSnd (K : PySem.W.Frag) (r : R2) (k : DV → DV → EO) : Prop :=
  ∀ (a b : DV) (v w : V) (H : Hp) (Q : VK), RdOk K H v a → RdOk K H w b → KPost K H Q (r v w H Q) (k a b)
def KSnd1 (K : PySem.W.Frag) (r : V → Hp → VK → Prop) (k : DV → EO) : Prop :=
  ∀ (a : DV) (v : V) (H : Hp) (Q : VK), RdOk K H v a → KPost K H Q (r v H Q) (k a)
theorem rd_int {K : PySem.W.Frag} {H : Hp} {v : V} {i : Int} (h : RdOk K H v (.dat (.int i))) : v = .int i := by
  cases (show Rep H v (.int i) from h); rfl
theorem rd_bl {K : PySem.W.Frag} {H : Hp} {v : V} {i : Bool} (h : RdOk K H v (.dat (.bl i))) : v = .bl i := by
  cases (show Rep H v (.bl i) from h); rfl
theorem rd_str {K : PySem.W.Frag} {H : Hp} {v : V} {i : String} (h : RdOk K H v (.dat (.str i))) : v = .str (Str.ofString i) := by
  cases (show Rep H v (.str i) from h); rfl
theorem rd_tup {K : PySem.W.Frag} {H : Hp} {v : V} {ds : List D} (h : RdOk K H v (.dat (.tup ds))) : ∃ a xs, v = .ref a ∧ H a = some (.tup xs) ∧ Reps H xs ds := by
  cases (show Rep H v (.tup ds) from h) with
  | tup e r => exact ⟨_, _, rfl, e, r⟩
section
variable {K : PySem.W.Frag} {cl : String → Addr} {W : WX} {X : Cx} {pos : Pos} {f g : EF} {k : DV → DV → EO} {r : R2}
theorem two_ok (hk : KSnd K r k) {σ : L2.St} {H : Hp} {Q : VK} (h : tI K cl W (eTwo k f g) σ H Q) : tOp r (tI K cl W f) (tI K cl W g) σ H Q := by
  obtain ⟨ρ, S, h⟩ := h
  refine ⟨ρ, S, h.bindI fun a v H1 ea s1 va h1 => ?_⟩
  refine ⟨ρ, S.mono s1, h1.bindI fun b w H2 eb s2 vb h2 => ?_⟩
  have z := hk a b v w H2 Q ((va.mono s2).rd) vb.rd
  cases e : k a b with
  | no => rw [e] at h2; exact h2.elim
  | exc c => rw [e] at z; exact (show False from z).elim
  | ok q => rw [e] at z h2; exact z h2
theorem one_ok {r : V → Hp → VK → Prop} {k : DV → EO} (hk : KSnd1 K r k) {σ : L2.St} {H : Hp} {Q : VK} (h : tI K cl W (eOne k f) σ H Q) : tUn r (tI K cl W f) σ H Q := by
  obtain ⟨ρ, S, h⟩ := h
  refine ⟨ρ, S, h.bindI fun a v H1 ea s1 va h1 => ?_⟩
  have z := hk a v H1 Q va.rd
  cases e : k a with
  | no => rw [e] at h1; exact h1.elim
  | exc c => rw [e] at z; exact (show False from z).elim
  | ok q => rw [e] at z h1; exact z h1
variable {a b : Expr}
theorem i_bin {op : Operator} (ho : OpR X (binaryOp op) r) (hk : KSnd X.K r k) (ha : PE X a (tI X.K cl W f)) (hb : PE X b (tI X.K cl W g)) : PE X (.BinOp a op b pos) (tI X.K cl W (eTwo k f g)) :=
  (pe_op ho ha hb).imp fun _ _ _ h => two_ok hk h
theorem i_cmp {op : CmpOp} (ho : OpR X (compareOp op) r) (hk : KSnd X.K r k) (hm : behindInMarks op b = false) (ha : PE X a (tI X.K cl W f)) (hb : PE X b (tI X.K cl W g)) : PE X (.Compare a [op] [b] pos) (tI X.K cl W (eTwo k f g)) :=
  (pe_cmpR ho ha hb hm).imp fun _ _ _ h => two_ok hk h
theorem i_ixR (hr : IxR X r) (hk : KSnd X.K r k) (hs : PlainIx b) (ha : PE X a (tI X.K cl W f)) (hb : PE X b (tI X.K cl W g)) : PE X (.Subscript a b pos) (tI X.K cl W (eTwo k f g)) :=
  (pe_ix hr ha hb hs).imp fun _ _ _ h => two_ok hk h
theorem i_un {op : UnaryOp} {r : V → Hp → VK → Prop} {k : DV → EO} (ho : UnR X (unaryOp op) r) (hk : KSnd1 X.K r k) (ha : PE X a (tI X.K cl W f)) : PE X (.UnaryOp op a pos) (tI X.K cl W (eOne k f)) :=
  (pe_un ho ha).imp fun _ _ _ h => one_ok hk h
end

/-! ## texts -/
theorem ofString_append (s t : String) : Str.ofString (s ++ t) = Str.ofString s ++ Str.ofString t := by
  have e : ∀ a b : Str, a.cps.toList = b.cps.toList → a = b := fun a b h => by
    obtain ⟨x⟩ := a
    obtain ⟨y⟩ := b
    simp only at h
    rw [Array.toList_inj.mp h]
  apply e
  show (Str.ofString (s ++ t)).cps.toList = ((Str.ofString s).cps ++ (Str.ofString t).cps).toList
  rw [Str.ofString_eq_toList, Str.ofString_eq_toList, Str.ofString_eq_toList]
  simp
theorem ofString_len (s : String) : (Str.ofString s).length = s.length := PySem.ofString_length s
theorem ofString_list (cs : List Char) : Str.ofString (String.ofList cs) = ⟨(cs.map Char.toNat).toArray⟩ := by
  rw [Str.ofString_eq_toList, String.toList_ofList]
theorem ofString_cps (s : String) : (Str.ofString s).cps.toList = s.toList.map Char.toNat := by
  rw [Str.ofString_eq_toList]

/-! ## arithmetic -/
def LIM : Nat := 16777216
theorem lim_line {n : Nat} (h : n ≤ 16777216) : n ≤ sizeLine := by rw [sizeLine_eq]; exact h
def seqOf : DV → Option (List D)
  | .own ds => some ds
  | .bor ds => some ds
  | .io ds => some ds
  | _ => none
theorem seqOf_rd {K : PySem.W.Frag} {H : Hp} {v : V} {a : DV} {ds : List D} (e : seqOf a = some ds) (h : RdOk K H v a) : LsOk H v ds := by
  unfold seqOf at e
  split at e <;> cases e <;> exact h
def kAdd : DV → DV → EO
  | .dat (.int i), .dat (.int j) => .ok (.dat (.int (i + j)))
  | .dat (.str s), .dat (.str t) => if s.length + t.length ≤ 16777216 then .ok (.dat (.str (s ++ t))) else .no
  | .dat (.tup x), .dat (.tup y) => if x.length + y.length ≤ 16777216 then .ok (.dat (.tup (x ++ y))) else .no
  | a, b => match seqOf a, seqOf b with
    | some x, some y => if x.length + y.length ≤ 16777216 then .ok (.own (x ++ y)) else .no
    | _, _ => .no
def rAddAll (K : PySem.W.Frag) : R2 := fun x y H Q => (∃ i j, x = .int i ∧ y = .int j ∧ Q (.int (i + j)) H) ∨ (∃ i j, x = .str i ∧ y = .str j ∧ i.length + j.length ≤ sizeLine ∧ Q (.str (i ++ j)) H) ∨ rCatA K x y H Q ∨ rCat x y H Q
theorem op_addAll {X : Cx} : OpR X (binaryOp .Add) (rAddAll X.K) := op_add.or (op_add_str.or (op_catA.or op_cat))
theorem snd_add {K : PySem.W.Frag} : KSnd K (rAddAll K) kAdd := by
  intro a b v w H Q ra rb
  unfold kAdd
  split
  · cases rd_int ra; cases rd_int rb
    exact fun h => .inl ⟨_, _, rfl, rfl, h _ H (Same.refl H) (.int _)⟩
  · rename_i s t
    split
    · rename_i hl
      cases rd_str ra; cases rd_str rb
      intro h
      refine .inr (.inl ⟨_, _, rfl, rfl, ?_, ?_⟩)
      · rw [ofString_len, ofString_len]; exact lim_line hl
      · rw [← ofString_append]
        exact h _ H (Same.refl H) (.str _)
    · trivial
  · rename_i x y
    split
    · rename_i hl
      obtain ⟨_, _, rfl, e1, r1⟩ := rd_tup ra
      obtain ⟨_, _, rfl, e2, r2⟩ := rd_tup rb
      intro h
      have l1 := r1.length
      have l2 := r2.length
      refine .inr (.inr (.inl ⟨_, _, _, _, rfl, rfl, SqT.of e1, SqT.of e2, lim_line (by omega), fun ex => ?_, fun ex ey => ?_, fun ex ey p hp => ?_⟩))
      · subst ex
        cases x with
        | cons _ _ => cases r1
        | nil => exact h _ H (Same.refl H) (.tup e2 r2)
      · subst ey
        cases y with
        | cons _ _ => cases r2
        | nil =>
          rw [List.append_nil] at h
          exact h _ H (Same.refl H) (.tup e1 r1)
      · exact h _ _ (same_upd hp) (.tup upd_same (Reps.mono (same_upd hp).tp _ _ (r1.append r2)))
    · trivial
  · split
    · rename_i x y ex ey
      split
      · rename_i hl
        intro h
        obtain ⟨p, xs, rfl, q1, r1⟩ := seqOf_rd ex ra
        obtain ⟨q, ys, rfl, q2, r2⟩ := seqOf_rd ey rb
        have l1 := r1.length
        have l2 := r2.length
        refine .inr (.inr (.inr ⟨p, q, xs, ys, rfl, rfl, q1, q2, lim_line (by omega), fun z hz => ?_⟩))
        exact h _ _ (same_upd hz) ⟨⟨z, rfl, hz⟩, z, xs ++ ys, rfl, upd_same, Reps.mono (same_upd hz).tp _ _ (r1.append r2)⟩
      · trivial
    · trivial
def kSub : DV → DV → EO
  | .dat (.int i), .dat (.int j) => .ok (.dat (.int (i - j)))
  | _, _ => .no
theorem snd_I0 {K : PySem.W.Frag} {g : Int → Int → V} {k : DV → DV → EO} (h : ∀ a b, (∃ i j z, a = .dat (.int i) ∧ b = .dat (.int j) ∧ k a b = .ok (.dat z) ∧ ∀ H, Rep H (g i j) z) ∨ k a b = .no) : KSnd K (rI0 g) k := by
  intro a b v w H Q ra rb
  rcases h a b with ⟨i, j, z, rfl, rfl, e, r⟩ | e
  · rw [e]
    cases rd_int ra; cases rd_int rb
    exact fun q => ⟨i, j, rfl, rfl, q _ H (Same.refl H) (r H)⟩
  · rw [e]; trivial
theorem snd_I {K : PySem.W.Frag} {C : Int → Int → Prop} {g : Int → Int → V} {k : DV → DV → EO} (h : ∀ a b, (∃ i j z, a = .dat (.int i) ∧ b = .dat (.int j) ∧ C i j ∧ k a b = .ok (.dat z) ∧ ∀ H, Rep H (g i j) z) ∨ k a b = .no) : KSnd K (rI C g) k := by
  intro a b v w H Q ra rb
  rcases h a b with ⟨i, j, z, rfl, rfl, c, e, r⟩ | e
  · rw [e]
    cases rd_int ra; cases rd_int rb
    exact fun q => ⟨i, j, rfl, rfl, c, q _ H (Same.refl H) (r H)⟩
  · rw [e]; trivial
theorem snd_sub {K : PySem.W.Frag} : KSnd K (rI0 fun i j => .int (i - j)) kSub := snd_I0 fun a b => by
  unfold kSub
  split
  · exact .inl ⟨_, _, _, rfl, rfl, rfl, fun _ => .int _⟩
  · exact .inr rfl
/-- a bound that products and quotients are asked -/
def BIG : Nat := 2 ^ 4000
theorem log_of {n : Nat} (h : n < 2 ^ 4000) : n.log2 < 4000 := by
  by_cases h0 : n = 0
  · subst h0; decide
  · exact (Nat.log2_lt h0).mpr h
def mulOk (i j : Int) : Bool := (decide (-(2 ^ 64) < i) && decide (i < 2 ^ 64)) || (decide (-(2 ^ 64) < j) && decide (j < 2 ^ 64)) || (decide (i.natAbs < 2 ^ 4000) && decide (j.natAbs < 2 ^ 4000))
theorem mulOk_ok {i j : Int} (h : mulOk i j = true) : IntMulOk i j := by
  unfold mulOk at h
  simp only [Bool.or_eq_true, Bool.and_eq_true, decide_eq_true_eq] at h
  rcases h with (⟨h1, h2⟩ | ⟨h1, h2⟩) | ⟨h1, h2⟩
  · exact .of_left (intBits_le_64 h1 h2)
  · exact .of_right (intBits_le_64 h1 h2)
  · have a := log_of h1
    have b := log_of h2
    exact CMulW.ok (show i.natAbs.log2 + j.natAbs.log2 < 1000000 by omega)
theorem op_mulA {X : Cx} : OpR X (binaryOp .Mult) (rI (fun i j => mulOk i j = true) fun i j => .int (i * j)) := opI fun _ _ _ _ _ _ _ hc q => mul_int q (mulOk_ok hc)
def kMul : DV → DV → EO
  | .dat (.int i), .dat (.int j) => if mulOk i j then .ok (.dat (.int (i * j))) else .no
  | _, _ => .no
theorem snd_mul {K : PySem.W.Frag} : KSnd K (rI (fun i j => mulOk i j = true) fun i j => .int (i * j)) kMul := snd_I fun a b => by
  unfold kMul
  split
  · split
    · rename_i h; exact .inl ⟨_, _, _, rfl, rfl, h, rfl, fun _ => .int _⟩
    · exact .inr rfl
  · exact .inr rfl
def kFdiv : DV → DV → EO
  | .dat (.int i), .dat (.int j) => if 0 < j ∧ j < 2 ^ 4000 then .ok (.dat (.int (i / j))) else .no
  | _, _ => .no
theorem snd_fdiv {K : PySem.W.Frag} : KSnd K (rI CDivW fun i j => .int (i / j)) kFdiv := snd_I fun a b => by
  unfold kFdiv
  split
  · split
    · rename_i h
      refine .inl ⟨_, _, _, rfl, rfl, ⟨h.1, ?_⟩, rfl, fun _ => .int _⟩
      have := log_of (n := (Int.natAbs ‹Int›)) (by omega)
      omega
    · exact .inr rfl
  · exact .inr rfl
def kMod : DV → DV → EO
  | .dat (.int i), .dat (.int j) => if 0 < j then .ok (.dat (.int (i % j))) else .no
  | _, _ => .no
theorem snd_mod {K : PySem.W.Frag} : KSnd K (rI (fun _ j => 0 < j) fun i j => .int (i % j)) kMod := snd_I fun a b => by
  unfold kMod
  split
  · split
    · rename_i h; exact .inl ⟨_, _, _, rfl, rfl, h, rfl, fun _ => .int _⟩
    · exact .inr rfl
  · exact .inr rfl
def kPow : DV → DV → EO
  | .dat (.int i), .dat (.int j) => if 0 ≤ j ∧ j ≤ 100 ∧ i.natAbs < 1000 then .ok (.dat (.int (i ^ j.toNat))) else .no
  | _, _ => .no
theorem snd_pow {K : PySem.W.Frag} : KSnd K (rI CPow fun i j => .int (i ^ j.toNat)) kPow := snd_I fun a b => by
  unfold kPow
  split
  · split
    · rename_i h; exact .inl ⟨_, _, _, rfl, rfl, ⟨h.1, by omega, by omega⟩, rfl, fun _ => .int _⟩
    · exact .inr rfl
  · exact .inr rfl
def kNeg : DV → EO
  | .dat (.int i) => .ok (.dat (.int (-i)))
  | _ => .no
theorem snd_neg {K : PySem.W.Frag} : KSnd1 K (rU fun i => .int (-i)) kNeg := by
  intro a v H Q ra
  unfold kNeg
  split
  · cases rd_int ra
    exact fun q => ⟨_, rfl, q _ H (Same.refl H) (.int _)⟩
  · trivial
section
variable {K : PySem.W.Frag} {cl : String → Addr} {W : WX} {X : Cx} {pos : Pos} {f g : EF} {a b : Expr}
theorem i_add (ha : PE X a (tI X.K cl W f)) (hb : PE X b (tI X.K cl W g)) : PE X (.BinOp a .Add b pos) (tI X.K cl W (eTwo kAdd f g)) := i_bin op_addAll snd_add ha hb
theorem i_sub (ha : PE X a (tI X.K cl W f)) (hb : PE X b (tI X.K cl W g)) : PE X (.BinOp a .Sub b pos) (tI X.K cl W (eTwo kSub f g)) := i_bin op_sub snd_sub ha hb
theorem i_mul (ha : PE X a (tI X.K cl W f)) (hb : PE X b (tI X.K cl W g)) : PE X (.BinOp a .Mult b pos) (tI X.K cl W (eTwo kMul f g)) := i_bin op_mulA snd_mul ha hb
theorem i_fdiv (ha : PE X a (tI X.K cl W f)) (hb : PE X b (tI X.K cl W g)) : PE X (.BinOp a .FloorDiv b pos) (tI X.K cl W (eTwo kFdiv f g)) := i_bin op_fdivW snd_fdiv ha hb
theorem i_mod (ha : PE X a (tI X.K cl W f)) (hb : PE X b (tI X.K cl W g)) : PE X (.BinOp a .Mod b pos) (tI X.K cl W (eTwo kMod f g)) := i_bin op_mod snd_mod ha hb
theorem i_pow (ha : PE X a (tI X.K cl W f)) (hb : PE X b (tI X.K cl W g)) : PE X (.BinOp a .Pow b pos) (tI X.K cl W (eTwo kPow f g)) := i_bin op_pow snd_pow ha hb
theorem i_neg (ha : PE X a (tI X.K cl W f)) : PE X (.UnaryOp .USub a pos) (tI X.K cl W (eOne kNeg f)) := i_un un_neg snd_neg ha
end
end KT

set_option Elab.async false
set_option linter.all false
set_option maxRecDepth 100000
set_option maxHeartbeats 4000000
namespace KT
open PySem PySem.Spec PyProof.Rows L2

/-! ## == and in -/
def dpOf : DV → Nat
  | .dat d => d.dep
  | .own ds => D.deps ds + 1
  | .bor ds => D.deps ds + 1
  | .io ds => D.deps ds + 1
  | _ => 0
def vEq : DV → DV → Option Bool
  | .dat a, .dat b => some (D.deq a b)
  | .dat _, .own _ => some false
  | .dat _, .bor _ => some false
  | .dat _, .io _ => some false
  | .own _, .dat _ => some false
  | .bor _, .dat _ => some false
  | .io _, .dat _ => some false
  | a, b => match seqOf a, seqOf b with
    | some x, some y => some (D.deqs x y)
    | _, _ => none
theorem ls_dp {K : PySem.W.Frag} {H : Hp} {v : V} {ds : List D} (h : LsOk H v ds) : Dp K H v (.list (D.pys ds)) := by
  obtain ⟨a, xs, rfl, q, r⟩ := h
  exact .lst (SqL.of q) (Reps.dp ds xs r)
theorem dat_list (a : D) (ds : List PyData) : PyData.eqv a.py (.list ds) = false := by
  cases a <;> simp [D.py, PyData.eqv]
theorem list_dat (a : D) (ds : List PyData) : PyData.eqv (.list ds) a.py = false := by
  cases a <;> simp [D.py, PyData.eqv]
theorem vEq_ok {K : PySem.W.Frag} {H : Hp} {a b : DV} {v w : V} {r : Bool} (h : vEq a b = some r) (ra : RdOk K H v a) (rb : RdOk K H w b) :
    ∃ d e, Dp K H v d ∧ Dp K H w e ∧ d.canLay0 = true ∧ e.canLay0 = true ∧ d.depth = dpOf a ∧ e.depth = dpOf b ∧ PyData.eqv d e = r := by
  have lay : ∀ ds : List D, (PyData.list (D.pys ds)).canLay0 = true := fun ds => by simpa [PyData.canLay0] using D.lays ds
  have dpl : ∀ ds : List D, (PyData.list (D.pys ds)).depth = D.deps ds + 1 := fun ds => by simp [PyData.depth, D.pys_dep]
  unfold vEq at h
  split at h
  · cases h; exact ⟨_, _, Rep.dp _ _ ra, Rep.dp _ _ rb, D.lay _, D.lay _, D.py_dep _, D.py_dep _, D.py_eqv _ _⟩
  · cases h; exact ⟨_, _, Rep.dp _ _ ra, ls_dp rb, D.lay _, lay _, D.py_dep _, dpl _, dat_list _ _⟩
  · cases h; exact ⟨_, _, Rep.dp _ _ ra, ls_dp rb, D.lay _, lay _, D.py_dep _, dpl _, dat_list _ _⟩
  · cases h; exact ⟨_, _, Rep.dp _ _ ra, ls_dp rb, D.lay _, lay _, D.py_dep _, dpl _, dat_list _ _⟩
  · cases h; exact ⟨_, _, ls_dp ra, Rep.dp _ _ rb, lay _, D.lay _, dpl _, D.py_dep _, list_dat _ _⟩
  · cases h; exact ⟨_, _, ls_dp ra, Rep.dp _ _ rb, lay _, D.lay _, dpl _, D.py_dep _, list_dat _ _⟩
  · cases h; exact ⟨_, _, ls_dp ra, Rep.dp _ _ rb, lay _, D.lay _, dpl _, D.py_dep _, list_dat _ _⟩
  · split at h
    · rename_i x y ex ey
      cases h
      refine ⟨_, _, ls_dp (seqOf_rd ex ra), ls_dp (seqOf_rd ey rb), lay _, lay _, ?_, ?_, ?_⟩
      · rw [dpl]; unfold seqOf at ex; split at ex <;> cases ex <;> rfl
      · rw [dpl]; unfold seqOf at ey; split at ey <;> cases ey <;> rfl
      · simp only [PyData.eqv]; exact D.pys_eqv _ _
    · cases h
def kEq (a b : DV) : EO := match vEq a b with
  | some r => if min (dpOf a) (dpOf b) ≤ 190 then .ok (.dat (.bl r)) else .no
  | none => .no
def kNe (a b : DV) : EO := match vEq a b with
  | some r => if min (dpOf a) (dpOf b) ≤ 190 then .ok (.dat (.bl (!r))) else .no
  | none => .no
def rEqA (K : PySem.W.Frag) (neg : Bool) : R2 := fun x y H Q => ∃ d e, Dp K H x d ∧ Dp K H y e ∧ d.canLay0 = true ∧ e.canLay0 = true ∧ min d.depth e.depth ≤ 190 ∧ Q (.bl (if neg then !PyData.eqv d e else PyData.eqv d e)) H
theorem op_eqA {X : Cx} (hu : X.A.units + 200 < cLine) : OpR X (compareOp .Eq) (rEqA X.K false) := by
  intro pins s σ H x y v u Q I rx ry h
  obtain ⟨d, e, hd, he, sd, se, hm, q⟩ := h
  obtain ⟨as, r1⟩ := Dp.reads I d x v hd rx
  obtain ⟨bs, r2⟩ := Dp.reads I e y u he ry
  exact SeqAt.compareEq_reads r1 r2 sd se (by omega) ⟨.bl _, H, I, rfl, q⟩
theorem op_neA {X : Cx} (hu : X.A.units + 200 < cLine) : OpR X (compareOp .NotEq) (rEqA X.K true) := by
  intro pins s σ H x y v u Q I rx ry h
  obtain ⟨d, e, hd, he, sd, se, hm, q⟩ := h
  obtain ⟨as, r1⟩ := Dp.reads I d x v hd rx
  obtain ⟨bs, r2⟩ := Dp.reads I e y u he ry
  exact SeqAt.compareNe_reads r1 r2 sd se (by omega) ⟨.bl _, H, I, rfl, q⟩
theorem snd_eq {K : PySem.W.Frag} : KSnd K (rEqA K false) kEq := by
  intro a b v w H Q ra rb
  unfold kEq
  split
  · rename_i r e
    split
    · rename_i hm
      obtain ⟨d, e', h1, h2, h3, h4, h5, h6, h7⟩ := vEq_ok e ra rb
      exact fun q => ⟨d, e', h1, h2, h3, h4, by rw [h5, h6]; exact hm, q _ H (Same.refl H) (by rw [h7]; exact .bl _)⟩
    · trivial
  · trivial
theorem snd_ne {K : PySem.W.Frag} : KSnd K (rEqA K true) kNe := by
  intro a b v w H Q ra rb
  unfold kNe
  split
  · rename_i r e
    split
    · rename_i hm
      obtain ⟨d, e', h1, h2, h3, h4, h5, h6, h7⟩ := vEq_ok e ra rb
      exact fun q => ⟨d, e', h1, h2, h3, h4, by rw [h5, h6]; exact hm, q _ H (Same.refl H) (by rw [h7]; exact .bl _)⟩
    · trivial
  · trivial
/-- x in c -/
def vIn : DV → DV → Option Bool
  | .dat (.str s), .dat (.str t) => (match s.toList with
    | [c] => some (t.toList.contains c)
    | _ => none)
  | .dat x, .dat (.tup ds) => if min (D.deps ds) x.dep ≤ 190 then some (ds.any fun z => D.deq z x) else none
  | .dat x, b => match seqOf b with
    | some ds => if min (D.deps ds) x.dep ≤ 190 then some (ds.any fun z => D.deq z x) else none
    | none => none
  | _, _ => none
def kIn (a b : DV) : EO := match vIn a b with
  | some r => .ok (.dat (.bl r))
  | none => .no
def kNotIn (a b : DV) : EO := match vIn a b with
  | some r => .ok (.dat (.bl (!r)))
  | none => .no
def rInA (K : PySem.W.Frag) (neg : Bool) : R2 := fun x y H Q =>
  (∃ (c : Nat) (z : Str), x = .str ⟨#[c]⟩ ∧ y = .str z ∧ Q (.bl (if neg then !decide (c ∈ z.cps.toList) else decide (c ∈ z.cps.toList))) H) ∨
  ∃ d ds, Dp K H x d ∧ (Dp K H y (.list ds) ∨ Dp K H y (.tuple ds)) ∧ d.canLay0 = true ∧ PyData.canLayAll0 ds = true ∧ min (PyData.depthAll ds) d.depth ≤ 190 ∧ Q (.bl (if neg then !ds.any (fun z => PyData.eqv z d) else ds.any fun z => PyData.eqv z d)) H
theorem op_inA {X : Cx} (hu : X.A.units + 200 < cLine) : OpR X (compareOp .In) (rInA X.K false) := by
  intro pins s σ H x y v u Q I rx ry h
  rcases h with h | ⟨d, ds, hd, he, sd, se, hm, q⟩
  · exact op_in_sign pins s σ H x y v u Q I rx ry h
  · obtain ⟨as, r1⟩ := Dp.reads I d x v hd rx
    rcases he with he | he
    · obtain ⟨bs, r2⟩ := Dp.reads I _ y u he ry
      exact SeqAt.in_list_reads r2 r1 se sd (by omega) ⟨.bl _, H, I, rfl, q⟩
    · obtain ⟨bs, r2⟩ := Dp.reads I _ y u he ry
      exact SeqAt.in_tuple_reads r2 r1 se sd (by omega) ⟨.bl _, H, I, rfl, q⟩
theorem op_notInA {X : Cx} (hu : X.A.units + 200 < cLine) : OpR X (compareOp .NotIn) (rInA X.K true) := by
  intro pins s σ H x y v u Q I rx ry h
  rcases h with h | ⟨d, ds, hd, he, sd, se, hm, q⟩
  · exact op_notIn_sign pins s σ H x y v u Q I rx ry h
  · obtain ⟨as, r1⟩ := Dp.reads I d x v hd rx
    rcases he with he | he
    · obtain ⟨bs, r2⟩ := Dp.reads I _ y u he ry
      exact SeqAt.notIn_list_reads r2 r1 se sd (by omega) ⟨.bl _, H, I, rfl, q⟩
    · obtain ⟨bs, r2⟩ := Dp.reads I _ y u he ry
      exact SeqAt.notIn_tuple_reads r2 r1 se sd (by omega) ⟨.bl _, H, I, rfl, q⟩
theorem any_py (x : D) : ∀ ds : List D, ((D.pys ds).any fun z => PyData.eqv z x.py) = ds.any fun z => D.deq z x
  | [] => rfl
  | d :: ds => by simp [D.pys, D.py_eqv, any_py x ds]
theorem vIn_ok {K : PySem.W.Frag} {H : Hp} {a b : DV} {v w : V} {r : Bool} {neg : Bool} {Q : VK} (h : vIn a b = some r) (ra : RdOk K H v a) (rb : RdOk K H w b) (q : Q (.bl (if neg then !r else r)) H) : rInA K neg v w H Q := by
  unfold vIn at h
  split at h
  · rename_i s t
    split at h
    · rename_i c e
      cases h
      cases rd_str ra; cases rd_str rb
      refine .inl ⟨c.toNat, _, ?_, rfl, ?_⟩
      · rw [Str.ofString_eq_toList, e]; rfl
      · have z : decide (c.toNat ∈ (Str.ofString t).cps.toList) = t.toList.contains c := by
          rw [ofString_cps]
          have : (c.toNat ∈ t.toList.map Char.toNat) ↔ c ∈ t.toList := by
            constructor
            · intro hm
              obtain ⟨d, hd, e⟩ := List.mem_map.mp hm
              rw [← Char.toNat_inj.mp e]; exact hd
            · intro hm; exact List.mem_map.mpr ⟨c, hm, rfl⟩
          rw [Bool.eq_iff_iff, decide_eq_true_iff, this, List.contains_iff_mem]
        rw [z]; exact q
    · cases h
  · rename_i x ds
    split at h
    · rename_i hm
      cases h
      obtain ⟨p, xs, rfl, e2, r2⟩ := rd_tup rb
      refine .inr ⟨_, D.pys ds, Rep.dp _ _ ra, .inr (.tup (SqT.of e2) (Reps.dp _ _ r2)), D.lay _, D.lays _, ?_, ?_⟩
      · rw [D.pys_dep, D.py_dep]; exact hm
      · rw [any_py]; exact q
    · cases h
  · rename_i x _ _ _
    split at h
    · rename_i ds e
      split at h
      · rename_i hm
        cases h
        refine .inr ⟨_, D.pys ds, Rep.dp _ _ ra, .inl (ls_dp (seqOf_rd e rb)), D.lay _, D.lays _, ?_, ?_⟩
        · rw [D.pys_dep, D.py_dep]; exact hm
        · rw [any_py]; exact q
      · cases h
    · cases h
  · cases h
theorem snd_in {K : PySem.W.Frag} : KSnd K (rInA K false) kIn := by
  intro a b v w H Q ra rb
  unfold kIn
  split
  · rename_i r e
    exact fun q => vIn_ok e ra rb (q _ H (Same.refl H) (.bl _))
  · trivial
theorem snd_notIn {K : PySem.W.Frag} : KSnd K (rInA K true) kNotIn := by
  intro a b v w H Q ra rb
  unfold kNotIn
  split
  · rename_i r e
    exact fun q => vIn_ok e ra rb (q _ H (Same.refl H) (.bl _))
  · trivial

/-! ## is -/
def vIs : DV → DV → Option Bool
  | .dat .non, .dat .non => some true
  | .dat (.bl a), .dat (.bl b) => some (a == b)
  | .dat _, .dat .non => some false
  | .own _, .dat .non => some false
  | .bor _, .dat .non => some false
  | .io _, .dat .non => some false
  | _, _ => none
def kIs (a b : DV) : EO := match vIs a b with
  | some r => .ok (.dat (.bl r))
  | none => .no
def kIsNot (a b : DV) : EO := match vIs a b with
  | some r => .ok (.dat (.bl (!r)))
  | none => .no
def rIsA (neg : Bool) : R2 := fun x y H Q => (y = .non ∧ Q (.bl (if neg then !decide (x = .non) else decide (x = .non))) H) ∨ ∃ a b, x = .bl a ∧ y = .bl b ∧ Q (.bl (if neg then !decide (a = b) else decide (a = b))) H
theorem op_isA {X : Cx} : OpR X (compareOp .Is) (rIsA false) := op_isN.or op_is_bl
theorem op_isNotA {X : Cx} : OpR X (compareOp .IsNot) (rIsA true) := op_notN.or op_isnot_bl
theorem vIs_ok {K : PySem.W.Frag} {H : Hp} {a b : DV} {v w : V} {r : Bool} {neg : Bool} {Q : VK} (h : vIs a b = some r) (ra : RdOk K H v a) (rb : RdOk K H w b) (q : Q (.bl (if neg then !r else r)) H) : rIsA neg v w H Q := by
  unfold vIs at h
  have nn : ∀ {w : V}, RdOk K H w (.dat .non) → w = .non := fun {w} h => by cases (show Rep H w .non from h); rfl
  split at h
  · cases h; cases nn ra; cases nn rb; exact .inl ⟨rfl, q⟩
  · cases h; cases rd_bl ra; cases rd_bl rb
    refine .inr ⟨_, _, rfl, rfl, ?_⟩
    rw [← Bool.beq_eq_decide_eq]; exact q
  · rename_i d _ hd
    cases h; cases nn rb
    have z : ¬ v = .non := by
      intro e; subst e
      have ra' : Rep H .non _ := ra
      cases ra'
      simp at hd
    exact .inl ⟨rfl, by rw [decide_eq_false z]; exact q⟩
  · cases h; cases nn rb
    obtain ⟨a, xs, rfl, _⟩ := ra
    exact .inl ⟨rfl, q⟩
  · cases h; cases nn rb
    obtain ⟨a, xs, rfl, _⟩ := ra
    exact .inl ⟨rfl, q⟩
  · cases h; cases nn rb
    obtain ⟨a, xs, rfl, _⟩ := ra
    exact .inl ⟨rfl, q⟩
  · cases h
theorem snd_is {K : PySem.W.Frag} : KSnd K (rIsA false) kIs := by
  intro a b v w H Q ra rb
  unfold kIs
  split
  · rename_i r e
    exact fun q => vIs_ok e ra rb (q _ H (Same.refl H) (.bl _))
  · trivial
theorem snd_isNot {K : PySem.W.Frag} : KSnd K (rIsA true) kIsNot := by
  intro a b v w H Q ra rb
  unfold kIsNot
  split
  · rename_i r e
    exact fun q => vIs_ok e ra rb (q _ H (Same.refl H) (.bl _))
  · trivial

/-! ## order of ints -/
def kLt : DV → DV → EO
  | .dat (.int i), .dat (.int j) => .ok (.dat (.bl (decide (i < j))))
  | _, _ => .no
def kLe : DV → DV → EO
  | .dat (.int i), .dat (.int j) => .ok (.dat (.bl (decide (i ≤ j))))
  | _, _ => .no
def kGt : DV → DV → EO
  | .dat (.int i), .dat (.int j) => .ok (.dat (.bl (decide (j < i))))
  | _, _ => .no
def kGe : DV → DV → EO
  | .dat (.int i), .dat (.int j) => .ok (.dat (.bl (decide (j ≤ i))))
  | _, _ => .no
theorem snd_lt {K : PySem.W.Frag} : KSnd K (rI0 fun i j => .bl (decide (i < j))) kLt := snd_I0 fun a b => by
  unfold kLt; split
  · exact .inl ⟨_, _, _, rfl, rfl, rfl, fun _ => .bl _⟩
  · exact .inr rfl
theorem snd_le {K : PySem.W.Frag} : KSnd K (rI0 fun i j => .bl (decide (i ≤ j))) kLe := snd_I0 fun a b => by
  unfold kLe; split
  · exact .inl ⟨_, _, _, rfl, rfl, rfl, fun _ => .bl _⟩
  · exact .inr rfl
theorem snd_gt {K : PySem.W.Frag} : KSnd K (rI0 fun i j => .bl (decide (j < i))) kGt := snd_I0 fun a b => by
  unfold kGt; split
  · exact .inl ⟨_, _, _, rfl, rfl, rfl, fun _ => .bl _⟩
  · exact .inr rfl
theorem snd_ge {K : PySem.W.Frag} : KSnd K (rI0 fun i j => .bl (decide (j ≤ i))) kGe := snd_I0 fun a b => by
  unfold kGe; split
  · exact .inl ⟨_, _, _, rfl, rfl, rfl, fun _ => .bl _⟩
  · exact .inr rfl

/-! ## items, cuts -/
def ixD (ds : List D) (i : Int) : Option D := if 0 ≤ i then ds[i.toNat]? else if -(ds.length : Int) ≤ i then ds[(i + ds.length).toNat]? else none
theorem atI_ix {H : Hp} {vs : List V} {ds : List D} {i : Int} {d : D} (r : Reps H vs ds) (h : ixD ds i = some d) : ∃ v, atI vs i = some v ∧ Rep H v d := by
  have hl := r.length
  unfold ixD at h
  unfold atI ixN
  rw [hl]
  split at h
  · rename_i h0
    obtain ⟨v, e, q⟩ := r.get h
    have : i.toNat < ds.length := (List.getElem?_eq_some_iff.mp h).1
    rw [if_pos h0, if_pos (by omega)]
    exact ⟨v, e, q⟩
  · rename_i h0
    split at h
    · rename_i h1
      obtain ⟨v, e, q⟩ := r.get h
      rw [if_neg h0, if_pos h1]
      exact ⟨v, e, q⟩
    · cases h
def ixS (cs : List Char) (i : Int) : Option Char := if 0 ≤ i then cs[i.toNat]? else if -(cs.length : Int) ≤ i then cs[(i + cs.length).toNat]? else none
def vIx : DV → DV → Option D
  | .dat (.tup ds), .dat (.int i) => ixD ds i
  | .dat (.str s), .dat (.int i) => if s.length ≤ 16777216 then (ixS s.toList i).map fun c => .str (String.singleton c) else none
  | .scr ds, .dat (.int i) => ixD ds i
  | a, .dat (.int i) => match seqOf a with
    | some ds => ixD ds i
    | none => none
  | _, _ => none
def kIx (a b : DV) : EO := match vIx a b with
  | some d => .ok (.dat d)
  | none => .no
theorem snd_ix {K : PySem.W.Frag} : KSnd K (rIx K) kIx := by
  intro a b v w H Q ra rb
  unfold kIx
  split
  · rename_i d e
    intro q
    unfold vIx at e
    split at e
    · cases rd_int rb
      obtain ⟨p, xs, rfl, e2, r2⟩ := rd_tup ra
      obtain ⟨y, h1, h2⟩ := atI_ix r2 e
      exact .inr (.inl ⟨p, xs, _, y, rfl, rfl, SqT.of e2, h1, q _ H (Same.refl H) h2⟩)
    · rename_i s i
      split at e
      · rename_i hl
        cases rd_int rb; cases rd_str ra
        obtain ⟨c, hc, rfl⟩ := Option.map_eq_some_iff.mp e
        refine .inr (.inr ⟨_, _, c.toNat, rfl, rfl, by rw [ofString_len]; exact lim_line hl, ?_, ?_⟩)
        · rw [ofString_cps]
          unfold ixS at hc
          unfold atI ixN
          rw [List.length_map]
          split at hc
          · rename_i h0
            have : i.toNat < s.toList.length := (List.getElem?_eq_some_iff.mp hc).1
            rw [if_pos h0, if_pos (by omega)]
            show (s.toList.map Char.toNat)[i.toNat]? = _
            rw [List.getElem?_map, hc]; rfl
          · rename_i h0
            split at hc
            · rename_i h1
              rw [if_neg h0, if_pos h1]
              show (s.toList.map Char.toNat)[(i + s.toList.length).toNat]? = _
              rw [List.getElem?_map, hc]; rfl
            · cases hc
        · have z : (⟨#[c.toNat]⟩ : Str) = Str.ofString (String.singleton c) := by
            rw [Str.ofString_eq_toList]; simp
          rw [z]
          exact q _ H (Same.refl H) (.str _)
      · cases e
    · cases rd_int rb
      obtain ⟨p, xs, rfl, e2, r2⟩ := ra
      obtain ⟨y, h1, h2⟩ := atI_ix r2 e
      exact .inl ⟨p, xs, _, y, rfl, rfl, e2.sq, h1, q _ H (Same.refl H) h2⟩
    · cases rd_int rb
      split at e
      · rename_i ds es
        obtain ⟨p, xs, rfl, e2, r2⟩ := seqOf_rd es ra
        obtain ⟨y, h1, h2⟩ := atI_ix r2 e
        exact .inl ⟨p, xs, _, y, rfl, rfl, SqL.of e2, h1, q _ H (Same.refl H) h2⟩
      · cases e
    · cases e
  · trivial
section
variable {K : PySem.W.Frag} {cl : String → Addr} {W : WX} {X : Cx} {pos : Pos} {f g : EF} {a b : Expr}
theorem i_eq (hu : X.A.units + 200 < cLine) (ha : PE X a (tI X.K cl W f)) (hb : PE X b (tI X.K cl W g)) : PE X (.Compare a [.Eq] [b] pos) (tI X.K cl W (eTwo kEq f g)) := i_cmp (op_eqA hu) snd_eq (nomark _) ha hb
theorem i_ne (hu : X.A.units + 200 < cLine) (ha : PE X a (tI X.K cl W f)) (hb : PE X b (tI X.K cl W g)) : PE X (.Compare a [.NotEq] [b] pos) (tI X.K cl W (eTwo kNe f g)) := i_cmp (op_neA hu) snd_ne (nomark _) ha hb
theorem i_in (hu : X.A.units + 200 < cLine) (ha : PE X a (tI X.K cl W f)) (hb : PE X b (tI X.K cl W g)) (hm : behindInMarks .In b = false := by rfl) : PE X (.Compare a [.In] [b] pos) (tI X.K cl W (eTwo kIn f g)) := i_cmp (op_inA hu) snd_in hm ha hb
theorem i_notIn (hu : X.A.units + 200 < cLine) (ha : PE X a (tI X.K cl W f)) (hb : PE X b (tI X.K cl W g)) (hm : behindInMarks .NotIn b = false := by rfl) : PE X (.Compare a [.NotIn] [b] pos) (tI X.K cl W (eTwo kNotIn f g)) := i_cmp (op_notInA hu) snd_notIn hm ha hb
theorem i_is (ha : PE X a (tI X.K cl W f)) (hb : PE X b (tI X.K cl W g)) : PE X (.Compare a [.Is] [b] pos) (tI X.K cl W (eTwo kIs f g)) := i_cmp op_isA snd_is (nomark _) ha hb
theorem i_isNot (ha : PE X a (tI X.K cl W f)) (hb : PE X b (tI X.K cl W g)) : PE X (.Compare a [.IsNot] [b] pos) (tI X.K cl W (eTwo kIsNot f g)) := i_cmp op_isNotA snd_isNot (nomark _) ha hb
theorem i_lt (ha : PE X a (tI X.K cl W f)) (hb : PE X b (tI X.K cl W g)) : PE X (.Compare a [.Lt] [b] pos) (tI X.K cl W (eTwo kLt f g)) := i_cmp op_lt snd_lt (nomark _) ha hb
theorem i_le (ha : PE X a (tI X.K cl W f)) (hb : PE X b (tI X.K cl W g)) : PE X (.Compare a [.LtE] [b] pos) (tI X.K cl W (eTwo kLe f g)) := i_cmp op_le snd_le (nomark _) ha hb
theorem i_gt (ha : PE X a (tI X.K cl W f)) (hb : PE X b (tI X.K cl W g)) : PE X (.Compare a [.Gt] [b] pos) (tI X.K cl W (eTwo kGt f g)) := i_cmp op_gt snd_gt (nomark _) ha hb
theorem i_ge (ha : PE X a (tI X.K cl W f)) (hb : PE X b (tI X.K cl W g)) : PE X (.Compare a [.GtE] [b] pos) (tI X.K cl W (eTwo kGe f g)) := i_cmp op_ge snd_ge (nomark _) ha hb
theorem i_ix (ha : PE X a (tI X.K cl W f)) (hb : PE X b (tI X.K cl W g)) (hs : PlainIx b := by intro _ _; rfl) : PE X (.Subscript a b pos) (tI X.K cl W (eTwo kIx f g)) := i_ixR ix_seq snd_ix hs ha hb
end
end KT

set_option Elab.async false
set_option linter.all false
set_option maxRecDepth 100000
set_option maxHeartbeats 4000000
namespace KT
open PySem PySem.Spec PyProof.Rows L2

/-! ## argument lists, displays -/
def aNil : AF := fun _ => .ok []
def aCons (f : EF) (g : AF) : AF := fun ρ => match f ρ with
  | .ok r => (match g ρ with
    | .ok rs => .ok (r :: rs)
    | .exc c => .exc c
    | .no => .no)
  | .exc c => .exc c
  | .no => .no
def datsOf : List DV → Option (List D)
  | [] => some []
  | .dat d :: r => (datsOf r).map (d :: ·)
  | _ :: _ => none
def eTup (g : AF) : EF := fun ρ => match g ρ with
  | .ok rs => (match datsOf rs with
    | some ds => if ds.length ≤ 1000 then .ok (.dat (.tup ds)) else .no
    | none => .no)
  | .exc c => .exc c
  | .no => .no
def eLst (g : AF) : EF := fun ρ => match g ρ with
  | .ok rs => (match datsOf rs with
    | some ds => if ds.length ≤ 1000 then .ok (.own ds) else .no
    | none => .no)
  | .exc c => .exc c
  | .no => .no
theorem datsOf_ok {K : PySem.W.Frag} {H0 H : Hp} : ∀ {rs : List DV} {vs : List V} {ds : List D}, datsOf rs = some ds → ValsOk K H0 H vs rs → Reps H vs ds
  | [], _, ds, e, h => by
    cases e; cases h; exact .nil
  | .dat d :: r, _, ds, e, h => by
    cases h with
    | cons a b =>
      obtain ⟨ds', e', rfl⟩ := Option.map_eq_some_iff.mp (show (datsOf r).map (d :: ·) = some ds from e)
      exact .cons a (datsOf_ok e' b)
  | .own _ :: _, _, ds, e, h => by cases e
  | .bor _ :: _, _, ds, e, h => by cases e
  | .io _ :: _, _, ds, e, h => by cases e
  | .obj _ :: _, _, ds, e, h => by cases e
  | .dict _ :: _, _, ds, e, h => by cases e
  | .bd _ :: _, _, ds, e, h => by cases e
  | .two _ _ _ :: _, _, ds, e, h => by cases e
  | .btwo _ _ _ :: _, _, ds, e, h => by cases e
  | .bdict _ _ :: _, _, ds, e, h => by cases e
  | .exc _ :: _, _, ds, e, h => by cases e
  | .scr _ :: _, _, ds, e, h => by cases e
  | .lent _ :: _, _, ds, e, h => by cases e
theorem ValsOk.length {K : PySem.W.Frag} {H0 H : Hp} : ∀ {vs : List V} {rs : List DV}, ValsOk K H0 H vs rs → vs.length = rs.length
  | _, _, .nil => rfl
  | _, _, .cons _ b => by rw [List.length_cons, List.length_cons, ValsOk.length b]
section
variable {K : PySem.W.Frag} {cl : String → Addr} {W : WX} {X : Cx} {pos : Pos} {f g : EF} {a b e : Expr} {es : List Expr} {ag : AF}
theorem a_nil : PA X [] (tA X.K cl W aNil) := pa_nil.imp fun σ H Q ⟨ρ, S, h⟩ => h [] H (Same.refl H) .nil
theorem a_cons (ha : PE X e (tI X.K cl W f)) (hr : PA X es (tA X.K cl W ag)) (hs : starEach (e :: es) X.env = (false, eval e X.env) :: starEach es X.env := by rfl) : PA X (e :: es) (tA X.K cl W (aCons f ag)) :=
  (pa_cons ha hr hs).imp fun σ H Q ⟨ρ, S, h⟩ => by
    refine ⟨ρ, S, ?_⟩
    unfold aCons at h
    cases e1 : f ρ with
    | no => rw [e1] at h; exact h
    | exc c => rw [e1] at h; exact h
    | ok r =>
      rw [e1] at h
      intro v H1 s1 va
      refine ⟨ρ, S.mono s1, ?_⟩
      cases e2 : ag ρ with
      | no => simp only [e2] at h; exact h
      | exc c => simp only [e2] at h; exact fun H' s' => h H' (s1.trans s')
      | ok rs =>
        simp only [e2] at h
        intro vs H2 s2 vas
        exact h _ H2 (s1.trans s2) (.cons (va.mono s2) (vas.back s1))
theorem i_tup {kk : Nat} (h : PA X es (tA X.K cl W ag)) : PE X (.Tuple es kk pos) (tI X.K cl W (eTup ag)) :=
  (pe_tup h).imp fun σ H Q ⟨ρ, S, h⟩ => by
    refine ⟨ρ, S, ?_⟩
    unfold eTup at h
    cases e1 : ag ρ with
    | no => rw [e1] at h; exact h
    | exc c => rw [e1] at h; exact h
    | ok rs =>
      rw [e1] at h
      intro vs H1 s1 vas
      cases e2 : datsOf rs with
      | none => simp only [e2] at h; exact h.elim
      | some ds =>
        simp only [e2] at h
        have r := datsOf_ok e2 vas
        have hl := r.length
        by_cases hz : ds.length ≤ 1000
        · rw [if_pos hz] at h
          exact ⟨lim_line (by omega), fun p hp => h _ _ (s1.trans (same_upd hp)) (.tup upd_same (Reps.mono (same_upd hp).tp _ _ r))⟩
        · rw [if_neg hz] at h; exact h.elim
theorem i_lst (h : PA X es (tA X.K cl W ag)) : PE X (.List es pos) (tI X.K cl W (eLst ag)) :=
  (pe_lst h).imp fun σ H Q ⟨ρ, S, h⟩ => by
    refine ⟨ρ, S, ?_⟩
    unfold eLst at h
    cases e1 : ag ρ with
    | no => rw [e1] at h; exact h
    | exc c => rw [e1] at h; exact h
    | ok rs =>
      rw [e1] at h
      intro vs H1 s1 vas
      cases e2 : datsOf rs with
      | none => simp only [e2] at h; exact h.elim
      | some ds =>
        simp only [e2] at h
        have r := datsOf_ok e2 vas
        have hl := r.length
        by_cases hz : ds.length ≤ 1000
        · rw [if_pos hz] at h
          exact ⟨lim_line (by omega), fun p hp => h _ _ (s1.trans (same_upd hp)) ⟨⟨p, rfl, fresh_of s1 hp⟩, p, vs, rfl, upd_same, Reps.mono (same_upd hp).tp _ _ r⟩⟩
        · rw [if_neg hz] at h; exact h.elim
end

/-! ## cuts -/
def cutA {α : Type} (xs : List α) (lo hi : Option Int) : List α := (xs.drop (HT.sIx xs.length 0 lo)).take (HT.sIx xs.length xs.length hi - HT.sIx xs.length 0 lo)
theorem Reps.cut {H : Hp} {vs : List V} {ds : List D} (h : Reps H vs ds) (lo hi : Option Int) : Reps H (cutV vs lo hi) (cutA ds lo hi) := by
  unfold cutV cutA
  rw [h.length]
  exact (h.drop _).take _
inductive OO where
  | ok (o : Option Int)
  | exc (c : String)
  | no
abbrev OF := Rho → OO
def oNone : OF := fun _ => .ok none
def oSome (f : EF) : OF := fun ρ => match f ρ with
  | .ok (.dat (.int i)) => .ok (some i)
  | .exc c => .exc c
  | _ => .no
def tO (K : PySem.W.Frag) (cl : String → Addr) (W : WX) (f : OF) : L2.TO := fun σ H Q => ∃ ρ, SlR K ρ σ H ∧ match f ρ with
  | .ok o => ∀ H', Same H H' → Q o H'
  | .exc c => ∀ H', Same H H' → W (.ref (cl c)) none σ H'
  | .no => False
def vSl (a : DV) (lo hi : Option Int) : Option DV := match a with
  | .dat (.tup ds) => some (.dat (.tup (cutA ds lo hi)))
  | .dat (.str s) => if s.length ≤ 16777216 then some (.dat (.str (String.ofList (cutA s.toList lo hi)))) else none
  | .own ds => some (.own (cutA ds lo hi))
  | .bor ds => some (.own (cutA ds lo hi))
  | .io ds => some (.own (cutA ds lo hi))
  | _ => none
def eSl (f : EF) (l h : OF) : EF := fun ρ => (f ρ).bind fun a => match l ρ with
  | .ok lo => (match h ρ with
    | .ok hi => (match vSl a lo hi with
      | some r => .ok r
      | none => .no)
    | .exc c => .exc c
    | .no => .no)
  | .exc c => .exc c
  | .no => .no
section
variable {K : PySem.W.Frag} {cl : String → Addr} {W : WX} {X : Cx} {pos p2 : Pos} {f g : EF} {a b e : Expr} {lo hi : Option Expr} {l h : OF}
theorem _root_.L2.PO.imp {e : Option Expr} {t t' : L2.TO} (h : PO X e t) (k : ∀ σ H Q, t' σ H Q → t σ H Q) : PO X e t' := ⟨fun pins s σ H Q I q => h.run pins s σ H Q I (k σ H Q q)⟩
theorem o_none : PO X none (tO X.K cl W oNone) := po_none.imp fun σ H Q ⟨ρ, S, h⟩ => h H (Same.refl H)
theorem o_some (ha : PE X e (tI X.K cl W f)) : PO X (some e) (tO X.K cl W (oSome f)) := (po_some ha).imp fun σ H Q ⟨ρ, S, h⟩ => by
  refine ⟨ρ, S, ?_⟩
  unfold oSome at h
  cases e1 : f ρ with
  | no => rw [e1] at h; exact h
  | exc c => rw [e1] at h; exact h
  | ok r =>
    rw [e1] at h
    intro v H1 s1 va
    split at h
    · rename_i o e2
      split at e2
      · rename_i i e3
        cases e2; cases e3
        cases rd_int va.rd
        exact ⟨_, rfl, h H1 s1⟩
      · cases e2
      · cases e2
    · rename_i o e2
      split at e2
      · cases e2
      · rename_i e3; cases e3
      · cases e2
    · exact h.elim
theorem i_sl (ha : PE X e (tI X.K cl W f)) (hl : PO X lo (tO X.K cl W l)) (hh : PO X hi (tO X.K cl W h)) : PE X (.Subscript e (.Slice lo hi none p2) pos) (tI X.K cl W (eSl f l h)) :=
  (pe_slice (SlR.or sl_list (SlR.or sl_tupA sl_str)) ha hl hh).imp fun σ H Q ⟨ρ, S, q⟩ => by
    refine ⟨ρ, S, q.bindI fun a v H1 ea s1 va q1 => ?_⟩
    refine ⟨ρ, S.mono s1, ?_⟩
    cases e1 : l ρ with
    | no => simp only [e1] at q1; exact q1.elim
    | exc c => simp only [e1] at q1; exact q1
    | ok o1 =>
      simp only [e1] at q1
      intro H2 s2
      refine ⟨ρ, (S.mono s1).mono s2, ?_⟩
      cases e2 : h ρ with
      | no => simp only [e2] at q1; exact q1.elim
      | exc c => simp only [e2] at q1; exact fun H' s' => q1 H' (s2.trans s')
      | ok o2 =>
        simp only [e2] at q1
        intro H3 s3
        have va3 := ((va.mono s2).mono s3)
        cases e3 : vSl a o1 o2 with
        | none => simp only [e3] at q1; exact q1.elim
        | some r =>
          simp only [e3] at q1
          have s13 := s2.trans s3
          have lists : ∀ ds : List D, LsOk H3 v ds → r = .own (cutA ds o1 o2) → rSlL X.K v o1 o2 H3 Q := fun ds hls er => by
            obtain ⟨p, xs, rfl, q2, r2⟩ := hls
            refine ⟨p, xs, rfl, SqL.of q2, fun z hz => ?_⟩
            subst er
            exact q1 _ _ (s13.trans (same_upd hz)) ⟨⟨z, rfl, fresh_of s13 hz⟩, z, _, rfl, upd_same, Reps.mono (same_upd hz).tp _ _ (r2.cut o1 o2)⟩
          unfold vSl at e3
          split at e3
          · rename_i ds
            cases e3
            obtain ⟨p, xs, rfl, q2, r2⟩ := rd_tup va3.rd
            refine .inr (.inl ⟨p, xs, rfl, SqT.of q2, fun hw => ?_, fun hw z hz => ?_⟩)
            · have e4 : cutA ds o1 o2 = ds := by
                have hl := r2.length
                rw [hl] at hw
                unfold cutA
                rw [hw.1, hw.2]
                simp
              rw [e4] at q1
              exact q1 _ _ s13 (.tup q2 r2)
            · exact q1 _ _ (s13.trans (same_upd hz)) (.tup upd_same (Reps.mono (same_upd hz).tp _ _ (r2.cut o1 o2)))
          · rename_i s
            split at e3
            · rename_i hz
              cases e3
              cases rd_str va3.rd
              refine .inr (.inr ⟨_, rfl, by rw [ofString_len]; exact lim_line hz, ?_⟩)
              have z : cutS (Str.ofString s) o1 o2 = Str.ofString (String.ofList (cutA s.toList o1 o2)) := by
                rw [ofString_list]
                unfold cutS cutA
                rw [ofString_len, ofString_cps, ← String.length_toList]
                simp [List.map_take, List.map_drop]
              rw [z]
              exact q1 _ _ s13 (.str _)
            · cases e3
          · cases e3; exact .inl (lists _ va3.rd rfl)
          · cases e3; exact .inl (lists _ va3 rfl)
          · exact va3.elim
          · cases e3
end

/-! ## tests, and, or, not -/
def cOf (f : EF) : TF := fun ρ => match f ρ with
  | .ok (.dat (.bl b)) => .ok b
  | .exc c => .exc c
  | _ => .no
def cAnd (c d : TF) : TF := fun ρ => match c ρ with
  | .ok true => d ρ
  | r => r
def cOr (c d : TF) : TF := fun ρ => match c ρ with
  | .ok false => d ρ
  | r => r
def cNot (c : TF) : TF := fun ρ => match c ρ with
  | .ok b => .ok (!b)
  | r => r
def eAnd (f g : EF) : EF := fun ρ => match f ρ with
  | .ok (.dat (.bl true)) => g ρ
  | .ok (.dat (.bl false)) => .ok (.dat (.bl false))
  | .exc c => .exc c
  | _ => .no
def eOr (f g : EF) : EF := fun ρ => match f ρ with
  | .ok (.dat (.bl false)) => g ρ
  | .ok (.dat (.bl true)) => .ok (.dat (.bl true))
  | .exc c => .exc c
  | _ => .no
def eNot (f : EF) : EF := fun ρ => match f ρ with
  | .ok (.dat (.bl b)) => .ok (.dat (.bl (!b)))
  | .exc c => .exc c
  | _ => .no
def eIf (c : TF) (f g : EF) : EF := fun ρ => match c ρ with
  | .ok true => f ρ
  | .ok false => g ρ
  | .exc c => .exc c
  | .no => .no
section
variable {K : PySem.W.Frag} {cl : String → Addr} {W : WX} {X : Cx} {pos : Pos} {f g : EF} {c d : TF} {a b e : Expr} {rest : List Expr}
/-- what comes behind a bool -/
theorem bool_out {x : EO} {σ : L2.St} {H : Hp} {Q : VK} (hb : ∀ b, x = .ok (.dat (.bl b)) → ∀ H', Same H H' → Q (.bl b) H') (he : ∀ c, x = .exc c → ∀ H', Same H H' → W (.ref (cl c)) none σ H')
    (hn : (∃ b, x = .ok (.dat (.bl b))) ∨ ∃ c, x = .exc c) : EPost K cl W σ H Q x := by
  rcases hn with ⟨b, rfl⟩ | ⟨c, rfl⟩
  · intro v H' s va
    cases rd_bl va.rd
    exact hb b rfl H' s
  · exact he c rfl
theorem cOf_post {σ : L2.St} {H : Hp} {Q : Bool → Hp → Prop} {ρ : Rho} (h : TPost cl W σ H Q (cOf f ρ)) : EPost K cl W σ H (fun x H' => ∃ k, x = .bl k ∧ Q k H') (f ρ) := by
  unfold cOf at h
  split at h
  · rename_i b e
    rw [e]
    intro v H' s va
    cases rd_bl va.rd
    exact ⟨b, rfl, h H' s⟩
  · rename_i c e
    rw [e]; exact h
  · exact h.elim
theorem it_cmp {op : CmpOp} {r : R2} {k : DV → DV → EO} (ho : OpR X (compareOp op) r) (hk : KSnd X.K r k) (hm : behindInMarks op b = false) (ha : PE X a (tI X.K cl W f)) (hb : PE X b (tI X.K cl W g)) : PT X (.Compare a [op] [b] pos) (tT X.K cl W (cOf (eTwo k f g))) :=
  (pt_cmpR ho ha hb hm).imp fun σ H Q ⟨ρ, S, h⟩ => two_ok hk ⟨ρ, S, cOf_post h⟩
end
end KT

set_option Elab.async false
set_option linter.all false
set_option maxRecDepth 100000
set_option maxHeartbeats 4000000
namespace KT
open PySem PySem.Spec PyProof.Rows L2
def eChain (k k' : DV → DV → EO) (f g h : EF) : EF := fun ρ => (f ρ).bind fun a => (g ρ).bind fun b => match k a b with
  | .ok (.dat (.bl true)) => (h ρ).bind fun c => k' b c
  | .ok (.dat (.bl false)) => .ok (.dat (.bl false))
  | _ => .no
section
variable {K : PySem.W.Frag} {cl : String → Addr} {W : WX} {X : Cx} {pos : Pos} {f g h : EF} {c d : TF} {a b e : Expr} {rest : List Expr}
theorem chain_ok {r r' : R2} {k k' : DV → DV → EO} (hk : KSnd K r k) (hk' : KSnd K r' k') {σ : L2.St} {H : Hp} {Q : VK} (q : tI K cl W (eChain k k' f g h) σ H Q) : tChain r r' (tI K cl W f) (tI K cl W g) (tI K cl W h) σ H Q := by
  obtain ⟨ρ, S, q⟩ := q
  refine ⟨ρ, S, q.bindI fun x v H1 ea s1 va q1 => ⟨ρ, S.mono s1, q1.bindI fun y w H2 eb s2 vb q2 => ?_⟩⟩
  have z := hk x y v w H2 (fun z H3 => ∃ k, z = .bl k ∧ (if k = true then tI K cl W h σ H3 fun w' H4 => r' w w' H4 Q else Q (.bl false) H3)) ((va.mono s2).rd) vb.rd
  cases e : k x y with
  | no => simp only [e] at q2; exact q2.elim
  | exc c => simp only [e] at q2; exact q2.elim
  | ok t =>
    rw [e] at z
    refine z fun v' H3 s3 vt => ?_
    simp only [e] at q2
    split at q2
    · rename_i e2
      cases e2
      cases rd_bl vt.rd
      refine ⟨true, rfl, ?_⟩
      rw [if_pos rfl]
      refine ⟨ρ, ((S.mono s1).mono s2).mono s3, ?_⟩
      have q3 : EPost K cl W σ H3 Q ((h ρ).bind fun c => k' y c) := by
        cases e4 : (h ρ).bind fun c => k' y c with
        | no => rw [e4] at q2; exact q2
        | exc c => rw [e4] at q2; exact fun H' s' => q2 H' (s3.trans s')
        | ok z => rw [e4] at q2; exact fun w H' s' q => q2 w H' (s3.trans s') (q.back s3)
      refine q3.bindI fun t2 w2 H4 ec s4 vc q4 => ?_
      have z2 := hk' y t2 w w2 H4 Q (((vb.mono s3).mono s4).rd) vc.rd
      cases e5 : k' y t2 with
      | no => rw [e5] at q4; exact q4.elim
      | exc c => rw [e5] at z2; exact (show False from z2).elim
      | ok t3 => rw [e5] at z2 q4; exact z2 q4
    · rename_i e2
      cases e2
      cases rd_bl vt.rd
      refine ⟨false, rfl, ?_⟩
      rw [if_neg Bool.false_ne_true]
      exact q2 _ _ s3 (.bl _)
    · exact q2.elim
theorem i_chain {op op' : CmpOp} {r r' : R2} {k k' : DV → DV → EO} {a b c : Expr} (ho : OpR X (compareOp op) r) (ho' : OpR X (compareOp op') r') (hk : KSnd X.K r k) (hk' : KSnd X.K r' k') (ha : PE X a (tI X.K cl W f)) (hb : PE X b (tI X.K cl W g)) (hc : PE X c (tI X.K cl W h))
    (hm : lastMarks [op, op'] [b, c] = false := by with_unfolding_all rfl) : PE X (.Compare a [op, op'] [b, c] pos) (tI X.K cl W (eChain k k' f g h)) := (pe_chain ho ho' ha hb hc hm).imp fun _ _ _ q => chain_ok hk hk' q
theorem it_chain {op op' : CmpOp} {r r' : R2} {k k' : DV → DV → EO} {a b c : Expr} (ho : OpR X (compareOp op) r) (ho' : OpR X (compareOp op') r') (hk : KSnd X.K r k) (hk' : KSnd X.K r' k') (ha : PE X a (tI X.K cl W f)) (hb : PE X b (tI X.K cl W g)) (hc : PE X c (tI X.K cl W h))
    (hm : lastMarks [op, op'] [b, c] = false := by with_unfolding_all rfl) : PT X (.Compare a [op, op'] [b, c] pos) (tT X.K cl W (cOf (eChain k k' f g h))) := (pt_chain ho ho' ha hb hc hm).imp fun _ _ _ ⟨ρ, S, q⟩ => chain_ok hk hk' ⟨ρ, S, cOf_post q⟩
theorem it_val (ha : PE X e (tI X.K cl W f)) (he : ∀ whole, isTrue e X.env whole = (do let v ← whole; standAt e.pos; holding [v] (truthy v)) := by intro _; rfl) : PT X e (tT X.K cl W (cOf f)) :=
  (pt_val ha he).imp fun σ H Q ⟨ρ, S, h⟩ => ⟨ρ, S, cOf_post h⟩
theorem and_ok {σ : L2.St} {H : Hp} {Q : Bool → Hp → Prop} (h : tT K cl W (cAnd c d) σ H Q) : tAnd (tT K cl W c) (tT K cl W d) σ H Q := by
  obtain ⟨ρ, S, h⟩ := h
  refine ⟨ρ, S, ?_⟩
  unfold cAnd at h
  cases e1 : c ρ with
  | no => simp only [e1] at h; exact h
  | exc c => simp only [e1] at h; exact h
  | ok b =>
    cases b with
    | true =>
      simp only [e1] at h
      intro H1 s1
      rw [if_pos rfl]
      refine ⟨ρ, S.mono s1, ?_⟩
      cases e2 : d ρ with
      | no => rw [e2] at h; exact h
      | exc c => rw [e2] at h; exact fun H' s' => h H' (s1.trans s')
      | ok b => rw [e2] at h; exact fun H' s' => h H' (s1.trans s')
    | false =>
      simp only [e1] at h
      intro H1 s1
      rw [if_neg Bool.false_ne_true]
      exact h H1 s1
theorem or_ok {σ : L2.St} {H : Hp} {Q : Bool → Hp → Prop} (h : tT K cl W (cOr c d) σ H Q) : tOr (tT K cl W c) (tT K cl W d) σ H Q := by
  obtain ⟨ρ, S, h⟩ := h
  refine ⟨ρ, S, ?_⟩
  unfold cOr at h
  cases e1 : c ρ with
  | no => simp only [e1] at h; exact h
  | exc c => simp only [e1] at h; exact h
  | ok b =>
    cases b with
    | false =>
      simp only [e1] at h
      intro H1 s1
      rw [if_neg Bool.false_ne_true]
      refine ⟨ρ, S.mono s1, ?_⟩
      cases e2 : d ρ with
      | no => rw [e2] at h; exact h
      | exc c => rw [e2] at h; exact fun H' s' => h H' (s1.trans s')
      | ok b => rw [e2] at h; exact fun H' s' => h H' (s1.trans s')
    | true =>
      simp only [e1] at h
      intro H1 s1
      rw [if_pos rfl]
      exact h H1 s1
theorem iw_and1 (ha : PT X a (tT X.K cl W c)) : PW X (.BoolOp .And [a] pos) (tT X.K cl W c) := pw_and1 ha
theorem iw_or1 (ha : PT X a (tT X.K cl W c)) : PW X (.BoolOp .Or [a] pos) (tT X.K cl W c) := pw_or1 ha
theorem iw_and (ha : PT X a (tT X.K cl W c)) (hb : PW X (.BoolOp .And (b :: rest) pos) (tT X.K cl W d)) : PW X (.BoolOp .And (a :: b :: rest) pos) (tT X.K cl W (cAnd c d)) := (pw_and ha hb).imp fun _ _ _ h => and_ok h
theorem iw_or (ha : PT X a (tT X.K cl W c)) (hb : PW X (.BoolOp .Or (b :: rest) pos) (tT X.K cl W d)) : PW X (.BoolOp .Or (a :: b :: rest) pos) (tT X.K cl W (cOr c d)) := (pw_or ha hb).imp fun _ _ _ h => or_ok h
theorem it_not (ha : PT X a (tT X.K cl W c)) : PT X (.UnaryOp .Not a pos) (tT X.K cl W (cNot c)) := (pt_not ha).imp fun σ H Q ⟨ρ, S, h⟩ => by
  refine ⟨ρ, S, ?_⟩
  unfold cNot at h
  cases e1 : c ρ with
  | no => simp only [e1] at h; exact h
  | exc c => simp only [e1] at h; exact h
  | ok b => simp only [e1] at h; exact h
theorem i_one {op} (ha : PE X a (tI X.K cl W f)) : PE X (.BoolOp op [a] pos) (tI X.K cl W f) := pe_one ha
theorem i_and (ha : PE X a (tI X.K cl W f)) (hb : PE X (.BoolOp .And (b :: rest) pos) (tI X.K cl W g)) : PE X (.BoolOp .And (a :: b :: rest) pos) (tI X.K cl W (eAnd f g)) :=
  (pe_and ha hb).imp fun σ H Q ⟨ρ, S, h⟩ => by
    refine ⟨ρ, S, ?_⟩
    unfold eAnd at h
    split at h
    · rename_i e1
      rw [e1]
      intro v H1 s1 va
      cases rd_bl va.rd
      refine ⟨true, rfl, ?_⟩
      rw [if_pos rfl]
      refine ⟨ρ, S.mono s1, ?_⟩
      cases e2 : g ρ with
      | no => rw [e2] at h; exact h
      | exc c => rw [e2] at h; exact fun H' s' => h H' (s1.trans s')
      | ok b => rw [e2] at h; exact fun w H' s' q => h w H' (s1.trans s') (q.back s1)
    · rename_i e1
      rw [e1]
      intro v H1 s1 va
      cases rd_bl va.rd
      refine ⟨false, rfl, ?_⟩
      rw [if_neg Bool.false_ne_true]
      exact h _ _ s1 (.bl _)
    · rename_i c e1
      rw [e1]; exact h
    · exact h.elim
theorem i_or (ha : PE X a (tI X.K cl W f)) (hb : PE X (.BoolOp .Or (b :: rest) pos) (tI X.K cl W g)) : PE X (.BoolOp .Or (a :: b :: rest) pos) (tI X.K cl W (eOr f g)) :=
  (pe_or ha hb).imp fun σ H Q ⟨ρ, S, h⟩ => by
    refine ⟨ρ, S, ?_⟩
    unfold eOr at h
    split at h
    · rename_i e1
      rw [e1]
      intro v H1 s1 va
      cases rd_bl va.rd
      refine ⟨false, rfl, ?_⟩
      rw [if_neg Bool.false_ne_true]
      refine ⟨ρ, S.mono s1, ?_⟩
      cases e2 : g ρ with
      | no => rw [e2] at h; exact h
      | exc c => rw [e2] at h; exact fun H' s' => h H' (s1.trans s')
      | ok b => rw [e2] at h; exact fun w H' s' q => h w H' (s1.trans s') (q.back s1)
    · rename_i e1
      rw [e1]
      intro v H1 s1 va
      cases rd_bl va.rd
      refine ⟨true, rfl, ?_⟩
      rw [if_pos rfl]
      exact h _ _ s1 (.bl _)
    · rename_i c e1
      rw [e1]; exact h
    · exact h.elim
theorem i_not (ha : PE X a (tI X.K cl W f)) : PE X (.UnaryOp .Not a pos) (tI X.K cl W (eNot f)) := (pe_not ha).imp fun σ H Q ⟨ρ, S, h⟩ => by
  refine ⟨ρ, S, ?_⟩
  unfold eNot at h
  split at h
  · rename_i b e1
    rw [e1]
    intro v H1 s1 va
    cases rd_bl va.rd
    exact ⟨b, rfl, h _ _ s1 (.bl _)⟩
  · rename_i c e1
    rw [e1]; exact h
  · exact h.elim
theorem i_if {t : Expr} (hc : PT X t (tT X.K cl W c)) (ha : PE X a (tI X.K cl W f)) (hb : PE X b (tI X.K cl W g)) : PE X (.IfExp t a b pos) (tI X.K cl W (eIf c f g)) := (pe_ifExp hc ha hb).imp fun σ H Q ⟨ρ, S, h⟩ => by
  refine ⟨ρ, S, ?_⟩
  unfold eIf at h
  have sh : ∀ {x : EO} {H1 : Hp}, Same H H1 → EPost X.K cl W σ H Q x → EPost X.K cl W σ H1 Q x := fun {x H1} s1 h => by
    cases x with
    | no => exact h
    | exc c => exact fun H' s' => h H' (s1.trans s')
    | ok b => exact fun w H' s' q => h w H' (s1.trans s') (q.back s1)
  cases e1 : c ρ with
  | no => simp only [e1] at h; exact h
  | exc c => simp only [e1] at h; exact h
  | ok b =>
    cases b with
    | true =>
      simp only [e1] at h
      intro H1 s1
      rw [if_pos rfl]
      exact ⟨ρ, S.mono s1, sh s1 h⟩
    | false =>
      simp only [e1] at h
      intro H1 s1
      rw [if_neg Bool.false_ne_true]
      exact ⟨ρ, S.mono s1, sh s1 h⟩
end

/-! ## built-in calls by values -/
def KSndA (K : PySem.W.Frag) (r : List V → Hp → VK → Prop) (k : List DV → EO) : Prop :=
  ∀ (as : List DV) (vs : List V) (H0 H : Hp) (Q : VK), ValsOk K H0 H vs as → KPost K H Q (r vs H Q) (k as)
def eCB (k : List DV → EO) (g : AF) : EF := fun ρ => match g ρ with
  | .ok rs => k rs
  | .exc c => .exc c
  | .no => .no
section
variable {K : PySem.W.Frag} {cl : String → Addr} {W : WX} {X : Cx} {p pos : Pos} {f g : EF} {c d : TF} {a b e : Expr} {es : List Expr} {ag : AF} {r : List V → Hp → VK → Prop} {k : List DV → EO} {x : Str} {id : String}
theorem cb_ok (hk : KSndA K r k) {σ : L2.St} {H : Hp} {Q : VK} (h : tI K cl W (eCB k ag) σ H Q) : tCB r (tA K cl W ag) σ H Q := by
  obtain ⟨ρ, S, h⟩ := h
  refine ⟨ρ, S, ?_⟩
  unfold eCB at h
  cases e1 : ag ρ with
  | no => rw [e1] at h; exact h
  | exc c => rw [e1] at h; exact h
  | ok rs =>
    simp only [e1] at h
    intro vs H1 s1 vas
    have z := hk rs vs H H1 Q vas
    cases e2 : k rs with
    | no => rw [e2] at h; exact h.elim
    | exc c => rw [e2] at z; exact (show False from z).elim
    | ok t => rw [e2] at z h; exact z fun w H' s' q => h w H' (s1.trans s') (q.back s1)
theorem i_callB (hc : CallR X (.builtin id) r) (hk : KSndA X.K r k) (hv : bootBuiltins x = some (.builtin id)) (hg : Gl X x) (hm : X.mg x = none) (ha : PA X (e :: es) (tA X.K cl W ag)) (hn : x ≠ "__name__" := by decide) (hdb : (x == ("__debug__" : Str)) = false := by decide)
    (he : starEach (e :: es) X.env = (false, eval e X.env) :: starEach es X.env := by rfl) (hpl : (backTo pos (starEach es X.env)).any (·.1) = false := by rfl) : PE X (.Call (.Name x p) (e :: es) [] pos) (tI X.K cl W (eCB k ag)) :=
  (pe_callB hc hg hm hv ha hn hdb he hpl).imp fun _ _ _ h => cb_ok hk h
theorem i_callTy (hc : CallR X (.type id) r) (hk : KSndA X.K r k) (hv : bootBuiltins x = some (.type id)) (hg : Gl X x) (hm : X.mg x = none) (ha : PA X (e :: es) (tA X.K cl W ag)) (hn : x ≠ "__name__" := by decide) (hdb : (x == ("__debug__" : Str)) = false := by decide)
    (he : starEach (e :: es) X.env = (false, eval e X.env) :: starEach es X.env := by rfl) (hpl : (backTo pos (starEach es X.env)).any (·.1) = false := by rfl) : PE X (.Call (.Name x p) (e :: es) [] pos) (tI X.K cl W (eCB k ag)) :=
  (pe_callTy hc hg hm hv ha hn hdb he hpl).imp fun _ _ _ h => cb_ok hk h
end
theorem vals1K {K : PySem.W.Frag} {H0 H : Hp} {vs : List V} {a : DV} (h : ValsOk K H0 H vs [a]) : ∃ v, vs = [v] ∧ ValOk K H0 H v a := by
  cases h with
  | cons x y => cases y; exact ⟨_, rfl, x⟩
/-- len -/
def kLen : List DV → EO
  | [.dat (.tup ds)] => .ok (.dat (.int ds.length))
  | [.dat (.str s)] => if s.length ≤ 16777216 then .ok (.dat (.int s.length)) else .no
  | [.own ds] => .ok (.dat (.int ds.length))
  | [.bor ds] => .ok (.dat (.int ds.length))
  | [.scr ds] => .ok (.dat (.int ds.length))
  | _ => .no
theorem snd_len {K : PySem.W.Frag} : KSndA K (fun xs H Q => ∃ x n, xs = [x] ∧ LenV K x H n ∧ Q (.int n) H) kLen := by
  intro as vs H0 H Q h
  have lists : ∀ {v : V} {ds : List D}, LsOk H v ds → LenV K v H ds.length := fun {v ds} hl => by
    obtain ⟨p, xs, rfl, q, r⟩ := hl
    exact .inl ⟨xs, SqL.of q, r.length.symm⟩
  unfold kLen
  split
  · obtain ⟨v, rfl, va⟩ := vals1K h
    obtain ⟨p, xs, rfl, q, r⟩ := rd_tup va.rd
    exact fun k => ⟨_, _, rfl, .inr ⟨xs, SqT.of q, r.length.symm⟩, k _ H (Same.refl H) (.int _)⟩
  · split
    · rename_i s hz
      obtain ⟨v, rfl, va⟩ := vals1K h
      cases rd_str va.rd
      exact fun k => ⟨_, _, rfl, ⟨by rw [ofString_len]; exact lim_line hz, rfl⟩, by rw [ofString_len]; exact k _ H (Same.refl H) (.int _)⟩
    · trivial
  · obtain ⟨v, rfl, va⟩ := vals1K h
    exact fun k => ⟨_, _, rfl, lists va.rd, k _ H (Same.refl H) (.int _)⟩
  · obtain ⟨v, rfl, va⟩ := vals1K h
    exact fun k => ⟨_, _, rfl, lists va.rd, k _ H (Same.refl H) (.int _)⟩
  · obtain ⟨v, rfl, va⟩ := vals1K h
    obtain ⟨p, xs, rfl, q, r⟩ := va.rd
    exact fun k => ⟨_, _, rfl, .inl ⟨xs, q.sq, r.length.symm⟩, k _ H (Same.refl H) (.int _)⟩
  · trivial
/-- int(x) -/
def kInt : List DV → EO
  | [.dat (.int i)] => .ok (.dat (.int i))
  | [.dat (.bl b)] => .ok (.dat (.int (if b then 1 else 0)))
  | _ => .no
theorem snd_int {K : PySem.W.Frag} : KSndA K (fun xs H Q => (∃ i, xs = [.int i] ∧ Q (.int i) H) ∨ ∃ k, xs = [.bl k] ∧ Q (.int (if k then 1 else 0)) H) kInt := by
  intro as vs H0 H Q h
  unfold kInt
  split
  · obtain ⟨v, rfl, va⟩ := vals1K h
    cases rd_int va.rd
    exact fun k => .inl ⟨_, rfl, k _ H (Same.refl H) (.int _)⟩
  · obtain ⟨v, rfl, va⟩ := vals1K h
    cases rd_bl va.rd
    exact fun k => .inr ⟨_, rfl, k _ H (Same.refl H) (.int _)⟩
  · trivial
/-- tuple(x), list(x) -/
def kTupOf : List DV → EO
  | [.dat (.tup ds)] => .ok (.dat (.tup ds))
  | [.own ds] => .ok (.dat (.tup ds))
  | [.bor ds] => .ok (.dat (.tup ds))
  | _ => .no
theorem snd_tupOf {K : PySem.W.Frag} : KSndA K (fun xs H Q => ∃ p ys, xs = [.ref p] ∧ ((SqL K H p ys ∧ ∀ l, H l = none → Q (.ref l) (upd H l (.tup ys))) ∨ (SqT K H p ys ∧ Q (.ref p) H))) kTupOf := by
  intro as vs H0 H Q h
  have lists : ∀ {v : V} {ds : List D}, LsOk H v ds → (∀ v' H', Same H H' → ValOk K H H' v' (.dat (.tup ds)) → Q v' H') → ∃ p ys, [v] = [.ref p] ∧ ((SqL K H p ys ∧ ∀ l, H l = none → Q (.ref l) (upd H l (.tup ys))) ∨ (SqT K H p ys ∧ Q (.ref p) H)) := fun {v ds} hl k => by
    obtain ⟨p, xs, rfl, q, r⟩ := hl
    exact ⟨p, xs, rfl, .inl ⟨SqL.of q, fun l hl => k _ _ (same_upd hl) (.tup upd_same (Reps.mono (same_upd hl).tp _ _ r))⟩⟩
  unfold kTupOf
  split
  · obtain ⟨v, rfl, va⟩ := vals1K h
    obtain ⟨p, xs, rfl, q, r⟩ := rd_tup va.rd
    exact fun k => ⟨_, xs, rfl, .inr ⟨SqT.of q, k _ H (Same.refl H) (.tup q r)⟩⟩
  · obtain ⟨v, rfl, va⟩ := vals1K h
    exact lists va.rd
  · obtain ⟨v, rfl, va⟩ := vals1K h
    exact lists va.rd
  · trivial
def kLstOf : List DV → EO
  | [.dat (.tup ds)] => .ok (.own ds)
  | [.own ds] => .ok (.own ds)
  | [.bor ds] => .ok (.own ds)
  | _ => .no
theorem snd_lstOf {K : PySem.W.Frag} : KSndA K (fun xs H Q => ∃ p ys, xs = [.ref p] ∧ (SqL K H p ys ∨ SqT K H p ys) ∧ ∀ l, H l = none → Q (.ref l) (upd H l (.lst ys))) kLstOf := by
  intro as vs H0 H Q h
  have done : ∀ {p : Addr} {xs : List V} {ds : List D}, (SqL K H p xs ∨ SqT K H p xs) → Reps H xs ds → (∀ v' H', Same H H' → ValOk K H H' v' (.own ds) → Q v' H') → ∃ p' ys, [V.ref p] = [.ref p'] ∧ (SqL K H p' ys ∨ SqT K H p' ys) ∧ ∀ l, H l = none → Q (.ref l) (upd H l (.lst ys)) := fun {p xs ds} q r k =>
    ⟨p, xs, rfl, q, fun l hl => k _ _ (same_upd hl) ⟨⟨l, rfl, hl⟩, l, xs, rfl, upd_same, Reps.mono (same_upd hl).tp _ _ r⟩⟩
  unfold kLstOf
  split
  · obtain ⟨v, rfl, va⟩ := vals1K h
    obtain ⟨p, xs, rfl, q, r⟩ := rd_tup va.rd
    exact fun k => done (.inr (SqT.of q)) r k
  · obtain ⟨v, rfl, va⟩ := vals1K h
    obtain ⟨p, xs, rfl, q, r⟩ := va.rd
    exact fun k => done (.inl (SqL.of q)) r k
  · obtain ⟨v, rfl, va⟩ := vals1K h
    obtain ⟨p, xs, rfl, q, r⟩ := va.rd
    exact fun k => done (.inl (SqL.of q)) r k
  · trivial
/-! ### isinstance of a built-in type -/
def tyOf : DV → Option String
  | .dat .non => some "NoneType"
  | .dat (.bl _) => some "bool"
  | .dat (.int _) => some "int"
  | .dat (.str _) => some "str"
  | .dat (.tup _) => some "tuple"
  | .own _ => some "list"
  | .bor _ => some "list"
  | _ => none
def isiT (t n : String) : Bool := t == n || (t == "bool" && n == "int")
def kIsi (n : String) (a : DV) : EO := match tyOf a with
  | some t => .ok (.dat (.bl (isiT t n)))
  | none => .no
theorem tyOf_ok {K : PySem.W.Frag} {H0 H : Hp} {v : V} {a : DV} {t : String} (h : tyOf a = some t) (r : ValOk K H0 H v a) : TyX K H v (.type t) := by
  unfold tyOf at h
  split at h
  · cases h; cases (show Rep H v .non from r); exact .base .non
  · cases h; cases rd_bl r.rd; exact .base (.bl _)
  · cases h; cases rd_int r.rd; exact .base (.int _)
  · cases h; cases rd_str r.rd; exact .base (.str _)
  · cases h; obtain ⟨p, xs, rfl, q, _⟩ := rd_tup r.rd; exact .base (.tup q)
  · cases h; obtain ⟨p, xs, rfl, q, _⟩ := r.rd; exact .base (.lst q)
  · cases h; obtain ⟨p, xs, rfl, q, _⟩ := r.rd; exact .base (.lst q)
  · cases h
def isiNames : List String := ["int", "bool", "str", "tuple", "list"]
theorem kit_tab : ∀ t ∈ ["NoneType", "bool", "int", "str", "tuple", "list"], ∀ n ∈ isiNames, kitB t n = some (isiT t n) := by decide +kernel
theorem tyOf_mem {a : DV} {t : String} (h : tyOf a = some t) : t ∈ ["NoneType", "bool", "int", "str", "tuple", "list"] := by
  unfold tyOf at h
  split at h <;> first | (cases h; decide) | cases h
section
variable {K : PySem.W.Frag} {cl : String → Addr} {W : WX} {X : Cx} {p pos : Pos} {f : EF} {a c : Expr} {n : String}
theorem i_isi (hn : n ∈ isiNames) (hg : Gl X "isinstance") (hm : X.mg "isinstance" = none) (ha : PE X a (tI X.K cl W f)) (hc : PE X c (tC (.ty n)))
    (hs : starEach [a, c] X.env = (false, eval a X.env) :: starEach [c] X.env := by rfl) (hs2 : starEach [c] X.env = (false, eval c X.env) :: starEach [] X.env := by rfl) (hpl : (backTo pos (starEach [c] X.env)).any (·.1) = false := by rfl) :
    PE X (.Call (.Name "isinstance" p) [a, c] [] pos) (tI X.K cl W (eOne (kIsi n) f)) :=
  (pe_callB call_isi hg hm PyProof.Rows.boot_isinstance (pa_cons ha (pa_cons hc pa_nil hs2) hs) (by decide) (by decide) hs hpl).imp fun σ H Q ⟨ρ, S, h⟩ => by
    refine ⟨ρ, S, h.bindI fun r v H1 er s1 va h1 => ?_⟩
    unfold kIsi at h1
    cases e : tyOf r with
    | none => simp only [e] at h1; exact h1.elim
    | some t =>
      simp only [e] at h1
      exact ⟨v, .ty n, .type t, .type n, isiT t n, rfl, .ty n, tyOf_ok e va, kit_ty (kit_tab t (tyOf_mem e) n hn), h1 _ H1 (Same.refl H1) (.bl _)⟩
end
end KT

set_option Elab.async false
set_option linter.all false
set_option maxRecDepth 100000
set_option maxHeartbeats 4000000
namespace KT
open PySem PySem.Spec PyProof.Rows L2

/-! ## a def's meaning, its promise, its call -/
inductive FO where
  | ret (r : DV)
  | exc (c : String)
  | no
abbrev FF := List DV → FO
def ArgOk (K : PySem.W.Frag) (H : Hp) (v : V) : DV → Prop
  | .dat d => Rep H v d
  | .bor ds => LsOk H v ds
  | .scr ds => ∃ a xs, v = .ref a ∧ ScrOk K H a xs ∧ Reps H xs ds
  | .bd kvs => ∃ a, v = .ref a ∧ DAt H a kvs
  | .btwo s r1 r2 => ∃ a b, TwoAt H v s r1 r2 a b
  | _ => False
inductive ArgsOk (K : PySem.W.Frag) (H : Hp) : List V → List DV → Prop
  | nil : ArgsOk K H [] []
  | cons {v : V} {vs : List V} {r : DV} {rs : List DV} : ArgOk K H v r → ArgsOk K H vs rs → ArgsOk K H (v :: vs) (r :: rs)
theorem ArgsOk.length {K : PySem.W.Frag} {H : Hp} : ∀ {vs : List V} {rs : List DV}, ArgsOk K H vs rs → vs.length = rs.length
  | _, _, .nil => rfl
  | _, _, .cons _ b => by rw [List.length_cons, List.length_cons, ArgsOk.length b]
def toArg : DV → DV
  | .own ds => .bor ds
  | .dict kvs => .bd kvs
  | .two s r1 r2 => .btwo s r1 r2
  | r => r
/-- what comes back from a def -/
def RetOk (K : PySem.W.Frag) (H0 H : Hp) (v : V) : DV → Prop
  | .dat d => Rep H v d
  | .own ds => (∃ a, v = .ref a ∧ H0 a = none) ∧ LsOk H v ds
  | .dict kvs => (∃ a, v = .ref a ∧ H0 a = none) ∧ ∃ a, v = .ref a ∧ H a = some (.dT (dkv kvs))
  | .two s r1 r2 => ∃ a b, TwoAt H v s r1 r2 a b ∧ H0 a = none ∧ H0 b = none
  | _ => False
theorem RetOk.val {K : PySem.W.Frag} {H0 H : Hp} {v : V} : ∀ {r : DV}, RetOk K H0 H v r → ValOk K H0 H v r
  | .dat d, h => h
  | .own ds, h => h
  | .bor _, h => h.elim
  | .scr _, h => h.elim
  | .io _, h => h.elim
  | .lent _, h => h.elim
  | .exc _, h => h.elim
  | .obj _, h => h.elim
  | .dict _, h => h
  | .two _ _ _, h => h
  | .btwo _ _ _, h => h.elim
  | .bd _, h => h.elim
  | .bdict _ _, h => h.elim
def FPost (K : PySem.W.Frag) (cl : String → Addr) (H : Hp) (Q : VK) (E : XK) : FO → Prop
  | .ret r => ∀ v H', Same H H' → RetOk K H H' v r → Q v H'
  | .exc c => ∀ H', Same H H' → E (.ref (cl c)) none H'
  | .no => False
def spF (K : PySem.W.Frag) (cl : String → Addr) (m : Nat) (F : FF) : Sp := fun vs H Q E => vs.length = m ∧ ∃ args, ArgsOk K H vs args ∧ FPost K cl H Q E (F args)
/-- the def x stands there and answers F, to the depth n -/
structure FnK (P : Program) (w : World) (K : PySem.W.Frag) (mg : Str → Option Value) (base : Heap) (cl : String → Addr) (x : Str) (ps : List Str) (n : Nat) (F : FF) : Prop where
  ex : ∃ f fd, FnOk P w K mg base (L2.CX P w) n f fd ps (spF K cl ps.length F) ∧ mg x = some (.ref f) ∧ PySem.W.keepIn K (.ref f) = true ∧ Binds K fd ps [] ∧ (∀ (s : Shared) (us : List Value), us.length = ps.length → BindsTo s fd ⟨us, []⟩ (ps.zip us)) ∧ ∃ oc od osl, K.lookup f = some ⟨oc, od, .func fd, osl⟩
  ar : ∀ args, args.length ≠ ps.length → F args = .no
def eCall (F : FF) (g : AF) : EF := fun ρ => match g ρ with
  | .ok rs => (match F (rs.map toArg) with
    | .ret r => .ok r
    | .exc c => .exc c
    | .no => .no)
  | .exc c => .exc c
  | .no => .no
theorem ValsOk.args {K : PySem.W.Frag} {H0 H : Hp} : ∀ {vs : List V} {rs : List DV}, ValsOk K H0 H vs rs → ArgsOk K H vs (rs.map toArg)
  | _, _, .nil => .nil
  | _, r :: _, .cons a b => by
    refine .cons ?_ (ValsOk.args b)
    cases r with
    | dat d => exact a
    | own ds => exact a.2
    | bor ds => exact a
    | scr ds => exact a
    | io _ => exact a.elim
    | lent _ => exact a.elim
    | exc _ => exact a.elim
    | obj _ => exact a.elim
    | dict _ => obtain ⟨_, x, e, q⟩ := a; exact ⟨x, e, .inl q⟩
    | bd _ => exact a
    | two _ _ _ => obtain ⟨x, y, h, _⟩ := a; exact ⟨x, y, h⟩
    | btwo _ _ _ => exact a
    | bdict _ _ => exact a.elim
section
variable {cl : String → Addr} {W : WX} {X : Cx} {p pos : Pos} {e : Expr} {es : List Expr} {ag : AF} {x : Str} {n : Nat} {F : FF} {ps : List Str}
theorem i_call (G : FnK X.prog X.w X.K X.mg X.base cl x ps n F) (hr : Room n X.A) (hg : Gl X x) (tk : Takes X W) (ha : PA X (e :: es) (tA X.K cl W ag)) (hdb : (x == ("__debug__" : Str)) = false := by decide)
    (he : starEach (e :: es) X.env = (false, eval e X.env) :: starEach es X.env := by rfl) (hpl : (backTo pos (starEach es X.env)).any (·.1) = false := by rfl) :
    PE X (.Call (.Name x p) (e :: es) [] pos) (tI X.K cl W (eCall F ag)) := by
  obtain ⟨f, fd, G, hm, hk, hb, _⟩ := G.ex
  have ar := ‹FnK X.prog X.w X.K X.mg X.base cl x ps n F›.ar
  refine (pe_callS G hr hg hm hk hb (fun σ => passAt tk σ) ha hdb he hpl).imp fun σ H Q ⟨ρ, S, h⟩ => ?_
  refine ⟨ρ, S, ?_⟩
  unfold eCall at h
  cases e1 : ag ρ with
  | no => rw [e1] at h; exact h
  | exc c => rw [e1] at h; exact h
  | ok rs =>
    simp only [e1] at h
    intro vs H1 s1 vas
    have hl : vs.length = ps.length := by
      rw [vas.length, ← List.length_map (f := toArg)]
      by_cases z : (rs.map toArg).length = ps.length
      · exact z
      · rw [ar _ z] at h; exact h.elim
    refine ⟨hl, rs.map toArg, vas.args, ?_⟩
    cases e2 : F (rs.map toArg) with
    | no => simp only [e2] at h; exact h.elim
    | exc c => simp only [e2] at h; exact fun H' s' => h H' (s1.trans s')
    | ret r => simp only [e2] at h; exact fun v H' s' q => h v H' (s1.trans s') (q.val.back s1)
end

/-! ## frames -/
/-- F0: the heap at the def's entry; ioA: the one list of the caller's that may be written; Pt: lists that a loop walks; lnt: the slots that hold them; T0: the heap whose tuples stand -/
structure Fr where
  F0 : Hp
  ioA : Option Addr
  Pt : Addr → Option (List V)
  lnt : Nat → Option Addr
  T0 : Hp
def SlOk (K : PySem.W.Frag) (fr : Fr) (H : Hp) (i : Nat) (o : Addr → Prop) (v : V) : DV → Prop
  | .dat d => Rep H v d ∧ ∀ a, ¬ o a
  | .own ds => ∃ a xs, v = .ref a ∧ H a = some (.lst xs) ∧ Reps H xs ds ∧ fr.F0 a = none ∧ ∀ b, o b ↔ b = a
  | .io ds => ∃ a xs, v = .ref a ∧ H a = some (.lst xs) ∧ Reps H xs ds ∧ fr.ioA = some a ∧ ∀ b, o b ↔ b = a
  | .bor ds => (∃ a xs, v = .ref a ∧ fr.F0 a = some (.lst xs) ∧ fr.ioA ≠ some a ∧ Reps H xs ds) ∧ ∀ a, ¬ o a
  | .lent ds => (∃ a xs, v = .ref a ∧ fr.lnt i = some a ∧ fr.Pt a = some xs ∧ Reps H xs ds) ∧ ∀ a, ¬ o a
  | .scr ds => (∃ a xs, v = .ref a ∧ ScrOk K fr.F0 a xs ∧ Reps H xs ds) ∧ ∀ a, ¬ o a
  | .exc p => v = .ref p.2 ∧ ∀ a, ¬ o a
  | .bdict w ks => (∃ a, v = .ref a ∧ fr.F0 a = none ∧ MetOk w H a ks) ∧ ∀ a, ¬ o a
  | .dict kvs => (∃ a, v = .ref a ∧ fr.F0 a = none ∧ H a = some (.dT (dkv kvs))) ∧ ∀ a, ¬ o a
  | .bd kvs => (∃ a, v = .ref a ∧ fr.ioA ≠ some a ∧ DAt fr.F0 a kvs) ∧ ∀ a, ¬ o a
  | .two s r1 r2 => ∃ a b, TwoAt H v s r1 r2 a b ∧ fr.F0 a = none ∧ fr.F0 b = none ∧ ∀ c, o c ↔ c = a ∨ c = b
  | .btwo s r1 r2 => (∃ a b, TwoAt fr.F0 v s r1 r2 a b ∧ fr.ioA ≠ some a ∧ fr.ioA ≠ some b) ∧ ∀ c, ¬ o c
  | .obj ds => ∃ p a dx xs, v = .ref p ∧ fr.F0 p = some (.ins (He.ga K "Path") dx [("row", .ref a)]) ∧ H a = some (.lst xs) ∧ Reps H xs ds ∧ fr.ioA = some a ∧ ∀ b, o b ↔ b = a
structure Good (K : PySem.W.Frag) (fr : Fr) (ρ : Rho) (σ : L2.St) (H : Hp) (Ow : Nat → Addr → Prop) : Prop where
  len : ρ.length = σ.length
  sl : ∀ (i : Nat) (s : DV), ρ[i]? = some (some s) → ∃ v, σ[i]? = some (some v) ∧ SlOk K fr H i (Ow i) v s
  off : ∀ i, (∀ s, ρ[i]? ≠ some (some s)) → ∀ a, ¬ Ow i a
  one : ∀ i j a, Ow i a → Ow j a → i = j
  mine : ∀ i a, Ow i a → fr.F0 a = none ∨ fr.ioA = some a
  keep : ∀ a o, fr.F0 a = some o → fr.ioA ≠ some a → H a = some o
  iow : ∀ a, fr.ioA = some a → (∃ xs, fr.F0 a = some (.lst xs)) ∧ ∃ xs, H a = some (.lst xs)
  prot : ∀ a xs, fr.Pt a = some xs → H a = some (.lst xs) ∧ ∀ i, ¬ Ow i a
  wf : ∀ j a, fr.lnt j = some a → ∃ xs, fr.Pt a = some xs
  tp : Tp fr.T0 H
def Gd (K : PySem.W.Frag) (fr : Fr) (ρ : Rho) (σ : L2.St) (H : Hp) : Prop := ∃ Ow, Good K fr ρ σ H Ow
section
variable {K : PySem.W.Frag} {fr : Fr} {ρ : Rho} {σ : L2.St} {H H' : Hp} {Ow : Nat → Addr → Prop}
theorem Good.dom (g : Good K fr ρ σ H Ow) {a : Addr} {o : HO} (e : fr.F0 a = some o) : ∃ o', H a = some o' := by
  by_cases h : fr.ioA = some a
  · obtain ⟨_, xs, q⟩ := g.iow a h; exact ⟨_, q⟩
  · exact ⟨_, g.keep a o e h⟩
theorem Good.frz (g : Good K fr ρ σ H Ow) {a : Addr} {o : Obj} {xs : List V} (e : fr.F0 a = some (.frz o (.lst xs))) : H a = some (.frz o (.lst xs)) := g.keep a _ e fun z => by
  obtain ⟨⟨ys, q⟩, _⟩ := g.iow a z
  rw [e] at q; cases q
theorem Good.slR (g : Good K fr ρ σ H Ow) : SlR K ρ σ H := fun i s e => by
  obtain ⟨v, e1, q⟩ := g.sl i s e
  refine ⟨v, e1, ?_⟩
  cases s with
  | dat d => exact q.1
  | own ds => obtain ⟨a, xs, rfl, q2, r, _⟩ := q; exact ⟨a, xs, rfl, q2, r⟩
  | io ds => obtain ⟨a, xs, rfl, q2, r, _⟩ := q; exact ⟨a, xs, rfl, q2, r⟩
  | bor ds => obtain ⟨⟨a, xs, rfl, q2, nw, r⟩, _⟩ := q; exact ⟨a, xs, rfl, g.keep _ _ q2 nw, r⟩
  | lent ds => obtain ⟨⟨a, xs, rfl, _, q2, r⟩, _⟩ := q; exact ⟨a, xs, rfl, (g.prot _ _ q2).1, r⟩
  | scr ds =>
    obtain ⟨⟨a, xs, rfl, q2, r⟩, _⟩ := q
    exact ⟨a, xs, rfl, q2.mono (fun o h => g.frz h), r⟩
  | exc c => exact q.1
  | obj _ => trivial
  | dict kvs =>
    obtain ⟨⟨a, e, _, m⟩, _⟩ := q
    exact ⟨a, e, .inl m⟩
  | bd kvs =>
    obtain ⟨⟨a, e, n, m⟩, _⟩ := q
    exact ⟨a, e, m.mono fun o ho => g.keep a o ho n⟩
  | two _ _ _ => obtain ⟨a, b, h, _⟩ := q; exact ⟨a, b, h⟩
  | btwo _ _ _ =>
    obtain ⟨⟨a, b, h, na, nb⟩, _⟩ := q
    refine ⟨a, b, h.mono (fun c zs ec => g.keep c _ ec fun z => ?_) (fun _ q => g.keep _ _ q na) (fun _ q => g.keep _ _ q nb)⟩
    obtain ⟨⟨ys, q⟩, _⟩ := g.iow c z
    rw [ec] at q; cases q
  | bdict w ks =>
    obtain ⟨⟨a, e, _, m⟩, _⟩ := q
    exact ⟨a, e, m⟩
/-- tuples stay, what the slot itself owns or walks stays -/
theorem SlOk.stay {i : Nat} {o : Addr → Prop} {v : V} (t : Tp H H') (k : ∀ a xs, o a → H a = some (.lst xs) → H' a = some (.lst xs)) : ∀ {r : DV}, (isDic r = true → ∀ a o, (∀ xs, o ≠ .lst xs) → H a = some o → H' a = some o) → SlOk K fr H i o v r → SlOk K fr H' i o v r
  | .dat d, _, h => ⟨Rep.mono t _ _ h.1, h.2⟩
  | .own ds, _, ⟨a, xs, e, q, r, z, ho⟩ => ⟨a, xs, e, k _ _ ((ho a).mpr rfl) q, Reps.mono t _ _ r, z, ho⟩
  | .io ds, _, ⟨a, xs, e, q, r, z, ho⟩ => ⟨a, xs, e, k _ _ ((ho a).mpr rfl) q, Reps.mono t _ _ r, z, ho⟩
  | .bor ds, _, ⟨⟨a, xs, e, q, n, r⟩, z⟩ => ⟨⟨a, xs, e, q, n, Reps.mono t _ _ r⟩, z⟩
  | .lent ds, _, ⟨⟨a, xs, e, l, q, r⟩, z⟩ => ⟨⟨a, xs, e, l, q, Reps.mono t _ _ r⟩, z⟩
  | .scr ds, _, ⟨⟨a, xs, e, q, r⟩, z⟩ => ⟨⟨a, xs, e, q, Reps.mono t _ _ r⟩, z⟩
  | .exc c, _, h => h
  | .obj ds, _, ⟨p, a, dx, xs, e, f, q, r, z, ho⟩ => ⟨p, a, dx, xs, e, f, k _ _ ((ho a).mpr rfl) q, Reps.mono t _ _ r, z, ho⟩
  | .dict kvs, kd, ⟨⟨a, e, f, m⟩, z⟩ => ⟨⟨a, e, f, kd rfl a _ (fun _ w => by cases w) m⟩, z⟩
  | .bd kvs, _, h => h
  | .two _ _ _, _, ⟨a, b, h, fa, fb, ho⟩ => ⟨a, b, h.mono t (fun _ q => k _ _ ((ho a).mpr (.inl rfl)) q) (fun _ q => k _ _ ((ho b).mpr (.inr rfl)) q), fa, fb, ho⟩
  | .btwo _ _ _, _, h => h
  | .bdict w ks, kd, ⟨⟨a, e, f, m⟩, z⟩ => ⟨⟨a, e, f, m.mono t (fun o ho => kd rfl a o ho)⟩, z⟩
theorem Good.same (g : Good K fr ρ σ H Ow) (s : Same H H') : Good K fr ρ σ H' Ow where
  len := g.len
  sl := fun i r e => by
    obtain ⟨v, e1, q⟩ := g.sl i r e
    exact ⟨v, e1, q.stay s.tp (fun _ _ _ h => s _ _ h) (fun _ _ _ _ h => s _ _ h)⟩
  off := g.off
  one := g.one
  mine := g.mine
  keep := fun a o e n => s _ _ (g.keep a o e n)
  iow := fun a e => let ⟨h, xs, q⟩ := g.iow a e; ⟨h, xs, s _ _ q⟩
  prot := fun a xs e => let ⟨h, q⟩ := g.prot a xs e; ⟨s _ _ h, q⟩
  wf := g.wf
  tp := g.tp.trans s.tp
/-- what a slot owns stands in the heap -/
theorem Good.there (g : Good K fr ρ σ H Ow) {i : Nat} {a : Addr} (o : Ow i a) : ∃ xs, H a = some (.lst xs) := by
  by_cases h : ∃ s, ρ[i]? = some (some s)
  · obtain ⟨s, e⟩ := h
    obtain ⟨v, _, q⟩ := g.sl i s e
    cases s with
    | dat d => exact absurd o (q.2 a)
    | own ds => obtain ⟨b, xs, _, q2, _, _, ho⟩ := q; rw [(ho a).mp o]; exact ⟨xs, q2⟩
    | io ds => obtain ⟨b, xs, _, q2, _, _, ho⟩ := q; rw [(ho a).mp o]; exact ⟨xs, q2⟩
    | bor ds => exact absurd o (q.2 a)
    | lent ds => exact absurd o (q.2 a)
    | scr ds => exact absurd o (q.2 a)
    | exc c => exact absurd o (q.2 a)
    | obj ds => obtain ⟨p, b, dx, xs, _, _, q2, _, _, ho⟩ := q; rw [(ho a).mp o]; exact ⟨xs, q2⟩
    | dict _ => exact absurd o (q.2 a)
    | bd _ => exact absurd o (q.2 a)
    | two _ _ _ =>
      obtain ⟨b, c, ⟨p, xs, ys, _, _, h2, _, h4, _⟩, _, _, ho⟩ := q
      rcases (ho a).mp o with rfl | rfl
      · exact ⟨xs, h2⟩
      · exact ⟨ys, h4⟩
    | btwo _ _ _ => exact absurd o (q.2 a)
    | bdict _ _ => exact absurd o (q.2 a)
  · exact absurd o (g.off i (fun s e => h ⟨s, e⟩) a)
theorem get_set {α : Type} {l : List α} {i j : Nat} {x : α} {s : α} (h : (l.set i x)[j]? = some s) : (j = i ∧ s = x ∧ i < l.length) ∨ (j ≠ i ∧ l[j]? = some s) := by
  by_cases e : j = i
  · subst e
    have hl : j < l.length := by
      have := (List.getElem?_eq_some_iff.mp h).1
      simpa using this
    rw [List.getElem?_set_self hl] at h
    exact .inl ⟨rfl, (Option.some.inj h).symm, hl⟩
  · rw [List.getElem?_set_ne (Ne.symm e)] at h
    exact .inr ⟨e, h⟩
/-- a slot takes what owns P -/
theorem Good.put (g : Good K fr ρ σ H Ow) {i : Nat} {s : Option DV} {x : Option V} {P : Addr → Prop} (hs : ∀ s', s = some s' → ∃ v, x = some v ∧ SlOk K fr H i P v s') (hn : s = none → ∀ a, ¬ P a)
    (new : ∀ j a, P a → j ≠ i → ¬ Ow j a) (mi : ∀ a, P a → fr.F0 a = none ∨ fr.ioA = some a) (np : ∀ a xs, fr.Pt a = some xs → ¬ P a) : ∃ Ow', Good K fr (ρ.set i s) (σ.set i x) H Ow' := by
  refine ⟨fun j a => if j = i then (i < ρ.length ∧ P a) else Ow j a, ⟨by simpa using g.len, fun j s' e => ?_, fun j n a o => ?_, fun j k a h1 h2 => ?_, fun j a h => ?_, g.keep, g.iow, fun a xs e => ?_, g.wf, g.tp⟩⟩
  · rcases get_set e with ⟨rfl, q, hl⟩ | ⟨ne, e'⟩
    · obtain ⟨v, rfl, z⟩ := hs s' q.symm
      refine ⟨v, by rw [List.getElem?_set_self (by rw [← g.len]; exact hl)], ?_⟩
      have eo : (fun a => if j = j then (j < ρ.length ∧ P a) else Ow j a) = P := by funext a; simp [hl]
      show SlOk K fr H j (fun a => if j = j then (j < ρ.length ∧ P a) else Ow j a) v s'
      rw [eo]; exact z
    · obtain ⟨w, e1, q⟩ := g.sl j s' e'
      refine ⟨w, by rw [List.getElem?_set_ne (Ne.symm ne)]; exact e1, ?_⟩
      have eo : (fun a => if j = i then (i < ρ.length ∧ P a) else Ow j a) = Ow j := by funext a; simp [ne]
      show SlOk K fr H j (fun a => if j = i then (i < ρ.length ∧ P a) else Ow j a) w s'
      rw [eo]; exact q
  · by_cases hj : j = i
    · simp only [if_pos hj] at o
      cases s with
      | none => exact hn rfl a o.2
      | some s' => exact n s' (by rw [hj, List.getElem?_set_self o.1])
    · simp only [if_neg hj] at o
      refine g.off j (fun s e => ?_) a o
      exact n s (by rw [List.getElem?_set_ne (Ne.symm hj)]; exact e)
  · by_cases hj : j = i
    · by_cases hk : k = i
      · rw [hj, hk]
      · simp only [if_pos hj] at h1
        simp only [if_neg hk] at h2
        exact absurd h2 (new k a h1.2 hk)
    · by_cases hk : k = i
      · simp only [if_neg hj] at h1
        simp only [if_pos hk] at h2
        exact absurd h1 (new j a h2.2 hj)
      · simp only [if_neg hj] at h1
        simp only [if_neg hk] at h2
        exact g.one j k a h1 h2
  · by_cases hj : j = i
    · simp only [if_pos hj] at h
      exact mi a h.2
    · simp only [if_neg hj] at h
      exact g.mine j a h
  · obtain ⟨h1, h2⟩ := g.prot a xs e
    refine ⟨h1, fun j o => ?_⟩
    by_cases hj : j = i
    · simp only [if_pos hj] at o
      exact np a xs e o.2
    · simp only [if_neg hj] at o
      exact h2 j o
theorem Good.setDat (g : Good K fr ρ σ H Ow) {i : Nat} {d : D} {v : V} (r : Rep H v d) : ∃ Ow', Good K fr (ρ.set i (some (.dat d))) (σ.set i (some v)) H Ow' :=
  g.put (P := fun _ => False) (fun s' e => by cases e; exact ⟨v, rfl, r, fun _ h => h⟩) (fun e => by cases e) (fun _ _ h => h.elim) (fun _ h => h.elim) fun _ _ _ h => h
theorem Good.setNone (g : Good K fr ρ σ H Ow) {i : Nat} {x : Option V} : ∃ Ow', Good K fr (ρ.set i none) (σ.set i x) H Ow' :=
  g.put (P := fun _ => False) (fun s' e => by cases e) (fun _ _ h => h) (fun _ _ h => h.elim) (fun _ h => h.elim) fun _ _ _ h => h
/-- a slot takes a new list -/
theorem Good.setOwn (g : Good K fr ρ σ H Ow) {H0 : Hp} {i : Nat} {ds : List D} {v : V} (g0 : Good K fr ρ σ H0 Ow) (h : (∃ a, v = .ref a ∧ H0 a = none) ∧ LsOk H v ds) : ∃ Ow', Good K fr (ρ.set i (some (.own ds))) (σ.set i (some v)) H Ow' := by
  obtain ⟨⟨p, rfl, hp⟩, ⟨_, xs, ep, hx, r⟩⟩ := h
  cases ep
  have fF : fr.F0 p = none := by
    cases q : fr.F0 p with
    | none => rfl
    | some o => obtain ⟨o', z⟩ := g0.dom q; rw [hp] at z; cases z
  refine g.put (P := fun a => a = p) (fun s' e => ?_) (fun e => by cases e) (fun j a h _ o => ?_) (fun a h => ?_) fun a ys e h => ?_
  · cases e
    exact ⟨_, rfl, p, xs, rfl, hx, r, fF, fun b => Iff.rfl⟩
  · subst h
    obtain ⟨ys, z⟩ := g0.there o
    rw [hp] at z; cases z
  · subst h; exact .inl fF
  · subst h
    have := (g0.prot _ _ e).1
    rw [hp] at this; cases this
/-- what the slot i owns is changed -/
theorem Good.mut (g : Good K fr ρ σ H Ow) {i : Nat} {a : Addr} {xs ys : List V} {es : List D} {s' : DV} (o : Ow i a) (hx : H a = some (.lst xs)) (r : Reps H ys es)
    (hs : (∃ ds, ρ[i]? = some (some (.own ds)) ∧ s' = .own es) ∨ (∃ ds, ρ[i]? = some (some (.io ds)) ∧ s' = .io es) ∨ ∃ ds, ρ[i]? = some (some (.obj ds)) ∧ s' = .obj es) : Good K fr (ρ.set i (some s')) σ (upd H a (.lst ys)) Ow := by
  have tp : Tp H (upd H a (.lst ys)) := fun b zs e => by
    rw [upd_ne (ne_of e hx (fun z => by cases z))]; exact e
  have il : i < ρ.length := by
    rcases hs with ⟨ds, e, _⟩ | ⟨ds, e, _⟩ | ⟨ds, e, _⟩ <;> exact (List.getElem?_eq_some_iff.mp e).1
  refine ⟨by simpa using g.len, fun j s e => ?_, fun j n => ?_, g.one, g.mine, fun b ob e n => ?_, fun b e => ?_, fun b zs e => ?_, g.wf, g.tp.trans tp⟩
  · rcases get_set e with ⟨rfl, q, hl⟩ | ⟨ne, e'⟩
    · cases Option.some.inj q
      rcases hs with ⟨ds, e7, rfl⟩ | ⟨ds, e7, rfl⟩ | ⟨ds, e7, rfl⟩
      · obtain ⟨v, e1, q⟩ := g.sl _ _ e7
        obtain ⟨b, zs, rfl, hb, _, hF, ho⟩ := q
        have := (ho a).mp o
        subst this
        exact ⟨_, e1, a, ys, rfl, upd_same, Reps.mono tp _ _ r, hF, ho⟩
      · obtain ⟨v, e1, q⟩ := g.sl _ _ e7
        obtain ⟨b, zs, rfl, hb, _, hF, ho⟩ := q
        have := (ho a).mp o
        subst this
        exact ⟨_, e1, a, ys, rfl, upd_same, Reps.mono tp _ _ r, hF, ho⟩
      · obtain ⟨v, e1, q⟩ := g.sl _ _ e7
        obtain ⟨p, b, dx, zs, rfl, hp, hb, _, hF, ho⟩ := q
        have := (ho a).mp o
        subst this
        exact ⟨_, e1, p, a, dx, ys, rfl, hp, upd_same, Reps.mono tp _ _ r, hF, ho⟩
    · obtain ⟨v, e1, q⟩ := g.sl j s e'
      refine ⟨v, e1, q.stay tp (fun b zs ob h => ?_) (fun _ b ob hn h => ?_)⟩
      · rw [upd_ne (fun z => ne (g.one j i a (by rw [← z]; exact ob) o))]; exact h
      · rw [upd_ne (fun z => by rw [z, hx] at h; exact hn xs (Option.some.inj h).symm)]; exact h
  · by_cases hj : j = i
    · intro _ _
      exact n s' (by rw [hj, List.getElem?_set_self il])
    · exact g.off j fun s e => n s (by rw [List.getElem?_set_ne (Ne.symm hj)]; exact e)
  · have nb : b ≠ a := fun z => by
      subst z
      rcases g.mine i b o with h | h
      · rw [h] at e; cases e
      · exact n h
    rw [upd_ne nb]; exact g.keep b ob e n
  · obtain ⟨h1, zs, h2⟩ := g.iow b e
    refine ⟨h1, ?_⟩
    by_cases z : b = a
    · exact ⟨_, by rw [z]; exact upd_same⟩
    · exact ⟨zs, by rw [upd_ne z]; exact h2⟩
  · obtain ⟨h1, h2⟩ := g.prot b zs e
    refine ⟨?_, h2⟩
    rw [upd_ne (fun z => h2 i (by rw [z]; exact o))]; exact h1
end

/-! ## statements -/
inductive SO where
  | nx (ρ : Rho)
  | ret (r : DV) (ρ : Rho)
  | exc (c : String) (ρ : Rho)
  | no
abbrev SF := Rho → SO
section
variable (K : PySem.W.Frag) (cl : String → Addr) (W : WX)
def SPost (fr : Fr) (D : Ends) : SO → Prop
  | .nx ρ => ∀ σ H, Gd K fr ρ σ H → D.nx σ H
  | .ret r ρ => ∀ v σ H, Gd K fr ρ σ H → RetOk K fr.F0 H v r → D.rt v H
  | .exc c ρ => ∀ σ H, Gd K fr ρ σ H → W (.ref (cl c)) none σ H
  | .no => False
def tS (F : SF) : TS := fun D σ H => ∃ fr ρ, Gd K fr ρ σ H ∧ SPost K cl W fr D (F ρ)
end
def sNext : SF := fun ρ => .nx ρ
def sSeq (F G : SF) : SF := fun ρ => match F ρ with
  | .nx ρ' => G ρ'
  | o => o
def sIf (c : TF) (F G : SF) : SF := fun ρ => match c ρ with
  | .ok true => F ρ
  | .ok false => G ρ
  | .exc c => .exc c ρ
  | .no => .no
/-- what a name may hold -/
def keepable : DV → Option DV
  | .dat d => some (.dat d)
  | .own ds => some (.own ds)
  | .dict kvs => some (.dict kvs)
  | .two s r1 r2 => some (.two s r1 r2)
  | _ => none
def sAsg (i : Nat) (f : EF) : SF := fun ρ => match f ρ with
  | .ok r => (match keepable r with
    | some s => .nx (ρ.set i (some s))
    | none => .no)
  | .exc c => .exc c ρ
  | .no => .no
def sRet (f : EF) : SF := fun ρ => match f ρ with
  | .ok r => (match keepable r with
    | some s => .ret s ρ
    | none => .no)
  | .exc c => .exc c ρ
  | .no => .no
/-- return x, x a name -/
def sRetV (i : Nat) : SF := fun ρ => match ρ[i]? with
  | some (some (.dat d)) => .ret (.dat d) ρ
  | some (some (.own ds)) => .ret (.own ds) ρ
  | some (some (.dict kvs)) => .ret (.dict kvs) ρ
  | _ => .no
def sDrop (f : EF) : SF := fun ρ => match f ρ with
  | .ok _ => .nx ρ
  | .exc c => .exc c ρ
  | .no => .no
def sRaise (c : String) : SF := fun ρ => .exc c ρ
section
variable {K : PySem.W.Frag} {cl : String → Addr} {W : WX} {fr : Fr} {ρ : Rho} {σ : L2.St} {H : Hp} {D : Ends}
/-- an expression at a good state -/
theorem eP (g : Gd K fr ρ σ H) {f : EF} {Q : VK} (hn : f ρ ≠ .no) (ho : ∀ r, f ρ = .ok r → ∀ v H', Same H H' → Gd K fr ρ σ H' → ValOk K H H' v r → Q v H') (he : ∀ c, f ρ = .exc c → ∀ H', Gd K fr ρ σ H' → W (.ref (cl c)) none σ H') : tI K cl W f σ H Q := by
  obtain ⟨Ow, g⟩ := g
  refine ⟨ρ, g.slR, ?_⟩
  cases e : f ρ with
  | no => exact absurd e hn
  | exc c => exact fun H' s => he c e H' ⟨Ow, g.same s⟩
  | ok r => exact fun v H' s va => ho r e v H' s ⟨Ow, g.same s⟩ va
theorem tP (g : Gd K fr ρ σ H) {f : TF} {Q : Bool → Hp → Prop} (hn : f ρ ≠ .no) (ho : ∀ b, f ρ = .ok b → ∀ H', Same H H' → Gd K fr ρ σ H' → Q b H') (he : ∀ c, f ρ = .exc c → ∀ H', Gd K fr ρ σ H' → W (.ref (cl c)) none σ H') : tT K cl W f σ H Q := by
  obtain ⟨Ow, g⟩ := g
  refine ⟨ρ, g.slR, ?_⟩
  cases e : f ρ with
  | no => exact absurd e hn
  | exc c => exact fun H' s => he c e H' ⟨Ow, g.same s⟩
  | ok r => exact fun H' s => ho r e H' s ⟨Ow, g.same s⟩
theorem Gd.set {H0 : Hp} (g : Gd K fr ρ σ H0) {i : Nat} {r s : DV} {v : V} (hs : Same H0 H) (k : keepable r = some s) (h : ValOk K H0 H v r) : Gd K fr (ρ.set i (some s)) (σ.set i (some v)) H := by
  obtain ⟨Ow, g⟩ := g
  unfold keepable at k
  split at k
  · cases k; exact (g.same hs).setDat h
  · cases k; exact (g.same hs).setOwn g h
  · cases k
    obtain ⟨⟨p, rfl, hp⟩, a, ea, q⟩ := h
    cases ea
    have hF : fr.F0 p = none := by
      cases z : fr.F0 p with
      | none => rfl
      | some o => obtain ⟨o', z'⟩ := g.dom z; rw [hp] at z'; cases z'
    exact (g.same hs).put (P := fun _ => False) (fun s' e => by cases e; exact ⟨_, rfl, ⟨p, rfl, hF, q⟩, fun _ h => h⟩) (fun e => by cases e) (fun _ _ h => h.elim) (fun _ h => h.elim) fun _ _ _ h => h
  · cases k
    obtain ⟨a, b, h, ha, hb⟩ := h
    have nF : ∀ c, H0 c = none → fr.F0 c = none := fun c hc => by
      cases z : fr.F0 c with
      | none => rfl
      | some o => obtain ⟨o', z'⟩ := g.dom z; rw [hc] at z'; cases z'
    refine (g.same hs).put (P := fun c => c = a ∨ c = b) (fun s' e => ?_) (fun e => by cases e) (fun j c hc _ o => ?_) (fun c hc => ?_) fun c ys e hc => ?_
    · cases e; exact ⟨v, rfl, a, b, h, nF a ha, nF b hb, fun c => Iff.rfl⟩
    · obtain ⟨ys, z⟩ := g.there o
      rcases hc with rfl | rfl
      · rw [ha] at z; cases z
      · rw [hb] at z; cases z
    · rcases hc with rfl | rfl
      · exact .inl (nF _ ha)
      · exact .inl (nF _ hb)
    · have := (g.prot _ _ e).1
      rcases hc with rfl | rfl
      · rw [ha] at this; cases this
      · rw [hb] at this; cases this
  · cases k
theorem Gd.ret (g : Gd K fr ρ σ H) {H' : Hp} {r s : DV} {v : V} (k : keepable r = some s) (h : ValOk K H H' v r) : RetOk K fr.F0 H' v s := by
  obtain ⟨Ow, g⟩ := g
  unfold keepable at k
  split at k
  · cases k; exact h
  · cases k
    obtain ⟨⟨p, rfl, hp⟩, l⟩ := h
    refine ⟨⟨p, rfl, ?_⟩, l⟩
    cases q : fr.F0 p with
    | none => rfl
    | some o => obtain ⟨o', z⟩ := g.dom q; rw [hp] at z; cases z
  · cases k
    obtain ⟨⟨p, rfl, hp⟩, l⟩ := h
    refine ⟨⟨p, rfl, ?_⟩, l⟩
    cases q : fr.F0 p with
    | none => rfl
    | some o => obtain ⟨o', z⟩ := g.dom q; rw [hp] at z; cases z
  · cases k
    obtain ⟨a, b, h, ha, hb⟩ := h
    have nF : ∀ c, H c = none → fr.F0 c = none := fun c hc => by
      cases z : fr.F0 c with
      | none => rfl
      | some o => obtain ⟨o', z'⟩ := g.dom z; rw [hc] at z'; cases z'
    exact ⟨a, b, h, nF a ha, nF b hb⟩
  · cases k
end
section
variable {cl : String → Addr} {W : WX} {X : Cx} {pos : Pos} {st : Stmt} {rest : List Stmt} {F G : SF} {f : EF} {c : TF} {e : Expr}
theorem s_nil : PSs X [] (tS X.K cl W sNext) := pss_nil.imp fun D σ H ⟨fr, ρ, g, h⟩ => h σ H g
theorem s_pass : PS X (.Pass pos) (tS X.K cl W sNext) := ps_pass.imp fun D σ H ⟨fr, ρ, g, h⟩ => h σ H g
theorem s_one (h : PS X st (tS X.K cl W F)) : PSs X [st] (tS X.K cl W F) := pss_one h
theorem s_cons (h1 : PS X st (tS X.K cl W F)) (h2 : PSs X rest (tS X.K cl W G)) : PSs X (st :: rest) (tS X.K cl W (sSeq F G)) := (pss_cons h1 h2).imp fun D σ H ⟨fr, ρ, g, h⟩ => by
  refine ⟨fr, ρ, g, ?_⟩
  unfold sSeq at h
  cases e : F ρ with
  | no => simp only [e] at h; exact h
  | exc c ρ' => simp only [e] at h; exact h
  | ret r ρ' => simp only [e] at h; exact h
  | nx ρ' => simp only [e] at h; exact fun σ' H' g' => ⟨fr, ρ', g', h⟩
theorem s_if {a b : List Stmt} {t : Expr} (hc : PT X t (tT X.K cl W c)) (ha : PSs X a (tS X.K cl W F)) (hb : PSs X b (tS X.K cl W G)) : PS X (.If t a b pos) (tS X.K cl W (sIf c F G)) := (ps_if hc ha hb).imp fun D σ H ⟨fr, ρ, g, h⟩ => by
  unfold sIf at h
  refine tP g (fun e => by rw [e] at h; exact h) (fun b e H' s g' => ?_) (fun c e H' g' => by rw [e] at h; exact h σ H' g')
  cases b with
  | true => simp only [e] at h; rw [if_pos rfl]; exact ⟨fr, ρ, g', h⟩
  | false => simp only [e] at h; rw [if_neg Bool.false_ne_true]; exact ⟨fr, ρ, g', h⟩
theorem s_asg (i : Nat) {x : Str} {pos' : Pos} (hN : X.N.Nodup) (he : PE X e (tI X.K cl W f)) (hi : X.N[i]? = some x := by rfl) (hx : Loc X.env.scope x := by first | exact Or.inl rfl | exact Or.inr rfl) (hs : swapsWith e (some (.Name x pos')) pos.line X.env = pure false := by rfl)
    (hf : X.fn x = true ∨ X.env.scope.names.lookup x = some .local := by first | exact .inl rfl | exact .inr rfl | assumption) : PS X (.Assign [.Name x pos'] e pos) (tS X.K cl W (sAsg i f)) := (ps_set hN hi hx he hs hf).imp fun D σ H ⟨fr, ρ, g, h⟩ => by
  unfold sAsg at h
  refine eP g (fun e => by rw [e] at h; exact h) (fun r e v H' s g' va => ?_) (fun c e H' g' => by rw [e] at h; exact h σ H' g')
  simp only [e] at h
  cases k : keepable r with
  | none => simp only [k] at h; exact h.elim
  | some s => simp only [k] at h; exact h _ _ (g.set ‹_› k va)
theorem s_ret (he : PE X e (tI X.K cl W f)) : PS X (.Return (some e) pos) (tS X.K cl W (sRet f)) := (ps_ret he).imp fun D σ H ⟨fr, ρ, g, h⟩ => by
  unfold sRet at h
  refine eP g (fun e => by rw [e] at h; exact h) (fun r e v H' s g' va => ?_) (fun c e H' g' => by rw [e] at h; exact h σ H' g')
  simp only [e] at h
  cases k : keepable r with
  | none => simp only [k] at h; exact h.elim
  | some s => simp only [k] at h; exact h v σ H' g' (g.ret k va)
theorem s_retV (i : Nat) {x : Str} {p : Pos} (hN : X.N[i]? = some x := by rfl) (hv : Vis X.env.scope x := by first | exact Or.inl rfl | exact Or.inr (Or.inl rfl) | exact Or.inr (Or.inr rfl)) (hd : (x == ("__debug__" : Str)) = false := by decide)
    (hcd : (x == ("__classdict__" : Str)) = false := by decide) : PS X (.Return (some (.Name x p)) pos) (tS X.K cl W (sRetV i)) := (ps_ret (pe_var hN hv hd hcd)).imp fun D σ H ⟨fr, ρ, ⟨Ow, g⟩, h⟩ => by
  unfold sRetV at h
  split at h
  · rename_i d e
    obtain ⟨v, e1, q⟩ := g.sl i _ e
    exact ⟨v, e1, h v σ H ⟨Ow, g⟩ q.1⟩
  · rename_i ds e
    obtain ⟨v, e1, q⟩ := g.sl i _ e
    obtain ⟨a, xs, rfl, q2, r, hF, _⟩ := q
    exact ⟨_, e1, h _ σ H ⟨Ow, g⟩ ⟨⟨a, rfl, hF⟩, a, xs, rfl, q2, r⟩⟩
  · rename_i kvs e
    obtain ⟨v, e1, q⟩ := g.sl i _ e
    obtain ⟨⟨a, rfl, hF, m⟩, _⟩ := q
    exact ⟨_, e1, h _ σ H ⟨Ow, g⟩ ⟨⟨a, rfl, hF⟩, a, rfl, m⟩⟩
  · exact h.elim
theorem s_expr (he : PE X e (tI X.K cl W f)) (hs : swapsWith e none pos.line X.env = pure false := by rfl) : PS X (.Expr e pos) (tS X.K cl W (sDrop f)) := (ps_expr he hs).imp fun D σ H ⟨fr, ρ, g, h⟩ => by
  unfold sDrop at h
  refine eP g (fun e => by rw [e] at h; exact h) (fun r e v H' s g' va => ?_) (fun c e H' g' => by rw [e] at h; exact h σ H' g')
  simp only [e] at h
  exact h σ H' g'
theorem s_raise {x m : Str} {s : String} {j : Nat} {p p2 pos' : Pos} (hc : X.calm = true) (tk : Takes X W) (q : PySem.W.excIn X.K (cl s) [.type "ValueError", .type "Exception", .type "BaseException", .type "object"] "ValueError.__new__" = true) (gC : X.mg x = some (.ref (cl s))) (kC : PySem.W.keepIn X.K (.ref (cl s)) = true)
    (r : Raises X (.ref (cl s))) (hg : Gl X x) (hdb : (x == ("__debug__" : Str)) = false := by decide) : PS X (.Raise (some (.Call (.Name x p) [.Constant (.str m) j p2] [] pos')) none pos) (tS X.K cl W (sRaise s)) :=
  (ps_raise hc tk (pmk_own PySem.F.excBase_ValueError q gC kC r hg hdb)).imp fun D σ H ⟨fr, ρ, g, h⟩ => h σ H g
end
end KT

set_option Elab.async false
set_option linter.all false
set_option maxRecDepth 100000
set_option maxHeartbeats 4000000
namespace KT
open PySem PySem.Spec PyProof.Rows L2

/-! ## the rule for a def -/
def run (N m : Nat) (b : SF) : FF := fun args => if args.length = m then (match b (args.map some ++ List.replicate (N - m) none) with
    | .nx _ => .ret (.dat .non)
    | .ret r _ => .ret r
    | .exc c _ => .exc c
    | .no => .no) else .no
theorem run_ar {N m : Nat} {b : SF} (args : List DV) (h : args.length ≠ m) : run N m b args = .no := by
  unfold run; rw [if_neg h]
theorem ArgsOk.get {K : PySem.W.Frag} {H : Hp} : ∀ {vs : List V} {rs : List DV} {i : Nat} {r : DV}, ArgsOk K H vs rs → rs[i]? = some r → ∃ v, vs[i]? = some v ∧ ArgOk K H v r
  | _, _, _, _, .nil, e => by simp at e
  | _, _, 0, _, .cons a _, e => by simp at e; subst e; exact ⟨_, rfl, a⟩
  | _, _, i + 1, r, .cons _ b, e => by
    obtain ⟨v, h1, h2⟩ := ArgsOk.get (i := i) (r := r) b (by simpa using e)
    exact ⟨v, by simpa using h1, h2⟩
abbrev fr0 (H : Hp) : Fr := ⟨H, none, fun _ => none, fun _ => none, H⟩
theorem gd_start {K : PySem.W.Frag} {H : Hp} {vs : List V} {args : List DV} {N : List Str} {m : Nat} (h : ArgsOk K H vs args) (hl : vs.length = m) (hm : m ≤ N.length) :
    Gd K (fr0 H) (args.map some ++ List.replicate (N.length - m) none) (start N vs) H := by
  have la := h.length
  refine ⟨fun _ _ => False, ⟨?_, fun i s e => ?_, fun _ _ _ z => z, fun _ _ _ z => z.elim, fun _ _ z => z.elim, fun a o e _ => e, fun a e => (by cases e), fun a xs e => (by cases e), fun j a e => (by cases e), fun a xs e => e⟩⟩
  · unfold L2.start
    simp only [List.length_append, List.length_map, List.length_replicate]
    omega
  · unfold L2.start
    have e1 : args[i]? = some s := by
      rw [List.getElem?_append] at e
      split at e
      · rw [List.getElem?_map] at e
        obtain ⟨x, hx, hx2⟩ := Option.map_eq_some_iff.mp e
        cases hx2; exact hx
      · have := List.mem_of_getElem? e
        rw [List.mem_replicate] at this
        cases this.2
    obtain ⟨v, e2, q⟩ := h.get e1
    have hi : i < vs.length := (List.getElem?_eq_some_iff.mp e2).1
    refine ⟨v, ?_, ?_⟩
    · rw [List.getElem?_append_left (by rw [List.length_map]; exact hi), List.getElem?_map, e2]; rfl
    · cases s with
      | dat d => exact ⟨q, fun _ z => z⟩
      | bor ds => obtain ⟨a, xs, rfl, q2, r⟩ := q; exact ⟨⟨a, xs, rfl, q2, (fun z => by cases z), r⟩, fun _ z => z⟩
      | scr ds => obtain ⟨a, xs, rfl, q2, r⟩ := q; exact ⟨⟨a, xs, rfl, q2, r⟩, fun _ z => z⟩
      | own ds => exact q.elim
      | io ds => exact q.elim
      | lent ds => exact q.elim
      | exc c => exact q.elim
      | obj _ => exact q.elim
      | dict _ => exact q.elim
      | bd kvs => obtain ⟨a, rfl, m⟩ := q; exact ⟨⟨a, rfl, (fun z => by cases z), m⟩, fun _ z => z⟩
      | two _ _ _ => exact q.elim
      | btwo _ _ _ => obtain ⟨a, b, h⟩ := q; exact ⟨⟨a, b, h, (fun z => by cases z), (fun z => by cases z)⟩, fun _ z => z⟩
      | bdict _ _ => exact q.elim
theorem gd_same {K : PySem.W.Frag} {H H' : Hp} {ρ : Rho} {σ : L2.St} (g : Gd K (fr0 H) ρ σ H') : Same H H' := fun a o e => by
  obtain ⟨Ow, g⟩ := g
  exact g.keep a o e (fun z => by cases z)
section
variable {P : Program} {w : World} {K : PySem.W.Frag} {mg : Str → Option Value} {base : Heap} {cl : String → Addr} {x qual : Str} {params : Arguments} {body : List Stmt} {scope : Scope} {f : Addr} {fd : FuncData} {N ps : List Str} {k : Nat} {b : SF}
theorem fn_ok (F : FunD K x qual params body scope [] [] f fd) (S : FnScope N ps scope) (hm : ps.length ≤ N.length)
    (hbody : ∀ (cdv : Value) (A : Around) (outer : List Env) (s : Shared) (H : Hp) (E : XK), Room k (A.deeper (envOfC qual scope s.heap.objs.size f cdv)) →
      Takes (cxOf (L2.CX P w) P w K mg base N qual scope f cdv A outer s H E) (fun cls d _ H => E cls d H) →
      PSs (cxOf (L2.CX P w) P w K mg base N qual scope f cdv A outer s H E) body (tS K cl (fun cls d _ H => E cls d H) b)) :
    FnOk P w K mg base (L2.CX P w) (k + 1) f fd ps (spF K cl ps.length (run N.length ps.length b)) := by
  refine F.ok S (fun vs H Q E h => h.1) (fun cdv A outer s H vs Q E hr h => ?_)
  obtain ⟨hl, args, ha, h⟩ := h
  refine ⟨_, hbody cdv A outer s H E hr (takes_of rfl rfl rfl rfl), fr0 H, _, gd_start ha hl hm, ?_⟩
  have la := ha.length
  unfold run at h
  rw [if_pos (by omega)] at h
  cases e : b (args.map some ++ List.replicate (N.length - ps.length) none) with
  | no => simp only [e] at h; exact h
  | nx ρ => simp only [e] at h; exact fun σ H' g => h _ H' (gd_same g) .non
  | ret r ρ => simp only [e] at h; exact fun v σ H' g q => h v H' (gd_same g) q
  | exc c ρ => simp only [e] at h; exact fun σ H' g => h H' (gd_same g)
theorem fn_none {m : Nat} : FnOk P w K mg base (L2.CX P w) 0 f fd ps (spF K cl m (fun _ => .no)) :=
  have no : ∀ vs H Q E, ¬ spF K cl m (fun _ => .no) vs H Q E := fun vs H Q E h => by
    obtain ⟨_, _, _, z⟩ := h
    exact z
  ⟨fun vs H Q E h => absurd h (no vs H Q E), fun A outer s H args us vs Q E _ _ _ _ h => absurd h (no vs H Q E)⟩
end

/-! ## lists that change -/
/-- the list that a slot may write -/
def ownOf (ρ : Rho) (i : Nat) : Option (List D × (List D → DV)) := match ρ[i]? with
  | some (some (.own ds)) => some (ds, .own)
  | some (some (.io ds)) => some (ds, .io)
  | _ => none
def elems : DV → Option (List D)
  | .dat (.tup ds) => some ds
  | .own ds => some ds
  | .bor ds => some ds
  | _ => none
def sApp (i : Nat) (f : EF) : SF := fun ρ => match ownOf ρ i with
  | some (ds, mk) => (match f ρ with
    | .ok (.dat d) => if ds.length < 16777216 then .nx (ρ.set i (some (mk (ds ++ [d])))) else .no
    | .exc c => .exc c ρ
    | _ => .no)
  | none => .no
def sExt (i : Nat) (f : EF) : SF := fun ρ => match ownOf ρ i with
  | some (ds, mk) => (match f ρ with
    | .ok r => (match elems r with
      | some es => if ds.length + es.length ≤ 16777216 then .nx (ρ.set i (some (mk (ds ++ es)))) else .no
      | none => .no)
    | .exc c => .exc c ρ
    | .no => .no)
  | none => .no
/-- l.pop(), x = l.pop() -/
def sPop (i : Nat) : SF := fun ρ => match ownOf ρ i with
  | some (ds, mk) => (match ds.getLast? with
    | some _ => .nx (ρ.set i (some (mk ds.dropLast)))
    | none => .no)
  | none => .no
def sPopTo (j i : Nat) : SF := fun ρ => match ownOf ρ i with
  | some (ds, mk) => (match ds.getLast? with
    | some d => .nx ((ρ.set i (some (mk ds.dropLast))).set j (some (.dat d)))
    | none => .no)
  | none => .no
/-- a list that a slot owns -/
def OwnAt (ρ : Rho) (i : Nat) (ds : List D) (mk : List D → DV) : Prop := (ρ[i]? = some (some (.own ds)) ∧ mk = .own) ∨ (ρ[i]? = some (some (.io ds)) ∧ mk = .io)
theorem Good.ownAt {K : PySem.W.Frag} {fr : Fr} {ρ : Rho} {σ : L2.St} {H : Hp} {Ow : Nat → Addr → Prop} (g : Good K fr ρ σ H Ow) {i : Nat} {ds : List D} {mk : List D → DV} (h : OwnAt ρ i ds mk) :
    ∃ a xs, σ[i]? = some (some (.ref a)) ∧ H a = some (.lst xs) ∧ Reps H xs ds ∧ Ow i a ∧ ∀ {H' : Hp} {ys : List V} {es : List D}, Same H H' → Reps H' ys es → Gd K fr (ρ.set i (some (mk es))) σ (upd H' a (.lst ys)) := by
  rcases h with ⟨e, rfl⟩ | ⟨e, rfl⟩
  · obtain ⟨v, e1, q⟩ := g.sl i _ e
    obtain ⟨a, xs, rfl, hb, r, hF, ho⟩ := q
    exact ⟨a, xs, e1, hb, r, (ho a).mpr rfl, fun {H' ys es} s r' => ⟨Ow, (g.same s).mut ((ho a).mpr rfl) (s _ _ hb) r' (.inl ⟨_, e, rfl⟩)⟩⟩
  · obtain ⟨v, e1, q⟩ := g.sl i _ e
    obtain ⟨a, xs, rfl, hb, r, hF, ho⟩ := q
    exact ⟨a, xs, e1, hb, r, (ho a).mpr rfl, fun {H' ys es} s r' => ⟨Ow, (g.same s).mut ((ho a).mpr rfl) (s _ _ hb) r' (.inr (.inl ⟨_, e, rfl⟩))⟩⟩
theorem ownOf_at {ρ : Rho} {i : Nat} {ds : List D} {mk : List D → DV} (h : ownOf ρ i = some (ds, mk)) : OwnAt ρ i ds mk := by
  unfold ownOf at h
  split at h
  · rename_i e; cases h; exact .inl ⟨e, rfl⟩
  · rename_i e; cases h; exact .inr ⟨e, rfl⟩
  · cases h
/-- l.extend(x), x a list or a tuple -/
def rExtA (K : PySem.W.Frag) : V → List V → Hp → VK → Prop := fun x vs H Q => ∃ l b xs zs, x = .ref l ∧ vs = [.ref b] ∧ H l = some (.lst xs) ∧ (H b = some (.lst zs) ∨ H b = some (.tup zs)) ∧ xs.length + zs.length ≤ sizeLine ∧ Q .non (upd H l (.lst (xs ++ zs)))
theorem ext_tup (l : Addr) (its : Array Value) (n : Nat) (b : Addr) (ts : Array Value) (m : Nat) (dd : Option Addr) (sl : Array (Option Value)) (h0 : ¬(!its.isEmpty && Builtin.List.listTooLong (its.size + ts.size)) = true) (h1 : its.size ≤ sizeLine) (h2 : its.size + ts.size ≤ sizeLine + 1) :
    Meets (Builtin.«list.extend» ⟨[.ref l, .ref b], []⟩) (fun _ R s => s.heap.get? l = some { cls := .type "list", dict := none, data := .seq its n, slots := #[] } ∧ s.heap.get? b = some { cls := .type "tuple", dict := dd, data := .seq ts m, slots := sl } ∧
      R (.ok (.ret Value.none)) { s with heap := s.heap.update l (Obj.mapSeq fun x => x ++ ts), toks := s.toks }) := by
  refine .of_wp fun prog w A R s h => ?_
  obtain ⟨hp, g, d, tk, os⟩ := s
  obtain ⟨hl, hb, h⟩ := h
  have t1 := AutoSeq1.idx_int
  have t2 := AutoSeq1.sub_tuple_tuple
  have t3 := AutoSeq1.sub_list_list
  have t4 := AutoSeq1.sub_tuple_list
  have t5 := AutoSeq1.sub_list_tuple
  have hz : (its ++ ts).size ≤ sizeLine + 1 := Array.size_append (xs := its) (ys := ts) ▸ h2
  wp_walk using (wpAny_updateSeq hl rfl (hz := h1) (_hz' := hz)), AutoSeq1.wpAny_loadPart' hl, AutoSeq1.wpAny_loadPart' hb
  exact ⟨_, rfl, h⟩
theorem mt_extA {X : Cx} : MtM X "list.extend" (rExtA X.K) := by
  intro pins s σ H x vs v us Q I rx rv h
  obtain ⟨l, b, xs, zs, rfl, rfl, hH, hB, hz, q⟩ := h
  rcases hB with hB | hB
  · exact mt_extend pins s σ H _ _ v us Q I rx rv ⟨l, b, xs, zs, rfl, rfl, hH, hB, hz, q⟩
  · cases rx
    obtain ⟨u, rfl, ru⟩ := rv.one
    cases ru
    obtain ⟨z, its, n, r, hl, e⟩ := I.lstM hH
    obtain ⟨its2, r2, ⟨⟨oc, od, odt, osl⟩, e2, c2, n2, d2⟩, _⟩ := I.tuple (SqT.of hB)
    have hl2 := r2.length
    simp only at c2 d2
    subst c2 d2
    have hsz : its.toArray.size + its2.toArray.size ≤ sizeLine := by simp only [List.size_toArray]; omega
    have hlong : ¬ (!its.toArray.isEmpty && Builtin.List.listTooLong (its.toArray.size + its2.toArray.size)) = true := fun z => by
      rw [notLongL hsz, Bool.and_false] at z; cases z
    have hz1 : its.toArray.size ≤ sizeLine := by rw [List.size_toArray]; omega
    refine call_meets F.slot_list_extend ⟨_, e, rfl⟩ F.entry_list_extend (F.args_list_extend_2 _ _) (ext_tup l its.toArray n b its2.toArray n2 od osl hlong hz1 (by omega)) ⟨e, e2, ?_⟩
    exact ⟨.non, _, I.lset (its' := its ++ its2) hH e (by simp) (r.append r2) (by rw [List.length_append]; omega), rfl, q⟩
theorem elems_ok {K : PySem.W.Frag} {H0 H : Hp} {v : V} {r : DV} {es : List D} (h : elems r = some es) (va : ValOk K H0 H v r) : ∃ b zs, v = .ref b ∧ (H b = some (.lst zs) ∨ H b = some (.tup zs)) ∧ Reps H zs es := by
  unfold elems at h
  split at h
  · cases h; obtain ⟨a, xs, rfl, q, r⟩ := rd_tup va.rd; exact ⟨a, xs, rfl, .inr q, r⟩
  · cases h; obtain ⟨a, xs, rfl, q, r⟩ := va.rd; exact ⟨a, xs, rfl, .inl q, r⟩
  · cases h; obtain ⟨a, xs, rfl, q, r⟩ := va.rd; exact ⟨a, xs, rfl, .inl q, r⟩
  · cases h
section
variable {cl : String → Addr} {W : WX} {X : Cx} {pos apos cpos xp : Pos} {f : EF} {e : Expr} {x : Str}
theorem s_app (i : Nat) (he : PE X e (tI X.K cl W f)) (hN : X.N[i]? = some x := by rfl) (hv : Vis X.env.scope x := by first | exact Or.inl rfl | exact Or.inr (Or.inl rfl) | exact Or.inr (Or.inr rfl)) (hd : (x == ("__debug__" : Str)) = false := by decide)
    (hcd : (x == ("__classdict__" : Str)) = false := by decide) (hbase : attributeBase (.Name x xp) "append" X.env (eval (.Name x xp) X.env) = eval (.Name x xp) X.env := by rfl)
    (hfew : ((backTo cpos (starEach [e] X.env)).all (fun x => !x.1) && (backToKw cpos (keywordEach [] X.env)).all (fun x => x.1.isSome) && decide (([e] : List Expr).length + ([] : List Keyword).length + (if ([] : List Keyword).isEmpty then 0 else 1) < 30)) = true := by rfl)
    (hline : (apos.endLine == cpos.line) = true := by rfl) (hs : starEach [e] X.env = (false, eval e X.env) :: starEach [] X.env := by rfl) (hplain : (backTo cpos (starEach [] X.env)).any (·.1) = false := by rfl)
    (hsw : swapsWith (.Call (.Attribute (.Name x xp) "append" apos) [e] [] cpos) none pos.line X.env = pure false := by rfl) : PS X (.Expr (.Call (.Attribute (.Name x xp) "append" apos) [e] [] cpos) pos) (tS X.K cl W (sApp i f)) :=
  (ps_expr (pe_bm PySem.F.plainAttrs_list PySem.F.slot_list_append PySem.F.type_list_append mt_append (pe_var hN hv hd hcd) (pa_cons he pa_nil hs) hbase hfew hline hs hplain) hsw).imp fun D σ H ⟨fr, ρ, g, h⟩ => by
    unfold sApp at h
    cases e0 : ownOf ρ i with
    | none => simp only [e0] at h; exact h.elim
    | some q =>
      obtain ⟨ds, mk⟩ := q
      simp only [e0] at h
      obtain ⟨Ow, g0⟩ := id g
      obtain ⟨a, xs, e1, hb, r, ho, up⟩ := g0.ownAt (ownOf_at e0)
      have hl := r.length
      refine ⟨.ref a, e1, Or.inl ⟨rfl, _, SqL.of hb⟩, eP g (fun e => by simp only [e] at h; exact h) (fun z e v H' s g' va => ?_) (fun c e H' g' => by simp only [e] at h; exact h σ H' g')⟩
      simp only [e] at h
      split at h
      · rename_i d e2
        cases e2
        split at h
        · rename_i hz
          exact ⟨a, xs, v, rfl, rfl, s _ _ hb, Nat.lt_of_lt_of_le (by omega) (lim_line (Nat.le_refl _)), h _ _ (up s ((Reps.mono s.tp _ _ r).append (.cons va .nil)))⟩
        · exact h.elim
      · rename_i e2; cases e2
      · exact h.elim
theorem s_ext (i : Nat) (he : PE X e (tI X.K cl W f)) (hN : X.N[i]? = some x := by rfl) (hv : Vis X.env.scope x := by first | exact Or.inl rfl | exact Or.inr (Or.inl rfl) | exact Or.inr (Or.inr rfl)) (hd : (x == ("__debug__" : Str)) = false := by decide)
    (hcd : (x == ("__classdict__" : Str)) = false := by decide) (hbase : attributeBase (.Name x xp) "extend" X.env (eval (.Name x xp) X.env) = eval (.Name x xp) X.env := by rfl)
    (hfew : ((backTo cpos (starEach [e] X.env)).all (fun x => !x.1) && (backToKw cpos (keywordEach [] X.env)).all (fun x => x.1.isSome) && decide (([e] : List Expr).length + ([] : List Keyword).length + (if ([] : List Keyword).isEmpty then 0 else 1) < 30)) = true := by rfl)
    (hline : (apos.endLine == cpos.line) = true := by rfl) (hs : starEach [e] X.env = (false, eval e X.env) :: starEach [] X.env := by rfl) (hplain : (backTo cpos (starEach [] X.env)).any (·.1) = false := by rfl)
    (hsw : swapsWith (.Call (.Attribute (.Name x xp) "extend" apos) [e] [] cpos) none pos.line X.env = pure false := by rfl) : PS X (.Expr (.Call (.Attribute (.Name x xp) "extend" apos) [e] [] cpos) pos) (tS X.K cl W (sExt i f)) :=
  (ps_expr (pe_bm PySem.F.plainAttrs_list PySem.F.slot_list_extend PySem.F.type_list_extend mt_extA (pe_var hN hv hd hcd) (pa_cons he pa_nil hs) hbase hfew hline hs hplain) hsw).imp fun D σ H ⟨fr, ρ, g, h⟩ => by
    unfold sExt at h
    cases e0 : ownOf ρ i with
    | none => simp only [e0] at h; exact h.elim
    | some q =>
      obtain ⟨ds, mk⟩ := q
      simp only [e0] at h
      obtain ⟨Ow, g0⟩ := id g
      obtain ⟨a, xs, e1, hb, r, ho, up⟩ := g0.ownAt (ownOf_at e0)
      have hl := r.length
      refine ⟨.ref a, e1, Or.inl ⟨rfl, _, SqL.of hb⟩, eP g (fun e => by simp only [e] at h; exact h) (fun z e v H' s g' va => ?_) (fun c e H' g' => by simp only [e] at h; exact h σ H' g')⟩
      simp only [e] at h
      cases e2 : elems z with
      | none => simp only [e2] at h; exact h.elim
      | some es =>
        simp only [e2] at h
        split at h
        · rename_i hz
          obtain ⟨b, zs, rfl, hb2, r2⟩ := elems_ok e2 va
          have hl2 := r2.length
          exact ⟨a, b, xs, zs, rfl, rfl, s _ _ hb, hb2, lim_line (by omega), h _ _ (up s ((Reps.mono s.tp _ _ r).append r2))⟩
        · exact h.elim
theorem pe_popV {i : Nat} (hN : X.N[i]? = some x) (hv : Vis X.env.scope x) (hd : (x == ("__debug__" : Str)) = false) (hcd : (x == ("__classdict__" : Str)) = false) (hbase : attributeBase (.Name x xp) "pop" X.env (eval (.Name x xp) X.env) = eval (.Name x xp) X.env)
    (hline : (apos.endLine == cpos.line) = true) : PE X (.Call (.Attribute (.Name x xp) "pop" apos) [] [] cpos) (tBM0 X.K "list" rPop (tVar i)) :=
  pe_bm0 PySem.F.plainAttrs_list PySem.F.slot_list_pop PySem.F.type_list_pop mt_pop (pe_var hN hv hd hcd) hbase hline
theorem pop_ok {K : PySem.W.Frag} {fr : Fr} {ρ : Rho} {σ : L2.St} {H : Hp} {i : Nat} {ds : List D} {mk : List D → DV} {d : D} {Q : VK} (g : Gd K fr ρ σ H) (e0 : ownOf ρ i = some (ds, mk)) (hd : ds.getLast? = some d)
    (k : ∀ v H', Rep H' v d → Gd K fr (ρ.set i (some (mk ds.dropLast))) σ H' → Q v H') : tBM0 K "list" rPop (tVar i) σ H Q := by
  obtain ⟨Ow, g0⟩ := id g
  obtain ⟨a, xs, e1, hb, r, ho, up⟩ := g0.ownAt (ownOf_at e0)
  have hl := r.length
  rw [List.getLast?_eq_getElem?] at hd
  obtain ⟨v, e2, rv⟩ := r.get hd
  refine ⟨.ref a, e1, Or.inl ⟨rfl, _, SqL.of hb⟩, a, xs, v, rfl, rfl, hb, by rw [hl]; exact e2, ?_⟩
  have tp : Tp H (upd H a (.lst xs.dropLast)) := fun b zs e => by rw [upd_ne (ne_of e hb (fun z => by cases z))]; exact e
  exact k v _ (Rep.mono tp _ _ rv) (up (Same.refl H) r.dropLast)
theorem s_pop (i : Nat) (hN : X.N[i]? = some x := by rfl) (hv : Vis X.env.scope x := by first | exact Or.inl rfl | exact Or.inr (Or.inl rfl) | exact Or.inr (Or.inr rfl)) (hd : (x == ("__debug__" : Str)) = false := by decide)
    (hcd : (x == ("__classdict__" : Str)) = false := by decide) (hbase : attributeBase (.Name x xp) "pop" X.env (eval (.Name x xp) X.env) = eval (.Name x xp) X.env := by rfl)
    (hline : (apos.endLine == cpos.line) = true := by rfl) (hsw : swapsWith (.Call (.Attribute (.Name x xp) "pop" apos) [] [] cpos) none pos.line X.env = pure false := by rfl) : PS X (.Expr (.Call (.Attribute (.Name x xp) "pop" apos) [] [] cpos) pos) (tS X.K cl W (sPop i)) :=
  (ps_expr (pe_popV hN hv hd hcd hbase hline) hsw).imp fun D σ H ⟨fr, ρ, g, h⟩ => by
    unfold sPop at h
    cases e0 : ownOf ρ i with
    | none => simp only [e0] at h; exact h.elim
    | some q =>
      obtain ⟨ds, mk⟩ := q
      simp only [e0] at h
      cases e1 : ds.getLast? with
      | none => simp only [e1] at h; exact h.elim
      | some d =>
        simp only [e1] at h
        exact pop_ok g e0 e1 fun v H' rv g' => h σ H' g'
theorem s_popTo (j i : Nat) {y : Str} {yp : Pos} (hND : X.N.Nodup) (hN : X.N[i]? = some x := by rfl) (hv : Vis X.env.scope x := by first | exact Or.inl rfl | exact Or.inr (Or.inl rfl) | exact Or.inr (Or.inr rfl)) (hd : (x == ("__debug__" : Str)) = false := by decide)
    (hcd : (x == ("__classdict__" : Str)) = false := by decide) (hbase : attributeBase (.Name x xp) "pop" X.env (eval (.Name x xp) X.env) = eval (.Name x xp) X.env := by rfl)
    (hline : (apos.endLine == cpos.line) = true := by rfl) (hi : X.N[j]? = some y := by rfl) (hx : Loc X.env.scope y := by first | exact Or.inl rfl | exact Or.inr rfl) (hs : swapsWith (.Call (.Attribute (.Name x xp) "pop" apos) [] [] cpos) (some (.Name y yp)) pos.line X.env = pure false := by rfl)
    (hf : X.fn y = true ∨ X.env.scope.names.lookup y = some .local := by first | exact .inl rfl | exact .inr rfl | assumption) : PS X (.Assign [.Name y yp] (.Call (.Attribute (.Name x xp) "pop" apos) [] [] cpos) pos) (tS X.K cl W (sPopTo j i)) :=
  (ps_set hND hi hx (pe_popV hN hv hd hcd hbase hline) hs hf).imp fun D σ H ⟨fr, ρ, g, h⟩ => by
    unfold sPopTo at h
    cases e0 : ownOf ρ i with
    | none => simp only [e0] at h; exact h.elim
    | some q =>
      obtain ⟨ds, mk⟩ := q
      simp only [e0] at h
      cases e1 : ds.getLast? with
      | none => simp only [e1] at h; exact h.elim
      | some d =>
        simp only [e1] at h
        refine pop_ok g e0 e1 fun v H' rv g' => h _ H' ?_
        obtain ⟨Ow', g'⟩ := g'
        exact g'.setDat rv
end
end KT

set_option Elab.async false
set_option linter.all false
set_option maxRecDepth 100000
set_option maxHeartbeats 4000000
namespace KT
open PySem PySem.Spec PyProof.Rows L2

/-! ## while -/
def whileF (c : TF) (b : SF) : Nat → SF
  | 0 => fun _ => .no
  | n + 1 => fun ρ => match c ρ with
    | .ok true => (match b ρ with
      | .nx ρ' => whileF c b n ρ'
      | o => o)
    | .ok false => .nx ρ
    | .exc c => .exc c ρ
    | .no => .no
def FUEL : Nat := 1000000
def sWhile (c : TF) (b : SF) : SF := whileF c b FUEL
theorem whileF_more {c : TF} {b : SF} : ∀ {n m : Nat} {ρ : Rho}, n ≤ m → whileF c b n ρ ≠ .no → whileF c b m ρ = whileF c b n ρ
  | 0, _, _, _, h => absurd rfl h
  | n + 1, 0, _, hl, _ => absurd hl (by omega)
  | n + 1, m + 1, ρ, hl, h => by
    show (match c ρ with
      | .ok true => (match b ρ with
        | .nx ρ' => whileF c b m ρ'
        | o => o)
      | .ok false => .nx ρ
      | .exc c => .exc c ρ
      | .no => .no) = (match c ρ with
      | .ok true => (match b ρ with
        | .nx ρ' => whileF c b n ρ'
        | o => o)
      | .ok false => .nx ρ
      | .exc c => .exc c ρ
      | .no => .no)
    have h' : (match c ρ with
      | .ok true => (match b ρ with
        | .nx ρ' => whileF c b n ρ'
        | o => o)
      | .ok false => .nx ρ
      | .exc c => .exc c ρ
      | .no => .no) ≠ SO.no := h
    cases e : c ρ with
    | no => rfl
    | exc _ => rfl
    | ok k =>
      cases k with
      | false => rfl
      | true =>
        simp only [e] at h'
        cases e2 : b ρ with
        | nx ρ' =>
          simp only [e2] at h'
          exact whileF_more (by omega) h'
        | ret _ _ => rfl
        | exc _ _ => rfl
        | no => rfl
section
variable {K : PySem.W.Frag} {cl : String → Addr} {W : WX} {X : Cx} {pos : Pos} {t : Expr} {body : List Stmt} {c : TF} {F : SF}
theorem SPost.loop {fr : Fr} {D : Ends} {o : SO} {N : L2.St → Hp → Prop} (h : ∀ ρ, o = .nx ρ → ∀ σ H, Gd K fr ρ σ H → N σ H) (h2 : ∀ r ρ, o = .ret r ρ → SPost K cl W fr D o) (h3 : ∀ c ρ, o = .exc c ρ → SPost K cl W fr D o) (h4 : o ≠ .no) : SPost K cl W fr { D with nx := N, ct := N, bk := D.nx } o := by
  cases o with
  | nx ρ => exact h ρ rfl
  | ret r ρ => exact h2 r ρ rfl
  | exc c ρ => exact h3 c ρ rfl
  | no => exact absurd rfl h4
theorem s_while (hp : PassesOwn (model X.prog X.w) X.A X.env X.xe) (hc : PT X t (tT X.K cl W c)) (hb : PSs X body (tS X.K cl W F)) : PS X (.While t body [] pos) (tS X.K cl W (sWhile c F)) := (ps_while hp hc hb).imp fun D σ H ⟨fr, ρ, g, h⟩ => by
  refine ⟨fun m σ H => ∃ ρ, Gd X.K fr ρ σ H ∧ SPost X.K cl W fr D (whileF c F m ρ), ⟨FUEL, ρ, g, h⟩, ?_⟩
  rintro m σ H ⟨ρ, g, h⟩
  cases m with
  | zero => exact h.elim
  | succ m =>
    have h : SPost X.K cl W fr D (match c ρ with
      | .ok true => (match F ρ with
        | .nx ρ' => whileF c F m ρ'
        | o => o)
      | .ok false => .nx ρ
      | .exc c => .exc c ρ
      | .no => .no) := h
    refine tP g (fun e => by simp only [e] at h; exact h) (fun b e H' s g' => ?_) (fun c e H' g' => by simp only [e] at h; exact h σ H' g')
    cases b with
    | false =>
      simp only [e] at h
      rw [if_neg Bool.false_ne_true]
      exact h σ H' g'
    | true =>
      simp only [e] at h
      rw [if_pos rfl]
      refine ⟨fun σ' H' => ∃ ρ', Gd X.K fr ρ' σ' H' ∧ SPost X.K cl W fr D (whileF c F m ρ'), fun σ' H' ⟨ρ', g2, h2⟩ => ⟨m, by omega, ρ', g2, h2⟩, fr, ρ, g', ?_⟩
      refine SPost.loop (fun ρ' e2 σ2 H2 g2 => ?_) (fun r ρ' e2 => ?_) (fun c ρ' e2 => ?_) (fun e2 => ?_)
      · simp only [e2] at h; exact ⟨ρ', g2, h⟩
      · simp only [e2] at h; rw [e2]; exact h
      · simp only [e2] at h; rw [e2]; exact h
      · simp only [e2] at h; exact h
end

/-! ## frames for loops -/
section
variable {K : PySem.W.Frag} {fr : Fr} {ρ : Rho} {σ : L2.St} {H : Hp} {Ow : Nat → Addr → Prop}
/-- the frame in which the tuples of T stand and the list at a is walked -/
abbrev Fr.hold (fr : Fr) (T : Hp) (a : Addr) (xs : List V) (l : Nat → Option Addr) : Fr := ⟨fr.F0, fr.ioA, fun b => if b = a then some xs else fr.Pt b, l, T⟩
abbrev Fr.at (fr : Fr) (T : Hp) : Fr := ⟨fr.F0, fr.ioA, fr.Pt, fr.lnt, T⟩
theorem Good.enter (g : Good K fr ρ σ H Ow) : Good K (fr.at H) ρ σ H Ow :=
  ⟨g.len, fun i s e => by obtain ⟨v, h, q⟩ := g.sl i s e; exact ⟨v, h, by cases s <;> exact q⟩, g.off, g.one, g.mine, g.keep, g.iow, g.prot, g.wf, Tp.refl H⟩
theorem Good.leave {T : Hp} (g : Good K (fr.at T) ρ σ H Ow) (t : Tp fr.T0 T) : Good K fr ρ σ H Ow :=
  ⟨g.len, fun i s e => by obtain ⟨v, h, q⟩ := g.sl i s e; exact ⟨v, h, by cases s <;> exact q⟩, g.off, g.one, g.mine, g.keep, g.iow, g.prot, g.wf, t.trans g.tp⟩
/-- a new list is walked -/
theorem Good.enterP (g : Good K fr ρ σ H Ow) {a : Addr} {xs : List V} (hx : H a = some (.lst xs)) (no : ∀ i, ¬ Ow i a) (np : fr.Pt a = none) : Good K (fr.hold H a xs fr.lnt) ρ σ H Ow := by
  have pt : ∀ {b : Addr} {ys : List V}, fr.Pt b = some ys → b ≠ a := fun {b ys} e z => by rw [z, np] at e; cases e
  refine ⟨g.len, fun i s e => ?_, g.off, g.one, g.mine, g.keep, g.iow, fun b ys e => ?_, fun j b e => ?_, Tp.refl H⟩
  · obtain ⟨v, h, q⟩ := g.sl i s e
    refine ⟨v, h, ?_⟩
    cases s with
    | lent ds =>
      obtain ⟨⟨b, ys, e1, e2, e3, r⟩, z⟩ := q
      exact ⟨⟨b, ys, e1, e2, by show (if b = a then some xs else fr.Pt b) = some ys; rw [if_neg (pt e3)]; exact e3, r⟩, z⟩
    | _ => exact q
  · have e : (if b = a then some xs else fr.Pt b) = some ys := e
    by_cases hb : b = a
    · rw [if_pos hb] at e; cases e; rw [hb]; exact ⟨hx, no⟩
    · rw [if_neg hb] at e; exact g.prot b ys e
  · obtain ⟨ys, z⟩ := g.wf j b e
    exact ⟨ys, by show (if b = a then some xs else fr.Pt b) = some ys; rw [if_neg (pt z)]; exact z⟩
theorem Good.leaveP {T : Hp} {a : Addr} {xs : List V} (g : Good K (fr.hold T a xs fr.lnt) ρ σ H Ow) (t : Tp fr.T0 T) (np : fr.Pt a = none) (wf : ∀ j b, fr.lnt j = some b → ∃ ys, fr.Pt b = some ys) : Good K fr ρ σ H Ow := by
  have pt : ∀ {b : Addr} {ys : List V}, fr.Pt b = some ys → b ≠ a := fun {b ys} e z => by rw [z, np] at e; cases e
  refine ⟨g.len, fun i s e => ?_, g.off, g.one, g.mine, g.keep, g.iow, fun b ys e => ?_, wf, t.trans g.tp⟩
  · obtain ⟨v, h, q⟩ := g.sl i s e
    refine ⟨v, h, ?_⟩
    cases s with
    | lent ds =>
      obtain ⟨⟨b, ys, e1, e2, e3, r⟩, z⟩ := q
      obtain ⟨zs, e4⟩ := wf i b e2
      have e3 : (if b = a then some xs else fr.Pt b) = some ys := e3
      rw [if_neg (pt e4)] at e3
      exact ⟨⟨b, ys, e1, e2, e3, r⟩, z⟩
    | _ => exact q
  · exact g.prot b ys (by show (if b = a then some xs else fr.Pt b) = some ys; rw [if_neg (pt e)]; exact e)
/-- a name's own list is walked -/
theorem Good.lend (g : Good K fr ρ σ H Ow) {i : Nat} {ds : List D} {mk : List D → DV} (h : OwnAt ρ i ds mk) : ∃ a xs, σ[i]? = some (some (.ref a)) ∧ H a = some (.lst xs) ∧ Reps H xs ds ∧ fr.Pt a = none ∧ (mk = .own → fr.F0 a = none) ∧ (mk = .io → fr.ioA = some a) ∧
    Gd K (fr.hold H a xs fun k => if k = i then some a else fr.lnt k) (ρ.set i (some (.lent ds))) σ H := by
  obtain ⟨a, xs, e1, hb, r, ho, _⟩ := g.ownAt h
  have np : fr.Pt a = none := by
    cases e : fr.Pt a with
    | none => rfl
    | some ys => exact absurd ho ((g.prot a ys e).2 i)
  have il : i < ρ.length := by
    rcases h with ⟨e, _⟩ | ⟨e, _⟩ <;> exact (List.getElem?_eq_some_iff.mp e).1
  have pt : ∀ {b : Addr} {ys : List V}, fr.Pt b = some ys → b ≠ a := fun {b ys} e z => by rw [z, np] at e; cases e
  refine ⟨a, xs, e1, hb, r, np, fun em => ?_, fun em => ?_, ?_⟩
  · rcases h with ⟨e, _⟩ | ⟨e, e2⟩
    · obtain ⟨v, e3, q⟩ := g.sl i _ e
      rw [e1] at e3; cases e3
      obtain ⟨b, zs, e4, _, _, hF, _⟩ := q
      cases e4; exact hF
    · rw [e2] at em
      have := congrFun em []
      cases this
  · rcases h with ⟨e, e2⟩ | ⟨e, _⟩
    · rw [e2] at em
      have := congrFun em []
      cases this
    · obtain ⟨v, e3, q⟩ := g.sl i _ e
      rw [e1] at e3; cases e3
      obtain ⟨b, zs, e4, _, _, hF, _⟩ := q
      cases e4; exact hF
  refine ⟨fun j b => j ≠ i ∧ Ow j b, ⟨by simpa using g.len, fun j s e => ?_, fun j n b o => ?_, fun j k b h1 h2 => g.one j k b h1.2 h2.2, fun j b o => g.mine j b o.2, g.keep, g.iow, fun b ys e => ?_, fun j b e => ?_, Tp.refl H⟩⟩
  · rcases get_set e with ⟨rfl, q, hl⟩ | ⟨ne, e'⟩
    · cases q
      exact ⟨_, e1, ⟨a, xs, rfl, if_pos rfl, if_pos rfl, r⟩, fun b z => z.1 rfl⟩
    · obtain ⟨v, h1, q⟩ := g.sl j s e'
      refine ⟨v, h1, ?_⟩
      have eo : (fun b => j ≠ i ∧ Ow j b) = Ow j := by funext b; simp [ne]
      show SlOk K _ H j (fun b => j ≠ i ∧ Ow j b) v s
      rw [eo]
      cases s with
      | lent ds =>
        obtain ⟨⟨b, ys, e1, e2, e3, r⟩, z⟩ := q
        exact ⟨⟨b, ys, e1, by show (if j = i then some a else fr.lnt j) = some b; rw [if_neg ne]; exact e2, by show (if b = a then some xs else fr.Pt b) = some ys; rw [if_neg (pt e3)]; exact e3, r⟩, z⟩
      | _ => exact q
  · refine g.off j (fun s e => ?_) b o.2
    exact n s (by rw [List.getElem?_set_ne (Ne.symm o.1)]; exact e)
  · have e : (if b = a then some xs else fr.Pt b) = some ys := e
    by_cases hb' : b = a
    · rw [if_pos hb'] at e; cases e; rw [hb']
      exact ⟨hb, fun j o => o.1 (g.one j i a o.2 ho)⟩
    · rw [if_neg hb'] at e
      obtain ⟨h1, h2⟩ := g.prot b ys e
      exact ⟨h1, fun j o => h2 j o.2⟩
  · have e : (if j = i then some a else fr.lnt j) = some b := e
    show ∃ ys, (if b = a then some xs else fr.Pt b) = some ys
    by_cases hj : j = i
    · rw [if_pos hj] at e; cases e; exact ⟨xs, if_pos rfl⟩
    · rw [if_neg hj] at e
      obtain ⟨ys, z⟩ := g.wf j b e
      exact ⟨ys, by rw [if_neg (pt z)]; exact z⟩
theorem Good.unlend {T : Hp} {i : Nat} {a : Addr} {xs : List V} {ds : List D} {mk : List D → DV} (g : Good K (fr.hold T a xs fun k => if k = i then some a else fr.lnt k) ρ σ H Ow) (hi : ρ[i]? = some (some (.lent ds))) (t : Tp fr.T0 T) (np : fr.Pt a = none)
    (wf : ∀ j b, fr.lnt j = some b → ∃ ys, fr.Pt b = some ys) (hm : (mk = .own ∧ fr.F0 a = none) ∨ (mk = .io ∧ fr.ioA = some a)) : Gd K fr (ρ.set i (some (mk ds))) σ H := by
  have pt : ∀ {b : Addr} {ys : List V}, fr.Pt b = some ys → b ≠ a := fun {b ys} e z => by rw [z, np] at e; cases e
  have pa : (fr.hold T a xs fun k => if k = i then some a else fr.lnt k).Pt a = some xs := if_pos rfl
  obtain ⟨v, h1, ⟨b, ys, rfl, e2, e3, r⟩, z⟩ := g.sl i _ hi
  have eb : b = a := by
    have e2 : (if i = i then some a else fr.lnt i) = some b := e2
    rw [if_pos rfl] at e2; exact (Option.some.inj e2).symm
  subst eb
  have ey : xs = ys := Option.some.inj (pa.symm.trans e3)
  subst ey
  obtain ⟨hb, no⟩ := g.prot _ _ pa
  refine ⟨fun j c => if j = i then c = b else Ow j c, ⟨by simpa using g.len, fun j s e => ?_, fun j n c o => ?_, fun j k c o1 o2 => ?_, fun j c o => ?_, g.keep, g.iow, fun c zs e => ?_, wf, t.trans g.tp⟩⟩
  · rcases get_set e with ⟨rfl, q, hl⟩ | ⟨ne, e'⟩
    · cases q
      refine ⟨_, h1, ?_⟩
      have eo : (fun c => if j = j then c = b else Ow j c) = fun c => c = b := by funext c; simp
      show SlOk K fr H j (fun c => if j = j then c = b else Ow j c) (.ref b) (mk ds)
      rw [eo]
      rcases hm with ⟨rfl, hF⟩ | ⟨rfl, hF⟩
      · exact ⟨b, xs, rfl, hb, r, hF, fun c => Iff.rfl⟩
      · exact ⟨b, xs, rfl, hb, r, hF, fun c => Iff.rfl⟩
    · obtain ⟨v, h1, q⟩ := g.sl j s e'
      refine ⟨v, h1, ?_⟩
      have eo : (fun c => if j = i then c = b else Ow j c) = Ow j := by funext c; simp [ne]
      show SlOk K fr H j (fun c => if j = i then c = b else Ow j c) v s
      rw [eo]
      cases s with
      | lent es =>
        obtain ⟨⟨c, ys, f1, f2, f3, r⟩, z⟩ := q
        have f2 : (if j = i then some b else fr.lnt j) = some c := f2
        rw [if_neg ne] at f2
        obtain ⟨zs, f4⟩ := wf j c f2
        have f3 : (if c = b then some xs else fr.Pt c) = some ys := f3
        rw [if_neg (pt f4)] at f3
        exact ⟨⟨c, ys, f1, f2, f3, r⟩, z⟩
      | _ => exact q
  · by_cases hj : j = i
    · exact n (mk ds) (by rw [hj, List.getElem?_set_self (List.getElem?_eq_some_iff.mp hi).1])
    · simp only [if_neg hj] at o
      refine g.off j (fun s e => ?_) c o
      exact n s (by rw [List.getElem?_set_ne (Ne.symm hj)]; exact e)
  · by_cases hj : j = i
    · by_cases hk : k = i
      · rw [hj, hk]
      · simp only [if_pos hj] at o1
        simp only [if_neg hk] at o2
        rw [o1] at o2
        exact absurd o2 (no k)
    · by_cases hk : k = i
      · simp only [if_neg hj] at o1
        simp only [if_pos hk] at o2
        rw [o2] at o1
        exact absurd o1 (no j)
      · simp only [if_neg hj] at o1
        simp only [if_neg hk] at o2
        exact g.one j k c o1 o2
  · by_cases hj : j = i
    · simp only [if_pos hj] at o
      rw [o]
      rcases hm with ⟨_, hF⟩ | ⟨_, hF⟩
      · exact .inl hF
      · exact .inr hF
    · simp only [if_neg hj] at o
      exact g.mine j c o
  · obtain ⟨q1, q2⟩ := g.prot c zs (by show (if c = b then some xs else fr.Pt c) = some zs; rw [if_neg (pt e)]; exact e)
    refine ⟨q1, fun j o => ?_⟩
    by_cases hj : j = i
    · simp only [if_pos hj] at o
      exact pt e o
    · simp only [if_neg hj] at o
      exact q2 j o
end
end KT

set_option Elab.async false
set_option linter.all false
set_option maxRecDepth 100000
set_option maxHeartbeats 4000000
namespace KT
open PySem PySem.Spec PyProof.Rows L2

/-! ## targets -/
abbrev BF := D → Rho → Option Rho
def bName (j : Nat) : BF := fun d ρ => some (ρ.set j (some (.dat d)))
def bPair (i j : Nat) : BF := fun d ρ => match d with
  | .tup [x, y] => some ((ρ.set i (some (.dat x))).set j (some (.dat y)))
  | _ => none
def TgOk (K : PySem.W.Frag) (g : TG) (b : BF) : Prop := ∀ (fr : Fr) (ρ ρ' : Rho) (σ : L2.St) (H : Hp) (v : V) (d : D) (Q : L2.St → Hp → Prop), Gd K fr ρ σ H → Rep H v d → b d ρ = some ρ' → (∀ σ' H', Gd K fr ρ' σ' H' → Q σ' H') → g v σ H Q
theorem Gd.dat {K : PySem.W.Frag} {fr : Fr} {ρ : Rho} {σ : L2.St} {H : Hp} (g : Gd K fr ρ σ H) {i : Nat} {d : D} {v : V} (r : Rep H v d) : Gd K fr (ρ.set i (some (.dat d))) (σ.set i (some v)) H := by
  obtain ⟨Ow, g⟩ := g
  exact g.setDat r
theorem tg_name {K : PySem.W.Frag} {j : Nat} : TgOk K (gName j) (bName j) := by
  intro fr ρ ρ' σ H v d Q g r e k
  cases e
  exact k _ _ (g.dat r)
theorem tg_pair {K : PySem.W.Frag} {i j : Nat} : TgOk K (gTup K 2 (gCons (gName i) (gCons (gName j) gNil))) (bPair i j) := by
  intro fr ρ ρ' σ H v d Q g r e k
  unfold bPair at e
  split at e
  · rename_i x y
    cases e
    cases r with
    | tup e1 r1 =>
      cases r1 with
      | cons a b =>
        cases b with
        | cons a2 b2 =>
          cases b2
          exact ⟨_, _, rfl, SqT.of e1, rfl, _, _, rfl, _, _, rfl, rfl, k _ _ ((g.dat a).dat a2)⟩
  · cases e

/-! ## the loop -/
def loop (b : BF) (body : SF) : List D → SF
  | [] => fun ρ => .nx ρ
  | d :: ds => fun ρ => match b d ρ with
    | some ρ1 => (match body ρ1 with
      | .nx ρ2 => loop b body ds ρ2
      | o => o)
    | none => .no
/-- what an iterator yields -/
structure Yields (J : It) (items : List D) (St : Hp → Prop) : Prop where
  go : ∀ i H, St H → i < items.length → J.go i H
  yl : ∀ i H x H', St H → i < items.length → J.yld i H x H' → Same H H' ∧ ∃ d, items[i]? = some d ∧ Rep H' x d
  stop : ∀ i H, St H → items.length ≤ i → J.stop i H
section
variable {K : PySem.W.Frag} {cl : String → Addr} {W : WX}
theorem loop_ok {J : It} {items : List D} {St : Hp → Prop} {fr : Fr} {b : BF} {body : SF} {g : TG} {D : Ends} {ρ : Rho} {σ : L2.St} {H : Hp} (Y : Yields J items St) (hS : ∀ ρ σ H, Gd K fr ρ σ H → St H) (T : TgOk K g b)
    (gd : Gd K fr ρ σ H) (h : SPost K cl W fr D (loop b body items ρ)) :
    ∃ W' : Nat → Nat → L2.St → Hp → Prop, (∃ m, W' 0 m σ H) ∧ ∀ i m σ H, W' i m σ H →
      (J.stop i H ∧ D.nx σ H) ∨ (J.go i H ∧ ∃ N : L2.St → Hp → Prop, (∀ σ' H', N σ' H' → ∃ m', m' < m ∧ W' (i + 1) m' σ' H') ∧ ∀ x H', J.yld i H x H' → g x σ H' fun σ2 H2 => tS K cl W body { D with nx := N, ct := N, bk := D.nx } σ2 H2) := by
  refine ⟨fun i m σ H => m = items.length - i ∧ i ≤ items.length ∧ ∃ ρ, Gd K fr ρ σ H ∧ SPost K cl W fr D (loop b body (items.drop i) ρ), ⟨_, rfl, Nat.zero_le _, ρ, gd, by simpa using h⟩, ?_⟩
  rintro i m σ H ⟨rfl, hi, ρ, gd, h⟩
  by_cases hlt : i < items.length
  · refine .inr ⟨Y.go i H (hS _ _ _ gd) hlt, fun σ' H' => ∃ ρ', Gd K fr ρ' σ' H' ∧ SPost K cl W fr D (loop b body (items.drop (i + 1)) ρ'), fun σ' H' ⟨ρ', g', h'⟩ => ⟨items.length - (i + 1), by omega, rfl, hlt, ρ', g', h'⟩, fun x H' y => ?_⟩
    obtain ⟨s, d, e, r⟩ := Y.yl i H x H' (hS _ _ _ gd) hlt y
    rw [List.drop_eq_getElem_cons hlt] at h
    have ed : items[i] = d := by
      rw [List.getElem?_eq_getElem hlt] at e
      exact Option.some.inj e
    rw [ed] at h
    have h : SPost K cl W fr D (match b d ρ with
      | some ρ1 => (match body ρ1 with
        | .nx ρ2 => loop b body (items.drop (i + 1)) ρ2
        | o => o)
      | none => .no) := h
    cases eb : b d ρ with
    | none => simp only [eb] at h; exact h.elim
    | some ρ1 =>
      simp only [eb] at h
      obtain ⟨Ow, gd⟩ := gd
      refine T fr ρ ρ1 σ H' x d _ ⟨Ow, gd.same s⟩ r eb fun σ2 H2 g2 => ⟨fr, ρ1, g2, ?_⟩
      refine SPost.loop (fun ρ' e2 σ2 H2 g2 => ?_) (fun r ρ' e2 => ?_) (fun c ρ' e2 => ?_) (fun e2 => ?_)
      · simp only [e2] at h; exact ⟨ρ', g2, h⟩
      · simp only [e2] at h; rw [e2]; exact h
      · simp only [e2] at h; rw [e2]; exact h
      · simp only [e2] at h; exact h
  · have e : i = items.length := by omega
    subst e
    refine .inl ⟨Y.stop _ H (hS _ _ _ gd) (Nat.le_refl _), ?_⟩
    rw [List.drop_length] at h
    exact h σ H gd
end
/-! ### what is walked -/
section
variable {K : PySem.W.Frag}
theorem y_list {a : Addr} {xs : List V} {ds : List D} {T : Hp} (r : Reps T xs ds) : Yields (Itl K a) ds (fun H => H a = some (.lst xs) ∧ Tp T H) where
  go := fun i H h hi => by
    have hl := r.length
    exact ⟨xs, xs[i]'(by omega), SqL.of h.1, List.getElem?_eq_getElem _⟩
  yl := fun i H x H' h hi y => by
    obtain ⟨rfl, y⟩ := y
    refine ⟨Same.refl _, ?_⟩
    obtain ⟨d, e, q⟩ := r.getV (y xs (SqL.of h.1))
    exact ⟨d, e, Rep.mono h.2 _ _ q⟩
  stop := fun i H h hi => ⟨xs, SqL.of h.1, by rw [r.length]; exact hi⟩
theorem y_tup {a : Addr} {xs : List V} {ds : List D} {T : Hp} (ht : T a = some (.tup xs)) (r : Reps T xs ds) : Yields (Itt K a) ds (fun H => Tp T H) where
  go := fun i H h hi => by
    have hl := r.length
    exact ⟨xs, xs[i]'(by omega), SqT.of (h _ _ ht), List.getElem?_eq_getElem _⟩
  yl := fun i H x H' h hi y => by
    obtain ⟨rfl, y⟩ := y
    refine ⟨Same.refl _, ?_⟩
    obtain ⟨d, e, q⟩ := r.getV (y xs (SqT.of (h _ _ ht)))
    exact ⟨d, e, Rep.mono h _ _ q⟩
  stop := fun i H h hi => ⟨xs, SqT.of (h _ _ ht), by rw [r.length]; exact hi⟩
end
/-- back from a walked name -/
def unlend (i : Nat) (mk : List D → DV) (ρ : Rho) : Option Rho := match ρ[i]? with
  | some (some (.lent ds)) => some (ρ.set i (some (mk ds)))
  | _ => none
def unO (i : Nat) (mk : List D → DV) : SO → SO
  | .nx ρ => (match unlend i mk ρ with
    | some ρ' => .nx ρ'
    | none => .no)
  | .ret r ρ => (match unlend i mk ρ with
    | some ρ' => .ret r ρ'
    | none => .no)
  | .exc c ρ => (match unlend i mk ρ with
    | some ρ' => .exc c ρ'
    | none => .no)
  | .no => .no
def sForV (i : Nat) (b : BF) (body : SF) : SF := fun ρ => match ρ[i]? with
  | some (some (.own ds)) => unO i .own (loop b body ds (ρ.set i (some (.lent ds))))
  | some (some (.io ds)) => unO i .io (loop b body ds (ρ.set i (some (.lent ds))))
  | some (some (.bor ds)) => loop b body ds ρ
  | some (some (.lent ds)) => loop b body ds ρ
  | some (some (.dat (.tup ds))) => loop b body ds ρ
  | _ => .no
def sForE (f : EF) (b : BF) (body : SF) : SF := fun ρ => match f ρ with
  | .ok (.own ds) => loop b body ds ρ
  | .ok (.dat (.tup ds)) => loop b body ds ρ
  | .exc c => .exc c ρ
  | _ => .no
section
variable {K : PySem.W.Frag} {cl : String → Addr} {W : WX} {fr : Fr} {D : Ends} {ρ : Rho} {σ : L2.St} {H T : Hp} {o : SO}
theorem SPost.mono {fr' : Fr} (hF : fr'.F0 = fr.F0) (k : ∀ ρ σ H, Gd K fr' ρ σ H → Gd K fr ρ σ H) (h : SPost K cl W fr D o) : SPost K cl W fr' D o := by
  cases o with
  | nx ρ => exact fun σ H g => h σ H (k _ _ _ g)
  | ret r ρ => exact fun v σ H g q => h v σ H (k _ _ _ g) (by rw [← hF]; exact q)
  | exc c ρ => exact fun σ H g => h σ H (k _ _ _ g)
  | no => exact h
theorem SPost.unlent {fr' : Fr} {i : Nat} {mk : List KT.D → DV} (hF : fr'.F0 = fr.F0) (k : ∀ ρ σ H ds, ρ[i]? = some (some (.lent ds)) → Gd K fr' ρ σ H → Gd K fr (ρ.set i (some (mk ds))) σ H) (h : SPost K cl W fr D (unO i mk o)) : SPost K cl W fr' D o := by
  have un : ∀ {ρ ρ' : Rho}, unlend i mk ρ = some ρ' → ∃ ds, ρ[i]? = some (some (.lent ds)) ∧ ρ' = ρ.set i (some (mk ds)) := fun {ρ ρ'} e => by
    unfold unlend at e
    split at e
    · rename_i ds e1; cases e; exact ⟨ds, e1, rfl⟩
    · cases e
  cases o with
  | nx ρ =>
    have h : SPost K cl W fr D (match unlend i mk ρ with | some ρ' => .nx ρ' | none => .no) := h
    cases e : unlend i mk ρ with
    | none => rw [e] at h; exact h.elim
    | some ρ' =>
      rw [e] at h
      obtain ⟨ds, e1, rfl⟩ := un e
      exact fun σ H g => h σ H (k _ _ _ _ e1 g)
  | ret r ρ =>
    have h : SPost K cl W fr D (match unlend i mk ρ with | some ρ' => .ret r ρ' | none => .no) := h
    cases e : unlend i mk ρ with
    | none => rw [e] at h; exact h.elim
    | some ρ' =>
      rw [e] at h
      obtain ⟨ds, e1, rfl⟩ := un e
      exact fun v σ H g q => h v σ H (k _ _ _ _ e1 g) (by rw [← hF]; exact q)
  | exc c ρ =>
    have h : SPost K cl W fr D (match unlend i mk ρ with | some ρ' => .exc c ρ' | none => .no) := h
    cases e : unlend i mk ρ with
    | none => rw [e] at h; exact h.elim
    | some ρ' =>
      rw [e] at h
      obtain ⟨ds, e1, rfl⟩ := un e
      exact fun σ H g => h σ H (k _ _ _ _ e1 g)
  | no => exact h
end
theorem _root_.L2.PI.or {X : Cx} {tg e : Expr} {w w' : TI} (h : PI X tg e w) (h' : PI X tg e w') : PI X tg e (fun σ H R => w σ H R ∨ w' σ H R) := ⟨fun pins s σ H R I q => q.elim (h.run pins s σ H R I) (h'.run pins s σ H R I)⟩
section
variable {cl : String → Addr} {W : WX} {X : Cx} {pos p : Pos} {tg e : Expr} {body : List Stmt} {F : SF} {f : EF} {x : Str} {g : TG} {b : BF}
theorem s_forV (i : Nat) (hp : PassesOwn (model X.prog X.w) X.A X.env X.xe) (hc : X.calm = true) (hg : PG X tg g) (T : TgOk X.K g b) (hb : PSs X body (tS X.K cl W F)) (hN : X.N[i]? = some x := by rfl) (hv : Vis X.env.scope x := by first | exact Or.inl rfl | exact Or.inr (Or.inl rfl) | exact Or.inr (Or.inr rfl))
    (hd : (x == ("__debug__" : Str)) = false := by decide) (hcd : (x == ("__classdict__" : Str)) = false := by decide) (hs : ∀ y, foldedSetIterable (.Name x p) X.env y = pure y := by intro _; rfl) : PS X (.For tg (.Name x p) body [] pos) (tS X.K cl W (sForV i b F)) :=
  (ps_for hp hc ((pi_list (pe_var hN hv hd hcd)).or (pi_tup (pe_var hN hv hd hcd))) hg hb hs).imp fun D σ H ⟨fr, ρ, ⟨Ow, gd⟩, h⟩ => by
    have stays : ∀ {ds : List KT.D} {mk : List KT.D → DV}, OwnAt ρ i ds mk → SPost X.K cl W fr D (unO i mk (loop b F ds (ρ.set i (some (.lent ds))))) → tFor (fun σ H R => iList X.K (tVar i) σ H R ∨ iTup X.K (tVar i) σ H R) g (tS X.K cl W F) D σ H := fun {ds mk} ho h => by
      obtain ⟨a, xs, e1, hx, r, np, c1, c2, gl⟩ := gd.lend ho
      refine .inl ⟨.ref a, e1, a, rfl, ⟨xs, SqL.of hx⟩, ?_⟩
      refine loop_ok (fr := fr.hold H a xs fun k => if k = i then some a else fr.lnt k) (y_list r) (fun ρ' σ' H' ⟨Ow', g'⟩ => ⟨(g'.prot a xs (if_pos rfl)).1, g'.tp⟩) T gl (SPost.unlent (fr := fr) rfl (fun ρ' σ' H' es e2 ⟨Ow', g'⟩ => g'.unlend e2 gd.tp np gd.wf ?_) h)
      rcases ho with ⟨_, rfl⟩ | ⟨_, rfl⟩
      · exact .inl ⟨rfl, c1 rfl⟩
      · exact .inr ⟨rfl, c2 rfl⟩
    unfold sForV at h
    split at h
    · rename_i ds e1; exact stays (.inl ⟨e1, rfl⟩) h
    · rename_i ds e1; exact stays (.inr ⟨e1, rfl⟩) h
    · rename_i ds e1
      obtain ⟨v, e2, ⟨a, xs, rfl, hF, hi, r⟩, _⟩ := gd.sl i _ e1
      refine .inl ⟨.ref a, e2, a, rfl, ⟨xs, SqL.of (gd.keep _ _ hF hi)⟩, ?_⟩
      exact loop_ok (fr := fr.at H) (y_list r) (fun ρ' σ' H' ⟨Ow', g'⟩ => ⟨g'.keep _ _ hF hi, g'.tp⟩) T ⟨Ow, gd.enter⟩ (SPost.mono (fr := fr) rfl (fun ρ' σ' H' ⟨Ow', g'⟩ => ⟨Ow', g'.leave gd.tp⟩) h)
    · rename_i ds e1
      obtain ⟨v, e2, ⟨a, xs, rfl, hF, hi, r⟩, _⟩ := gd.sl i _ e1
      refine .inl ⟨.ref a, e2, a, rfl, ⟨xs, SqL.of (gd.prot _ _ hi).1⟩, ?_⟩
      exact loop_ok (fr := fr.at H) (y_list r) (fun ρ' σ' H' ⟨Ow', g'⟩ => ⟨(g'.prot _ _ hi).1, g'.tp⟩) T ⟨Ow, gd.enter⟩ (SPost.mono (fr := fr) rfl (fun ρ' σ' H' ⟨Ow', g'⟩ => ⟨Ow', g'.leave gd.tp⟩) h)
    · rename_i ds e1
      obtain ⟨v, e2, q, _⟩ := gd.sl i _ e1
      obtain ⟨a, xs, rfl, ht, r⟩ := rd_tup (K := X.K) q
      refine .inr ⟨.ref a, e2, a, rfl, ⟨xs, SqT.of ht⟩, ?_⟩
      exact loop_ok (fr := fr.at H) (y_tup ht r) (fun ρ' σ' H' ⟨Ow', g'⟩ => g'.tp) T ⟨Ow, gd.enter⟩ (SPost.mono (fr := fr) rfl (fun ρ' σ' H' ⟨Ow', g'⟩ => ⟨Ow', g'.leave gd.tp⟩) h)
    · exact h.elim
theorem s_forE (hp : PassesOwn (model X.prog X.w) X.A X.env X.xe) (hc : X.calm = true) (he : PE X e (tI X.K cl W f)) (hg : PG X tg g) (T : TgOk X.K g b) (hb : PSs X body (tS X.K cl W F)) (hs : ∀ y, foldedSetIterable e X.env y = pure y := by intro _; rfl) :
    PS X (.For tg e body [] pos) (tS X.K cl W (sForE f b F)) :=
  (ps_for hp hc ((pi_list he).or (pi_tup he)) hg hb hs).imp fun D σ H ⟨fr, ρ, gd, h⟩ => by
    unfold sForE at h
    cases e1 : f ρ with
    | no => simp only [e1] at h; exact h.elim
    | exc c =>
      simp only [e1] at h
      exact .inl (eP gd (fun e => by rw [e1] at e; cases e) (fun r e => by rw [e1] at e; cases e) (fun c' e H' g' => by rw [e1] at e; cases e; exact h σ H' g'))
    | ok r =>
      simp only [e1] at h
      cases r with
      | own ds =>
        refine .inl (eP gd (fun e => by rw [e1] at e; cases e) (fun r' e v H' s g' va => ?_) (fun c' e => by rw [e1] at e; cases e))
        rw [e1] at e; cases e
        obtain ⟨⟨a, rfl, hn⟩, ⟨a', xs, ea, hx, r⟩⟩ := va
        cases ea
        obtain ⟨Ow, g0⟩ := gd
        have g1 := g0.same s
        have no : ∀ i, ¬ Ow i a := fun i o => by
          obtain ⟨ys, z⟩ := g0.there o
          rw [hn] at z; cases z
        have np : fr.Pt a = none := by
          cases z : fr.Pt a with
          | none => rfl
          | some ys => have := (g0.prot a ys z).1; rw [hn] at this; cases this
        refine ⟨a, rfl, ⟨xs, SqL.of hx⟩, ?_⟩
        exact loop_ok (fr := fr.hold H' a xs fr.lnt) (y_list r) (fun ρ' σ' H2 ⟨Ow', g'⟩ => ⟨(g'.prot a xs (if_pos rfl)).1, g'.tp⟩) T ⟨Ow, g1.enterP hx no np⟩ (SPost.mono (fr := fr) rfl (fun ρ' σ' H2 ⟨Ow', g'⟩ => ⟨Ow', g'.leaveP g1.tp np g1.wf⟩) h)
      | dat d =>
        cases d with
        | tup ds =>
          refine .inr (eP gd (fun e => by rw [e1] at e; cases e) (fun r' e v H' s g' va => ?_) (fun c' e => by rw [e1] at e; cases e))
          rw [e1] at e; cases e
          obtain ⟨a, xs, rfl, ht, r⟩ := rd_tup va.rd
          obtain ⟨Ow, g1⟩ := g'
          refine ⟨a, rfl, ⟨xs, SqT.of ht⟩, ?_⟩
          exact loop_ok (fr := fr.at H') (y_tup ht r) (fun ρ' σ' H2 ⟨Ow', g'⟩ => g'.tp) T ⟨Ow, g1.enter⟩ (SPost.mono (fr := fr) rfl (fun ρ' σ' H2 ⟨Ow', g'⟩ => ⟨Ow', g'.leave g1.tp⟩) h)
        | _ => exact h.elim
      | _ => exact h.elim
end
end KT

set_option Elab.async false
set_option linter.all false
set_option maxRecDepth 100000
set_option maxHeartbeats 4000000
namespace KT
open PySem PySem.Spec PyProof.Rows L2

/-! ## ranges -/
def rangeD (lo : Int) (n : Nat) : List D := (List.range n).map fun (i : Nat) => D.int (lo + (i : Int))
theorem y_range {lo : Int} {n : Nat} : Yields (Itr lo n) (rangeD lo n) (fun _ => True) where
  go := fun i H _ hi => by
    have hi : i < n := by simpa [rangeD] using hi
    exact hi
  yl := fun i H x H' _ hi y => by
    obtain ⟨rfl, rfl⟩ := y
    have hi : i < n := by simpa [rangeD] using hi
    exact ⟨Same.refl _, _, by simp [rangeD, hi], .int _⟩
  stop := fun i H _ hi => by
    have hi : n ≤ i := by simpa [rangeD] using hi
    exact hi
def sForR1 (f : EF) (b : BF) (body : SF) : SF := fun ρ => match f ρ with
  | .ok (.dat (.int j)) => if -(2 ^ 62) ≤ j ∧ j < 2 ^ 62 then loop b body (rangeD 0 j.toNat) ρ else .no
  | .exc c => .exc c ρ
  | _ => .no
def sForR2 (f g : EF) (b : BF) (body : SF) : SF := fun ρ => match f ρ with
  | .ok (.dat (.int i)) => (match g ρ with
    | .ok (.dat (.int j)) => if -(2 ^ 62) ≤ i ∧ i < 2 ^ 62 ∧ -(2 ^ 62) ≤ j ∧ j < 2 ^ 62 then loop b body (rangeD i (j - i).toNat) ρ else .no
    | .exc c => .exc c ρ
    | _ => .no)
  | .exc c => .exc c ρ
  | _ => .no
section
variable {K : PySem.W.Frag} {cl : String → Addr} {W : WX} {fr : Fr} {ρ : Rho} {σ : L2.St} {H : Hp}
/-- an int, then what comes behind it -/
theorem eInt (g : Gd K fr ρ σ H) {f : EF} {o : Int → SO} {D : Ends} {Q : VK} (h : SPost K cl W fr D (match f ρ with | .ok (.dat (.int j)) => o j | .exc c => .exc c ρ | _ => .no))
    (k : ∀ j H', Same H H' → Gd K fr ρ σ H' → SPost K cl W fr D (o j) → Q (.int j) H') : tI K cl W f σ H Q := by
  refine eP g (fun e => by simp only [e] at h; exact h) (fun r e v H' s g' va => ?_) (fun c e H' g' => by simp only [e] at h; exact h σ H' g')
  simp only [e] at h
  split at h
  · rename_i j e1
    cases e1
    cases rd_int va.rd
    exact k j H' s g' h
  · rename_i e1; cases e1
  · exact h.elim
end
section
variable {cl : String → Addr} {W : WX} {X : Cx} {pos p p2 : Pos} {tg a c : Expr} {body : List Stmt} {F : SF} {f f2 : EF} {g : TG} {b : BF}
theorem s_forR1 (hp : PassesOwn (model X.prog X.w) X.A X.env X.xe) (hc : X.calm = true) (hgl : Gl X "range") (hm : X.mg "range" = none) (ha : PE X a (tI X.K cl W f)) (hg : PG X tg g) (T : TgOk X.K g b) (hb : PSs X body (tS X.K cl W F))
    (hs0 : starEach [a] X.env = (false, eval a X.env) :: starEach [] X.env := by rfl) (hs1 : starEach [a] X.env = [(false, eval a X.env)] := by rfl) (hs : ∀ y, foldedSetIterable (.Call (.Name "range" p) [a] [] p2) X.env y = pure y := by intro _; rfl) :
    PS X (.For tg (.Call (.Name "range" p) [a] [] p2) body [] pos) (tS X.K cl W (sForR1 f b F)) :=
  (ps_for hp hc (pi_range1 hgl hm (pa_cons ha pa_nil hs0) hs1) hg hb hs).imp fun D σ H ⟨fr, ρ, gd, h⟩ => by
    refine eInt gd h fun j H' s g' h => ?_
    by_cases hj : -(2 ^ 62) ≤ j ∧ j < 2 ^ 62
    · rw [if_pos hj] at h
      exact ⟨j, rfl, hj.1, hj.2, loop_ok y_range (fun _ _ _ _ => True.intro) T g' h⟩
    · rw [if_neg hj] at h; exact h.elim
theorem s_forR2 (hp : PassesOwn (model X.prog X.w) X.A X.env X.xe) (hc : X.calm = true) (hgl : Gl X "range") (hm : X.mg "range" = none) (ha : PE X a (tI X.K cl W f)) (h2 : PE X c (tI X.K cl W f2)) (hg : PG X tg g) (T : TgOk X.K g b) (hb : PSs X body (tS X.K cl W F))
    (hs0 : starEach [a, c] X.env = (false, eval a X.env) :: starEach [c] X.env := by rfl) (hs1 : starEach [c] X.env = (false, eval c X.env) :: starEach [] X.env := by rfl)
    (hs2 : starEach [a, c] X.env = [(false, eval a X.env), (false, eval c X.env)] := by rfl) (hs3 : starEach [c] X.env = [(false, eval c X.env)] := by rfl) (hs : ∀ y, foldedSetIterable (.Call (.Name "range" p) [a, c] [] p2) X.env y = pure y := by intro _; rfl) :
    PS X (.For tg (.Call (.Name "range" p) [a, c] [] p2) body [] pos) (tS X.K cl W (sForR2 f f2 b F)) :=
  (ps_for hp hc (pi_range2 hgl hm (pa_cons ha (pa_cons h2 pa_nil hs1) hs0) hs2 hs3) hg hb hs).imp fun D σ H ⟨fr, ρ, gd, h⟩ => by
    refine eInt gd h fun i H' s g' h => ?_
    refine eInt g' h fun j H2 s2 g2 h => ?_
    by_cases hj : -(2 ^ 62) ≤ i ∧ i < 2 ^ 62 ∧ -(2 ^ 62) ≤ j ∧ j < 2 ^ 62
    · rw [if_pos hj] at h
      exact ⟨i, j, rfl, hj, loop_ok y_range (fun _ _ _ _ => True.intro) T g2 h⟩
    · rw [if_neg hj] at h; exact h.elim
end

/-! ## comprehensions -/
def compF (b : BF) (c : TF) (f : EF) (ρ : Rho) : List D → Option (List D)
  | [] => some []
  | d :: ds => match b d ρ with
    | some ρ1 => (match c ρ1 with
      | .ok true => (match f ρ1 with
        | .ok (.dat r) => (compF b c f ρ ds).map (r :: ·)
        | _ => none)
      | .ok false => compF b c f ρ ds
      | _ => none)
    | none => none
def cYes : TF := fun _ => .ok true
theorem pts_yes {X : Cx} {cl : String → Addr} {W : WX} : PTs X [] (tT X.K cl W cYes) := ⟨fun pins s σ H Q I ⟨ρ, S, h⟩ => pts_nil.run pins s σ H Q I (h H (Same.refl H))⟩
abbrev WF : WX := fun _ _ _ _ => False
theorem takesF {X : Cx} : Takes X WF := takes0
theorem _root_.L2.PE.impI {X : Cx} {e : Expr} {t t' : TE} (h : PE X e t) (k : ∀ σ H Q, σ.length = X.N.length → t' σ H Q → t σ H Q) : PE X e t' := ⟨fun pins s σ H Q I q => h.run pins s σ H Q I (k σ H Q I.len q)⟩
theorem _root_.L2.PS.impI {X : Cx} {st : Stmt} {t t' : TS} (h : PS X st t) (k : ∀ D σ H, σ.length = X.N.length → t' D σ H → t D σ H) : PS X st t' := ⟨fun pins s σ H D I q => h.run pins s σ H D I (k D σ H I.len q)⟩
section
variable {K : PySem.W.Frag} {cl : String → Addr} {σ : L2.St} {H1 : Hp} {ρ : Rho}
theorem SlR.put {H : Hp} {i : Nat} {d : D} {v : V} (S : SlR K ρ σ H) (hl : i < σ.length) (r : Rep H v d) : SlR K (ρ.set i (some (.dat d))) (σ.set i (some v)) H := fun j s e => by
  rcases get_set e with ⟨rfl, q, _⟩ | ⟨ne, e'⟩
  · cases q
    exact ⟨v, List.getElem?_set_self hl, r⟩
  · rw [List.getElem?_set_ne (Ne.symm ne)]
    exact S j s e'
theorem comp_ok {J : It} {items : List D} {St : Hp → Prop} {j : Nat} {c : TF} {f : EF} {rs : List D} {Q : VK} (Y : Yields J items St) (hSt : ∀ H, Same H1 H → St H) (S : SlR K ρ σ H1) (hl : j < σ.length) (hc : compF (bName j) c f ρ items = some rs) (hz : items.length ≤ 16777216)
    (k : ∀ v H', Same H1 H' → ((∃ a, v = .ref a ∧ H1 a = none) ∧ LsOk H' v rs) → Q v H') : ∀ Dl, H1 Dl = none → ∃ W : Nat → Nat → Hp → Prop, (∃ m, W 0 m (upd H1 Dl (.lst []))) ∧ ∀ i m H, W i m H →
      (J.stop i H ∧ Q (.ref Dl) H) ∨ (J.go i H ∧ ∃ Nx : Hp → Prop, (∀ H', Nx H' → ∃ m', m' < m ∧ W (i + 1) m' H') ∧ ∀ x H', J.yld i H x H' → gName j x (wipe σ [j]) H' fun σ2 H2 => wipe σ2 [j] = wipe σ [j] ∧ tT K cl WF c σ2 H2 fun b H3 =>
        if b = true then tI K cl WF f σ2 H3 fun y H4 => ∃ acc, H4 Dl = some (.lst acc) ∧ acc.length < sizeLine ∧ Nx (upd H4 Dl (.lst (acc ++ [y]))) else Nx H3) := by
  intro Dl hD
  refine ⟨fun i m H => m = items.length - i ∧ i ≤ items.length ∧ Same H1 H ∧ ∃ acc rs0 rest, H Dl = some (.lst acc) ∧ Reps H acc rs0 ∧ compF (bName j) c f ρ (items.drop i) = some rest ∧ rs0 ++ rest = rs ∧ acc.length ≤ i,
    ⟨_, rfl, Nat.zero_le _, same_upd hD, [], [], rs, upd_same, .nil, by simpa using hc, rfl, Nat.le_refl _⟩, ?_⟩
  rintro i m H ⟨rfl, hi, s1, acc, rs0, rest, hA, rA, hrest, hrs, hacc⟩
  by_cases hlt : i < items.length
  · refine .inr ⟨Y.go i H (hSt _ s1) hlt, fun H' => ∃ m', m' < items.length - i ∧ (m' = items.length - (i + 1) ∧ i + 1 ≤ items.length ∧ Same H1 H' ∧ ∃ acc rs0 rest, H' Dl = some (.lst acc) ∧ Reps H' acc rs0 ∧ compF (bName j) c f ρ (items.drop (i + 1)) = some rest ∧ rs0 ++ rest = rs ∧ acc.length ≤ i + 1), fun H' h => h, fun x H' y => ?_⟩
    obtain ⟨s2, d, ed, rd⟩ := Y.yl i H x H' (hSt _ s1) hlt y
    have hdrop : items.drop i = d :: items.drop (i + 1) := by
      rw [List.drop_eq_getElem_cons hlt]
      have := (List.getElem?_eq_some_iff.mp ed).2
      rw [this]
    rw [hdrop] at hrest
    unfold compF at hrest
    simp only [bName] at hrest
    have e0 : (wipe σ [j]).set j (some x) = σ.set j (some x) := by
      show (σ.set j none).set j (some x) = _
      rw [List.set_set]
    show (wipe ((wipe σ [j]).set j (some x)) [j] = wipe σ [j] ∧ _)
    rw [e0]
    refine ⟨by show (σ.set j (some x)).set j none = σ.set j none; rw [List.set_set], ?_⟩
    have s12 := s1.trans s2
    have S1 : SlR K (ρ.set j (some (.dat d))) (σ.set j (some x)) H' := (S.mono s12).put hl rd
    refine ⟨_, S1, ?_⟩
    cases e1 : c (ρ.set j (some (.dat d))) with
    | no => simp only [e1] at hrest; cases hrest
    | exc _ => simp only [e1] at hrest; cases hrest
    | ok b =>
      cases b with
      | false =>
        simp only [e1] at hrest
        intro H3 s3
        rw [if_neg Bool.false_ne_true]
        have s13 := s12.trans s3
        exact ⟨_, by omega, rfl, hlt, s13, acc, rs0, rest, (s2.trans s3) _ _ hA, Reps.mono (s2.trans s3).tp _ _ rA, hrest, hrs, by omega⟩
      | true =>
        simp only [e1] at hrest
        intro H3 s3
        rw [if_pos rfl]
        refine ⟨_, S1.mono s3, ?_⟩
        cases e2 : f (ρ.set j (some (.dat d))) with
        | no => simp only [e2] at hrest; cases hrest
        | exc _ => simp only [e2] at hrest; cases hrest
        | ok r =>
          simp only [e2] at hrest
          cases r with
          | dat r =>
            simp only [Option.map_eq_some_iff] at hrest
            obtain ⟨rest', hr', er⟩ := hrest
            intro v H4 s4 va
            have s14 := (s12.trans s3).trans s4
            have sH := (s2.trans s3).trans s4
            have hA4 := sH _ _ hA
            have tp : Tp H4 (upd H4 Dl (.lst (acc ++ [v]))) := fun b zs e => by rw [upd_ne (ne_of e hA4 (fun z => by cases z))]; exact e
            refine ⟨acc, hA4, Nat.lt_of_lt_of_le (by omega) (lim_line (Nat.le_refl _)), _, by omega, rfl, hlt, fun b o e => ?_, _, rs0 ++ [r], rest', upd_same, Reps.mono tp _ _ ((Reps.mono sH.tp _ _ rA).append (.cons va .nil)), hr', ?_, by rw [List.length_append]; exact Nat.add_le_add_right hacc 1⟩
            · rw [upd_ne (ne_of_none e hD)]; exact s14 _ _ e
            · rw [List.append_assoc, ← hrs, ← er]; rfl
          | _ => cases hrest
  · refine .inl ⟨Y.stop i H (hSt _ s1) (by omega), k _ _ s1 ⟨⟨_, rfl, hD⟩, _, acc, rfl, hA, ?_⟩⟩
    rw [List.drop_eq_nil_of_le (by omega)] at hrest
    unfold compF at hrest
    cases hrest
    rw [List.append_nil] at hrs
    exact hrs ▸ rA
end
/-! sources -/
inductive LO where
  | ok (ds : List D)
  | exc (c : String)
  | no
abbrev LF := Rho → LO
def tSrc (K : PySem.W.Frag) (cl : String → Addr) (W : WX) (s : LF) : TI := fun σ H R => ∃ ρ, SlR K ρ σ H ∧ match s ρ with
  | .ok ds => ∀ (J : It) (H' : Hp) (St : Hp → Prop), Same H H' → Yields J ds St → (∀ H2, Same H' H2 → St H2) → R J H'
  | .exc c => ∀ H', Same H H' → W (.ref (cl c)) none σ H'
  | .no => False
def srcE (f : EF) : LF := fun ρ => match f ρ with
  | .ok (.own ds) => .ok ds
  | .ok (.bor ds) => .ok ds
  | .ok (.dat (.tup ds)) => .ok ds
  | .ok _ => .no
  | .exc c => .exc c
  | .no => .no
def srcR1 (f : EF) : LF := fun ρ => match f ρ with
  | .ok (.dat (.int j)) => if -(2 ^ 62) ≤ j ∧ j < 2 ^ 62 then .ok (rangeD 0 j.toNat) else .no
  | .exc c => .exc c
  | _ => .no
def eComp (s : LF) (j : Nat) (c : TF) (f : EF) : EF := fun ρ => match s ρ with
  | .ok ds => if ds.length ≤ 16777216 then (match compF (bName j) c f ρ ds with
    | some rs => .ok (.own rs)
    | none => .no) else .no
  | .exc c => .exc c
  | .no => .no
section
variable {cl : String → Addr} {W : WX} {X : Cx} {pos p p2 : Pos} {tg e a elt iter : Expr} {ifs : List Expr} {f : EF} {c : TF} {s : LF} {scope : Scope} {j : Nat} {x : Str}
theorem src_e (he : PE X e (tI X.K cl W f)) : PI X tg e (tSrc X.K cl W (srcE f)) := by
  refine ⟨fun pins st σ H R I ⟨ρ, S, h⟩ => ?_⟩
  unfold srcE at h
  cases e1 : f ρ with
  | no => simp only [e1] at h
  | exc c =>
    simp only [e1] at h
    exact (pi_list he).run pins st σ H R I ⟨ρ, S, by rw [e1]; exact h⟩
  | ok r =>
    simp only [e1] at h
    have lst : ∀ {ds : List D}, (∀ v H', Same H H' → ValOk X.K H H' v r → LsOk H' v ds) → (∀ (J : It) (H' : Hp) (St : Hp → Prop), Same H H' → Yields J ds St → (∀ H2, Same H' H2 → St H2) → R J H') → iList X.K (tI X.K cl W f) σ H R := fun {ds} g h => by
      refine ⟨ρ, S, ?_⟩
      rw [e1]
      intro v H' s' va
      obtain ⟨b, xs, rfl, hx, r⟩ := g v H' s' va
      exact ⟨b, rfl, ⟨xs, SqL.of hx⟩, h _ H' _ s' (y_list r) fun H2 s2 => ⟨s2 _ _ hx, s2.tp⟩⟩
    cases r with
    | own ds => exact (pi_list he).run pins st σ H R I (lst (fun v H' s' va => va.2) h)
    | bor ds => exact (pi_list he).run pins st σ H R I (lst (fun v H' s' va => va) h)
    | dat d =>
      cases d with
      | tup ds =>
        refine (pi_tup he).run pins st σ H R I ⟨ρ, S, ?_⟩
        rw [e1]
        intro v H' s' va
        obtain ⟨b, xs, rfl, hx, r⟩ := rd_tup va.rd
        exact ⟨b, rfl, ⟨xs, SqT.of hx⟩, h _ H' _ s' (y_tup hx r) fun H2 s2 => s2.tp⟩
      | _ => simp only [e1] at h
    | _ => simp only [e1] at h
theorem src_r1 (hgl : Gl X "range") (hm : X.mg "range" = none) (ha : PE X a (tI X.K cl W f)) (hs0 : starEach [a] X.env = (false, eval a X.env) :: starEach [] X.env := by rfl) (hs1 : starEach [a] X.env = [(false, eval a X.env)] := by rfl) :
    PI X tg (.Call (.Name "range" p) [a] [] p2) (tSrc X.K cl W (srcR1 f)) := by
  refine ⟨fun pins st σ H R I ⟨ρ, S, h⟩ => (pi_range1 hgl hm (pa_cons ha pa_nil hs0) hs1).run pins st σ H R I ⟨ρ, S, ?_⟩⟩
  unfold srcR1 at h
  cases e1 : f ρ with
  | no => simp only [e1] at h
  | exc c => simp only [e1] at h; exact h
  | ok r =>
    simp only [e1] at h
    intro v H' s' va
    cases r with
    | dat d =>
      cases d with
      | int j =>
        cases rd_int va.rd
        by_cases hj : -(2 ^ 62) ≤ j ∧ j < 2 ^ 62
        · simp only [if_pos hj] at h
          exact ⟨j, rfl, hj.1, hj.2, h _ H' _ s' y_range fun _ _ => True.intro⟩
        · simp only [if_neg hj] at h
      | _ => simp only at h
    | _ => simp only at h
theorem comp_tLc (hl : ∀ σ : L2.St, σ.length = X.N.length → j < σ.length) {σ : L2.St} {H : Hp} {Q : VK} (hlen : σ.length = X.N.length) (h : tI X.K cl W (eComp s j c f) σ H Q) : tLc (tSrc X.K cl W s) (gName j) (tT X.K cl WF c) (tI X.K cl WF f) [j] σ H Q := by
  obtain ⟨ρ, S, h⟩ := h
  refine ⟨ρ, S, ?_⟩
  unfold eComp at h
  cases e1 : s ρ with
  | no => simp only [e1] at h; exact h
  | exc c => simp only [e1] at h; exact h
  | ok ds =>
    simp only [e1] at h
    intro J H' St s' Y hSt
    split at h
    · rename_i hz
      cases e2 : compF (bName j) c f ρ ds with
      | none => simp only [e2] at h; exact h.elim
      | some rs =>
        simp only [e2] at h
        exact comp_ok Y hSt (S.mono s') (hl σ hlen) e2 hz fun v H2 s2 q => h v H2 (s'.trans s2) (ValOk.back (r := .own rs) s' q)
    · exact h.elim
theorem i_comp (j : Nat) (hc : X.calm = true) (hN : X.N.Nodup) (hi : PI X (.Name x p) iter (tSrc X.K cl W s)) (ok : BlkOk X.N X.env.scope scope [(x, j)]) (hj : j < X.N.length)
    (hg : ∀ (s : Shared) (H : Hp) (C : Addr) (cl : List (Str × Addr)) (fp : List Addr), PG (X.blk s H scope (compEnvC scope cl C X.env) fp) (.Name x p) (gName j)) (ht : ∀ (s : Shared) (H : Hp) (C : Addr) (cl' : List (Str × Addr)) (fp : List Addr), PTs (X.blk s H scope (compEnvC scope cl' C X.env) fp) ifs (tT X.K cl WF c))
    (he : ∀ (s : Shared) (H : Hp) (C : Addr) (cl' : List (Str × Addr)) (fp : List Addr), PE (X.blk s H scope (compEnvC scope cl' C X.env) fp) elt (tI X.K cl WF f)) (hs : ∀ x, foldedSetIterable iter X.env x = pure x := by intro _; rfl) :
    PE X (.ListComp elt [⟨.Name x p, iter, ifs, 0⟩] scope pos) (tI X.K cl W (eComp s j c f)) :=
  (pe_lc hc hN hi ok hg ht he hs).impI fun σ H Q hlen h => comp_tLc (fun σ e => by rw [e]; exact hj) hlen h
/-- y = [..] -/
theorem s_setLc (i j : Nat) {y : Str} {py spos : Pos} (hc : X.calm = true) (hN : X.N.Nodup) (hsw : swapsWith (.ListComp elt [⟨.Name x p, iter, ifs, 0⟩] scope pos) (some (.Name y py)) spos.line X.env = pure true) (hi : PI X (.Name x p) iter (tSrc X.K cl W s)) (ok : BlkOk X.N X.env.scope scope [(x, j)]) (hj : j < X.N.length)
    (hg : ∀ (s : Shared) (H : Hp) (C : Addr) (cl : List (Str × Addr)) (fp : List Addr), PG (X.blk s H scope (compEnvC scope cl C X.env) fp) (.Name x p) (gName j)) (ht : ∀ (s : Shared) (H : Hp) (C : Addr) (cl' : List (Str × Addr)) (fp : List Addr), PTs (X.blk s H scope (compEnvC scope cl' C X.env) fp) ifs (tT X.K cl WF c))
    (he : ∀ (s : Shared) (H : Hp) (C : Addr) (cl' : List (Str × Addr)) (fp : List Addr), PE (X.blk s H scope (compEnvC scope cl' C X.env) fp) elt (tI X.K cl WF f)) (hs : ∀ x, foldedSetIterable iter X.env x = pure x := by intro _; rfl)
    (hy : X.N[i]? = some y := by rfl) (hyl : X.env.scope.names.lookup y = some .local := by rfl) :
    PS X (.Assign [.Name y py] (.ListComp elt [⟨.Name x p, iter, ifs, 0⟩] scope pos) spos) (tS X.K cl W (sAsg i (eComp s j c f))) :=
  (ps_setLc hc hN hy hyl hsw hi ok hg ht he hs).impI fun D σ H hlen h => by
    refine comp_tLc (fun σ e => by rw [e]; exact hj) hlen ?_
    obtain ⟨fr, ρ, g, h⟩ := h
    unfold sAsg at h
    refine eP g (fun e => by rw [e] at h; exact h) (fun r e v H' s' g' va => ?_) (fun c e H' g' => by rw [e] at h; exact h σ H' g')
    simp only [e] at h
    cases k : keepable r with
    | none => simp only [k] at h; exact h.elim
    | some s => simp only [k] at h; exact h _ _ (g.set s' k va)
end
end KT

set_option Elab.async false
set_option linter.all false
set_option maxRecDepth 100000
set_option maxHeartbeats 4000000
namespace KT
open PySem PySem.Spec PyProof.Rows L2

/-! ## try: .. except C as e: .. -/
inductive TO2 where
  | ret (r : DV)
  | asg (j : Nat) (r : DV)
def TO2.so (o : TO2) (ρ : Rho) : SO := match o with
  | .ret r => .ret r ρ
  | .asg j r => .nx (ρ.set j (some r))
def sTry (i : Nat) (cs : List String) (O : String → TO2) (F : SF) : SF := fun ρ => match F ρ with
  | .exc c ρ' => if c ∈ cs ∧ i < ρ'.length then (match O c with
    | .ret r => .ret r (ρ'.set i none)
    | .asg j r => if i = j then .no else .nx ((ρ'.set j (some r)).set i none)) else .no
  | o => o
section
variable {cl : String → Addr} {Wout : WX} {X : Cx} {x n : Str} {i : Nat} {body suite : List Stmt} {b₀ : Stmt} {np pos pos' : Pos} {F : SF}
theorem s_try (i : Nat) {C : String} {cs : List String} {O : String → TO2} {SU : String → Addr → SF} (hs : X.stack = X.env :: X.outer) (hf : X.env.frame = some X.env.locals) (hN : X.N.Nodup) (hi : X.N[i]? = some n) (hln : X.env.kindOf n = some .local) (hc : Names X x (.ref (cl C))) (tk : Takes X Wout)
    (hex : ∀ c ∈ cs, PySem.W.exmOne X.K (.ref (cl c)) (.ref (cl C)) = some true)
    (hb : ∀ (W : WX) (pn : List (Addr × Obj)) (xe : Value → Shared → Prop), Takes (X.tr pn xe) W → PassesOwn (model X.prog X.w) X.A X.env xe → PSs (X.tr pn xe) body (tS X.K cl W F))
    (hsu : ∀ (c : String), c ∈ cs → ∀ (a : Addr) (oe : Obj) (pn : List (Addr × Obj)), Zc (.ref (cl c)) none oe → (∃ vs, oe.data = .fields vs) → PSs (X.suite a ((a, oe) :: pn)) (b₀ :: suite) (tS X.K cl WF (SU c a)))
    (hO : ∀ (c : String), c ∈ cs → ∀ (a : Addr) (ρ : Rho), ρ[i]? = some (some (.exc (c, a))) → SU c a ρ = (O c).so ρ) :
    PS X (.Try body [.ExceptHandler (some (.Name x np)) (some n) (b₀ :: suite) pos'] [] [] pos) (tS X.K cl Wout (sTry i cs O F)) :=
  (ps_try_as (ts := fun a cls d D σ H => ∃ c, c ∈ cs ∧ cls = .ref (cl c) ∧ d = none ∧ tS X.K cl WF (SU c a) D σ H) (tb := fun W => tS X.K cl W F) hs hf hN hi hln hc tk hb (fun a oe cls d pn hz hd => ⟨fun pins s σ H D I ⟨c, h1, h2, h3, h4⟩ => by
    subst h2 h3
    exact (hsu c h1 a oe pn hz hd).run pins s σ H D I h4⟩)).imp fun D σ H ⟨fr, ρ, g, h⟩ => by
    refine ⟨fr, ρ, g, ?_⟩
    unfold sTry at h
    cases e : F ρ with
    | no => simp only [e] at h; exact h
    | nx ρ' => simp only [e] at h; exact h
    | ret r ρ' => simp only [e] at h; exact h
    | exc c ρ' =>
      simp only [e] at h
      by_cases hq : c ∈ cs ∧ i < ρ'.length
      · rw [if_pos hq] at h
        intro σ1 H1 g1
        refine ⟨true, hex c hq.1, fun _ a ha => ⟨c, hq.1, rfl, rfl, fr, ρ'.set i (some (.exc (c, a))), ?_, ?_⟩, fun q => by cases q⟩
        · obtain ⟨Ow, g1⟩ := g1
          exact g1.put (P := fun _ => False) (fun s' e => by cases e; exact ⟨_, rfl, rfl, fun _ z => z⟩) (fun e => by cases e) (fun _ _ z => z.elim) (fun _ z => z.elim) fun _ _ _ z => z
        · rw [hO c hq.1 a _ (List.getElem?_set_self hq.2)]
          cases eO : O c with
          | ret r =>
            rw [eO] at h
            intro v σ2 H2 ⟨Ow2, g2⟩ rv
            have g3 := g2.setNone (i := i) (x := none)
            rw [List.set_set] at g3
            exact h v _ H2 g3 rv
          | asg j r =>
            rw [eO] at h
            by_cases hij : i = j
            · simp only [if_pos hij] at h; exact h.elim
            · simp only [if_neg hij] at h
              intro σ2 H2 ⟨Ow2, g2⟩
              have g3 := g2.setNone (i := i) (x := none)
              rw [List.set_comm _ _ hij, List.set_set] at g3
              exact h _ H2 g3
      · rw [if_neg hq] at h; exact h.elim
end
/-! ### isinstance(e, C) within -/
def eIsE (i : Nat) (c : String) (a : Addr) (b : Bool) : EF := fun ρ => match ρ[i]? with
  | some (some (.exc p)) => if p = (c, a) then .ok (.dat (.bl b)) else .no
  | _ => .no
theorem eIsE_at {i : Nat} {c : String} {a : Addr} {b : Bool} {ρ : Rho} (h : ρ[i]? = some (some (.exc (c, a)))) : eIsE i c a b ρ = .ok (.dat (.bl b)) := by
  unfold eIsE
  rw [h]
  simp
section
variable {cl : String → Addr} {W : WX} {X : Cx} {a : Addr} {oe : Obj} {pn : List (Addr × Obj)} {c : String} {p pos ep : Pos} {ce : Expr} {e : Str} {v : V} {cv : Value} {b : Bool}
theorem i_isE (i : Nat) (C : ExcC X.K (cl c)) (hz : Zc (.ref (cl c)) none oe) (hf : ∃ vs, oe.data = .fields vs) (hcv : ∀ u, RelV v u → u = cv) (hk : PySem.W.kitOne X.K (.ref (cl c)) cv = some b) (hg : Gl X "isinstance") (hm : X.mg "isinstance" = none) (hc : PE (X.suite a ((a, oe) :: pn)) ce (tC v))
    (hN : X.N[i]? = some e := by rfl) (hv : Vis X.env.scope e := by first | exact Or.inl rfl | exact Or.inr (Or.inl rfl) | exact Or.inr (Or.inr rfl)) (hd : (e == ("__debug__" : Str)) = false := by decide) (hcd : (e == ("__classdict__" : Str)) = false := by decide)
    (hs : starEach [.Name e ep, ce] X.env = (false, eval (.Name e ep) X.env) :: starEach [ce] X.env := by rfl) (hs2 : starEach [ce] X.env = (false, eval ce X.env) :: starEach [] X.env := by rfl) (hpl : (backTo pos (starEach [ce] X.env)).any (·.1) = false := by rfl) :
    PE (X.suite a ((a, oe) :: pn)) (.Call (.Name "isinstance" p) [.Name e ep, ce] [] pos) (tI X.K cl W (eIsE i c a b)) :=
  (pe_callB (X := X.suite a ((a, oe) :: pn)) (call_isE C hz hf) hg hm PyProof.Rows.boot_isinstance (pa_cons (pe_var hN hv hd hcd) (pa_cons hc pa_nil hs2) hs) (by decide) (by decide) hs hpl).imp fun σ H Q ⟨ρ, S, h⟩ => by
    unfold eIsE at h
    split at h
    · rename_i q e1
      split at h
      · rename_i eq
        obtain ⟨w, e2, r2⟩ := S _ _ e1
        have r2 : w = .ref q.2 := r2
        rw [eq] at r2
        refine ⟨w, e2, ?_⟩
        rw [r2]
        exact ⟨v, cv, b, rfl, hcv, hk, h _ H (Same.refl H) (.bl _)⟩
      · exact h.elim
    · exact h.elim
end
end KT

set_option Elab.async false
set_option linter.all false
set_option maxRecDepth 100000
set_option maxHeartbeats 4000000
namespace KT
open PySem PySem.Spec PyProof.Rows L2

theorem fd_at {K : PySem.W.Frag} {x qual : Str} {params : Arguments} {body : List Stmt} {scope : Scope} {f : Addr} {fd : FuncData} (F : FunD K x qual params body scope [] [] f fd) : ∃ oc od osl, K.lookup f = some ⟨oc, od, .func fd, osl⟩ := by
  obtain ⟨oc, od, dV, kV, doc, pm, an, cdv, ct, osl, e, lk, _⟩ := F.ex
  exact ⟨oc, od, osl, lk⟩
theorem hu2_of {k : Nat} {A : Around} (hr : Room k A) : A.units + 200 < cLine := by have := hr.un; omega
abbrev clK (K : PySem.W.Frag) : String → Addr := fun s => He.ga K (Str.ofString s)
section
variable {P : Program} {w : World} {K : PySem.W.Frag} {mg : Str → Option Value} {base : Heap} {cl : String → Addr} {x : Str} {ps : List Str} {n m : Nat} {F : FF}
theorem FnK.up (h : FnK P w K mg base cl x ps n F) (hl : n ≤ m) : FnK P w K mg base cl x ps m F := by
  obtain ⟨⟨f, fd, G, r⟩, ar⟩ := h
  exact ⟨⟨f, fd, G.mono hl, r⟩, ar⟩
theorem fnk_mk {qual : Str} {params : Arguments} {body : List Stmt} {scope : Scope} {N : List Str} {k : Nat} {b : SF} {f : Addr} {fd : FuncData} (FD : FunD K x qual params body scope [] [] f fd) (g : mg x = some (.ref f)) (S : FnScope N ps scope) (hm : ps.length ≤ N.length)
    (hbi : ∀ (kV doc pm : Value) (an : Option Addr) (cdv ct : Value) (us : List Value), us.length = ps.length → bindArgs (PySem.W.fnOf x qual params body scope .none kV doc pm an cdv ct) ⟨us, []⟩ = pure (ps.zip us))
    (hbody : ∀ (cdv : Value) (A : Around) (outer : List Env) (s : Shared) (H : Hp) (E : XK), Room k (A.deeper (envOfC qual scope s.heap.objs.size f cdv)) →
      Takes (cxOf (L2.CX P w) P w K mg base N qual scope f cdv A outer s H E) (fun cls d _ H => E cls d H) →
      PSs (cxOf (L2.CX P w) P w K mg base N qual scope f cdv A outer s H E) body (tS K cl (fun cls d _ H => E cls d H) b)) :
    FnK P w K mg base cl x ps (k + 1) (run N.length ps.length b) :=
  ⟨⟨f, fd, fn_ok FD S hm hbody, g, FD.kp, FD.bindsN hbi, FD.bindsA hbi, fd_at FD⟩, run_ar⟩
theorem fnk_zero {qual : Str} {params : Arguments} {body : List Stmt} {scope : Scope} {f : Addr} {fd : FuncData} (FD : FunD K x qual params body scope [] [] f fd) (g : mg x = some (.ref f))
    (hbi : ∀ (kV doc pm : Value) (an : Option Addr) (cdv ct : Value) (us : List Value), us.length = ps.length → bindArgs (PySem.W.fnOf x qual params body scope .none kV doc pm an cdv ct) ⟨us, []⟩ = pure (ps.zip us)) :
    FnK P w K mg base cl x ps 0 (fun _ => .no) :=
  ⟨⟨f, fd, fn_none, g, FD.kp, FD.bindsN hbi, FD.bindsA hbi, fd_at FD⟩, fun _ _ => rfl⟩
end

/-! ## the Hook, by one more Bool -/
def obsX (xt : PySem.W.Frag → Bool) (fa : List He.Fa) (fn : List He.DefD) (K : PySem.W.Frag) : Bool × He.AlD := (xt K, He.obsD fa fn K)
def obsXG (n : Nat) (xt : PySem.W.Frag → Bool) (fa : List He.Fa) (fn : List He.DefD) (g : Addr → Option Obj) : Bool × He.AlD := obsX xt fa fn (He.frG g (He.asD g n))
def hookX (n : Nat) (xt : PySem.W.Frag → Bool) (fa : List He.Fa) (fn : List He.DefD) : PySem.W.Hook where
  α := Bool × He.AlD
  obs := fun s => obsXG n xt fa fn s.heap.get?
  val := fun _ => (true, He.valD fn)
  says := fun _ h => ∃ K : PySem.W.Frag, K.In h ∧ obsX xt fa fn K = (true, He.valD fn)
  of := fun _ _ e => ⟨_, He.frG_in, e⟩
  keeps := fun _ _ _ ⟨K, hK, c⟩ k => ⟨K, PySem.W.Frag.In.keeps hK k, c⟩
theorem obsXG_eq {n : Nat} {xt : PySem.W.Frag → Bool} {fa : List He.Fa} {fn : List He.DefD} {g : Addr → Option Obj} {s : Shared} (h : ∀ a, g a = s.heap.get? a) : obsXG n xt fa fn g = (hookX n xt fa fn).obs s := by
  have e : g = s.heap.get? := funext h
  rw [e] <;> rfl
/-! ### what a class of exceptions tells -/
def excB (K : PySem.W.Frag) (x : Str) : Bool :=
  He.eqO (PySem.W.findIn K (.ref (He.ga K x)) "__getattribute__") (some (some (.builtin "BaseException.__getattribute__"))) && (He.eqO (PySem.W.findIn K (.ref (He.ga K x)) "__getattr__") (some none) && (PySem.W.hasDictIn K (He.ga K x) && (He.eqO (PySem.W.findIn K (.ref (He.ga K x)) "__class__") (some (some (.builtin "object.__class__"))) &&
  (decide (PySem.W.specialIn K (.builtin "object.__class__") "__get__" = some (some (.builtin "getset_descriptor.__get__"))) && (decide (PySem.W.takesIn K (.builtin "object.__class__") = some true) && (decide (PySem.W.mroIn K (He.ga K x) (.type "object") = some true) && decide (PySem.W.subIn K (.ref (He.ga K x)) (.type "BaseException") = some true)))))))
theorem excB_ok {K : PySem.W.Frag} {x : Str} (h : excB K x = true) : ExcC K (He.ga K x) := by
  obtain ⟨h1, h⟩ := He.ba h
  obtain ⟨h2, h⟩ := He.ba h
  obtain ⟨h3, h⟩ := He.ba h
  obtain ⟨h4, h⟩ := He.ba h
  obtain ⟨h5, h⟩ := He.ba h
  obtain ⟨h6, h⟩ := He.ba h
  obtain ⟨h7, h8⟩ := He.ba h
  exact ⟨He.eqO_ok h1, He.eqO_ok h2, of_decide_eq_true h8, h3, He.eqO_ok h4, of_decide_eq_true h5, of_decide_eq_true h6, of_decide_eq_true h7⟩
/-- isinstance of a caught one: of an own class, of ValueError -/
def kitB2 (K : PySem.W.Frag) (x y : Str) (b : Bool) : Bool := decide (PySem.W.kitOne K (.ref (He.ga K x)) (.ref (He.ga K y)) = some b)
def kitV (K : PySem.W.Frag) (x : Str) : Bool := decide (PySem.W.kitOne K (.ref (He.ga K x)) (.type "ValueError") = some true)
/-- the extra facts of a list of (class, its exceptions) -/
inductive Xf where
  | exc (x : Str)
  | kit (x y : Str) (b : Bool)
  | val (x : Str)
def Xf.ok (K : PySem.W.Frag) : Xf → Bool
  | .exc x => excB K x
  | .kit x y b => kitB2 K x y b
  | .val x => kitV K x
def xtOf (xs : List Xf) (K : PySem.W.Frag) : Bool := xs.all fun f => f.ok K
theorem xt_at {xs : List Xf} {K : PySem.W.Frag} (h : xtOf xs K = true) (i : Nat) {f : Xf} (e : xs[i]? = some f := by rfl) : f.ok K = true := List.all_eq_true.mp h f (List.mem_of_getElem? e)
structure Says (xs : List Xf) (fa : List He.Fa) (fn : List He.DefD) (K : PySem.W.Frag) : Prop where
  xt : xtOf xs K = true
  sd : He.SaysD fa fn K
theorem says_of {xs : List Xf} {fa : List He.Fa} {fn : List He.DefD} {K : PySem.W.Frag} (h : obsX (xtOf xs) fa fn K = (true, He.valD fn)) : Says xs fa fn K := ⟨congrArg (fun z : Bool × He.AlD => z.1) h, congrArg (fun z : Bool × He.AlD => z.2) h⟩
section
variable {xs : List Xf} {fa : List He.Fa} {fn : List He.DefD} {K : PySem.W.Frag}
theorem Says.exc (c : Says xs fa fn K) (i : Nat) {x : Str} (e : xs[i]? = some (.exc x) := by rfl) : ExcC K (He.ga K x) := excB_ok (xt_at c.xt i e)
theorem Says.kit (c : Says xs fa fn K) (i : Nat) {x y : Str} {b : Bool} (e : xs[i]? = some (.kit x y b) := by rfl) : PySem.W.kitOne K (.ref (He.ga K x)) (.ref (He.ga K y)) = some b := of_decide_eq_true (xt_at c.xt i e)
theorem Says.val (c : Says xs fa fn K) (i : Nat) {x : Str} (e : xs[i]? = some (.val x) := by rfl) : PySem.W.kitOne K (.ref (He.ga K x)) (.type "ValueError") = some true := of_decide_eq_true (xt_at c.xt i e)
variable {h : Heap} {mg : Str → Option Value}
theorem Says.glo (c : Says xs fa fn K) (XI : K.In h) (G : h.Ns mainGlobals mg) (i : Nat) {x : Str} (e : fa[i]? = some (.glo x) := by rfl) : mg x = some (.ref (He.ga K x)) := He.glo_ok XI G (c.sd.fact i e)
theorem Says.free (c : Says xs fa fn K) (XI : K.In h) (G : h.Ns mainGlobals mg) (i : Nat) {x : Str} (e : fa[i]? = some (.free x) := by rfl) : mg x = none := He.free_ok XI G (c.sd.fact i e)
theorem Says.int (c : Says xs fa fn K) (XI : K.In h) (G : h.Ns mainGlobals mg) (i : Nat) {x : Str} {j : Int} (e : fa[i]? = some (.int x j) := by rfl) : ∃ t, mg x = some (.int j t) := He.int_ok XI G (c.sd.fact i e)
theorem Says.str (c : Says xs fa fn K) (XI : K.In h) (G : h.Ns mainGlobals mg) (i : Nat) {x z : Str} (e : fa[i]? = some (.str x z) := by rfl) : ∃ t, mg x = some (.str z t) := He.str_ok XI G (c.sd.fact i e)
theorem Says.exm (c : Says xs fa fn K) (i : Nat) {x y : Str} {b : Bool} (e : fa[i]? = some (.exm x y b) := by rfl) : PySem.W.exmOne K (.ref (He.ga K x)) (.ref (He.ga K y)) = some b := He.exm_ok (c.sd.fact i e)
end
section
variable {X : Cx} {cl : String → Addr} {W : WX} {pos : Pos}
/-- raise C("..") -/
theorem s_raiseC {c : String} {m : Str} {j : Nat} {p p2 pos' : Pos} (hc : X.calm = true) (tk : Takes X W) (e : (He.Fa.exc (Str.ofString c)).ok X.K = true) (gC : X.mg (Str.ofString c) = some (.ref (He.ga X.K (Str.ofString c)))) (hg : Gl X (Str.ofString c)) (hdb : (Str.ofString c == ("__debug__" : Str)) = false := by decide) :
    PS X (.Raise (some (.Call (.Name (Str.ofString c) p) [.Constant (.str m) j p2] [] pos')) none pos) (tS X.K (clK X.K) W (sRaise c)) := by
  obtain ⟨h1, h2, h3, h4⟩ := He.exc_ok e
  exact s_raise (cl := clK X.K) hc tk h1 gC h2 (raises_own h3 h4) hg hdb
end
/-- the world out of what a def may let out -/
def CXU : CXT := fun outer H s E u s' => ∃ (P : Program) (w : World), L2.CX P w outer H s E u s'
theorem FnOk.cxu {P : Program} {w : World} {K : PySem.W.Frag} {mg : Str → Option Value} {base : Heap} {k : Nat} {f : Addr} {fd : FuncData} {ps : List Str} {sp : Sp} (F : FnOk P w K mg base (L2.CX P w) k f fd ps sp) : FnOk P w K mg base CXU k f fd ps sp :=
  ⟨F.len, fun A outer s H args us vs Q E hr he hb hv hs => codeAny_mono (F.run A outer s H args us vs Q E hr he hb hv hs) fun r s' h => by
    cases r with
    | ok x => cases x <;> exact h
    | error e => exact ⟨P, w, h⟩⟩
/-! ## the law's end -/
theorem rep_bl {H : Hp} {v : V} {b : Bool} (h : Rep H v (.bl b)) : v = .bl b := by cases h; rfl
theorem reps_ints {H : Hp} : ∀ ns : List Int, Reps H (ns.map V.int) (ns.map D.int)
  | [] => .nil
  | n :: ns => .cons (.int n) (reps_ints ns)
theorem scr_of {K : PySem.W.Frag} {H : Hp} {a : Addr} {xs : List V} (hO : Only H) (h : SqL K H a xs) : ScrOk K H a xs := by
  rcases h with (h | h) | h
  · rcases hO a with z | ⟨o, ys, z⟩
    · rw [h] at z; cases z
    · rw [h] at z; cases z
  · exact .inl h
  · exact .inr h
theorem law_sp {K : PySem.W.Frag} {cl : String → Addr} {F : FF} {n : Nat} (hF : ∀ ns : List Int, ns.length ≤ n → F [.scr (ns.map D.int)] = .ret (.dat (.bl true))) :
    ∀ (H : Hp) (a : Addr) (ns : List Int), ns.length ≤ n → Only H → SqL K H a (ns.map V.int) → spF K cl 1 F [.ref a] H (fun v _ => v = .bl true) fun _ _ _ => False := fun H a ns hl hO hS => by
  refine ⟨rfl, [.scr (ns.map D.int)], .cons ⟨a, _, rfl, scr_of hO hS, reps_ints ns⟩ .nil, ?_⟩
  rw [hF ns hl]
  exact fun v H' _ r => rep_bl r
theorem cx_nil : ∀ (H : Hp) (s : Shared) (e : Value) (s' : Shared), CXU [] H s (fun _ _ _ => False) e s' → False := by
  intro H s e s' h
  obtain ⟨_, _, _, _, _, _, _, _, _, _, _, _, _, _, z⟩ := h
  exact z
end KT

set_option Elab.async false
set_option linter.all false
set_option maxRecDepth 100000
set_option maxHeartbeats 4000000
namespace KT
open PySem PySem.Spec PyProof.Rows L2

/-! ## list * int, list(range(n)) -/
def kMulL : DV → DV → EO
  | a, .dat (.int k) => (match seqOf a with
    | some ds => if -(2 ^ 63) ≤ k ∧ k < 2 ^ 63 ∧ ds.length * k.toNat ≤ 16777216 then .ok (.own (List.replicate k.toNat ds).flatten) else .no
    | none => .no)
  | _, _ => .no
theorem snd_mulL {K : PySem.W.Frag} : KSnd K rRep kMulL := by
  intro a b v w H Q ra rb
  unfold kMulL
  split
  · rename_i k
    split
    · rename_i ds e
      split
      · rename_i hk
        cases rd_int rb
        intro h
        obtain ⟨p, xs, rfl, hx, r⟩ := seqOf_rd e ra
        have hl := r.length
        refine ⟨p, k, xs, rfl, rfl, hx, hk.1, hk.2.1, by rw [hl]; exact lim_line hk.2.2, fun q hq => ?_⟩
        exact h _ _ (same_upd hq) ⟨⟨q, rfl, hq⟩, q, _, rfl, upd_same, Reps.mono (same_upd hq).tp _ _ (r.repl _)⟩
      · trivial
    · trivial
  · trivial
def eLstRg (f : EF) : EF := fun ρ => match f ρ with
  | .ok (.dat (.int j)) => if 0 ≤ j ∧ j ≤ 16777216 then .ok (.own (rangeD 0 j.toNat)) else .no
  | .exc c => .exc c
  | _ => .no
theorem reps_rg {H : Hp} (j : Int) : Reps H (rgV 0 j) (rangeD 0 j.toNat) := by
  unfold rgV rangeD
  rw [Int.sub_zero]
  generalize List.range j.toNat = l
  induction l with
  | nil => exact .nil
  | cons i l ih => exact .cons (.int _) ih
section
variable {cl : String → Addr} {W : WX} {X : Cx} {pos p p2 p3 : Pos} {f g : EF} {a b : Expr}
theorem i_mulL (ha : PE X a (tI X.K cl W f)) (hb : PE X b (tI X.K cl W g)) : PE X (.BinOp a .Mult b pos) (tI X.K cl W (eTwo kMulL f g)) := i_bin op_rep snd_mulL ha hb
theorem i_lstRg (hc : X.calm = true) (hg : Gl X "list") (hm : X.mg "list" = none) (hg2 : Gl X "range") (hm2 : X.mg "range" = none) (ha : PE X a (tI X.K cl W f)) (na : starEach [a] X.env = (false, eval a X.env) :: starEach [] X.env := by rfl)
    (na2 : starEach [.Call (.Name "range" p2) [a] [] p3] X.env = (false, eval (.Call (.Name "range" p2) [a] [] p3) X.env) :: starEach [] X.env := by rfl) :
    PE X (.Call (.Name "list" p) [.Call (.Name "range" p2) [a] [] p3] [] pos) (tI X.K cl W (eLstRg f)) :=
  (pe_listRg hc hg hm (prg_1 hg2 hm2 ha na) na2).imp fun σ H Q ⟨ρ, S, h⟩ => by
    refine ⟨ρ, S, ?_⟩
    unfold eLstRg at h
    cases e : f ρ with
    | no => simp only [e] at h; exact h
    | exc c => simp only [e] at h; exact h
    | ok r =>
      simp only [e] at h
      intro v H1 s1 va
      cases r with
      | dat d =>
        cases d with
        | int j =>
          cases rd_int va.rd
          by_cases hj : 0 ≤ j ∧ j ≤ 16777216
          · simp only [if_pos hj] at h
            refine ⟨j, rfl, RgOk.of_le (by decide) hj.2 (by decide) hj.1, fun q hq => ?_⟩
            exact h _ _ (s1.trans (same_upd hq)) ⟨⟨q, rfl, fresh_of s1 hq⟩, q, _, rfl, upd_same, reps_rg j⟩
          · simp only [if_neg hj] at h; exact h.elim
        | _ => exact h.elim
      | _ => exact h.elim
end

/-! ## enumerate -/
def enumD (ds : List D) : List D := (List.range ds.length).map fun (i : Nat) => D.tup [.int (i : Int), ds.getD i .non]
theorem enumD_at {ds : List D} {i : Nat} {d : D} (h : ds[i]? = some d) : (enumD ds)[i]? = some (.tup [.int (i : Int), d]) := by
  have hi := (List.getElem?_eq_some_iff.mp h).1
  unfold enumD
  rw [List.getElem?_map, List.getElem?_range hi]
  simp [List.getD, h]
theorem enumD_len (ds : List D) : (enumD ds).length = ds.length := by simp [enumD]
theorem y_enum {K : PySem.W.Frag} {a : Addr} {xs : List V} {ds : List D} {T : Hp} (r : Reps T xs ds) : Yields (Ite K a) (enumD ds) (fun H => H a = some (.lst xs) ∧ Tp T H) where
  go := fun i H h hi => by
    rw [enumD_len] at hi
    have hl := r.length
    exact ⟨xs, xs[i]'(by omega), SqL.of h.1, List.getElem?_eq_getElem _⟩
  yl := fun i H x H' h hi y => by
    obtain ⟨T', x', rfl, hn, rfl, y⟩ := y
    obtain ⟨d, e, q⟩ := r.getV (y xs (SqL.of h.1))
    have s := same_upd (o := .tup [.int (i : Nat), x']) hn
    exact ⟨s, _, enumD_at e, .tup upd_same (.cons (.int _) (.cons (Rep.mono (h.2.trans s.tp) _ _ q) .nil))⟩
  stop := fun i H h hi => ⟨xs, SqL.of h.1, by rw [r.length]; rw [enumD_len] at hi; exact hi⟩
def sForEnV (i : Nat) (b : BF) (body : SF) : SF := fun ρ => match ρ[i]? with
  | some (some (.own ds)) => unO i .own (loop b body (enumD ds) (ρ.set i (some (.lent ds))))
  | some (some (.io ds)) => unO i .io (loop b body (enumD ds) (ρ.set i (some (.lent ds))))
  | some (some (.bor ds)) => loop b body (enumD ds) ρ
  | some (some (.lent ds)) => loop b body (enumD ds) ρ
  | _ => .no
def sForEnE (f : EF) (b : BF) (body : SF) : SF := fun ρ => match f ρ with
  | .ok (.own ds) => loop b body (enumD ds) ρ
  | .exc c => .exc c ρ
  | _ => .no
section
variable {cl : String → Addr} {W : WX} {X : Cx} {pos p p2 tpos spos : Pos} {e : Expr} {elts : List Expr} {kk : Nat} {body : List Stmt} {F : SF} {f : EF} {x : Str} {g : TG} {b : BF}
theorem s_forEnV (i : Nat) (hp : PassesOwn (model X.prog X.w) X.A X.env X.xe) (hc : X.calm = true) (hgl : Gl X "enumerate") (hm : X.mg "enumerate" = none) (hg : PG X (.Tuple elts kk tpos) g) (T : TgOk X.K g b) (hb : PSs X body (tS X.K cl W F)) (hN : X.N[i]? = some x := by rfl) (hv : Vis X.env.scope x := by first | exact Or.inl rfl | exact Or.inr (Or.inl rfl) | exact Or.inr (Or.inr rfl))
    (hd : (x == ("__debug__" : Str)) = false := by decide) (hcd : (x == ("__classdict__" : Str)) = false := by decide) (hs0 : starEach [.Name x p] X.env = (false, eval (.Name x p) X.env) :: starEach [] X.env := by rfl) (hs1 : starEach [.Name x p] X.env = [(false, eval (.Name x p) X.env)] := by rfl)
    (hs : ∀ y, foldedSetIterable (.Call (.Name "enumerate" p2) [.Name x p] [] pos) X.env y = pure y := by intro _; rfl) : PS X (.For (.Tuple elts kk tpos) (.Call (.Name "enumerate" p2) [.Name x p] [] pos) body [] spos) (tS X.K cl W (sForEnV i b F)) :=
  (ps_for hp hc (pi_enum hgl hm (pa_cons (pe_var hN hv hd hcd) pa_nil hs0) hs1) hg hb hs).imp fun D σ H ⟨fr, ρ, ⟨Ow, gd⟩, h⟩ => by
    have stays : ∀ {ds : List KT.D} {mk : List KT.D → DV}, OwnAt ρ i ds mk → SPost X.K cl W fr D (unO i mk (loop b F (enumD ds) (ρ.set i (some (.lent ds))))) → tFor (iEnum X.K (tCons (tVar i) tNil)) g (tS X.K cl W F) D σ H := fun {ds mk} ho h => by
      obtain ⟨a, xs, e1, hx, r, np, c1, c2, gl⟩ := gd.lend ho
      refine ⟨.ref a, e1, a, xs, rfl, SqL.of hx, ?_⟩
      refine loop_ok (fr := fr.hold H a xs fun k => if k = i then some a else fr.lnt k) (y_enum r) (fun ρ' σ' H' ⟨Ow', g'⟩ => ⟨(g'.prot a xs (if_pos rfl)).1, g'.tp⟩) T gl (SPost.unlent (fr := fr) rfl (fun ρ' σ' H' es e2 ⟨Ow', g'⟩ => g'.unlend e2 gd.tp np gd.wf ?_) h)
      rcases ho with ⟨_, rfl⟩ | ⟨_, rfl⟩
      · exact .inl ⟨rfl, c1 rfl⟩
      · exact .inr ⟨rfl, c2 rfl⟩
    unfold sForEnV at h
    split at h
    · rename_i ds e1; exact stays (.inl ⟨e1, rfl⟩) h
    · rename_i ds e1; exact stays (.inr ⟨e1, rfl⟩) h
    · rename_i ds e1
      obtain ⟨v, e2, ⟨a, xs, rfl, hF, hi, r⟩, _⟩ := gd.sl i _ e1
      refine ⟨.ref a, e2, a, xs, rfl, SqL.of (gd.keep _ _ hF hi), ?_⟩
      exact loop_ok (fr := fr.at H) (y_enum r) (fun ρ' σ' H' ⟨Ow', g'⟩ => ⟨g'.keep _ _ hF hi, g'.tp⟩) T ⟨Ow, gd.enter⟩ (SPost.mono (fr := fr) rfl (fun ρ' σ' H' ⟨Ow', g'⟩ => ⟨Ow', g'.leave gd.tp⟩) h)
    · rename_i ds e1
      obtain ⟨v, e2, ⟨a, xs, rfl, hF, hi, r⟩, _⟩ := gd.sl i _ e1
      refine ⟨.ref a, e2, a, xs, rfl, SqL.of (gd.prot _ _ hi).1, ?_⟩
      exact loop_ok (fr := fr.at H) (y_enum r) (fun ρ' σ' H' ⟨Ow', g'⟩ => ⟨(g'.prot _ _ hi).1, g'.tp⟩) T ⟨Ow, gd.enter⟩ (SPost.mono (fr := fr) rfl (fun ρ' σ' H' ⟨Ow', g'⟩ => ⟨Ow', g'.leave gd.tp⟩) h)
    · exact h.elim
theorem s_forEnE (hp : PassesOwn (model X.prog X.w) X.A X.env X.xe) (hc : X.calm = true) (hgl : Gl X "enumerate") (hm : X.mg "enumerate" = none) (he : PE X e (tI X.K cl W f)) (hg : PG X (.Tuple elts kk tpos) g) (T : TgOk X.K g b) (hb : PSs X body (tS X.K cl W F))
    (hs0 : starEach [e] X.env = (false, eval e X.env) :: starEach [] X.env := by rfl) (hs1 : starEach [e] X.env = [(false, eval e X.env)] := by rfl)
    (hs : ∀ y, foldedSetIterable (.Call (.Name "enumerate" p2) [e] [] pos) X.env y = pure y := by intro _; rfl) : PS X (.For (.Tuple elts kk tpos) (.Call (.Name "enumerate" p2) [e] [] pos) body [] spos) (tS X.K cl W (sForEnE f b F)) :=
  (ps_for hp hc (pi_enum hgl hm (pa_cons he pa_nil hs0) hs1) hg hb hs).imp fun D σ H ⟨fr, ρ, gd, h⟩ => by
    unfold sForEnE at h
    refine eP gd (fun e => by rw [e] at h; exact h) (fun r' e1 v H' s g' va => ?_) (fun c' e H' g' => by rw [e] at h; exact h σ H' g')
    rw [e1] at h
    cases r' with
    | own ds =>
      obtain ⟨⟨a, rfl, hn⟩, ⟨a', xs, ea, hx, r⟩⟩ := va
      cases ea
      obtain ⟨Ow, g0⟩ := gd
      have g1 := g0.same s
      have no : ∀ i, ¬ Ow i a := fun i o => by
        obtain ⟨ys, z⟩ := g0.there o
        rw [hn] at z; cases z
      have np : fr.Pt a = none := by
        cases z : fr.Pt a with
        | none => rfl
        | some ys => have := (g0.prot a ys z).1; rw [hn] at this; cases this
      refine ⟨a, xs, rfl, SqL.of hx, ?_⟩
      exact loop_ok (fr := fr.hold H' a xs fr.lnt) (y_enum r) (fun ρ' σ' H2 ⟨Ow', g'⟩ => ⟨(g'.prot a xs (if_pos rfl)).1, g'.tp⟩) T ⟨Ow, g1.enterP hx no np⟩ (SPost.mono (fr := fr) rfl (fun ρ' σ' H2 ⟨Ow', g'⟩ => ⟨Ow', g'.leaveP g1.tp np g1.wf⟩) h)
    | _ => exact h.elim
end

/-! ## a, b = .. -/
def sAsgT (b : BF) (f : EF) : SF := fun ρ => match f ρ with
  | .ok (.dat d) => (match b d ρ with
    | some ρ' => .nx ρ'
    | none => .no)
  | .exc c => .exc c ρ
  | _ => .no
section
variable {cl : String → Addr} {W : WX} {X : Cx} {pos p : Pos} {tg e : Expr} {f : EF} {g : TG} {b : BF}
theorem s_asgT (he : PE X e (tI X.K cl W f)) (hg : PG X tg g) (T : TgOk X.K g b) (hs : swapsWithSole [tg] e pos.line X.env = pure false := by rfl) (hw : swappedStores [tg] e X.env = pure none := by rfl)
    (h1 : (assignEach [tg] X.env).map (·.2) = [assign tg X.env] := by rfl) : PS X (.Assign [tg] e pos) (tS X.K cl W (sAsgT b f)) :=
  (ps_asg he hg hs hw h1).imp fun D σ H ⟨fr, ρ, gd, h⟩ => by
    unfold sAsgT at h
    refine eP gd (fun e => by simp only [e] at h; exact h) (fun r' e1 v H' s g' va => ?_) (fun c' e H' g' => by simp only [e] at h; exact h σ H' g')
    simp only [e1] at h
    cases r' with
    | dat d =>
      simp only at h
      cases e2 : b d ρ with
      | none => simp only [e2] at h; exact h.elim
      | some ρ' =>
        simp only [e2] at h
        exact T fr ρ ρ' σ H' v d _ g' va e2 h
    | _ => exact h.elim
end

/-! ## {"k": v, "l": w}[..], .get(.., ..) -/
theorem upd_upd (H : Hp) (p : Addr) (a b : HO) : upd (upd H p a) p b = upd H p b := by
  funext q
  by_cases h : q = p
  · subst h; rw [upd_same, upd_same]
  · rw [upd_ne h, upd_ne h, upd_ne h]
section
variable {cl : String → Addr} {W : WX} {X : Cx} {pos p p1 p2 apos cpos : Pos} {e1 e2 a b : Expr} {v1 v2 : V} {j1 j2 : Nat} {k1 k2 : String} {d1 d2 : D} {f g : EF}
theorem pe_dlit2 (hne : k1 ≠ k2) (h1 : PE X e1 (tC v1)) (h2 : PE X e2 (tC v2)) : PE X (.Dict [some (.Constant (.str (Str.ofString k1)) j1 p1), some (.Constant (.str (Str.ofString k2)) j2 p2)] [e1, e2] pos)
    (fun σ H Q => ∀ p, H p = none → Q (.ref p) (upd H p (.dK [(.inr (Str.ofString k1), v1), (.inr (Str.ofString k2), v2)]))) :=
  (pe_disp (pps_cons pe_str h1 (pps_cons pe_str h2 pps_nil)) (by rfl) (by rfl) (fun z => by cases z) (by simp)).imp fun σ H Q h p hp => by
    refine ⟨upd_same, [(.inr (Str.ofString k1), v1), (.inr (Str.ofString k2), v2)], rfl, by simp, ?_⟩
    have ne : ¬ (Sum.inr (Str.ofString k1) : Key) = Sum.inr (Str.ofString k2) := fun z => hne (str_inj (Sum.inr.inj z))
    have em : mergeK [] [(Sum.inr (Str.ofString k1), v1), (Sum.inr (Str.ofString k2), v2)] = [(Sum.inr (Str.ofString k1), v1), (Sum.inr (Str.ofString k2), v2)] := by
      simp [mergeK, putK, ne]
    rw [em, upd_upd]
    exact h p hp
def kv2 (k1 : String) (d1 : D) (k2 : String) (d2 : D) : D → Option (Option D)
  | .str s => some (if s = k1 then some d1 else if s = k2 then some d2 else none)
  | .int _ => some none
  | _ => none
theorem kv2_ok {H : Hp} {v : V} {d : D} {o : Option D} (r : Rep H v d) (e : kv2 k1 d1 k2 d2 d = some o) (r1 : ∀ H, Rep H v1 d1) (r2 : ∀ H, Rep H v2 d2) :
    ∃ k, v = kV k ∧ ((∃ x w, o = some x ∧ valV [((.inr (Str.ofString k1) : Key), v1), (.inr (Str.ofString k2), v2)] k = some w ∧ ∀ H, Rep H w x) ∨ (o = none ∧ valV [((.inr (Str.ofString k1) : Key), v1), (.inr (Str.ofString k2), v2)] k = none)) := by
  unfold kv2 at e
  split at e
  · rename_i s
    cases r
    refine ⟨.inr (Str.ofString s), rfl, ?_⟩
    have e := Option.some.inj e
    by_cases h1 : s = k1
    · subst h1
      rw [if_pos rfl] at e
      exact .inl ⟨d1, v1, e.symm, by simp [valV], r1⟩
    · rw [if_neg h1] at e
      have n1 : ¬ (Sum.inr (Str.ofString k1) : Key) = Sum.inr (Str.ofString s) := fun z => h1 (str_inj (Sum.inr.inj z)).symm
      by_cases h2 : s = k2
      · subst h2
        rw [if_pos rfl] at e
        exact .inl ⟨d2, v2, e.symm, by simp [valV, List.find?_cons, n1], r2⟩
      · rw [if_neg h2] at e
        have n2 : ¬ (Sum.inr (Str.ofString k2) : Key) = Sum.inr (Str.ofString s) := fun z => h2 (str_inj (Sum.inr.inj z)).symm
        exact .inr ⟨e.symm, by simp [valV, List.find?_cons, n1, n2]⟩
  · cases r
    cases e
    exact ⟨.inl _, rfl, .inr ⟨rfl, by simp [valV, List.find?_cons]⟩⟩
  · cases e
def eDix (k1 : String) (d1 : D) (k2 : String) (d2 : D) (f : EF) : EF := fun ρ => match f ρ with
  | .ok (.dat d) => (match kv2 k1 d1 k2 d2 d with
    | some (some x) => .ok (.dat x)
    | _ => .no)
  | .exc c => .exc c
  | _ => .no
def eDget (k1 : String) (d1 : D) (k2 : String) (d2 : D) (f g : EF) : EF := fun ρ => match f ρ with
  | .ok (.dat d) => (match g ρ with
    | .ok (.dat z) => (match kv2 k1 d1 k2 d2 d with
      | some (some x) => .ok (.dat x)
      | some none => .ok (.dat z)
      | none => .no)
    | .exc c => .exc c
    | _ => .no)
  | .exc c => .exc c
  | _ => .no
theorem i_dix (hu : X.A.units + 200 < cLine) (hne : k1 ≠ k2) (h1 : PE X e1 (tC v1)) (h2 : PE X e2 (tC v2)) (r1 : ∀ H, Rep H v1 d1) (r2 : ∀ H, Rep H v2 d2) (ha : PE X a (tI X.K cl W f)) (hs : NoSl a := by intro _ _; rfl) :
    PE X (.Subscript (.Dict [some (.Constant (.str (Str.ofString k1)) j1 p1), some (.Constant (.str (Str.ofString k2)) j2 p2)] [e1, e2] pos) a p) (tI X.K cl W (eDix k1 d1 k2 d2 f)) :=
  (pe_dget (by omega) (pe_dlit2 hne h1 h2) ha hs).imp fun σ H Q ⟨ρ, S, h⟩ => fun q hq => by
    have sq := same_upd (o := .dK [((.inr (Str.ofString k1) : Key), v1), (.inr (Str.ofString k2), v2)]) hq
    refine ⟨ρ, S.mono sq, ?_⟩
    unfold eDix at h
    cases e : f ρ with
    | no => simp only [e] at h; exact h
    | exc c => simp only [e] at h; exact fun H' s' => h H' (sq.trans s')
    | ok r =>
      simp only [e] at h
      intro v H1 s1 va
      cases r with
      | dat d =>
        simp only at h
        cases e3 : kv2 k1 d1 k2 d2 d with
        | none => simp only [e3] at h; exact h.elim
        | some o =>
          obtain ⟨k, ek, em⟩ := kv2_ok (H := H1) va e3 r1 r2
          cases o with
          | none => simp only [e3] at h; exact h.elim
          | some x =>
            rcases em with ⟨x', w, ex', ew, rw'⟩ | ⟨z, _⟩
            rotate_left
            · cases z
            cases ex'
            simp only [e3] at h
            exact ⟨q, w, rfl, .inl ⟨_, k, .inl (s1 _ _ upd_same), ek, ew.symm⟩, h w H1 (sq.trans s1) (rw' _)⟩
      | _ => exact h.elim
theorem i_dget (hu : X.A.units + 200 < cLine) (hne : k1 ≠ k2) (h1 : PE X e1 (tC v1)) (h2 : PE X e2 (tC v2)) (r1 : ∀ H, Rep H v1 d1) (r2 : ∀ H, Rep H v2 d2) (ha : PE X a (tI X.K cl W f)) (hb : PE X b (tI X.K cl W g))
    (m : M2 X (.Dict [some (.Constant (.str (Str.ofString k1)) j1 p1), some (.Constant (.str (Str.ofString k2)) j2 p2)] [e1, e2] pos) "get" apos a b cpos := by exact ⟨rfl, rfl, rfl, rfl⟩) :
    PE X (.Call (.Attribute (.Dict [some (.Constant (.str (Str.ofString k1)) j1 p1), some (.Constant (.str (Str.ofString k2)) j2 p2)] [e1, e2] pos) "get" apos) [a, b] [] cpos) (tI X.K cl W (eDget k1 d1 k2 d2 f g)) :=
  (pe_dget2 (by omega) (pe_dlit2 hne h1 h2) ha hb m).imp fun σ H Q ⟨ρ, S, h⟩ => fun q hq => by
    have sq := same_upd (o := .dK [((.inr (Str.ofString k1) : Key), v1), (.inr (Str.ofString k2), v2)]) hq
    refine ⟨q, rfl, .inl ⟨_, .inl upd_same⟩, ρ, S.mono sq, ?_⟩
    unfold eDget at h
    cases e : f ρ with
    | no => simp only [e] at h; exact h
    | exc c => simp only [e] at h; exact fun H' s' => h H' (sq.trans s')
    | ok r =>
      simp only [e] at h
      intro v H1 s1 va
      cases r with
      | dat d =>
        simp only at h
        refine ⟨ρ, S.mono (sq.trans s1), ?_⟩
        cases eg : g ρ with
        | no => simp only [eg] at h; exact h
        | exc c => simp only [eg] at h; exact fun H' s' => h H' ((sq.trans s1).trans s')
        | ok z =>
          simp only [eg] at h
          intro y H2 s2 vb
          cases z with
          | dat z =>
            simp only at h
            cases e3 : kv2 k1 d1 k2 d2 d with
            | none => simp only [e3] at h; exact h.elim
            | some o =>
              obtain ⟨k, ek, em⟩ := kv2_ok (H := H1) va e3 r1 r2
              cases o with
              | none =>
                rcases em with ⟨x', w, ex', _, _⟩ | ⟨_, em⟩
                · cases ex'
                simp only [e3] at h
                exact ⟨none, .inl ⟨_, k, .inl (s2 _ _ (s1 _ _ upd_same)), ek, em.symm⟩, h y H2 ((sq.trans s1).trans s2) vb⟩
              | some x =>
                rcases em with ⟨x', w, ex', ew, rw'⟩ | ⟨z, _⟩
                rotate_left
                · cases z
                cases ex'
                simp only [e3] at h
                exact ⟨some w, .inl ⟨_, k, .inl (s2 _ _ (s1 _ _ upd_same)), ek, ew.symm⟩, h w H2 ((sq.trans s1).trans s2) (rw' _)⟩
          | _ => exact h.elim
      | _ => exact h.elim
end
end KT

set_option Elab.async false
set_option linter.all false
set_option maxRecDepth 100000
set_option maxHeartbeats 4000000
namespace KT
open PySem PySem.Spec PyProof.Rows L2

/-! ## zip(a new list, a name) -/
def zipD : List D → List D → List D
  | x :: xs, y :: ys => .tup [x, y] :: zipD xs ys
  | _, _ => []
theorem zipD_len : ∀ ds es : List D, (zipD ds es).length = min ds.length es.length
  | [], es => by cases es <;> simp [zipD]
  | _ :: _, [] => by simp [zipD]
  | x :: xs, y :: ys => by simp only [zipD, List.length_cons, zipD_len xs ys]; omega
theorem zipD_at : ∀ {ds es : List D} {i : Nat} {x y : D}, ds[i]? = some x → es[i]? = some y → (zipD ds es)[i]? = some (.tup [x, y])
  | [], _, i, x, y, h, _ => by simp at h
  | _ :: _, [], i, x, y, _, h => by simp at h
  | a :: ds, b :: es, 0, x, y, h, g => by simp at h g; subst h g; rfl
  | a :: ds, b :: es, i + 1, x, y, h, g => by
    have := zipD_at (ds := ds) (es := es) (i := i) (x := x) (y := y) (by simpa using h) (by simpa using g)
    simpa [zipD] using this
theorem y_zip {K : PySem.W.Frag} {a b : Addr} {xs ys : List V} {ds es : List D} {T : Hp} (r : Reps T xs ds) (r2 : Reps T ys es) : Yields (Itz K a b) (zipD ds es) (fun H => H a = some (.lst xs) ∧ H b = some (.lst ys) ∧ Tp T H) where
  go := fun i H h hi => by
    rw [zipD_len] at hi
    have hl := r.length
    have hl2 := r2.length
    exact ⟨xs, ys, xs[i]'(by omega), ys[i]'(by omega), SqL.of h.1, SqL.of h.2.1, List.getElem?_eq_getElem _, List.getElem?_eq_getElem _⟩
  yl := fun i H x H' h hi y => by
    obtain ⟨T', x', y', rfl, hn, rfl, q1, q2⟩ := y
    obtain ⟨d, e, q⟩ := r.getV (q1 xs (SqL.of h.1))
    obtain ⟨d2, e2, q2⟩ := r2.getV (q2 ys (SqL.of h.2.1))
    have s := same_upd (o := .tup [x', y']) hn
    exact ⟨s, _, zipD_at e e2, .tup upd_same (.cons (Rep.mono (h.2.2.trans s.tp) _ _ q) (.cons (Rep.mono (h.2.2.trans s.tp) _ _ q2) .nil))⟩
  stop := fun i H h hi => ⟨xs, ys, SqL.of h.1, SqL.of h.2.1, by
    rw [zipD_len] at hi
    rw [r.length, r2.length]
    omega⟩
def sForZip (f : EF) (i : Nat) (b : BF) (body : SF) : SF := fun ρ => match f ρ with
  | .ok (.own ds) => (match ρ[i]? with
    | some (some (.own es)) => unO i .own (loop b body (zipD ds es) (ρ.set i (some (.lent es))))
    | some (some (.io es)) => unO i .io (loop b body (zipD ds es) (ρ.set i (some (.lent es))))
    | some (some (.bor es)) => loop b body (zipD ds es) ρ
    | some (some (.lent es)) => loop b body (zipD ds es) ρ
    | _ => .no)
  | .exc c => .exc c ρ
  | _ => .no
section
variable {cl : String → Addr} {W : WX} {X : Cx} {pos p p2 tpos spos : Pos} {e : Expr} {elts : List Expr} {kk : Nat} {body : List Stmt} {F : SF} {f : EF} {x : Str} {g : TG} {b : BF}
theorem s_forZip (i : Nat) (hp : PassesOwn (model X.prog X.w) X.A X.env X.xe) (hc : X.calm = true) (hgl : Gl X "zip") (hm : X.mg "zip" = none) (he : PE X e (tI X.K cl W f)) (hg : PG X (.Tuple elts kk tpos) g) (T : TgOk X.K g b) (hb : PSs X body (tS X.K cl W F)) (hN : X.N[i]? = some x := by rfl) (hv : Vis X.env.scope x := by first | exact Or.inl rfl | exact Or.inr (Or.inl rfl) | exact Or.inr (Or.inr rfl))
    (hd : (x == ("__debug__" : Str)) = false := by decide) (hcd : (x == ("__classdict__" : Str)) = false := by decide) (hs0 : starEach [.Name x p] X.env = (false, eval (.Name x p) X.env) :: starEach [] X.env := by rfl) (hs1 : starEach [e, .Name x p] X.env = (false, eval e X.env) :: starEach [.Name x p] X.env := by rfl)
    (hpl : (backTo pos (starEach [.Name x p] X.env)).any (·.1) = false := by rfl)
    (hs : ∀ y, foldedSetIterable (.Call (.Name "zip" p2) [e, .Name x p] [] pos) X.env y = pure y := by intro _; rfl) : PS X (.For (.Tuple elts kk tpos) (.Call (.Name "zip" p2) [e, .Name x p] [] pos) body [] spos) (tS X.K cl W (sForZip f i b F)) :=
  (ps_for hp hc (pi_zip hgl hm (pa_cons he (pa_cons (pe_var hN hv hd hcd) pa_nil hs0) hs1) hs1 hpl) hg hb hs).imp fun D σ H ⟨fr, ρ, gd, h⟩ => by
    unfold sForZip at h
    refine eP gd (fun e => by rw [e] at h; exact h) (fun r' e1 v H' s g' va => ?_) (fun c' e H' g' => by rw [e] at h; exact h σ H' g')
    rw [e1] at h
    cases r' with
    | own ds =>
      simp only at h
      obtain ⟨⟨a, rfl, hn⟩, ⟨a', xs, ea, hx, r⟩⟩ := va
      cases ea
      obtain ⟨Ow, g0⟩ := gd
      have g1 := g0.same s
      have no : ∀ i, ¬ Ow i a := fun i o => by
        obtain ⟨ys, z⟩ := g0.there o
        rw [hn] at z; cases z
      have np : fr.Pt a = none := by
        cases z : fr.Pt a with
        | none => rfl
        | some ys => have := (g0.prot a ys z).1; rw [hn] at this; cases this
      have g2 := g1.enterP hx no np
      split at h
      · rename_i es e2
        obtain ⟨c, ys, e2, hy, r2, np2, c1, c2, gl⟩ := g2.lend (mk := .own) (.inl ⟨e2, rfl⟩)
        refine ⟨.ref c, e2, a, c, xs, ys, rfl, SqL.of hx, SqL.of hy, ?_⟩
        refine loop_ok (fr := (fr.hold H' a xs fr.lnt).hold H' c ys fun k => if k = i then some c else fr.lnt k) (y_zip r r2) (fun ρ' σ' H2 ⟨Ow', g'⟩ => ⟨(g'.prot a xs ?_).1, (g'.prot c ys (if_pos rfl)).1, g'.tp⟩) T gl (SPost.unlent (fr := fr) rfl (fun ρ' σ' H2 es e2 ⟨Ow', g'⟩ => ?_) h)
        · show (if a = c then some ys else if a = a then some xs else fr.Pt a) = some xs
          by_cases hac : a = c
          · have : (fr.hold H' a xs fr.lnt).Pt c = some xs := by rw [← hac]; exact if_pos rfl
            rw [np2] at this; cases this
          · rw [if_neg hac, if_pos rfl]
        · obtain ⟨Ow3, g3⟩ := Good.unlend (fr := fr.hold H' a xs fr.lnt) g' e2 (Tp.refl _) np2 g2.wf (.inl ⟨rfl, c1 rfl⟩)
          exact ⟨Ow3, g3.leaveP g1.tp np g1.wf⟩
      · rename_i es e2
        obtain ⟨c, ys, e2, hy, r2, np2, c1, c2, gl⟩ := g2.lend (mk := .io) (.inr ⟨e2, rfl⟩)
        refine ⟨.ref c, e2, a, c, xs, ys, rfl, SqL.of hx, SqL.of hy, ?_⟩
        refine loop_ok (fr := (fr.hold H' a xs fr.lnt).hold H' c ys fun k => if k = i then some c else fr.lnt k) (y_zip r r2) (fun ρ' σ' H2 ⟨Ow', g'⟩ => ⟨(g'.prot a xs ?_).1, (g'.prot c ys (if_pos rfl)).1, g'.tp⟩) T gl (SPost.unlent (fr := fr) rfl (fun ρ' σ' H2 es e2 ⟨Ow', g'⟩ => ?_) h)
        · show (if a = c then some ys else if a = a then some xs else fr.Pt a) = some xs
          by_cases hac : a = c
          · have : (fr.hold H' a xs fr.lnt).Pt c = some xs := by rw [← hac]; exact if_pos rfl
            rw [np2] at this; cases this
          · rw [if_neg hac, if_pos rfl]
        · obtain ⟨Ow3, g3⟩ := Good.unlend (fr := fr.hold H' a xs fr.lnt) g' e2 (Tp.refl _) np2 g2.wf (.inr ⟨rfl, c2 rfl⟩)
          exact ⟨Ow3, g3.leaveP g1.tp np g1.wf⟩
      · rename_i es e2
        obtain ⟨v, e3, ⟨c, ys, rfl, hF, hi, r2⟩, _⟩ := g2.sl i _ e2
        refine ⟨.ref c, e3, a, c, xs, ys, rfl, SqL.of hx, SqL.of (g2.keep _ _ hF hi), ?_⟩
        exact loop_ok (fr := fr.hold H' a xs fr.lnt) (y_zip r r2) (fun ρ' σ' H2 ⟨Ow', g'⟩ => ⟨(g'.prot a xs (if_pos rfl)).1, g'.keep _ _ hF hi, g'.tp⟩) T ⟨Ow, g2⟩ (SPost.mono (fr := fr) rfl (fun ρ' σ' H2 ⟨Ow', g'⟩ => ⟨Ow', g'.leaveP g1.tp np g1.wf⟩) h)
      · rename_i es e2
        obtain ⟨v, e3, ⟨c, ys, rfl, hF, hi, r2⟩, _⟩ := g2.sl i _ e2
        refine ⟨.ref c, e3, a, c, xs, ys, rfl, SqL.of hx, SqL.of (g2.prot _ _ hi).1, ?_⟩
        exact loop_ok (fr := fr.hold H' a xs fr.lnt) (y_zip r r2) (fun ρ' σ' H2 ⟨Ow', g'⟩ => ⟨(g'.prot a xs (if_pos rfl)).1, (g'.prot _ _ hi).1, g'.tp⟩) T ⟨Ow, g2⟩ (SPost.mono (fr := fr) rfl (fun ρ' σ' H2 ⟨Ow', g'⟩ => ⟨Ow', g'.leaveP g1.tp np g1.wf⟩) h)
      · exact h.elim
    | _ => exact h.elim
end

/-! ## range(a, b, -1) -/
def downD (lo : Int) (n : Nat) : List D := (List.range n).map fun (i : Nat) => D.int (lo - (i : Int))
theorem y_down {lo : Int} {n : Nat} : Yields (Itc lo (-1) n) (downD lo n) (fun _ => True) where
  go := fun i H _ hi => by
    have hi : i < n := by simpa [downD] using hi
    exact hi
  yl := fun i H x H' _ hi y => by
    obtain ⟨rfl, rfl⟩ := y
    have hi : i < n := by simpa [downD] using hi
    refine ⟨Same.refl _, .int (lo - (i : Int)), by simp [downD, hi], ?_⟩
    have e : lo + (i : Int) * -1 = lo - (i : Int) := by omega
    rw [e]; exact .int _
  stop := fun i H _ hi => by
    have hi : n ≤ i := by simpa [downD] using hi
    exact hi
def sForDown (f f2 f3 : EF) (b : BF) (body : SF) : SF := fun ρ => match f ρ with
  | .ok (.dat (.int i)) => (match f2 ρ with
    | .ok (.dat (.int j)) => (match f3 ρ with
      | .ok (.dat (.int c)) => if c = -1 ∧ -(2 ^ 62) ≤ i ∧ i < 2 ^ 62 ∧ -(2 ^ 62) ≤ j ∧ j < 2 ^ 62 then loop b body (downD i (i - j).toNat) ρ else .no
      | .exc c => .exc c ρ
      | _ => .no)
    | .exc c => .exc c ρ
    | _ => .no)
  | .exc c => .exc c ρ
  | _ => .no
section
variable {cl : String → Addr} {W : WX} {X : Cx} {pos p p2 : Pos} {tg a c d : Expr} {body : List Stmt} {F : SF} {f f2 f3 : EF} {g : TG} {b : BF}
theorem s_forDown (hp : PassesOwn (model X.prog X.w) X.A X.env X.xe) (hc : X.calm = true) (hgl : Gl X "range") (hm : X.mg "range" = none) (ha : PE X a (tI X.K cl W f)) (h2 : PE X c (tI X.K cl W f2)) (h3 : PE X d (tI X.K cl W f3)) (hg : PG X tg g) (T : TgOk X.K g b) (hb : PSs X body (tS X.K cl W F))
    (hs0 : starEach [a, c, d] X.env = (false, eval a X.env) :: starEach [c, d] X.env := by rfl) (hs1 : starEach [c, d] X.env = (false, eval c X.env) :: starEach [d] X.env := by rfl) (hs2 : starEach [d] X.env = (false, eval d X.env) :: starEach [] X.env := by rfl)
    (hpl : (backTo p2 (starEach [c, d] X.env)).any (·.1) = false := by rfl) (hs : ∀ y, foldedSetIterable (.Call (.Name "range" p) [a, c, d] [] p2) X.env y = pure y := by intro _; rfl) :
    PS X (.For tg (.Call (.Name "range" p) [a, c, d] [] p2) body [] pos) (tS X.K cl W (sForDown f f2 f3 b F)) :=
  (ps_for hp hc (pi_range3 hgl hm (pa_cons ha (pa_cons h2 (pa_cons h3 pa_nil hs2) hs1) hs0) hs0 hpl) hg hb hs).imp fun D σ H ⟨fr, ρ, gd, h⟩ => by
    refine eInt gd h fun i H' s g' h => ?_
    refine eInt g' h fun j H2 s2 g2 h => ?_
    refine eInt g2 h fun k H3 s3 g3 h => ?_
    by_cases hj : k = -1 ∧ -(2 ^ 62) ≤ i ∧ i < 2 ^ 62 ∧ -(2 ^ 62) ≤ j ∧ j < 2 ^ 62
    · rw [if_pos hj] at h
      obtain ⟨rfl, h1, h2, h3, h4⟩ := hj
      exact ⟨i, j, -1, _, rfl, RgC.neg h1 h2 h3 h4, loop_ok y_down (fun _ _ _ _ => True.intro) T g3 h⟩
    · rw [if_neg hj] at h; exact h.elim
end
end KT

set_option Elab.async false
set_option linter.all false
set_option maxRecDepth 100000
set_option maxHeartbeats 4000000
namespace KT
open PySem PySem.Spec PyProof.Rows L2

/-! ## text.index(sign) -/
def eSIdx (f g : EF) : EF := fun ρ => match f ρ with
  | .ok (.dat (.str s)) => (match g ρ with
    | .ok (.dat (.str t)) => (match Builtin.Str.occurrences (Str.ofString s) (Str.ofString t) 0 (Str.ofString s).length 1 with
      | i :: _ => .ok (.dat (.int (i : Nat)))
      | [] => .no)
    | .exc c => .exc c
    | _ => .no)
  | .exc c => .exc c
  | _ => .no
section
variable {cl : String → Addr} {W : WX} {X : Cx} {apos cpos : Pos} {f g : EF} {o e : Expr}
theorem i_sidx (ho : PE X o (tI X.K cl W f)) (he : PE X e (tI X.K cl W g)) (hbase : attributeBase o "index" X.env (eval o X.env) = eval o X.env := by rfl)
    (hfew : ((backTo cpos (starEach [e] X.env)).all (fun x => !x.1) && (backToKw cpos (keywordEach [] X.env)).all (fun x => x.1.isSome)
      && decide (([e] : List Expr).length + ([] : List Keyword).length + (if ([] : List Keyword).isEmpty then 0 else 1) < 30)) = true := by rfl)
    (hline : (apos.endLine == cpos.line) = true := by rfl) (hs : starEach [e] X.env = (false, eval e X.env) :: starEach [] X.env := by rfl) (hplain : (backTo cpos (starEach [] X.env)).any (·.1) = false := by rfl) :
    PE X (.Call (.Attribute o "index" apos) [e] [] cpos) (tI X.K cl W (eSIdx f g)) :=
  (pe_bm PySem.F.plainAttrs_str PySem.F.slot_str_index PySem.F.type_str_index mt_sindex ho (pa_cons he pa_nil hs) hbase hfew hline hs hplain).imp fun σ H Q ⟨ρ, S, h⟩ => by
    refine ⟨ρ, S, ?_⟩
    unfold eSIdx at h
    split at h
    · rename_i s e1
      rw [e1]
      intro v H1 s1 va
      cases rd_str va.rd
      refine ⟨rfl, ρ, S.mono s1, ?_⟩
      split at h
      · rename_i t e2
        rw [e2]
        intro w H2 s2 vb
        cases rd_str vb.rd
        split at h
        · rename_i i r e3
          exact ⟨_, _, i, r, rfl, rfl, e3, h _ H2 (s1.trans s2) (.int _)⟩
        · exact h.elim
      · rename_i c e2
        rw [e2]
        exact fun H' s' => h H' (s1.trans s')
      · exact h.elim
    · rename_i c e1
      rw [e1]; exact h
    · exact h.elim
end

/-! ## for sign in text -/
def strD (s : String) : List D := s.toList.map fun c => D.str (String.singleton c)
theorem ofString_single (c : Char) : Str.ofString (String.singleton c) = ⟨#[c.toNat]⟩ := by
  rw [Str.ofString_eq_toList]; simp
theorem y_str {s : String} : Yields (Its (Str.ofString s)) (strD s) (fun _ => True) where
  go := fun i H _ hi => by
    have e : (Str.ofString s).cps.size = (strD s).length := by
      rw [← Array.length_toList, ofString_cps]; simp [strD]
    show i < (Str.ofString s).cps.size
    rw [e]; exact hi
  yl := fun i H x H' _ hi y => by
    obtain ⟨rfl, c, hc, rfl⟩ := y
    refine ⟨Same.refl _, ?_⟩
    rw [← Array.getElem?_toList, ofString_cps, List.getElem?_map] at hc
    obtain ⟨ch, h1, rfl⟩ := Option.map_eq_some_iff.mp hc
    refine ⟨_, by unfold strD; rw [List.getElem?_map, h1]; rfl, ?_⟩
    rw [← ofString_single]
    exact .str _
  stop := fun i H _ hi => by
    have e : (Str.ofString s).cps.size = (strD s).length := by
      rw [← Array.length_toList, ofString_cps]; simp [strD]
    show (Str.ofString s).cps.size ≤ i
    rw [e]; exact hi
def sForT (f : EF) (b : BF) (body : SF) : SF := fun ρ => match f ρ with
  | .ok (.dat (.str s)) => loop b body (strD s) ρ
  | .exc c => .exc c ρ
  | _ => .no
section
variable {cl : String → Addr} {W : WX} {X : Cx} {pos p : Pos} {tg e : Expr} {body : List Stmt} {F : SF} {f : EF} {x : Str} {g : TG} {b : BF}
theorem s_forT (hp : PassesOwn (model X.prog X.w) X.A X.env X.xe) (hc : X.calm = true) (he : PE X e (tI X.K cl W f)) (hg : PG X tg g) (T : TgOk X.K g b) (hb : PSs X body (tS X.K cl W F)) (hs : ∀ y, foldedSetIterable e X.env y = pure y := by intro _; rfl) :
    PS X (.For tg e body [] pos) (tS X.K cl W (sForT f b F)) :=
  (ps_for hp hc (pi_str he) hg hb hs).imp fun D σ H ⟨fr, ρ, gd, h⟩ => by
    unfold sForT at h
    refine eP gd (fun e => by rw [e] at h; exact h) (fun r' e1 v H' s g' va => ?_) (fun c' e H' g' => by rw [e] at h; exact h σ H' g')
    rw [e1] at h
    split at h
    · rename_i s e2
      cases e2
      cases rd_str va.rd
      exact ⟨_, rfl, loop_ok y_str (fun _ _ _ _ => True.intro) T g' h⟩
    · rename_i e2; cases e2
    · exact h.elim
end
end KT

set_option Elab.async false
set_option linter.all false
set_option maxRecDepth 100000
set_option maxHeartbeats 4000000
namespace KT
open PySem PySem.Spec PyProof.Rows L2

/-! ## defs that write one list of the caller's: the first argument itself, or its row -/
inductive XO where
  | ret (r : D) (row : List D)
  | exc (c : String) (row : List D)
  | no
abbrev FX := List D → List D → XO
def rowAt (ρ : Rho) : Option (List D) := match ρ[(0 : Nat)]? with
  | some (some (.io ds)) => some ds
  | some (some (.obj ds)) => some ds
  | _ => none
def mk0 (ob : Bool) (ds : List D) : DV := if ob then .obj ds else .io ds
def start0 (N m : Nat) (ob : Bool) (row args : List D) : Rho := some (mk0 ob row) :: (args.map (fun d => some (.dat d)) ++ List.replicate (N - m) none)
def finX : SO → XO
  | .nx ρ => (match rowAt ρ with
    | some r => .ret .non r
    | none => .no)
  | .ret (.dat d) ρ => (match rowAt ρ with
    | some r => .ret d r
    | none => .no)
  | .exc c ρ => (match rowAt ρ with
    | some r => .exc c r
    | none => .no)
  | _ => .no
def runX (N m : Nat) (ob : Bool) (b : SF) : FX := fun row args => if args.length + 1 = m then finX (b (start0 N m ob row args)) else .no
def SameX (a : Addr) (H H' : Hp) : Prop := ∀ b o, b ≠ a → H b = some o → H' b = some o
abbrev frX (H : Hp) (a : Addr) : Fr := ⟨H, some a, fun _ => none, fun _ => none, H⟩
def HeadX (K : PySem.W.Frag) (H : Hp) (ob : Bool) (v : V) (a : Addr) : Prop := (ob = false ∧ v = .ref a) ∨ (ob = true ∧ ∃ p dx, v = .ref p ∧ H p = some (.ins (He.ga K "Path") dx [("row", .ref a)]))
theorem gd_startX {K : PySem.W.Frag} {H : Hp} {v : V} {vs xs : List V} {ds args : List D} {N : List Str} {m : Nat} {ob : Bool} {a : Addr} (hx : H a = some (.lst xs)) (rx : Reps H xs ds) (hd : HeadX K H ob v a) (h : Reps H vs args) (hl : vs.length + 1 = m) (hm : m ≤ N.length) :
    Gd K (frX H a) (start0 N.length m ob ds args) (L2.start N (v :: vs)) H := by
  have la := h.length
  refine ⟨fun i b => i = 0 ∧ b = a, ⟨?_, fun i s e => ?_, fun i n b o => ?_, fun i j b o1 o2 => by rw [o1.1, o2.1], fun i b o => .inr (by rw [o.2]), fun b o e _ => e, fun b e => (by cases e; exact ⟨⟨xs, hx⟩, xs, hx⟩), fun b ys e => (by cases e), fun j b e => (by cases e), fun b ys e => e⟩⟩
  · unfold L2.start start0
    simp only [List.length_append, List.length_map, List.length_replicate, List.length_cons]
    omega
  · cases i with
    | zero =>
      have e : s = mk0 ob ds := by unfold start0 at e; simpa using e.symm
      subst e
      refine ⟨v, by simp [L2.start], ?_⟩
      rcases hd with ⟨rfl, rfl⟩ | ⟨rfl, p, dx, rfl, hp⟩
      · exact ⟨a, xs, rfl, hx, rx, rfl, fun b => ⟨fun z => z.2, fun z => ⟨rfl, z⟩⟩⟩
      · exact ⟨p, a, dx, xs, rfl, hp, hx, rx, rfl, fun b => ⟨fun z => z.2, fun z => ⟨rfl, z⟩⟩⟩
    | succ i =>
      have e1 : ∃ d, args[i]? = some d ∧ s = .dat d := by
        unfold start0 at e
        rw [List.getElem?_cons_succ, List.getElem?_append] at e
        split at e
        · rw [List.getElem?_map] at e
          obtain ⟨x, hx, hx2⟩ := Option.map_eq_some_iff.mp e
          cases hx2; exact ⟨x, hx, rfl⟩
        · have := List.mem_of_getElem? e
          rw [List.mem_replicate] at this
          cases this.2
      obtain ⟨d, e1, rfl⟩ := e1
      obtain ⟨w, e2, q⟩ := h.get e1
      have hi : i < vs.length := (List.getElem?_eq_some_iff.mp e2).1
      refine ⟨w, ?_, q, fun b z => by cases z.1⟩
      unfold L2.start
      rw [List.getElem?_append_left (by rw [List.length_map, List.length_cons]; omega), List.getElem?_map, List.getElem?_cons_succ, e2]; rfl
  · obtain ⟨rfl, rfl⟩ := o
    exact n (mk0 ob ds) (by simp [start0])
theorem row_end {K : PySem.W.Frag} {H H' : Hp} {a : Addr} {ρ : Rho} {σ : L2.St} {ds : List D} (g : Gd K (frX H a) ρ σ H') (e : rowAt ρ = some ds) : ∃ xs, SameX a H H' ∧ H' a = some (.lst xs) ∧ Reps H' xs ds := by
  obtain ⟨Ow, g⟩ := g
  have sx : SameX a H H' := fun b o ne e => g.keep b o e (fun z => by cases z; exact ne rfl)
  unfold rowAt at e
  split at e
  · rename_i es e1
    cases e
    obtain ⟨v, _, b, xs, _, hb, r, ha, _⟩ := g.sl 0 _ e1
    cases ha
    exact ⟨xs, sx, hb, r⟩
  · rename_i es e1
    cases e
    obtain ⟨v, _, p, b, dx, xs, _, _, hb, r, ha, _⟩ := g.sl 0 _ e1
    cases ha
    exact ⟨xs, sx, hb, r⟩
  · cases e
def XPost (K : PySem.W.Frag) (cl : String → Addr) (H : Hp) (a : Addr) (Q : VK) (E : XK) : XO → Prop
  | .ret r ds => ∀ v H' xs, SameX a H H' → H' a = some (.lst xs) → Reps H' xs ds → Rep H' v r → Q v H'
  | .exc c ds => ∀ H' xs, SameX a H H' → H' a = some (.lst xs) → Reps H' xs ds → E (.ref (cl c)) none H'
  | .no => False
def spX (K : PySem.W.Frag) (cl : String → Addr) (m : Nat) (ob : Bool) (F : FX) : Sp := fun vs H Q E => vs.length = m ∧ ∃ v rest a xs ds args, vs = v :: rest ∧ H a = some (.lst xs) ∧ Reps H xs ds ∧ HeadX K H ob v a ∧ Reps H rest args ∧ XPost K cl H a Q E (F ds args)
theorem runX_ar {N m : Nat} {ob : Bool} {b : SF} (row args : List D) (h : args.length + 1 ≠ m) : runX N m ob b row args = .no := by unfold runX; rw [if_neg h]
section
variable {P : Program} {w : World} {K : PySem.W.Frag} {mg : Str → Option Value} {base : Heap} {cl : String → Addr} {x qual : Str} {params : Arguments} {body : List Stmt} {scope : Scope} {f : Addr} {fd : FuncData} {N ps : List Str} {k : Nat} {b : SF} {ob : Bool}
theorem fn_okX (F : FunD K x qual params body scope [] [] f fd) (S : FnScope N ps scope) (hm : ps.length ≤ N.length)
    (hbody : ∀ (cdv : Value) (A : Around) (outer : List Env) (s : Shared) (H : Hp) (E : XK), Room k (A.deeper (envOfC qual scope s.heap.objs.size f cdv)) →
      Takes (cxOf (L2.CX P w) P w K mg base N qual scope f cdv A outer s H E) (fun cls d _ H => E cls d H) →
      PSs (cxOf (L2.CX P w) P w K mg base N qual scope f cdv A outer s H E) body (tS K cl (fun cls d _ H => E cls d H) b)) :
    FnOk P w K mg base (L2.CX P w) (k + 1) f fd ps (spX K cl ps.length ob (runX N.length ps.length ob b)) := by
  refine F.ok S (fun vs H Q E h => h.1) (fun cdv A outer s H vs Q E hr h => ?_)
  obtain ⟨hl, v, rest, a, xs, ds, args, rfl, hx, rx, hd, ha, h⟩ := h
  refine ⟨_, hbody cdv A outer s H E hr (takes_of rfl rfl rfl rfl), frX H a, _, gd_startX hx rx hd ha hl hm, ?_⟩
  have la := ha.length
  unfold runX at h
  rw [if_pos (by simp only [List.length_cons] at hl; omega)] at h
  unfold finX at h
  split at h
  · rename_i ρ e
    rw [e]
    split at h
    · rename_i r e2
      intro σ H' g
      obtain ⟨ys, s1, h1, r1⟩ := row_end g e2
      exact h _ H' ys s1 h1 r1 .non
    · exact h.elim
  · rename_i d ρ e
    rw [e]
    split at h
    · rename_i r e2
      intro v σ H' g q
      obtain ⟨ys, s1, h1, r1⟩ := row_end g e2
      exact h v H' ys s1 h1 r1 q
    · exact h.elim
  · rename_i c ρ e
    rw [e]
    split at h
    · rename_i r e2
      intro σ H' g
      obtain ⟨ys, s1, h1, r1⟩ := row_end g e2
      exact h H' ys s1 h1 r1
    · exact h.elim
  · exact h.elim
theorem fn_noneX {m : Nat} : FnOk P w K mg base (L2.CX P w) 0 f fd ps (spX K cl m ob (fun _ _ => .no)) :=
  have no : ∀ vs H Q E, ¬ spX K cl m ob (fun _ _ => .no) vs H Q E := fun vs H Q E h => by
    obtain ⟨_, _, _, _, _, _, _, _, _, _, _, _, z⟩ := h
    exact z
  ⟨fun vs H Q E h => absurd h (no vs H Q E), fun A outer s H args us vs Q E _ _ _ _ h => absurd h (no vs H Q E)⟩
end
/-- the def x stands there and answers F -/
structure FnKX (P : Program) (w : World) (K : PySem.W.Frag) (mg : Str → Option Value) (base : Heap) (cl : String → Addr) (x : Str) (ps : List Str) (n : Nat) (F : FX) : Prop where
  ex : ∃ f fd, FnOk P w K mg base (L2.CX P w) n f fd ps (spX K cl ps.length false F) ∧ mg x = some (.ref f) ∧ PySem.W.keepIn K (.ref f) = true ∧ Binds K fd ps [] ∧ (∀ (s : Shared) (us : List Value), us.length = ps.length → BindsTo s fd ⟨us, []⟩ (ps.zip us)) ∧ ∃ oc od osl, K.lookup f = some ⟨oc, od, .func fd, osl⟩
  ar : ∀ row args, args.length + 1 ≠ ps.length → F row args = .no
section
variable {P : Program} {w : World} {K : PySem.W.Frag} {mg : Str → Option Value} {base : Heap} {cl : String → Addr} {x : Str} {ps : List Str} {n m : Nat} {F : FX}
theorem FnKX.up (h : FnKX P w K mg base cl x ps n F) (hl : n ≤ m) : FnKX P w K mg base cl x ps m F := by
  obtain ⟨⟨f, fd, G, r⟩, ar⟩ := h
  exact ⟨⟨f, fd, G.mono hl, r⟩, ar⟩
theorem fnk_mkX {qual : Str} {params : Arguments} {body : List Stmt} {scope : Scope} {N : List Str} {k : Nat} {b : SF} {f : Addr} {fd : FuncData} (FD : FunD K x qual params body scope [] [] f fd) (g : mg x = some (.ref f)) (S : FnScope N ps scope) (hm : ps.length ≤ N.length)
    (hbi : ∀ (kV doc pm : Value) (an : Option Addr) (cdv ct : Value) (us : List Value), us.length = ps.length → bindArgs (PySem.W.fnOf x qual params body scope .none kV doc pm an cdv ct) ⟨us, []⟩ = pure (ps.zip us))
    (hbody : ∀ (cdv : Value) (A : Around) (outer : List Env) (s : Shared) (H : Hp) (E : XK), Room k (A.deeper (envOfC qual scope s.heap.objs.size f cdv)) →
      Takes (cxOf (L2.CX P w) P w K mg base N qual scope f cdv A outer s H E) (fun cls d _ H => E cls d H) →
      PSs (cxOf (L2.CX P w) P w K mg base N qual scope f cdv A outer s H E) body (tS K cl (fun cls d _ H => E cls d H) b)) :
    FnKX P w K mg base cl x ps (k + 1) (runX N.length ps.length false b) :=
  ⟨⟨f, fd, fn_okX FD S hm hbody, g, FD.kp, FD.bindsN hbi, FD.bindsA hbi, fd_at FD⟩, runX_ar⟩
end
/-! ### what the caller's list becomes -/
theorem Good.ownX {K : PySem.W.Frag} {fr : Fr} {ρ : Rho} {σ : L2.St} {H H' : Hp} {Ow : Nat → Addr → Prop} (g : Good K fr ρ σ H Ow) {i : Nat} {a : Addr} {xs ys : List V} {es : List D} {s' : DV} (o : Ow i a) (hx : H a = some (.lst xs)) (s : SameX a H H') (hy : H' a = some (.lst ys)) (r : Reps H' ys es)
    (hs : (∃ ds, ρ[i]? = some (some (.own ds)) ∧ s' = .own es) ∨ (∃ ds, ρ[i]? = some (some (.io ds)) ∧ s' = .io es) ∨ ∃ ds, ρ[i]? = some (some (.obj ds)) ∧ s' = .obj es) : Good K fr (ρ.set i (some s')) σ H' Ow := by
  let H2 : Hp := fun b => if b = a then H a else H' b
  have s2 : Same H H2 := fun b ob e => by
    show (if b = a then H a else H' b) = some ob
    by_cases z : b = a
    · rw [if_pos z, ← z]; exact e
    · rw [if_neg z]; exact s b ob z e
  have tp : Tp H' H2 := fun b zs e => by
    show (if b = a then H a else H' b) = some (.tup zs)
    rw [if_neg (fun z => by rw [z, hy] at e; cases e)]; exact e
  have e : H' = upd H2 a (.lst ys) := by
    funext b
    by_cases z : b = a
    · rw [z, upd_same, hy]
    · rw [upd_ne z]
      show H' b = if b = a then H a else H' b
      rw [if_neg z]
  rw [e]
  exact (g.same s2).mut o (s2 _ _ hx) (Reps.mono tp _ _ r) hs
def sCallX (i : Nat) (F : FX) : SF := fun ρ => match ownOf ρ i with
  | some (ds, mk) => (match F ds [] with
    | .ret _ es => .nx (ρ.set i (some (mk es)))
    | .exc c es => .exc c (ρ.set i (some (mk es)))
    | .no => .no)
  | none => .no
section
variable {cl : String → Addr} {W : WX} {X : Cx} {pos p cpos xp : Pos} {x f : Str} {n : Nat} {F : FX} {ps : List Str}
theorem s_callX (i : Nat) (G : FnKX X.prog X.w X.K X.mg X.base cl f ps n F) (hr : Room n X.A) (hg : Gl X f) (tk : Takes X W) (hN : X.N[i]? = some x := by rfl) (hv : Vis X.env.scope x := by first | exact Or.inl rfl | exact Or.inr (Or.inl rfl) | exact Or.inr (Or.inr rfl)) (hd : (x == ("__debug__" : Str)) = false := by decide)
    (hcd : (x == ("__classdict__" : Str)) = false := by decide) (hdb : (f == ("__debug__" : Str)) = false := by decide) (hs : starEach [.Name x xp] X.env = (false, eval (.Name x xp) X.env) :: starEach [] X.env := by rfl) (hpl : (backTo cpos (starEach [] X.env)).any (·.1) = false := by rfl)
    (hsw : swapsWith (.Call (.Name f p) [.Name x xp] [] cpos) none pos.line X.env = pure false := by rfl) : PS X (.Expr (.Call (.Name f p) [.Name x xp] [] cpos) pos) (tS X.K cl W (sCallX i F)) := by
  obtain ⟨fa, fd, G1, hm, hk, hb, _⟩ := G.ex
  have ar := G.ar
  refine (ps_expr (pe_callS G1 hr hg hm hk hb (fun σ => passAt tk σ) (pa_cons (pe_var hN hv hd hcd) pa_nil hs) hdb hs hpl) hsw).imp fun D σ H ⟨fr, ρ, gd, h⟩ => ?_
  unfold sCallX at h
  cases e0 : ownOf ρ i with
  | none => simp only [e0] at h; exact h.elim
  | some q =>
    obtain ⟨ds, mk⟩ := q
    simp only [e0] at h
    obtain ⟨Ow, g⟩ := gd
    have hat := ownOf_at e0
    obtain ⟨a, xs, e1, hx, r, ho, _⟩ := g.ownAt hat
    have hl : [V.ref a].length = ps.length := by
      by_cases z : ([] : List KT.D).length + 1 = ps.length
      · exact z
      · rw [ar ds [] z] at h; exact h.elim
    have back : ∀ {H' : Hp} {ys : List V} {es : List KT.D}, SameX a H H' → H' a = some (.lst ys) → Reps H' ys es → Gd X.K fr (ρ.set i (some (mk es))) σ H' := fun {H' ys es} s1 h1 r1 =>
      ⟨Ow, g.ownX ho hx s1 h1 r1 (by
        rcases hat with ⟨e, rfl⟩ | ⟨e, rfl⟩
        · exact .inl ⟨_, e, rfl⟩
        · exact .inr (.inl ⟨_, e, rfl⟩))⟩
    refine ⟨.ref a, e1, hl, .ref a, [], a, xs, ds, [], rfl, hx, r, .inl ⟨rfl, rfl⟩, .nil, ?_⟩
    cases e2 : F ds [] with
    | no => simp only [e2] at h; exact h.elim
    | ret z es =>
      simp only [e2] at h
      exact fun v H' ys s1 h1 r1 _ => h σ H' (back s1 h1 r1)
    | exc c es =>
      simp only [e2] at h
      exact fun H' ys s1 h1 r1 => h σ H' (back s1 h1 r1)
end
end KT

set_option linter.all false
set_option maxRecDepth 100000
set_option maxHeartbeats 4000000
namespace KT
/-! ## sorting -/
structure TOrd {α : Type} (le : α → α → Bool) : Prop where
  total : ∀ a b, le a b = true ∨ le b a = true
  trans : ∀ a b c, le a b = true → le b c = true → le a c = true
  anti : ∀ a b, le a b = true → le b a = true → a = b
def ins {α : Type} (le : α → α → Bool) (x : α) : List α → List α
  | [] => [x]
  | y :: ys => if le x y then x :: y :: ys else y :: ins le x ys
def isort {α : Type} (le : α → α → Bool) (xs : List α) : List α := xs.foldr (ins le) []
def Srt {α : Type} (le : α → α → Bool) (xs : List α) : Prop := xs.Pairwise fun a b => le a b = true
section
variable {α : Type} {le : α → α → Bool}
theorem ins_ne (x : α) (l : List α) : ins le x l ≠ [] := by
  cases l with
  | nil => simp [ins]
  | cons y ys => unfold ins; split <;> simp
theorem ins_perm (x : α) : ∀ l : List α, (ins le x l).Perm (x :: l)
  | [] => .refl _
  | y :: ys => by
    unfold ins
    split
    · exact .refl _
    · exact ((ins_perm x ys).cons y).trans (.swap x y ys)
theorem isort_self (l : List α) : (isort le l).Perm l := by
  induction l with
  | nil => exact .refl _
  | cons x l ih => exact (ins_perm x _).trans (ih.cons x)
theorem foldr_ins_perm (ys : List α) : ∀ xs : List α, (xs.foldr (ins le) ys).Perm (xs ++ ys)
  | [] => .refl _
  | x :: xs => (ins_perm x _).trans ((foldr_ins_perm ys xs).cons x)
theorem ins_len (x : α) (l : List α) : (ins le x l).length = l.length + 1 := (ins_perm x l).length_eq
theorem isort_len (l : List α) : (isort le l).length = l.length := (isort_self l).length_eq
theorem isort_mem {l : List α} {x : α} : x ∈ isort le l ↔ x ∈ l := (isort_self l).mem_iff
theorem isort_app (xs ys : List α) : isort le (xs ++ ys) = xs.foldr (ins le) (isort le ys) := by unfold isort; rw [List.foldr_append]
variable (O : TOrd le)
include O
theorem TOrd.of_not {a b : α} (h : ¬ le a b = true) : le b a = true := (O.total a b).resolve_left h
theorem TOrd.refl (a : α) : le a a = true := (O.total a a).elim id id
theorem srt_ins {x : α} : ∀ {l : List α}, Srt le l → Srt le (ins le x l)
  | [], _ => by simp [ins, Srt]
  | y :: ys, h => by
    have h' := List.pairwise_cons.mp h
    unfold ins
    split
    · rename_i e
      refine List.pairwise_cons.mpr ⟨fun z hz => ?_, h⟩
      rcases List.mem_cons.mp hz with rfl | hz
      · exact e
      · exact O.trans _ _ _ e (h'.1 z hz)
    · rename_i e
      refine List.pairwise_cons.mpr ⟨fun z hz => ?_, srt_ins h'.2⟩
      rcases List.mem_cons.mp ((ins_perm x ys).mem_iff.mp hz) with rfl | hz
      · exact O.of_not e
      · exact h'.1 z hz
theorem srt_isort (l : List α) : Srt le (isort le l) := by
  induction l with
  | nil => exact .nil
  | cons x l ih => exact srt_ins O ih
theorem srt_foldr {ys : List α} (h : Srt le ys) (xs : List α) : Srt le (xs.foldr (ins le) ys) := by
  induction xs with
  | nil => exact h
  | cons x l ih => exact srt_ins O ih
theorem ins_srt {x : α} {l : List α} (h : Srt le (x :: l)) : ins le x l = x :: l := by
  cases l with
  | nil => rfl
  | cons y ys =>
    have := (List.pairwise_cons.mp h).1 y (by simp)
    unfold ins; rw [if_pos this]
theorem isort_srt {l : List α} (h : Srt le l) : isort le l = l := by
  induction l with
  | nil => rfl
  | cons x l ih =>
    show ins le x (isort le l) = _
    rw [ih (List.pairwise_cons.mp h).2, ins_srt O h]
theorem ins_comm (x y : α) : ∀ l : List α, ins le x (ins le y l) = ins le y (ins le x l)
  | [] => by
    simp only [ins]
    by_cases h1 : le x y = true
    · by_cases h2 : le y x = true
      · rw [O.anti x y h1 h2]
      · simp [h1, h2]
    · have h2 := O.of_not h1
      simp [h1, h2]
  | z :: l => by
    have ih := ins_comm x y l
    by_cases hx : le x z = true
    · by_cases hy : le y z = true
      · simp only [ins, hx, hy, if_true]
        by_cases h1 : le x y = true
        · by_cases h2 : le y x = true
          · rw [O.anti x y h1 h2]
          · simp [h1, h2, hx, hy]
        · have h2 := O.of_not h1
          simp [h1, h2, hx, hy]
      · have e1 : ¬ le y x = true := fun h => hy (O.trans _ _ _ h hx)
        simp [ins, hx, hy, e1]
    · by_cases hy : le y z = true
      · have e1 : ¬ le x y = true := fun h => hx (O.trans _ _ _ h hy)
        simp [ins, hx, hy, e1]
      · simp [ins, hx, hy, ih]
theorem isort_perm {xs ys : List α} (h : xs.Perm ys) : isort le xs = isort le ys := by
  induction h with
  | nil => rfl
  | cons x _ ih => show ins le x _ = ins le x _; rw [show List.foldr (ins le) [] _ = _ from ih]; rfl
  | swap x y l => exact ins_comm O y x _
  | trans _ _ a b => exact a.trans b
theorem srt_eq {xs ys : List α} (h : xs.Perm ys) (hx : Srt le xs) (hy : Srt le ys) : xs = ys := by
  rw [← isort_srt O hx, ← isort_srt O hy, isort_perm O h]
theorem foldr_isort (xs ys : List α) : (isort le xs).foldr (ins le) (isort le ys) = isort le (xs ++ ys) := by
  rw [← isort_app]
  exact isort_perm O ((isort_self xs).append_right ys)
end
def ile (a b : Int) : Bool := decide (a ≤ b)
theorem ile_ord : TOrd ile := ⟨fun a b => by simp [ile]; omega, fun a b c => by simp [ile]; omega, fun a b => by simp [ile]; omega⟩
def lexLe : List Int → List Int → Bool
  | [], _ => true
  | _ :: _, [] => false
  | x :: xs, y :: ys => if x = y then lexLe xs ys else decide (x < y)
theorem lex_ord : TOrd lexLe where
  total := by
    intro a
    induction a with
    | nil => intro b; exact .inl rfl
    | cons x xs ih =>
      intro b
      cases b with
      | nil => exact .inr rfl
      | cons y ys =>
        by_cases e : x = y
        · subst e; simpa [lexLe] using ih ys
        · have e' : ¬ y = x := fun h => e h.symm
          simp [lexLe, e, e']; omega
  trans := by
    intro a
    induction a with
    | nil => intro b c _ _; rfl
    | cons x xs ih =>
      intro b c h1 h2
      cases b with
      | nil => cases h1
      | cons y ys =>
        cases c with
        | nil => cases h2
        | cons z zs =>
          unfold lexLe at h1 h2 ⊢
          by_cases e1 : x = y
          · rw [if_pos e1] at h1
            by_cases e2 : y = z
            · rw [if_pos e2] at h2
              rw [if_pos (e1.trans e2)]; exact ih ys zs h1 h2
            · rw [if_neg e2] at h2
              rw [if_neg (by rw [e1]; exact e2), e1]; exact h2
          · rw [if_neg e1] at h1
            simp only [decide_eq_true_eq] at h1
            by_cases e2 : y = z
            · subst e2
              rw [if_neg e1]; simpa using h1
            · rw [if_neg e2] at h2
              simp only [decide_eq_true_eq] at h2
              rw [if_neg (by omega)]; simp; omega
  anti := by
    intro a
    induction a with
    | nil =>
      intro b _ h
      cases b with
      | nil => rfl
      | cons _ _ => cases h
    | cons x xs ih =>
      intro b h1 h2
      cases b with
      | nil => cases h1
      | cons y ys =>
        unfold lexLe at h1 h2
        by_cases e : x = y
        · rw [if_pos e] at h1
          rw [if_pos e.symm] at h2
          rw [e, ih ys h1 h2]
        · rw [if_neg e] at h1
          rw [if_neg (fun h => e h.symm)] at h2
          simp only [decide_eq_true_eq] at h1 h2
          omega
theorem lex_lt (a b : List Int) : (!(lexLe b a)) = decide (a < b) := by
  induction a generalizing b with
  | nil =>
    cases b with
    | nil => simp [lexLe]
    | cons y ys => simp [lexLe]
  | cons x xs ih =>
    cases b with
    | nil => simp [lexLe]
    | cons y ys =>
      unfold lexLe
      by_cases e : y = x
      · subst e
        rw [if_pos rfl, ih ys]
        simp [List.cons_lt_cons_iff]
      · rw [if_neg e]
        have : (x :: xs < y :: ys) ↔ x < y := by
          rw [List.cons_lt_cons_iff]
          constructor
          · rintro (h | ⟨h, _⟩)
            · exact h
            · exact absurd h.symm e
          · exact .inl
        rw [← decide_not, decide_eq_decide, this]; omega
end KT

set_option Elab.async false
set_option linter.all false
set_option maxRecDepth 100000
set_option maxHeartbeats 4000000
/-! ## sorted: rows of ints, some of them empty -/
namespace KT
open PySem PySem.W PySem.Calls PyProof.Rows SrtO SeqAt
/-- a tuple of ints -/
def IsRow (h : Heap) (v : Value) (ns : List Int) : Prop := ∃ a o xs n, v = .ref a ∧ h.get? a = some o ∧ o.cls = .type "tuple" ∧ o.data = .seq xs n ∧ IntsAre xs.toList ns
theorem IsRow.keep {h h' : Heap} {v : Value} {ns : List Int} (x : IsRow h v ns) (k : ∀ b o, o.cls = .type "tuple" → h.get? b = some o → h'.get? b = some o) : IsRow h' v ns := by
  obtain ⟨a, o, xs, n, e, ho, hc, hd, hi⟩ := x
  exact ⟨a, o, xs, n, e, k a o hc ho, hc, hd, hi⟩
theorem ints_reads {h : Heap} : ∀ {vs : List Value} {ns : List Int}, IntsAre vs ns → ReadsAll h vs (ns.map PyData.int) []
  | _, _, .nil => .nil
  | _, _, .cons n t r => ReadsAll.cons (as := []) (bs := []) (.int n t) (ints_reads r)
theorem IsRow.reads {h : Heap} {v : Value} {ns : List Int} (x : IsRow h v ns) : Reads h v (.tuple (ns.map PyData.int)) [] := by
  obtain ⟨a, o, xs, n, rfl, ho, hc, hd, hi⟩ := x
  exact .tuple ho hc hd (ints_reads hi)
theorem row_alike (xs ys : List Int) : alike (.tuple (xs.map PyData.int)) (.tuple (ys.map PyData.int)) = true := by
  simpa [alike] using alike_ints xs ys
def ltR (k : Value → List Int) (v u : Value) : Bool := !(lexLe (k u) (k v))
theorem swo_row (k : Value → List Int) : Swo (ltR k) := by
  refine ⟨fun x y h => ?_, fun x y z h1 h2 => ?_⟩
  · unfold ltR at h ⊢
    simp only [Bool.not_eq_true'] at h
    have := (lex_ord.total (k y) (k x)).resolve_left (by rw [h]; decide)
    simp [this]
  · unfold ltR at h1 h2 ⊢
    simp only [Bool.not_eq_false'] at h1 h2 ⊢
    exact lex_ord.trans _ _ _ h1 h2
theorem dataLt_row (xs ys : List Int) : dataLt (.tuple (xs.map PyData.int)) (.tuple (ys.map PyData.int)) = !(lexLe ys xs) := by
  rw [dataLt_tuple, lex_lt]
  exact dataLt_ints xs ys
section
variable {prog : Program} {w : World} {A : Around} {E : Value → Shared → Prop} {s : Shared}
theorem call_tuple_lt {Q : Value → Shared → Prop} {l b : Addr} {items items2 : Array Value} {e r : Nat → Bool} (hl : s.heap.IsTuple l items) (hb : s.heap.IsTuple b items2)
    (he : ∀ j (h1 : j < items.size) (h2 : j < items2.size), EqAt A.in1 s items[j] items2[j] (e j)) (hr : ∀ j (h1 : j < items.size) (h2 : j < items2.size), e j = false → RcLt A.in1 s items[j] items2[j] (r j))
    (h : Q (.bool (firstLt e r (decide (items.size < items2.size)) (List.range (min items.size items2.size)))) s) : wpAny (model prog w) A (call (.builtin "tuple.__lt__") [.ref l, .ref b]) Q E s := by
  obtain ⟨⟨cls, dd, data, sl⟩, ho, hc, n, hd⟩ := id hl
  obtain ⟨⟨cls2, dd2, data2, sl2⟩, ho2, hc2, n2, hd2⟩ := id hb
  simp only at hc hd hc2 hd2
  subst hc hd hc2 hd2
  exact call_meets F.slot_tuple_lt ⟨_, ho, rfl⟩ F.entry_tuple_lt (F.args_tuple_lt_2 _ _) (SeqAt.tuple_ltAt l b items items2 n n2 dd dd2 sl sl2 e r) ⟨ho, ho2, he, hr, h⟩
theorem un2 (A : Around) : A.in1.units = A.units + 1 := rfl
/-- one row against another, as sorting compares -/
theorem row_lt (κ : SortKind) (hκ : κ = tuples' true ∨ κ = general' ∨ κ = oneType') {v u : Value} {xs ys : List Int} {Q : Bool → Shared → Prop} (hv : IsRow s.heap v xs) (hw : IsRow s.heap u ys) (hu : A.units + 50 < cLine)
    (hq : Q (!(lexLe ys xs)) s) : wpAny (model prog w) A (keyLt' κ v u) Q E s := by
  have dp : ∀ ns : List Int, (PyData.tuple (ns.map PyData.int)).depth = 1 := fun ns => by simp [PyData.depth, depth_ints]
  have hal := alike_ints xs ys
  rcases hκ with rfl | rfl | rfl
  · obtain ⟨a, o, vs, n, rfl, ho, hc, hd, hi⟩ := hv
    obtain ⟨b, o', ws, n', rfl, ho', hc', hd', hi'⟩ := hw
    have l1 : vs.size = (xs.map PyData.int).length := by simpa using ReadsAll.length _ _ _ (ints_reads (h := s.heap) hi)
    have l2 : ws.size = (ys.map PyData.int).length := by simpa using ReadsAll.length _ _ _ (ints_reads (h := s.heap) hi')
    refine kat_lt ho hd ho' hd' (katLex_alike (xs.map PyData.int) (ys.map PyData.int) 0 _ _ _ _ (ints_reads hi) (ints_reads hi') hal (by rw [depth_ints, depth_ints]; omega) (fun _ _ x r t ex => ?_) (by rw [l1, l2]) ?_)
    · intro z
      subst z
      cases xs with
      | nil => cases ex
      | cons y ys => cases ex
    · have := dataLt_row xs ys
      rw [dataLt_tuple] at this
      rw [this]; exact hq
  · show wpAny (model prog w) A (oneLt' false v u) Q E s
    refine oneLt_alike (f := false) (fun h => by cases h) hv.reads hw.reads (row_alike xs ys) (fun h => by cases h) (by rw [dp, dp]; omega) ?_
    rw [dataLt_row]; exact hq
  · rw [keyLt'_oneType]
    obtain ⟨a, o, vs, n, rfl, ho, hc, hd, hi⟩ := hv
    obtain ⟨b, o', ws, n', rfl, ho', hc', hd', hi'⟩ := hw
    have ra := ints_reads (h := s.heap) hi
    have rb := ints_reads (h := s.heap) hi'
    have l1 : vs.size = (xs.map PyData.int).length := by simpa using ReadsAll.length _ _ _ ra
    have l2 : ws.size = (ys.map PyData.int).length := by simpa using ReadsAll.length _ _ _ rb
    have hq' : Q (dataLt (.tuple (xs.map PyData.int)) (.tuple (ys.map PyData.int))) s := by rw [dataLt_row]; exact hq
    rw [dataLt_tuple, ← firstLt_toks _ _ hal, ← l1, ← l2] at hq'
    rw [oneLt'_eq]
    simp only [if_true]
    refine wpAny_bind (wpAny_cRoomFor (by omega) ?_)
    refine wpAny_bind (wpAny_callSpecialIfBound?_slot (T := "tuple") ⟨_, ho, hc⟩ F.slot_tuple_lt (call_tuple_lt (e := pairEq (xs.map PyData.int) (ys.map PyData.int)) (r := fun j => dataLt ((xs.map PyData.int).getD j .none) ((ys.map PyData.int).getD j .none)) ⟨_, ho, hc, _, hd⟩ ⟨_, ho', hc', _, hd'⟩ (fun j j1 j2 => ?_) (fun j j1 j2 hj => ?_) ?_))
    · have := eqAt_alikeAll _ _ A.in1 s vs.toList ws.toList _ _ ra rb hal (by rw [depth_ints, depth_ints]; show A.units + 1 + _ < _; omega) j (by simpa using j1) (by simpa using j2)
      simpa using this
    · have := rcLt_alikeAll _ _ A.in1 s vs.toList ws.toList _ _ ra rb hal (by rw [depth_ints, depth_ints]; show A.units + 1 + _ < _; omega) j (by simpa using j1) (by simpa using j2) hj
      simpa using this
    · exact wpAny_truthy_bool hq'
theorem row_cmp (κ : SortKind) (hκ : κ = tuples' true ∨ κ = general' ∨ κ = oneType') {vs : List Value} {k : Value → List Int} (hp : ∀ v ∈ vs, IsRow s.heap v (k v)) (hu : A.units + 50 < cLine) : Cmp prog w A s κ (fun p => p.1 ∈ vs) (lt2 (ltR k)) := by
  intro p q hm hm'
  exact row_lt κ hκ (hp _ hm) (hp _ hm') hu ⟨rfl, rfl⟩
end
section
variable {M : Model} {A : Around} {E : Value → Shared → Prop} {s : Shared}
/-- the first items, where there are any -/
theorem row_firsts : ∀ (vs : List Value) (k : Value → List Int) {Q : List (Option Value) → Shared → Prop}, (∀ v ∈ vs, IsRow s.heap v (k v)) → (∀ os : List (Option Value), os.length = vs.length → os.map (·.isSome) = vs.map (fun v => !(k v).isEmpty) → Q os s) → wpAny M A (vs.mapM firstOfTuple') Q E s
  | [], k, Q, hp, h => by rw [List.mapM_nil]; exact wpAny_pure (h [] rfl rfl)
  | v :: vs, k, Q, hp, h => by
    obtain ⟨a, o, xs, n, rfl, ho, hc, hd, hi⟩ := hp v (by simp)
    rw [List.mapM_cons]
    refine wpAny_bind ?_
    rw [kas_first_eq]
    refine wpAny_bind (Looks.here (show Looks M s.heap (typeOf (.ref a)) o.cls from (Looks.ld ho).andThen .now) ?_)
    rw [hc, if_neg (by first | decide | simp)]
    refine wpAny_bind (listItems_at ho hd (wpAny_pure ?_))
    refine wpAny_bind (row_firsts vs k (Q := fun bs s' => wpAny M A (pure (xs[0]? :: bs)) Q E s') (fun u hu => hp u (by simp [hu])) fun os h1 h2 => wpAny_pure (h _ (by simp [h1]) ?_))
    simp only [List.map_cons, h2, List.cons.injEq, and_true]
    cases e : xs.toList with
    | nil =>
      rw [e] at hi
      have hk : k (.ref a) = [] := by generalize k (Value.ref a) = ns at hi ⊢; cases hi; rfl
      have hx : xs[0]? = none := by rw [← Array.getElem?_toList, e]; rfl
      rw [hk, hx]; rfl
    | cons y ys =>
      rw [e] at hi
      have hk : ∃ i is, k (.ref a) = i :: is := by generalize k (Value.ref a) = ns at hi ⊢; cases hi; exact ⟨_, _, rfl⟩
      obtain ⟨i, is, hk⟩ := hk
      have hx : xs[0]? = some y := by rw [← Array.getElem?_toList, e]; rfl
      rw [hk, hx]; rfl
theorem rows_tups : ∀ (vs : List Value) (k : Value → List Int), (∀ v ∈ vs, IsRow s.heap v (k v)) → (∀ v ∈ vs, k v ≠ []) → ∃ fs, KatTups s.heap vs fs ∧ fs.length = vs.length ∧ ∀ f ∈ fs, ∃ i t, f = Value.int i t
  | [], k, _, _ => ⟨[], KatTups.nil, rfl, fun f hf => absurd hf (by simp)⟩
  | v :: vs, k, hp, hn => by
    obtain ⟨fs, h1, h2, h3⟩ := rows_tups vs k (fun u hu => hp u (by simp [hu])) fun u hu => hn u (by simp [hu])
    obtain ⟨a, o, xs, n, rfl, ho, hc, hd, hi⟩ := hp v (by simp)
    cases e : xs.toList with
    | nil =>
      rw [e] at hi
      have hk : k (.ref a) = [] := by generalize k (Value.ref a) = ns at hi ⊢; cases hi; rfl
      exact absurd hk (hn _ (by simp))
    | cons y ys =>
      have hx : xs[0]? = some y := by rw [← Array.getElem?_toList, e]; rfl
      obtain ⟨i, t, ey⟩ := ints_mem hi y (by rw [e]; simp)
      refine ⟨y :: fs, KatTups.cons ho hc hd hx h1, by simp [h2], fun f hf => ?_⟩
      rcases List.mem_cons.mp hf with rfl | hf
      · exact ⟨i, t, ey⟩
      · exact h3 f hf
/-- the kind that is found -/
theorem row_kind {vs : List Value} {k : Value → List Int} (hp : ∀ v ∈ vs, IsRow s.heap v (k v)) (h2 : 2 ≤ vs.length) :
    ∃ κ : SortKind, (κ = tuples' true ∨ κ = general' ∨ κ = oneType') ∧ ∀ (Q : SortKind → Shared → Prop) (E : Value → Shared → Prop), Q κ s → wpAny M A (keyKind' vs.toArray) Q E s := by
  by_cases hall : ∀ v ∈ vs, k v ≠ []
  · obtain ⟨fs, t1, t2, t3⟩ := rows_tups (s := s) vs k hp hall
    refine ⟨tuples' true, .inl rfl, fun Q E hq => ?_⟩
    refine kat_kind (T := .type "int") t1 (by omega) (fun f hm => ?_) (by rfl) ?_
    · obtain ⟨x, t, rfl⟩ := t3 f hm
      exact Looks.now
    · have e : (Value.type "int" != Value.type "tuple") = true := by first | decide +kernel | rfl | decide
      rw [e]
      exact hq
  · have hno : ∀ os : List (Option Value), os.map (·.isSome) = vs.map (fun v => !(k v).isEmpty) → (os.toArray.all fun x => x.isSome) ≠ true := fun os e h => by
      apply hall
      intro v hv hk
      have h1 : ∀ b ∈ os.map (·.isSome), b = true := by
        intro b hb
        obtain ⟨o, ho, rfl⟩ := List.mem_map.mp hb
        rw [List.all_toArray, List.all_eq_true] at h
        exact h o ho
      rw [e] at h1
      have := h1 (!(k v).isEmpty) (List.mem_map.mpr ⟨v, hv, rfl⟩)
      rw [hk] at this
      cases this
    obtain ⟨v₁, v₂, rest, rfl⟩ : ∃ v₁ v₂ rest, vs = v₁ :: v₂ :: rest := by
      match vs, h2 with
      | v₁ :: v₂ :: rest, _ => exact ⟨v₁, v₂, rest, rfl⟩
      | [], h => simp at h
      | [_], h => simp at h
    refine ⟨if (k v₁).isEmpty then oneType' else general', by by_cases hk : (k v₁).isEmpty = true <;> simp [hk], fun Q E hq => ?_⟩
    rw [kat_kind_eq, List.mapM_toArray, map_eq_pure_bind]
    refine wpAny_bind (wpAny_bind (row_firsts _ k hp fun os h3 h4 => wpAny_pure ?_))
    rw [if_neg (hno os h4)]
    have h0 : (os.toArray[0]?.bind id).isSome = !(k v₁).isEmpty := by
      cases os with
      | nil => simp at h3
      | cons o os =>
        simp only [List.map_cons, List.cons.injEq] at h4
        have := h4.1
        cases o <;> simpa using this
    cases hk : (k v₁).isEmpty with
    | false =>
      rw [hk] at h0 hq
      rw [if_pos (by rw [h0]; rfl)]
      exact wpAny_pure hq
    | true =>
      rw [hk] at h0 hq
      rw [if_neg (by rw [h0]; decide)]
      have hT : ∀ v ∈ v₁ :: v₂ :: rest, ∀ (Q' : Value → Shared → Prop), Q' (Value.type "tuple") s → wpAny M A (typeOf v) Q' E s := fun v hv Q' hq' => by
        obtain ⟨a, o, xs, n, rfl, ho, hc, hd, hi⟩ := hp v hv
        refine Looks.here (show Looks M s.heap (typeOf (.ref a)) o.cls from (Looks.ld ho).andThen .now) ?_
        rw [hc]; exact hq'
      rw [oneTypeOnly'_eq, List.mapM_toArray, map_eq_pure_bind]
      refine wpAny_bind (wpAny_bind (wpAny_bind (kas_mapM (r := Value.type "tuple") _ hT (wpAny_pure ?_))))
      have hall2 : ((List.map (fun _ => Value.type "tuple") (v₁ :: v₂ :: rest)).toArray.all fun x => x == Value.type "tuple") = true := by
        simp only [List.all_toArray, List.all_map, List.all_eq_true]
        intro _ _
        rfl
      have h0 : (List.map (fun _ => Value.type "tuple") (v₁ :: v₂ :: rest)).toArray[0]? = some (Value.type "tuple") := by simp
      rw [h0]
      simp only [hall2, if_true]
      exact wpAny_pure (wpAny_pure hq)
end
section
variable {prog : Program} {w : World} {A : Around} {E : Value → Shared → Prop} {s : Shared}
theorem rows_sortable {a : Addr} {vs : List Value} {k : Value → List Int} (h2 : 2 ≤ vs.length) (hp : ∀ v ∈ vs, IsRow s.heap v (k v)) (ha : ∀ o, s.heap.get? a = some o → o.cls ≠ .type "tuple") (hu : A.units + 50 < cLine) : SortableO prog w A s a vs (ltR k) := by
  intro h' keep
  have hp' : ∀ v ∈ vs, IsRow h' v (k v) := fun v hm => (hp v hm).keep fun b o c e => keep b o (fun z => by subst z; exact ha o e c) e
  obtain ⟨κ, hκ, hk⟩ := row_kind (M := model prog w) (A := A) (s := { s with heap := h' }) hp' h2
  exact ⟨κ, hk, row_cmp κ hκ hp' hu⟩
end
section
variable {prog : Program} {w : World} {A : Around} {E : Value → Shared → Prop} {s : Shared}
theorem collect_tup {l : Addr} {vs : List Value} {Q : List Value → Shared → Prop} (hl : s.heap.IsTuple l vs.toArray)
    (h : Q vs { s with heap := (s.heap.push (seqObj "list" #[] 0)).update s.heap.objs.size (Obj.mapSeq (· ++ vs.toArray)) }) (hsz : vs.length ≤ sizeLine) :
    wpAny (model prog w) A (collect (.ref l)) Q E s := by
  obtain ⟨o, ho, hc, n, hd⟩ := id hl
  unfold collect
  refine wpAny_bind (wpAny_runValue (codeAny_builtin entry_proto_collect' ?_))
  show wpAny _ _ (do again (.builtin "list.__iadd__" ⟨[← newList [], .ref l], []⟩)) _ _ s
  refine wpAny_bind (wpAny_newList (wpAny_pure ⟨Code.quiet_builtin _ (by decide +kernel), codeAny_builtin entry_list_iadd' ?_⟩))
  show wpAny _ _ (Builtin.List.listExtendWith (.ref s.heap.objs.size) (.ref l) (.ref s.heap.objs.size)) _ _ { s with heap := s.heap.push (seqObj "list" #[] 0) }
  unfold Builtin.List.listExtendWith
  have ho' : (s.heap.push (seqObj "list" #[] 0)).get? l = some o := Heap.get?_push_of_some _ ho
  refine wpAny_bind (wpAny_typeOf (T := "tuple") ⟨o, ho', hc⟩ ?_)
  have ht : (Value.type "tuple" == Value.type "tuple") = true := by rfl
  rw [if_pos (by rw [ht]; simp)]
  refine wpAny_bind (listItems_at ho' hd ?_)
  refine wpAny_bind (listItems_at (xs := #[]) (n := 0) (Heap.get?_push_size _ rfl) rfl ?_)
  rw [if_neg (by simp)]
  refine wpAny_bind (listUpdate_at (xs := #[]) (n := 0) (Heap.get?_push_size _ rfl) rfl ?_ (Nat.zero_le _) (by show (#[] ++ vs.toArray).size ≤ sizeLine + 1; simp only [Array.size_append, List.size_toArray, List.length_nil]; omega))
  refine wpAny_pure ?_
  show wpAny (model prog w) A (do
      let o ← load s.heap.objs.size
      match o.data with
      | .seq xs _ => pure xs.toList
      | _ => unsupported "internal:collect") Q E { s with heap := (s.heap.push (seqObj "list" #[] 0)).update s.heap.objs.size (Obj.mapSeq (· ++ vs.toArray)) }
  refine wpAny_bind (wpAny_load (get?_update_seq (Heap.get?_push_size _ rfl) _) ?_)
  show wpAny _ _ (pure ((#[] : Array Value) ++ vs.toArray).toList) Q E _
  rw [show ((#[] : Array Value) ++ vs.toArray).toList = vs by simp]
  exact wpAny_pure h
/-- sorted of a tuple -/
theorem sorted_ordT {l : Addr} {vs : List Value} {ltv : Value → Value → Bool} {Q : Value → Shared → Prop} (O : Swo ltv) (hl : s.heap.IsTuple l vs.toArray) (hz : vs.length ≤ sizeLine)
    (hS : 2 ≤ vs.length → ∀ (h₁ : Heap) (a : Addr), h₁.get? a = some (seqObj "list" vs.toArray 0) → (∀ b o, s.heap.get? b = some o → b ≠ a ∧ h₁.get? b = some o) → SortableO prog w A.in1.in1 { s with heap := h₁ } a vs ltv)
    (h : ∀ out : List Value, Srtd ltv out → Stb ltv out vs → Q (.ref (s.heap.objs.size + 1)) { s with heap := sortedAll s.heap vs out.toArray }) :
    wpAny (model prog w) A (call (.builtin "sorted") [.ref l]) Q E s := by
  refine Calls.call_function_entry kind_sorted plain_sorted entry_sorted (args_sorted1 _) ?_
  unfold Builtin.«sorted»
  refine wpAny_bind (m := checkCount "sorted" 1 1 _) (wpAny_pure ?_)
  refine wpAny_bind (collect_tup hl ?_ hz)
  refine wpAny_bind (wpAny_newList ?_ hz)
  have hsz : ((s.heap.push (seqObj "list" #[] 0)).update s.heap.objs.size (Obj.mapSeq (· ++ vs.toArray))).objs.size = s.heap.objs.size + 1 := by
    rw [Heap.size_update, size_push']
  have hoL : (((s.heap.push (seqObj "list" #[] 0)).update s.heap.objs.size (Obj.mapSeq (· ++ vs.toArray))).push (seqObj "list" vs.toArray 0)).get? (s.heap.objs.size + 1) = some (seqObj "list" vs.toArray 0) := by
    rw [← hsz]; exact Heap.get?_push_size _ rfl
  have keep : ∀ b o, s.heap.get? b = some o → b ≠ s.heap.objs.size + 1 ∧ (((s.heap.push (seqObj "list" #[] 0)).update s.heap.objs.size (Obj.mapSeq (· ++ vs.toArray))).push (seqObj "list" vs.toArray 0)).get? b = some o := fun b o q => by
    have hlt : b < s.heap.objs.size := Heap.lt_size q
    refine ⟨Nat.ne_of_lt (Nat.lt_succ_of_lt hlt), Heap.get?_push_of_some _ ?_⟩
    rw [Heap.get?_update_ne _ _ _ _ (Nat.ne_of_lt hlt)]
    exact Heap.get?_push_of_some _ q
  show wpAny _ _ _ _ _ { s with heap := ((s.heap.push (seqObj "list" #[] 0)).update s.heap.objs.size (Obj.mapSeq (· ++ vs.toArray))).push (seqObj "list" vs.toArray 0) }
  rw [hsz]
  refine wpAny_bind (wpAny_holding (wpAny_call_entry slot_list_sort ⟨_, hoL, rfl⟩ entry_list_sort (list_sort_ord O hoL hz (fun h2 => hS h2 _ _ hoL keep) fun out hs hb => ⟨_, rfl, ?_⟩) (args_list_sort _)))
  exact wpAny_pure ⟨_, rfl, h out hs hb⟩
end
end KT

namespace KT
open PySem PySem.Spec PyProof.Rows L2
/-- sorted of a tuple of ints -/
def rSortedTI (K : PySem.W.Frag) : List V → Hp → VK → Prop := fun vs H Q => ∃ (a : Addr) (ns : List Int), vs = [V.ref a] ∧ SqT K H a (ns.map V.int) ∧ ns.length ≤ sizeLine ∧
  ∀ (ns' : List Int) (p : Addr), ns'.Perm ns → ns'.Pairwise (· ≤ ·) → H p = none → Q (.ref p) (upd H p (.lst (ns'.map V.int)))
theorem cr_sortedTI {X : Cx} : CallR X (.builtin "sorted") (rSortedTI X.K) := by
  intro pins s σ H vs us Q I r h
  obtain ⟨a, ns, rfl, hs, hz0, q⟩ := h
  obtain ⟨its, rv, hl, _⟩ := I.tuple hs
  have hz : (ns.map V.int).length ≤ sizeLine := by rw [List.length_map]; exact hz0
  rw [Vals.ref1 r]
  have hi := rv.ints
  obtain ⟨⟨oc, od, odt, osl⟩, e2, c2, n2, d2⟩ := hl
  refine sorted_ordT SrtO.swo_int ⟨_, e2, c2, n2, d2⟩ (by rw [← rv.length]; exact hz) (fun h2 h₁ a' _ _ => SrtO.ints_sortable hi h2) fun out h1 h2 => ?_
  obtain ⟨k1, k2, k3⟩ := SrtO.ints_out hi h1 h2
  obtain ⟨ep, he'⟩ := PyProof.Rows.sortedAll_at s.heap its out.toArray
  have hlen : ((out.map SrtO.iv).map V.int).length ≤ sizeLine := by
    rw [List.length_map, k2.length_eq]
    exact hz0
  exact ⟨.ref _, upd H (s.heap.objs.size + 1) (.lst ((out.map SrtO.iv).map V.int)), I.laid (t' := s.toks) (fun _ _ => PyProof.Rows.sortedAll_old) (Nat.le_succ _) ⟨hlen, out, ep, vals_of_ints k1, he'⟩, rfl, q _ _ k2 k3 (I.hok.fresh (Nat.le_succ _))⟩
/-- sorted of a list of tuples of ints -/
def rSortedR (K : PySem.W.Frag) : List V → Hp → VK → Prop := fun vs H Q => ∃ (a : Addr) (ys : List V) (k : V → List Int), vs = [V.ref a] ∧ SqL K H a ys ∧ (∀ y ∈ ys, ∃ t, y = V.ref t ∧ H t = some (.tup ((k y).map V.int))) ∧
  ∀ (zs : List V) (p : Addr), zs.Perm ys → zs.Pairwise (fun x y => lexLe (k x) (k y) = true) → H p = none → Q (.ref p) (upd H p (.lst zs))
theorem cr_sortedR {X : Cx} (hu : X.A.units + 100 < cLine) : CallR X (.builtin "sorted") (rSortedR X.K) := by
  intro pins s σ H vs us Q I r h
  obtain ⟨a, ys, k, rfl, hs, hx, q⟩ := h
  obtain ⟨its, rv, hl, hz⟩ := I.list hs
  rw [Vals.ref1 r]
  obtain ⟨e1, e2⟩ := refs_back rv fun x m => by
    obtain ⟨t, e, _⟩ := hx x m
    exact ⟨t, e⟩
  have hp : ∀ v ∈ its, IsRow s.heap v (k (backV v)) := fun v hv => by
    obtain ⟨t, rfl⟩ := e2 v hv
    have hm : V.ref t ∈ ys := by rw [e1]; exact List.mem_map.mpr ⟨_, hv, rfl⟩
    obtain ⟨t', e, ht⟩ := hx _ hm
    cases e
    obtain ⟨_, its2, r2, o, ho, hc, n, hd⟩ := I.hok _ _ ht
    exact ⟨t, o, _, n, rfl, ho, hc, hd, (show IntsAre its2.toArray.toList (k (V.ref t)) by simpa using r2.ints)⟩
  refine SrtO.sorted_ord (swo_row fun u => k (backV u)) hl.isList (by rw [← rv.length]; exact hz) (fun h2 h₁ a' ha kk => ?_) fun out h1 h2 => ?_
  · refine rows_sortable (s := { s with heap := h₁ }) h2 (fun v hm => (hp v hm).keep fun b o _ e => (kk b o e).2) (fun o e => ?_) (by show X.A.units + 1 + 1 + 50 < cLine; omega)
    have e' : some o = some (seqObj "list" its.toArray 0) := e.symm.trans ha
    cases e'
    intro c
    exact absurd (Value.type.inj c) (by decide)
  · have h3 : ∀ u ∈ out, ∃ a, u = Value.ref a := fun u hu => e2 u (h2.perm.mem_iff.mp hu)
    obtain ⟨ep, he'⟩ := PyProof.Rows.sortedAll_at s.heap its out.toArray
    have hperm : (out.map backV).Perm ys := by rw [e1]; exact h2.perm.map backV
    have hlen : (out.map backV).length ≤ sizeLine := by rw [hperm.length_eq]; exact hz
    refine ⟨.ref _, upd H (s.heap.objs.size + 1) (.lst (out.map backV)), I.laid (t' := s.toks) (fun _ _ => PyProof.Rows.sortedAll_old) (Nat.le_succ _) ⟨hlen, out, ep, vals_back h3, he'⟩, rfl, q _ _ hperm ?_ (I.hok.fresh (Nat.le_succ _))⟩
    refine List.pairwise_map.mpr (h1.imp fun {x y} h => ?_)
    simpa [ltR] using h
end KT

set_option Elab.async false
set_option linter.all false
set_option maxRecDepth 100000
set_option maxHeartbeats 4000000
namespace KT
open PySem PySem.Spec PyProof.Rows L2

/-! ## sorted -/
def intsOf : List D → Option (List Int)
  | [] => some []
  | .int i :: r => (intsOf r).map (i :: ·)
  | _ :: _ => none
def rowsOf : List D → Option (List (List Int))
  | [] => some []
  | .tup ds :: r => match intsOf ds, rowsOf r with
    | some ns, some ms => some (ns :: ms)
    | _, _ => none
  | _ :: _ => none
def rowD (ns : List Int) : D := .tup (ns.map D.int)
theorem intsOf_eq : ∀ {ds : List D} {ns : List Int}, intsOf ds = some ns → ds = ns.map D.int
  | [], ns, h => by cases h; rfl
  | .int i :: r, ns, h => by
    obtain ⟨ms, e, rfl⟩ := Option.map_eq_some_iff.mp (show (intsOf r).map (i :: ·) = some ns from h)
    rw [intsOf_eq e]; rfl
  | .non :: _, _, h => by cases h
  | .bl _ :: _, _, h => by cases h
  | .str _ :: _, _, h => by cases h
  | .tup _ :: _, _, h => by cases h
theorem rowsOf_eq : ∀ {ds : List D} {rs : List (List Int)}, rowsOf ds = some rs → ds = rs.map rowD
  | [], rs, h => by cases h; rfl
  | .tup es :: r, rs, h => by
    unfold rowsOf at h
    split at h
    · rename_i ns ms e1 e2
      cases h
      rw [rowsOf_eq e2, intsOf_eq e1]; rfl
    · cases h
  | .non :: _, _, h => by cases h
  | .bl _ :: _, _, h => by cases h
  | .str _ :: _, _, h => by cases h
  | .int _ :: _, _, h => by cases h
theorem intsOf_map (ns : List Int) : intsOf (ns.map D.int) = some ns := by
  induction ns with
  | nil => rfl
  | cons n ns ih => simp [intsOf, ih]
theorem rowsOf_map (rs : List (List Int)) : rowsOf (rs.map rowD) = some rs := by
  induction rs with
  | nil => rfl
  | cons n ns ih => simp [rowsOf, rowD, intsOf_map] at *; simp [ih]
def sortL (ds : List D) : EO := match intsOf ds with
  | some ns => .ok (.own ((isort ile ns).map D.int))
  | none => match rowsOf ds with
    | some rs => .ok (.own ((isort lexLe rs).map rowD))
    | none => .no
def kSorted : List DV → EO
  | [.own ds] => sortL ds
  | [.bor ds] => sortL ds
  | [.dat (.tup ds)] => (match intsOf ds with
    | some ns => if ns.length ≤ 16777216 then .ok (.own ((isort ile ns).map D.int)) else .no
    | none => .no)
  | _ => .no
theorem reps_int {H : Hp} : ∀ {vs : List V} {ns : List Int}, Reps H vs (ns.map D.int) → vs = ns.map V.int
  | _, [], h => by cases h; rfl
  | _, n :: ns, h => by
    cases h with
    | cons a b =>
      cases a
      rw [reps_int b]; rfl
/-- the ints of the tuple at y -/
def rowAtV (H : Hp) (y : V) : List Int := match y with
  | .ref t => (match H t with
    | some (.tup xs) => xs.map fun | .int i => i | _ => 0
    | _ => [])
  | _ => []
theorem rowAtV_eq {H : Hp} {y : V} {ns : List Int} (h : Rep H y (rowD ns)) : rowAtV H y = ns ∧ ∃ t, y = V.ref t ∧ H t = some (.tup (ns.map V.int)) := by
  unfold rowD at h
  cases h with
  | @tup t xs _ e r =>
    have := reps_int r
    subst this
    refine ⟨?_, t, rfl, e⟩
    unfold rowAtV
    simp only [e, List.map_map]
    have : ((fun v => match v with | V.int i => i | _ => 0) ∘ V.int) = id := rfl
    rw [this, List.map_id]
theorem reps_rows {H : Hp} : ∀ {ys : List V} {rs : List (List Int)}, Reps H ys (rs.map rowD) → ys.map (rowAtV H) = rs ∧ ∀ y ∈ ys, Rep H y (rowD (rowAtV H y)) ∧ ∃ t, y = V.ref t ∧ H t = some (.tup ((rowAtV H y).map V.int))
  | _, [], h => by cases h; exact ⟨rfl, fun y hy => by cases hy⟩
  | _, r :: rs, h => by
    cases h with
    | @cons y ys _ _ a b =>
      obtain ⟨h1, h2⟩ := reps_rows b
      obtain ⟨e1, e2⟩ := rowAtV_eq a
      refine ⟨by rw [List.map_cons, h1, e1], fun z hz => ?_⟩
      rcases List.mem_cons.mp hz with rfl | hz
      · rw [e1]; exact ⟨a, e2⟩
      · exact h2 z hz
theorem reps_of_each {H : Hp} (k : V → List Int) : ∀ {zs : List V}, (∀ z ∈ zs, Rep H z (rowD (k z))) → Reps H zs ((zs.map k).map rowD)
  | [], _ => .nil
  | z :: zs, h => .cons (h z (by simp)) (reps_of_each k fun y hy => h y (by simp [hy]))
theorem ile_sort {ns ns' : List Int} (h1 : ns'.Perm ns) (h2 : ns'.Pairwise (· ≤ ·)) : ns' = isort ile ns := by
  refine srt_eq ile_ord (h1.trans (isort_self ns).symm) ?_ (srt_isort ile_ord ns)
  exact h2.imp fun {a b} h => by simpa [ile] using h
theorem snd_sorted {K : PySem.W.Frag} : KSndA K (fun xs H Q => rSortedI K xs H Q ∨ rSortedR K xs H Q ∨ rSortedTI K xs H Q) kSorted := by
  intro as vs H0 H Q h
  have lists : ∀ {v : V} {ds : List D}, LsOk H v ds → KPost K H Q (rSortedI K [v] H Q ∨ rSortedR K [v] H Q ∨ rSortedTI K [v] H Q) (sortL ds) := fun {v ds} hl => by
    obtain ⟨a, xs, rfl, hx, r⟩ := hl
    unfold sortL
    cases e1 : intsOf ds with
    | some ns =>
      have := intsOf_eq e1
      subst this
      have := reps_int r
      subst this
      intro k
      refine .inl ⟨a, ns, rfl, SqL.of hx, fun ns' p h1 h2 hp => ?_⟩
      have := ile_sort h1 h2
      subst this
      exact k _ _ (same_upd hp) ⟨⟨p, rfl, hp⟩, p, _, rfl, upd_same, reps_ints _⟩
    | none =>
      simp only
      cases e2 : rowsOf ds with
      | none => trivial
      | some rs =>
        have := rowsOf_eq e2
        subst this
        intro k
        obtain ⟨h1, h2⟩ := reps_rows r
        refine .inr (.inl ⟨a, xs, rowAtV H, rfl, SqL.of hx, fun y hy => (h2 y hy).2, fun zs p hp hs hn => ?_⟩)
        have hr : zs.map (rowAtV H) = isort lexLe rs := by
          refine srt_eq lex_ord ?_ (List.pairwise_map.mpr hs) (srt_isort lex_ord rs)
          rw [← h1]
          exact (hp.map _).trans (isort_self _).symm
        refine k _ _ (same_upd hn) ⟨⟨p, rfl, hn⟩, p, _, rfl, upd_same, ?_⟩
        rw [← hr]
        exact reps_of_each (rowAtV H) fun z hz => Rep.mono (same_upd hn).tp _ _ (h2 z (hp.mem_iff.mp hz)).1
  unfold kSorted
  split
  · obtain ⟨v, rfl, va⟩ := vals1K h
    exact lists va.rd
  · obtain ⟨v, rfl, va⟩ := vals1K h
    exact lists va.rd
  · rename_i ds
    cases e1 : intsOf ds with
    | none => trivial
    | some ns =>
      have := intsOf_eq e1
      subst this
      by_cases hz : ns.length ≤ 16777216
      · simp only [if_pos hz]
        obtain ⟨v, rfl, va⟩ := vals1K h
        obtain ⟨a, xs, rfl, hx, r⟩ := rd_tup va.rd
        have := reps_int r
        subst this
        intro k
        refine .inr (.inr ⟨a, ns, rfl, SqT.of hx, lim_line hz, fun ns' p h1 h2 hp => ?_⟩)
        have := ile_sort h1 h2
        subst this
        exact k _ _ (same_upd hp) ⟨⟨p, rfl, hp⟩, p, _, rfl, upd_same, reps_ints _⟩
      · simp only [if_neg hz]
        trivial
  · trivial
/-! ## all -/
def boolsOf : List D → Option (List Bool)
  | [] => some []
  | .bl b :: r => (boolsOf r).map (b :: ·)
  | _ :: _ => none
theorem reps_bools {H : Hp} : ∀ {ds : List D} {vs : List V} {bs : List Bool}, boolsOf ds = some bs → Reps H vs ds → vs = bs.map V.bl
  | [], _, bs, h, r => by cases h; cases r; rfl
  | .bl b :: ds, _, bs, h, r => by
    obtain ⟨ms, e, rfl⟩ := Option.map_eq_some_iff.mp (show (boolsOf ds).map (b :: ·) = some bs from h)
    cases r with
    | cons a r =>
      cases a
      rw [reps_bools e r]; rfl
  | .non :: _, _, _, h, _ => by cases h
  | .int _ :: _, _, _, h, _ => by cases h
  | .str _ :: _, _, _, h, _ => by cases h
  | .tup _ :: _, _, _, h, _ => by cases h
def kAll : List DV → EO
  | [.own ds] => (match boolsOf ds with
    | some bs => .ok (.dat (.bl (bs.all id)))
    | none => .no)
  | _ => .no
theorem snd_all {K : PySem.W.Frag} : KSndA K (rAll K) kAll := by
  intro as vs H0 H Q h
  unfold kAll
  split
  · rename_i ds
    cases e : boolsOf ds with
    | none => trivial
    | some bs =>
      obtain ⟨v, rfl, va⟩ := vals1K h
      obtain ⟨a, xs, rfl, hx, r⟩ := va.rd
      have := reps_bools e r
      subst this
      exact fun k => ⟨a, bs, rfl, SqL.of hx, k _ H (Same.refl H) (.bl _)⟩
  · trivial
section
variable {cl : String → Addr} {W : WX} {X : Cx} {p pos : Pos} {e : Expr} {ag : AF}
theorem i_sorted (hu : X.A.units + 200 < cLine) (hg : Gl X "sorted") (hm : X.mg "sorted" = none) (ha : PA X [e] (tA X.K cl W ag))
    (he : starEach [e] X.env = (false, eval e X.env) :: starEach [] X.env := by rfl) (hpl : (backTo pos (starEach [] X.env)).any (·.1) = false := by rfl) : PE X (.Call (.Name "sorted" p) [e] [] pos) (tI X.K cl W (eCB kSorted ag)) :=
  i_callB (CallR.or cr_sortedI (CallR.or (cr_sortedR (by omega)) cr_sortedTI)) snd_sorted boot_sorted hg hm ha (by decide) (by decide) he hpl
theorem i_all (hc : X.calm = true) (hg : Gl X "all") (hm : X.mg "all" = none) (ha : PA X [e] (tA X.K cl W ag))
    (he : starEach [e] X.env = (false, eval e X.env) :: starEach [] X.env := by rfl) (hpl : (backTo pos (starEach [] X.env)).any (·.1) = false := by rfl) : PE X (.Call (.Name "all" p) [e] [] pos) (tI X.K cl W (eCB kAll ag)) :=
  i_callB (cr_all hc) snd_all boot_all hg hm ha (by decide) (by decide) he hpl
end
end KT

set_option Elab.async false
set_option linter.all false
set_option maxRecDepth 100000
set_option maxHeartbeats 4000000
/-! ## list(reversed(x)) -/
namespace PySem
open PySem PySem.Spec PyProof.Rows
theorem kt_nolen_rt : typeLookup (.type "reversed") "__len__" = pure none := by rw [typeLookup_type, builtinLookup_eq_fast]; kernel_rfl
theorem kt_hint_rt : typeLookup (.type "reversed") "__length_hint__" = pure (some (.builtin "reversed.__length_hint__")) := by rw [typeLookup_type, builtinLookup_eq_fast]; kernel_rfl
end PySem
namespace KT
open PySem PySem.Spec PyProof.Rows L2 RT
theorem walks_rt {prog : Program} {w : World} {A : Around} (hh : A.handled = none) (I t : Addr) (hne : t ≠ I) (items : Array Value) (hsz : items.size ≤ sizeLine) :
    Walks prog w A I [I, t] [I] items.size (fun i v => items[items.size - 1 - i]? = some v) (fun i h => i ≤ items.size ∧ IsRt h I t ((items.size : Int) - 1 - (i : Int)) ∧ IsTup h t items) where
  sub := fun b hb => by simp at hb; simp [hb]
  frame := fun _ _ _ x hk => ⟨x.1, x.2.1.at fun o e => hk I (by simp) o e, (by
    obtain ⟨o, ho, r⟩ := x.2.2
    exact ⟨o, hk t (by simp) o ho, r⟩)⟩
  item := fun i s Q E hi x hQ => by
    have e : (items.size : Int) - 1 - (i : Int) = ((items.size - 1 - i : Nat) : Int) := by omega
    have hit := x.2.1
    rw [e] at hit
    have hx : items[items.size - 1 - i]? = some (items[items.size - 1 - i]'(by omega)) := Array.getElem?_eq_getElem (by omega)
    refine next_rt_item hit x.2.2 hx hsz fun h' hit' hs' => ?_
    have e2 : ((items.size - 1 - i : Nat) : Int) - 1 = (items.size : Int) - 1 - ((i + 1 : Nat) : Int) := by omega
    rw [e2] at hit'
    refine hQ _ h' _ hx ⟨hi, hit', ?_⟩ fun b o hb eo => (hs'.2 b (fun h => hb (by simp [h]))).trans eo
    obtain ⟨o, ho, r⟩ := x.2.2
    exact ⟨o, (hs'.2 t hne).trans ho, r⟩
  done := fun s Q E x hQ => by
    have e : (items.size : Int) - 1 - (items.size : Int) = -1 := by omega
    have hit := x.2.1
    rw [e] at hit
    exact next_rt_end hh hit fun h' he' => hQ h' s.toks fun b o hb eo => he' b o (fun h => hb (by simp [h])) eo
  self := fun _ _ _ _ x hQ => iter_rt x.2.1 hQ
section
variable {prog : Program} {w : World} {A : Around} {E : Value → Shared → Prop} {s : Shared}
theorem hint_l {it : Addr} {Q : Bool → Shared → Prop} (hT : s.TypeIs (.ref it) "list_reverseiterator") (h : Q false s) : wpAny (model prog w) A (Builtin.List.listLengthHint (.ref it)) Q E s := by
  unfold Builtin.List.listLengthHint
  refine wpAny_bind (wpAny_specialOf hT nolen_lri ?_)
  show wpAny _ A (specialOf (Value.ref it) (Str.ofString "__length_hint__") >>= _) _ _ _
  refine wpAny_bind (wpAny_specialOf hT hint_lri ?_)
  generalize hid : ("list_reverseiterator.__length_hint__" : String) = id0
  wp_delta
  rw [show splitId id0 = some ("list_reverseiterator", "__length_hint__") from by subst hid; decide +kernel]
  subst hid
  refine wpAny_bind (wpAny_isInstance (b := true) hT (by rw [isSubtype_type]; kernel_rfl) ?_)
  exact wpAny_pure h
end
theorem slot_rt_hint : Slot "reversed" "__length_hint__" "reversed.__length_hint__" :=
  .of (owner := "reversed") (n := "__length_hint__") (by rw [typeLookup_type, builtinLookup_eq_fast]; kernel_rfl) (by decide +kernel) (by decide +kernel) (by decide +kernel)
    (by first | exact .inl (by decide +kernel) | exact .inr (by decide +kernel)) (by rw [isSubtype_type]; kernel_rfl)
theorem entry_rt_hint : entryFor table "reversed.__length_hint__" = some Builtin.«reversed.__length_hint__» := entryFor_of_tree (by kernel_rfl)
theorem args_rt_hint (a : Value) : argsOk "reversed.__length_hint__" ⟨[a], []⟩ := by
  unfold argsOk; rw [signature?_of (id := "reversed.__length_hint__") (n := ['_', '_', 't', 'n', 'i', 'h', '_', 'h', 't', 'g', 'n', 'e', 'l', '_', '_']) (o := ['d', 'e', 's', 'r', 'e', 'v', 'e', 'r']) (by kernel_rfl) owner_rt]; kernel_rfl
section
variable {prog : Program} {w : World} {A : Around} {E : Value → Shared → Prop} {s : Shared}
theorem call_rt_hint {it t : Addr} {items : Array Value} {Q : Value → Shared → Prop} (hit : IsRt s.heap it t ((items.size : Int) - 1)) (ht : IsTup s.heap t items) (hsz : items.size ≤ sizeLine) (h : ∀ tk tk', Q (.int items.size tk) { s with toks := tk' }) :
    wpAny (model prog w) A (call (.builtin "reversed.__length_hint__") [.ref it]) Q E s := by
  obtain ⟨o, ho, hc, hd⟩ := id hit
  rw [sizeLine_eq] at hsz
  refine wpAny_call_entry slot_rt_hint hit.typeIs entry_rt_hint ?_ (args_rt_hint _)
  unfold Builtin.«reversed.__length_hint__»
  refine wpAny_bind (wpAny_of_eq (a := Value.ref it) rfl ?_)
  try dsimp only
  refine wpAny_bind (wpAny_field ho hd (x := .ref t) rfl ?_)
  try dsimp only
  rw [if_neg (by intro z; cases z)]
  try dsimp only
  refine wpAny_bind (PyProof.Rows.len_tuple ht (by omega) ?_)
  refine wpAny_bind (m := asInt? _) (wpAny_pure ?_)
  try dsimp only
  refine wpAny_bind (wpAny_field (s := { s with toks := s.toks + 1 + 1 }) ho hd (x := rawInt ((items.size : Int) - 1)) rfl ?_)
  show wpAny _ _ (if ((items.size : Int) < (items.size : Int) - 1 + 1) then _ else _) _ _ _
  rw [if_neg (by omega)]
  have e : (items.size : Int) - 1 + 1 = items.size := by omega
  rw [e]
  exact wpAny_bind (wpAny_mkInt (wpAny_pure ⟨_, rfl, h _ _⟩))
end
section
variable {prog : Program} {w : World} {A : Around} {E : Value → Shared → Prop} {s : Shared}
theorem hint_t {it t : Addr} {items : Array Value} {Q : Bool → Shared → Prop} (hit : IsRt s.heap it t ((items.size : Int) - 1)) (ht : IsTup s.heap t items) (hsz : items.size ≤ 16777216) (h : ∀ b tk, Q b { s with toks := tk }) : wpAny (model prog w) A (Builtin.List.listLengthHint (.ref it)) Q E s := by
  have hT := hit.typeIs
  unfold Builtin.List.listLengthHint
  refine wpAny_bind (wpAny_specialOf hT kt_nolen_rt ?_)
  show wpAny _ A (specialOf (Value.ref it) (Str.ofString "__length_hint__") >>= _) _ _ _
  refine wpAny_bind (wpAny_specialOf hT kt_hint_rt ?_)
  generalize hid : ("reversed.__length_hint__" : String) = id0
  wp_delta
  rw [show splitId id0 = some ("reversed", "__length_hint__") from by subst hid; decide +kernel]
  subst hid
  refine wpAny_bind (wpAny_isInstance (b := true) hT (by rw [isSubtype_type]; kernel_rfl) ?_)
  refine wpAny_ite_split (fun hab => absurd hab (by decide)) (fun _ => ?_)
  refine wpAny_ite_split (fun hab => absurd hab (by decide +kernel)) (fun _ => ?_)
  refine wpAny_bind (wpAny_rule ?_)
  rw [slot_rt_hint.bind (.ref it)]
  refine wpAny_bind (wpAny_pure ?_)
  dsimp only
  refine wpAny_bind (wpAny_attempt (call_rt_hint hit ht (by rw [sizeLine_eq]; omega) fun tk tk' => ?_))
  dsimp only
  have e1 : asInt? (Value.int (items.size : Int) tk) = pure (some (items.size : Int)) := rfl
  have hf : Builtin.List.listFitsIndex (items.size : Int) = true := by
    unfold Builtin.List.listFitsIndex
    simp only [Bool.and_eq_true, decide_eq_true_eq]
    omega
  have htl : Builtin.List.listTooLong ((items.size : Int).toNat) = false := notLongL (by rw [sizeLine_eq]; omega)
  generalize hi : (items.size : Int) = n at e1 hf htl h ⊢
  have hn : ¬ n < 0 := by omega
  rw [e1]
  refine wpAny_bind (wpAny_pure ?_)
  dsimp only
  rw [hf]
  simp only [Bool.not_true, Bool.false_eq_true, if_false, if_neg hn, htl]
  exact wpAny_pure (h _ _)
end
/-! ### list.__init__ over such an iterator -/
section
variable {prog : Program} {w : World} {A : Around} {E : Value → Shared → Prop} {s : Shared}
theorem init_rev {T : String} {it l : Addr} {items : Array Value} {St : Nat → Heap → Prop} {R : Result → Shared → Prop} (W : Walks prog w A.in1 it [it, l] [it] items.size (fun i v => items[items.size - 1 - i]? = some v) St)
    (hT : ∀ s : Shared, St 0 s.heap → s.TypeIs (.ref it) T) (hTl : (Value.type T == Value.type "list") = false) (hTt : (Value.type T == Value.type "tuple") = false)
    (hint0 : ∀ (s : Shared) (Q : Bool → Shared → Prop) (A : Around) (E : Value → Shared → Prop), St 0 s.heap → (∀ b tk, Q b { s with toks := tk }) → wpAny (model prog w) A (Builtin.List.listLengthHint (.ref it)) Q E s)
    (hn : items.size ≤ sizeLine) (S : Addr) (hS : s.heap.get? S = some { cls := .type "list", data := .seq #[] }) (hSi : S ≠ it) (hSl : S ≠ l) (hit : St 0 s.heap)
    (hR : ∀ h' tk acc' c', (∀ b o, b ≠ S → b ≠ it → s.heap.get? b = some o → h'.get? b = some o) → h'.get? S = some { cls := .type "list", dict := none, data := .seq acc' c', slots := #[] } →
      ItemsOf (fun i v => items[items.size - 1 - i]? = some v) acc' items.size → R (.ok (.ret .none)) { s with heap := h', toks := tk }) :
    wpAny (model prog w) A.in1 (Builtin.«list.__init__» ⟨[.ref S, .ref it], []⟩)
      (fun fin s' => match fin with | .done f => R (.ok f) s' | .again c' => c'.quiet = true ∧ codeAny (model prog w) A c' R s') (fun e s' => R (.error e) s') s := by
  show wpAny _ _ (do let old ← Builtin.List.listItems (.ref S); Builtin.List.listUpdate (.ref S) (fun _ => #[]); letGo old.toList.reverse; Builtin.List.listExtendWith (.ref S) (.ref it) .none) _ _ s
  refine wpAny_bind ?_
  unfold Builtin.List.listItems
  refine wpAny_bind (wpAny_seqItems hS rfl (wpAny_pure ?_))
  show wpAny _ _ (updateSeq S (fun _ => #[]) >>= fun _ => letGo (#[] : Array Value).toList.reverse >>= fun _ => Builtin.List.listExtendWith (.ref S) (.ref it) .none) _ _ s
  refine wpAny_bind (wpAny_updateSeq hS rfl ?_)
  have hS₂ := Heap.get?_update_self (Obj.mapSeq (fun _ => (#[] : Array Value))) hS rfl
  have oth : ∀ b o, b ≠ S → s.heap.get? b = some o → (s.heap.update S (Obj.mapSeq (fun _ => (#[] : Array Value)))).get? b = some o :=
    fun b o hb e => (Heap.get?_update_other _ _ (Ne.symm hb)).trans e
  refine wpAny_bind (wpAny_letGo ?_)
  have st : ∀ {h h' : Heap}, (∀ b o, b ≠ S → h.get? b = some o → h'.get? b = some o) → St 0 h → St 0 h' := fun {h h'} k x => W.frame 0 _ _ x fun b hb o e => by
    rcases List.mem_cons.mp hb with rfl | hb
    · exact k _ _ (Ne.symm hSi) e
    · rw [List.mem_singleton.mp hb] at e ⊢
      exact k _ _ (Ne.symm hSl) e
  have hit2 : St 0 (s.heap.update S (Obj.mapSeq (fun _ => (#[] : Array Value)))) := st oth hit
  have hSf : S ∉ [it, l] := by simp only [List.mem_cons, List.not_mem_nil, or_false, not_or]; exact ⟨hSi, hSl⟩
  have hTy := hT { s with heap := s.heap.update S (Obj.mapSeq (fun _ => (#[] : Array Value))) } hit2
  have h1 : Builtin.List.listSameRef (.ref S) (.ref it) = false := by simp [Builtin.List.listSameRef, hSi]
  have key : ∀ (h : Heap) (c₁ tk : Nat), St 0 h → (∀ b o, b ≠ S → s.heap.get? b = some o → h.get? b = some o) →
      h.get? S = some { cls := .type "list", data := .seq #[] c₁ } → codeAny (model prog w) A (.builtin "list.extend.loop" ⟨[.ref S, .ref it, .none], []⟩) R { s with heap := h, toks := tk } := by
    intro h c₁ tk hi hk hS₁
    refine codeAny_extend_loopS W.toS hn _ hSf _ items.size 0 _ _ _ rfl (Nat.zero_le _) hi hS₁ (ItemsOf.nil _) fun s' acc' c' hm hS' hacc => ?_
    rw [Moved.eq_with hm]
    refine hR s'.heap s'.toks acc' c' (fun b o hb hb2 e => hm.heap b o (fun hmem => ?_) (hk b o hb e)) hS' hacc
    rcases List.mem_cons.mp hmem with e' | hmem
    · exact hb e'
    · exact hb2 (List.mem_singleton.mp hmem)
  unfold Builtin.List.listExtendWith
  refine wpAny_bind (wpAny_typeOf hTy ?_)
  simp only [h1, hTl, hTt, Bool.or_false, Bool.false_eq_true, if_false]
  refine wpAny_bind (W.self 0 _ _ _ hit2 ?_)
  refine wpAny_bind (wpAny_holding (hint0 _ _ _ _ hit2 fun b tk => ?_))
  refine wpAny_ite_split (fun _ => ?_) (fun _ => wpAny_pure ⟨plainId_quiet F.plain_extend_loop _, key _ _ _ hit2 oth hS₂⟩)
  refine wpAny_bind (wpAny_rule ?_)
  refine wpAny_bind ?_
  show wpAny _ _ (updateSeq S (·.push .none) >>= fun _ => updateSeq S (·.pop)) _ _ _
  refine wpAny_bind (wpAny_updateSeq hS₂ rfl ?_)
  have hS₃ := Heap.get?_update_self (Obj.mapSeq (·.push Value.none)) hS₂ rfl
  refine wpAny_updateSeq (hz := by seq_fits) hS₃ rfl ?_
  have hS₄ := Heap.get?_update_self (Obj.mapSeq (·.pop)) hS₃ rfl
  have oth2 := fun (b : Addr) (o : Obj) (hb : b ≠ S) (e : (s.heap.update S (Obj.mapSeq (fun _ => (#[] : Array Value)))).get? b = some o) => (Heap.get?_update_other (a := S) _ (Obj.mapSeq (·.pop)) (Ne.symm hb)).trans ((Heap.get?_update_other (a := S) _ (Obj.mapSeq (·.push Value.none)) (Ne.symm hb)).trans e)
  exact wpAny_pure ⟨plainId_quiet F.plain_extend_loop _, key _ _ _ (st oth2 hit2) (fun b o hb e => oth2 b o hb (oth b o hb e)) hS₄⟩
theorem call_list_rev {T : String} {it l : Addr} {items : Array Value} {St : Nat → Heap → Prop} {Q : Value → Shared → Prop} (W : Walks prog w A.in1.in1 it [it, l] [it] items.size (fun i v => items[items.size - 1 - i]? = some v) St)
    (hT : ∀ s : Shared, St 0 s.heap → s.TypeIs (.ref it) T) (hTl : (Value.type T == Value.type "list") = false) (hTt : (Value.type T == Value.type "tuple") = false)
    (hint0 : ∀ (s : Shared) (Q : Bool → Shared → Prop) (A : Around) (E : Value → Shared → Prop), St 0 s.heap → (∀ b tk, Q b { s with toks := tk }) → wpAny (model prog w) A (Builtin.List.listLengthHint (.ref it)) Q E s)
    (hn : items.size ≤ sizeLine) (hit : St 0 s.heap) (hli : it < s.heap.objs.size) (hll : l < s.heap.objs.size)
    (hQ : ∀ h' tk acc' c', (∀ b o, b ≠ it → s.heap.get? b = some o → h'.get? b = some o) → h'.get? s.heap.objs.size = some { cls := .type "list", dict := none, data := .seq acc' c', slots := #[] } →
      ItemsOf (fun i v => items[items.size - 1 - i]? = some v) acc' items.size → Q (.ref s.heap.objs.size) { s with heap := h', toks := tk }) :
    wpAny (model prog w) A (call (.type "list") [.ref it]) Q E s := by
  refine callType_codes (Q₁ := fun obj s₁ => obj = .ref s.heap.objs.size ∧ s₁ = { s with heap := s.heap.push { cls := .type "list", data := .seq #[] } }) F.called_list (F.typeCall_list_1 _) F.entry_list_init
    (code_list_new _ ⟨rfl, rfl⟩) fun obj s₁ h₁ => ?_
  obtain ⟨rfl, rfl⟩ := h₁
  have hS : (s.heap.push { cls := .type "list", data := .seq #[] }).get? s.heap.objs.size = some { cls := .type "list", data := .seq #[] } := Heap.get?_push_size _ rfl
  refine ⟨⟨_, hS, rfl⟩, F.args_list_init_2 _ _, init_rev (A := A.in1) (s := { s with heap := s.heap.push { cls := .type "list", data := .seq #[] } }) W hT hTl hTt hint0 hn _ hS (Nat.ne_of_gt hli) (Nat.ne_of_gt hll) (W.frame 0 _ _ hit fun b hb o e => Heap.get?_push_of_some _ e) fun h' tk acc' c' hk hS' hacc => ?_⟩
  exact ⟨rfl, hQ h' tk acc' c' (fun b o hb e => hk b o (Nat.ne_of_lt (Heap.lt_size e)) hb (Heap.get?_push_of_some _ e)) hS' hacc⟩
end
/-! ### the rule -/
theorem vals_revA {xs : List V} {its : List Value} {acc : Array Value} (r : Vals xs its) (h : ItemsOf (fun i v => its.toArray[its.toArray.size - 1 - i]? = some v) acc its.toArray.size) : Vals xs.reverse acc.toList := vals_rev r h
def tLstRev (K : PySem.W.Frag) (te : TE) : TE := fun σ H Q => te σ H fun v H1 => ∃ (a : Addr) (xs : List V), v = .ref a ∧ (SqL K H1 a xs ∨ SqT K H1 a xs) ∧ xs.length ≤ 16777216 ∧ ∀ q, H1 q = none → Q (.ref q) (upd H1 q (.lst xs.reverse))
section
variable {X : Cx}
theorem pe_lstRev {e : Expr} {te : TE} {p p2 pos pos2 : Pos} (hc : X.calm = true) (hg : Gl X "list") (hm : X.mg "list" = none) (hg2 : Gl X "reversed") (hm2 : X.mg "reversed" = none) (he : PE X e te)
    (hs : starEach [e] X.env = (false, eval e X.env) :: starEach [] X.env := by rfl)
    (hs2 : starEach [.Call (.Name "reversed" p2) [e] [] pos2] X.env = (false, eval (.Call (.Name "reversed" p2) [e] [] pos2) X.env) :: starEach [] X.env := by rfl) :
    PE X (.Call (.Name "list" p) [.Call (.Name "reversed" p2) [e] [] pos2] [] pos) (tLstRev X.K te) := by
  refine ⟨fun pins s σ H Q I h => ?_⟩
  refine Call_ (ld_blt I hg hm boot_list (PyProof.Rows.callWith_type1 (args_cons (Call_ (ld_blt I hg2 hm2 PyProof.Rows.boot_reversed (PyProof.Rows.callWith_type1 (args_cons (thn (he.run pins s σ H _ I h) fun u s1 ⟨v, H1, I1, r1, q1⟩ => args_nil ?_) hs) hs rfl))) hs2) hs2 rfl))
  obtain ⟨a, xs, ev, hq, hz24, q⟩ := q1
  subst ev
  obtain rfl : u = Value.ref a := r1
  rcases hq with hq | hq
  · obtain ⟨its, rv, p', hz⟩ := I1.list hq
    refine call_reversed_list p'.isList (args_nil ?_)
    have hl := p'.isList
    obtain ⟨ol, hol, _⟩ := id hl
    have hlt := Heap.lt_size hol
    have hne : a ≠ s1.heap.objs.size := Nat.ne_of_lt hlt
    have hn : its.toArray.size ≤ sizeLine := by rw [List.size_toArray, ← rv.length]; exact hz
    have hsz : (s1.heap.push (revObj a ((its.toArray.size : Int) - 1))).objs.size = s1.heap.objs.size + 1 := Heap.size_push _ _
    have e1 : ((its.toArray.size : Nat) : Int) - 1 = ((its.toArray.size : Nat) : Int) - 1 - ((0 : Nat) : Int) := by omega
    have h1 : s1.heap.objs.size < (s1.heap.push (revObj a ((its.toArray.size : Int) - 1))).objs.size := by rw [hsz]; omega
    refine call_list_rev (T := "list_reverseiterator") (s := { s1 with heap := s1.heap.push (revObj a ((its.toArray.size : Int) - 1)) }) (St := fun i h => i ≤ its.toArray.size ∧ h.IsRevIter s1.heap.objs.size a ((its.toArray.size : Int) - 1 - (i : Int)) ∧ h.IsList a its.toArray)
      (Walks.listRev (A := X.A.in1.in1) (show X.A.handled = none from I1.ok.hd hc) s1.heap.objs.size a hne its.toArray) (fun s x => x.2.1.typeIs) (by decide) (by decide)
      (fun s Q A E x k => hint_l x.2.1.typeIs (k false s.toks)) hn ⟨Nat.zero_le _, by rw [← e1]; exact ⟨_, Heap.get?_push_size _ rfl, rfl, rfl⟩, hl.push _⟩ h1 (Nat.lt_trans hlt h1) fun h' tk acc c' hk hS hi => ?_
    rw [hsz] at hS ⊢
    exact ⟨.ref _, upd H1 (s1.heap.objs.size + 1) (.lst xs.reverse), I1.laid (t' := tk) (fun b o e => hk b o (Nat.ne_of_lt (Heap.lt_size e)) (Heap.get?_push_of_some _ e)) (Nat.le_succ _) ⟨by rw [List.length_reverse]; exact hz, acc.toList, c', vals_rev rv hi, by rw [Array.toArray_toList]; exact hS⟩, rfl, q _ (I1.hok.fresh (Nat.le_succ _))⟩
  · obtain ⟨its, rv, p', _⟩ := I1.tuple hq
    have hz : xs.length ≤ sizeLine := lim_line hz24
    have hnn : its.toArray.size ≤ 16777216 := by rw [List.size_toArray, ← rv.length]; exact hz24
    have hn : its.toArray.size ≤ sizeLine := lim_line hnn
    refine call_reversed_tup p' (fun A E Q k => len_tuple p' (by omega) k) (args_nil ?_)
    obtain ⟨ol, hol, _⟩ := id p'
    have hlt := Heap.lt_size hol
    have hne : a ≠ s1.heap.objs.size := Nat.ne_of_lt hlt
    have k0 : ∀ b o, s1.heap.get? b = some o → (s1.heap.push (rtObj a ((its.toArray.size : Int) - 1))).get? b = some o := fun b o e => Heap.get?_push_of_some _ e
    have hsz : (s1.heap.push (rtObj a ((its.toArray.size : Int) - 1))).objs.size = s1.heap.objs.size + 1 := Heap.size_push _ _
    have e1 : ((its.toArray.size : Nat) : Int) - 1 = ((its.toArray.size : Nat) : Int) - 1 - ((0 : Nat) : Int) := by omega
    have h1 : s1.heap.objs.size < (s1.heap.push (rtObj a ((its.toArray.size : Int) - 1))).objs.size := by rw [hsz]; omega
    have pk : IsTup (s1.heap.push (rtObj a ((its.toArray.size : Int) - 1))) a its.toArray := by
      obtain ⟨o, ho, r⟩ := p'
      exact ⟨o, k0 _ _ ho, r⟩
    refine call_list_rev (T := "reversed") (s := { s1 with heap := s1.heap.push (rtObj a ((its.toArray.size : Int) - 1)), toks := s1.toks + 1 + 1 }) (St := fun i h => i ≤ its.toArray.size ∧ RT.IsRt h s1.heap.objs.size a ((its.toArray.size : Int) - 1 - (i : Int)) ∧ IsTup h a its.toArray)
      (walks_rt (A := X.A.in1.in1) (show X.A.handled = none from I1.ok.hd hc) s1.heap.objs.size a hne its.toArray hn) (fun s x => x.2.1.typeIs) (by decide) (by decide)
      (fun s Q A E x k => hint_t (by have := x.2.1; rw [← e1] at this; exact this) x.2.2 hnn k) hn ⟨Nat.zero_le _, by rw [← e1]; exact ⟨_, Heap.get?_push_size _ rfl, rfl, rfl⟩, pk⟩ h1 (Nat.lt_trans hlt h1) fun h' tk acc c' hk hS hi => ?_
    rw [hsz] at hS ⊢
    exact ⟨.ref _, upd H1 (s1.heap.objs.size + 1) (.lst xs.reverse), I1.laid (t' := tk) (fun b o e => hk b o (Nat.ne_of_lt (Heap.lt_size e)) (Heap.get?_push_of_some _ e)) (Nat.le_succ _) ⟨by rw [List.length_reverse]; exact hz, acc.toList, c', vals_rev rv hi, by rw [Array.toArray_toList]; exact hS⟩, rfl, q _ (I1.hok.fresh (Nat.le_succ _))⟩
end
/-! ## list(reversed(x)) in the layer -/
def revOf : DV → EO
  | .own ds => if ds.length ≤ 16777216 then .ok (.own ds.reverse) else .no
  | .bor ds => if ds.length ≤ 16777216 then .ok (.own ds.reverse) else .no
  | .dat (.tup ds) => if ds.length ≤ 16777216 then .ok (.own ds.reverse) else .no
  | _ => .no
def eLstRev (f : EF) : EF := fun ρ => match f ρ with
  | .ok r => revOf r
  | .exc c => .exc c
  | .no => .no
section
variable {cl : String → Addr} {W : WX} {X : Cx} {p p2 pos pos2 : Pos} {e : Expr} {f : EF}
theorem i_lstRev (hc : X.calm = true) (hg : Gl X "list") (hm : X.mg "list" = none) (hg2 : Gl X "reversed") (hm2 : X.mg "reversed" = none) (he : PE X e (tI X.K cl W f))
    (hs : starEach [e] X.env = (false, eval e X.env) :: starEach [] X.env := by rfl)
    (hs2 : starEach [.Call (.Name "reversed" p2) [e] [] pos2] X.env = (false, eval (.Call (.Name "reversed" p2) [e] [] pos2) X.env) :: starEach [] X.env := by rfl) :
    PE X (.Call (.Name "list" p) [.Call (.Name "reversed" p2) [e] [] pos2] [] pos) (tI X.K cl W (eLstRev f)) :=
  (pe_lstRev hc hg hm hg2 hm2 he hs hs2).imp fun σ H Q ⟨ρ, S, h⟩ => by
    refine ⟨ρ, S, ?_⟩
    unfold eLstRev at h
    cases e1 : f ρ with
    | no => simp only [e1] at h; exact h
    | exc c => simp only [e1] at h; exact h
    | ok r =>
      simp only [e1] at h
      intro v H1 s1 va
      have fin : ∀ {a : Addr} {xs : List V} {ds : List D}, Reps H1 xs ds → (SqL X.K H1 a xs ∨ SqT X.K H1 a xs) → EPost X.K cl W σ H Q (if ds.length ≤ 16777216 then .ok (.own ds.reverse) else .no) →
          ∃ (a' : Addr) (xs : List V), V.ref a = .ref a' ∧ (SqL X.K H1 a' xs ∨ SqT X.K H1 a' xs) ∧ xs.length ≤ 16777216 ∧ ∀ q, H1 q = none → Q (.ref q) (upd H1 q (.lst xs.reverse)) := fun {a xs ds} r hq h => by
        have hl := r.length
        by_cases hz : ds.length ≤ 16777216
        · rw [if_pos hz] at h
          exact ⟨a, xs, rfl, hq, by omega, fun q hq => h _ _ (s1.trans (same_upd hq)) ⟨⟨q, rfl, fresh_of s1 hq⟩, q, _, rfl, upd_same, Reps.mono (same_upd hq).tp _ _ r.reverse⟩⟩
        · rw [if_neg hz] at h; exact h.elim
      unfold revOf at h
      split at h
      · obtain ⟨a, xs, rfl, hx, r⟩ := va.rd
        exact fin r (.inl (SqL.of hx)) h
      · obtain ⟨a, xs, rfl, hx, r⟩ := va.rd
        exact fin r (.inl (SqL.of hx)) h
      · obtain ⟨a, xs, rfl, hx, r⟩ := rd_tup va.rd
        exact fin r (.inr (SqT.of hx)) h
      · exact h.elim
end
/-! ## order of lists -/
def rowsLe : List (List Int) → List (List Int) → Bool
  | [], _ => true
  | _ :: _, [] => false
  | x :: xs, y :: ys => if x = y then rowsLe xs ys else lexLe x y
def cmpL (ds es : List D) : Option Bool := match intsOf ds, intsOf es with
  | some a, some b => some (lexLe a b)
  | _, _ => match rowsOf ds, rowsOf es with
    | some a, some b => some (rowsLe a b)
    | _, _ => none
theorem pys_ints (ns : List Int) : D.pys (ns.map D.int) = ns.map PyData.int := by
  induction ns with
  | nil => rfl
  | cons n ns ih => simp [D.pys, D.py, ih]
theorem pys_rows (rs : List (List Int)) : D.pys (rs.map rowD) = rs.map fun r => PyData.tuple (r.map PyData.int) := by
  induction rs with
  | nil => rfl
  | cons n ns ih => simp [D.pys, D.py, rowD, pys_ints] at *; simp [ih]
theorem eqv_row (xs ys : List Int) : PyData.eqv (.tuple (xs.map PyData.int)) (.tuple (ys.map PyData.int)) = decide (xs = ys) := by
  have h := D.py_eqv (rowD xs) (rowD ys)
  have e : ∀ zs : List Int, (rowD zs).py = .tuple (zs.map PyData.int) := fun zs => by simp [rowD, D.py, pys_ints]
  rw [e, e] at h
  rw [h]
  have hd : ∀ a b : List Int, D.deqs (a.map D.int) (b.map D.int) = decide (a = b) := by
    intro a
    induction a with
    | nil => intro b; cases b <;> simp [D.deqs]
    | cons x a ih => intro b; cases b with
      | nil => simp [D.deqs]
      | cons y b => simp [D.deqs, D.deq, ih, Bool.beq_eq_decide_eq]
  exact hd xs ys
theorem rows_alike : ∀ xs ys : List (List Int), PySem.W.alikeAll (xs.map fun r => PyData.tuple (r.map PyData.int)) (ys.map fun r => PyData.tuple (r.map PyData.int)) = true
  | [], _ => by simp [PySem.W.alikeAll]
  | _ :: _, [] => by simp [PySem.W.alikeAll]
  | x :: xs, y :: ys => by
    simp only [List.map_cons, PySem.W.alikeAll, rows_alike xs ys, Bool.and_true]
    exact row_alike x y
theorem toks_rows : ∀ xs ys : List (List Int), PyProof.Rows.lexLt PyProof.Rows.itemOrd (PySem.W.keyToksAll (xs.map fun r => PyData.tuple (r.map PyData.int))) (PySem.W.keyToksAll (ys.map fun r => PyData.tuple (r.map PyData.int))) = !(rowsLe ys xs)
  | [], [] => by
    simp only [List.map_nil]
    rw [PyProof.Rows.lex_irrefl]; rfl
  | [], y :: ys => by
    simp only [List.map_nil, List.map_cons, PySem.W.keyToksAll]
    rw [PyProof.Rows.lex_diff (O := PyProof.Rows.itemOrd) (by simp)]
    simp [rowsLe, PyProof.Rows.itemLt]
  | x :: xs, [] => by
    simp only [List.map_nil, List.map_cons, PySem.W.keyToksAll]
    rw [PyProof.Rows.lex_diff (O := PyProof.Rows.itemOrd) (by simp)]
    simp [rowsLe, PyProof.Rows.itemLt]
  | x :: xs, y :: ys => by
    simp only [List.map_cons]
    rw [PySem.W.dataLt_cons (row_alike x y), eqv_row, toks_rows xs ys, dataLt_row]
    show _ = !(if y = x then rowsLe ys xs else lexLe y x)
    by_cases h : x = y
    · have h' : y = x := h.symm
      rw [if_pos h', decide_eq_true h]; simp
    · have h' : ¬ y = x := fun e => h e.symm
      rw [if_neg h', decide_eq_false h]; simp
theorem cmpL_ok {ds es : List D} {r : Bool} (h : cmpL ds es = some r) : PySem.W.alikeAll (D.pys ds) (D.pys es) = true ∧ PySem.W.alikeAll (D.pys es) (D.pys ds) = true ∧ PySem.W.dataLt (.list (D.pys es)) (.list (D.pys ds)) = !r ∧ D.deps ds ≤ 1 := by
  unfold cmpL at h
  split at h
  · rename_i a b ea eb
    cases h
    rw [intsOf_eq ea, intsOf_eq eb, pys_ints, pys_ints]
    refine ⟨PySem.W.alike_ints a b, PySem.W.alike_ints b a, ?_, ?_⟩
    · rw [PySem.W.dataLt_list, lex_lt]
      exact PySem.W.dataLt_ints b a
    · clear ea eb
      induction a with
      | nil => simp [D.deps]
      | cons x a ih => simp only [List.map_cons, D.deps, D.dep]; simpa using ih
  · split at h
    · rename_i a b ea eb
      cases h
      rw [rowsOf_eq ea, rowsOf_eq eb, pys_rows, pys_rows]
      refine ⟨rows_alike a b, rows_alike b a, ?_, ?_⟩
      · rw [PySem.W.dataLt_list]
        exact toks_rows b a
      · rename_i _ _
        have : ∀ ns : List Int, D.deps (ns.map D.int) = 0 := fun ns => by
          induction ns with
          | nil => rfl
          | cons x ns ih => simp [D.deps, D.dep, ih]
        clear ea eb
        induction a with
        | nil => simp [D.deps]
        | cons x a ih => simp only [List.map_cons, D.deps, rowD, D.dep, this, Nat.max_def]; split <;> omega
    · cases h
def kLeL (a b : DV) : EO := match seqOf a, seqOf b with
  | some x, some y => (match cmpL x y with
    | some r => .ok (.dat (.bl r))
    | none => .no)
  | _, _ => .no
def kLtL (a b : DV) : EO := match seqOf a, seqOf b with
  | some x, some y => (match cmpL y x with
    | some r => .ok (.dat (.bl (!r)))
    | none => .no)
  | _, _ => .no
def kGtL (a b : DV) : EO := match seqOf a, seqOf b with
  | some x, some y => (match cmpL x y with
    | some r => .ok (.dat (.bl (!r)))
    | none => .no)
  | _, _ => .no
/-- x op y of two alike lists: fl: the two are turned about; ng: the answer is turned about -/
def rCmpL (K : PySem.W.Frag) (fl ng : Bool) : R2 := fun x y H Q => ∃ ds es, Dp K H x (.list ds) ∧ Dp K H y (.list es) ∧ PySem.W.alikeAll ds es = true ∧ min (PyData.list ds).depth (PyData.list es).depth ≤ 100 ∧
  Q (.bl (let r := PySem.W.dataLt (.list (if fl then es else ds)) (.list (if fl then ds else es)); if ng then !r else r)) H
section
variable {X : Cx}
theorem op_ltL (hu : X.A.units + 200 < cLine) : OpR X (compareOp .Lt) (rCmpL X.K false false) := by
  intro pins s σ H x y v u Q I rx ry ⟨ds, es, hd, he, hal, hm, q⟩
  obtain ⟨as, r1⟩ := Dp.reads I _ x v hd rx
  obtain ⟨bs, r2⟩ := Dp.reads I _ y u he ry
  exact PySem.W.lt_data r1 r2 (by simpa [PySem.W.alike] using hal) (fun h => by cases h) (by omega) ⟨.bl _, H, I, rfl, q⟩
theorem op_gtL (hu : X.A.units + 200 < cLine) : OpR X (compareOp .Gt) (rCmpL X.K true false) := by
  intro pins s σ H x y v u Q I rx ry ⟨ds, es, hd, he, hal, hm, q⟩
  obtain ⟨as, r1⟩ := Dp.reads I _ x v hd rx
  obtain ⟨bs, r2⟩ := Dp.reads I _ y u he ry
  exact PySem.W.gt_data r1 r2 (by simpa [PySem.W.alike] using hal) (fun h => by cases h) (by omega) ⟨.bl _, H, I, rfl, q⟩
theorem op_leL (hu : X.A.units + 200 < cLine) : OpR X (compareOp .LtE) (rCmpL X.K true true) := by
  intro pins s σ H x y v u Q I rx ry ⟨ds, es, hd, he, hal, hm, q⟩
  obtain ⟨as, r1⟩ := Dp.reads I _ x v hd rx
  obtain ⟨bs, r2⟩ := Dp.reads I _ y u he ry
  exact PySem.W.le_data r1 r2 (by simpa [PySem.W.alike] using hal) (fun h => by cases h) (by omega) ⟨.bl _, H, I, rfl, q⟩
end
theorem ls_list {K : PySem.W.Frag} {H : Hp} {v : V} {a : DV} {ds : List D} (e : seqOf a = some ds) (h : RdOk K H v a) : Dp K H v (.list (D.pys ds)) := ls_dp (seqOf_rd e h)
theorem dep_list (ds : List D) : (PyData.list (D.pys ds)).depth = D.deps ds + 1 := by simp [PyData.depth, D.pys_dep]
theorem snd_ltL {K : PySem.W.Frag} : KSnd K (rCmpL K false false) kLtL := by
  intro a b v w H Q ra rb
  unfold kLtL
  split
  · rename_i x y ex ey
    cases e : cmpL y x with
    | none => trivial
    | some r =>
      obtain ⟨h1, h2, h3, h4⟩ := cmpL_ok e
      exact fun k => ⟨_, _, ls_list ex ra, ls_list ey rb, h2, by rw [dep_list, dep_list]; omega, by
        show Q (.bl (PySem.W.dataLt (.list (D.pys x)) (.list (D.pys y)))) H
        rw [h3]; exact k _ H (Same.refl H) (.bl _)⟩
  · trivial
theorem snd_gtL {K : PySem.W.Frag} : KSnd K (rCmpL K true false) kGtL := by
  intro a b v w H Q ra rb
  unfold kGtL
  split
  · rename_i x y ex ey
    cases e : cmpL x y with
    | none => trivial
    | some r =>
      obtain ⟨h1, h2, h3, h4⟩ := cmpL_ok e
      exact fun k => ⟨_, _, ls_list ex ra, ls_list ey rb, h1, by rw [dep_list, dep_list]; omega, by
        show Q (.bl (PySem.W.dataLt (.list (D.pys y)) (.list (D.pys x)))) H
        rw [h3]; exact k _ H (Same.refl H) (.bl _)⟩
  · trivial
theorem snd_leL {K : PySem.W.Frag} : KSnd K (rCmpL K true true) kLeL := by
  intro a b v w H Q ra rb
  unfold kLeL
  split
  · rename_i x y ex ey
    cases e : cmpL x y with
    | none => trivial
    | some r =>
      obtain ⟨h1, h2, h3, h4⟩ := cmpL_ok e
      exact fun k => ⟨_, _, ls_list ex ra, ls_list ey rb, h1, by rw [dep_list, dep_list]; omega, by
        show Q (.bl (!(PySem.W.dataLt (.list (D.pys y)) (.list (D.pys x))))) H
        rw [h3, Bool.not_not]; exact k _ H (Same.refl H) (.bl _)⟩
  · trivial
end KT

set_option Elab.async false
set_option linter.all false
set_option maxRecDepth 100000
set_option maxHeartbeats 4000000
namespace KT
open PySem PySem.Spec PyProof.Rows L2

/-! ## expressions that write the row -/
inductive EX where
  | ok (d : D) (ρ : Rho)
  | exc (c : String) (ρ : Rho)
  | no
inductive AX where
  | ok (ds : List D) (ρ : Rho)
  | exc (c : String) (ρ : Rho)
  | no
abbrev XF := Rho → EX
abbrev XAF := Rho → AX
section
variable (K : PySem.W.Frag) (cl : String → Addr) (W : WX)
def XSPost (fr : Fr) (σ : L2.St) (Q : VK) : EX → Prop
  | .ok d ρ => ∀ v H, Gd K fr ρ σ H → Rep H v d → Q v H
  | .exc c ρ => ∀ H, Gd K fr ρ σ H → W (.ref (cl c)) none σ H
  | .no => False
def AXPost (fr : Fr) (σ : L2.St) (Q : List V → Hp → Prop) : AX → Prop
  | .ok ds ρ => ∀ vs H, Gd K fr ρ σ H → Reps H vs ds → Q vs H
  | .exc c ρ => ∀ H, Gd K fr ρ σ H → W (.ref (cl c)) none σ H
  | .no => False
def tX (f : XF) : TE := fun σ H Q => ∃ fr ρ, Gd K fr ρ σ H ∧ XSPost K cl W fr σ Q (f ρ)
def tXA (g : XAF) : TA := fun σ H Q => ∃ fr ρ, Gd K fr ρ σ H ∧ AXPost K cl W fr σ Q (g ρ)
end
def xP (f : EF) : XF := fun ρ => match f ρ with
  | .ok (.dat d) => .ok d ρ
  | .exc c => .exc c ρ
  | _ => .no
def xNil : XAF := fun ρ => .ok [] ρ
def xCons (f : XF) (g : XAF) : XAF := fun ρ => match f ρ with
  | .ok d ρ1 => (match g ρ1 with
    | .ok ds ρ2 => .ok (d :: ds) ρ2
    | .exc c ρ2 => .exc c ρ2
    | .no => .no)
  | .exc c ρ1 => .exc c ρ1
  | .no => .no
def xTup (g : XAF) : XF := fun ρ => match g ρ with
  | .ok ds ρ1 => if ds.length ≤ 1000 then .ok (.tup ds) ρ1 else .no
  | .exc c ρ1 => .exc c ρ1
  | .no => .no
def objAt (ρ : Rho) : Option (List D) := match ρ[(0 : Nat)]? with
  | some (some (.obj ds)) => some ds
  | _ => none
def xMeth (F : FX) (g : XAF) : XF := fun ρ => match objAt ρ with
  | some _ => (match g ρ with
    | .ok ds ρ1 => (match objAt ρ1 with
      | some row => (match F row ds with
        | .ret r row' => .ok r (ρ1.set 0 (some (.obj row')))
        | _ => .no)
      | none => .no)
    | .exc c ρ1 => .exc c ρ1
    | .no => .no)
  | none => .no
def xRet (f : XF) : SF := fun ρ => match f ρ with
  | .ok d ρ1 => .ret (.dat d) ρ1
  | .exc c ρ1 => .exc c ρ1
  | .no => .no
def xAsg (i : Nat) (f : XF) : SF := fun ρ => match f ρ with
  | .ok d ρ1 => .nx (ρ1.set i (some (.dat d)))
  | .exc c ρ1 => .exc c ρ1
  | .no => .no
def sAppRow (f : EF) : SF := fun ρ => match objAt ρ with
  | some row => (match f ρ with
    | .ok (.dat d) => if row.length < 16777216 then .nx (ρ.set 0 (some (.obj (row ++ [d])))) else .no
    | .exc c => .exc c ρ
    | _ => .no)
  | none => .no
theorem objAt_eq {ρ : Rho} {ds : List D} (h : objAt ρ = some ds) : ρ[(0 : Nat)]? = some (some (.obj ds)) := by
  unfold objAt at h
  split at h
  · rename_i e; cases h; exact e
  · cases h
structure PathC (K : PySem.W.Frag) : Prop where
  cls : Cls K (He.ga K "Path")
  na : NoAttr K (He.ga K "Path") "row"
/-- what stands at self -/
theorem Good.self {K : PySem.W.Frag} {fr : Fr} {ρ : Rho} {σ : L2.St} {H : Hp} {Ow : Nat → Addr → Prop} (g : Good K fr ρ σ H Ow) {ds : List D} (h : objAt ρ = some ds) :
    ∃ p a dx xs, σ[(0 : Nat)]? = some (some (.ref p)) ∧ fr.F0 p = some (.ins (He.ga K "Path") dx [("row", .ref a)]) ∧ fr.ioA = some a ∧ p ≠ a ∧ H p = some (.ins (He.ga K "Path") dx [("row", .ref a)]) ∧ H a = some (.lst xs) ∧ Reps H xs ds ∧ Ow 0 a := by
  obtain ⟨v, e1, p, a, dx, xs, rfl, hF, hx, r, ha, ho⟩ := g.sl 0 _ (objAt_eq h)
  have ne : p ≠ a := fun z => by
    obtain ⟨⟨ys, q⟩, _⟩ := g.iow a ha
    rw [← z, hF] at q; cases q
  exact ⟨p, a, dx, xs, e1, hF, ha, ne, g.keep p _ hF (fun z => by rw [ha] at z; cases z; exact ne rfl), hx, r, (ho a).mpr rfl⟩
section
variable {cl : String → Addr} {W : WX} {X : Cx} {pos : Pos} {f : EF} {xf : XF} {g : XAF} {e : Expr} {es : List Expr}
theorem x_pure (he : PE X e (tI X.K cl W f)) : PE X e (tX X.K cl W (xP f)) := he.imp fun σ H Q ⟨fr, ρ, gd, h⟩ => by
  unfold xP at h
  refine eP gd (fun e => by rw [e] at h; exact h) (fun r e v H' s g' va => ?_) (fun c e H' g' => by rw [e] at h; exact h H' g')
  rw [e] at h
  split at h
  · rename_i d e2; cases e2; exact h v H' g' va
  · rename_i c e2; cases e2
  · exact h.elim
theorem x_nil : PA X [] (tXA X.K cl W xNil) := pa_nil.imp fun σ H Q ⟨fr, ρ, gd, h⟩ => h [] H gd .nil
theorem x_cons (ha : PE X e (tX X.K cl W xf)) (hr : PA X es (tXA X.K cl W g)) (hs : starEach (e :: es) X.env = (false, eval e X.env) :: starEach es X.env := by rfl) : PA X (e :: es) (tXA X.K cl W (xCons xf g)) :=
  (pa_cons ha hr hs).imp fun σ H Q ⟨fr, ρ, gd, h⟩ => by
    refine ⟨fr, ρ, gd, ?_⟩
    unfold xCons at h
    cases e1 : xf ρ with
    | no => rw [e1] at h; exact h
    | exc c ρ1 => rw [e1] at h; exact h
    | ok d ρ1 =>
      rw [e1] at h
      intro v H1 g1 rv
      obtain ⟨Ow1, g1⟩ := g1
      refine ⟨fr.at H1, ρ1, ⟨Ow1, g1.enter⟩, ?_⟩
      cases e2 : g ρ1 with
      | no => simp only [e2] at h; exact h
      | exc c ρ2 =>
        simp only [e2] at h
        exact fun H2 ⟨Ow2, g2⟩ => h H2 ⟨Ow2, g2.leave g1.tp⟩
      | ok ds ρ2 =>
        simp only [e2] at h
        exact fun vs H2 ⟨Ow2, g2⟩ rvs => h _ H2 ⟨Ow2, g2.leave g1.tp⟩ (.cons (Rep.mono g2.tp _ _ rv) rvs)
theorem x_tup {kk : Nat} (h : PA X es (tXA X.K cl W g)) : PE X (.Tuple es kk pos) (tX X.K cl W (xTup g)) := (pe_tup h).imp fun σ H Q ⟨fr, ρ, gd, h⟩ => by
  refine ⟨fr, ρ, gd, ?_⟩
  unfold xTup at h
  cases e1 : g ρ with
  | no => rw [e1] at h; exact h
  | exc c ρ1 => rw [e1] at h; exact h
  | ok ds ρ1 =>
    simp only [e1] at h
    intro vs H1 ⟨Ow1, g1⟩ r
    have hl := r.length
    by_cases hz : ds.length ≤ 1000
    · rw [if_pos hz] at h
      exact ⟨lim_line (by omega), fun p hp => h _ _ ⟨Ow1, g1.same (same_upd hp)⟩ (.tup upd_same (Reps.mono (same_upd hp).tp _ _ r))⟩
    · rw [if_neg hz] at h; exact h.elim
theorem s_xRet (he : PE X e (tX X.K cl W xf)) : PS X (.Return (some e) pos) (tS X.K cl W (xRet xf)) := (ps_ret he).imp fun D σ H ⟨fr, ρ, gd, h⟩ => by
  refine ⟨fr, ρ, gd, ?_⟩
  unfold xRet at h
  cases e1 : xf ρ with
  | no => rw [e1] at h; exact h
  | exc c ρ1 => rw [e1] at h; exact fun H1 g1 => h σ H1 g1
  | ok d ρ1 => rw [e1] at h; exact fun v H1 g1 r => h v σ H1 g1 r
theorem s_xAsg (i : Nat) {x : Str} {pos' : Pos} (hN : X.N.Nodup) (he : PE X e (tX X.K cl W xf)) (hi : X.N[i]? = some x := by rfl) (hx : Loc X.env.scope x := by first | exact Or.inl rfl | exact Or.inr rfl) (hs : swapsWith e (some (.Name x pos')) pos.line X.env = pure false := by rfl)
    (hf : X.fn x = true ∨ X.env.scope.names.lookup x = some .local := by first | exact .inl rfl | exact .inr rfl | assumption) : PS X (.Assign [.Name x pos'] e pos) (tS X.K cl W (xAsg i xf)) := (ps_set hN hi hx he hs hf).imp fun D σ H ⟨fr, ρ, gd, h⟩ => by
  refine ⟨fr, ρ, gd, ?_⟩
  unfold xAsg at h
  cases e1 : xf ρ with
  | no => rw [e1] at h; exact h
  | exc c ρ1 => rw [e1] at h; exact fun H1 g1 => h σ H1 g1
  | ok d ρ1 => rw [e1] at h; exact fun v H1 g1 r => h _ H1 (g1.dat r)
/-- self.row.append(e) -/
theorem s_appRow (T : PathC X.K) {apos rpos cpos xp : Pos} {x : Str} (he : PE X e (tI X.K cl W f)) (hN : X.N[(0 : Nat)]? = some x := by rfl) (hv : Vis X.env.scope x := by first | exact Or.inl rfl | exact Or.inr (Or.inl rfl) | exact Or.inr (Or.inr rfl)) (hd : (x == ("__debug__" : Str)) = false := by decide)
    (hcd : (x == ("__classdict__" : Str)) = false := by decide) (hb0 : attributeBase (.Name x xp) "row" X.env (eval (.Name x xp) X.env) = eval (.Name x xp) X.env := by rfl)
    (hbase : attributeBase (.Attribute (.Name x xp) "row" rpos) "append" X.env (eval (.Attribute (.Name x xp) "row" rpos) X.env) = eval (.Attribute (.Name x xp) "row" rpos) X.env := by rfl)
    (hfew : ((backTo cpos (starEach [e] X.env)).all (fun x => !x.1) && (backToKw cpos (keywordEach [] X.env)).all (fun x => x.1.isSome) && decide (([e] : List Expr).length + ([] : List Keyword).length + (if ([] : List Keyword).isEmpty then 0 else 1) < 30)) = true := by rfl)
    (hline : (apos.endLine == cpos.line) = true := by rfl) (hs : starEach [e] X.env = (false, eval e X.env) :: starEach [] X.env := by rfl) (hplain : (backTo cpos (starEach [] X.env)).any (·.1) = false := by rfl)
    (hsw : swapsWith (.Call (.Attribute (.Attribute (.Name x xp) "row" rpos) "append" apos) [e] [] cpos) none pos.line X.env = pure false := by rfl) : PS X (.Expr (.Call (.Attribute (.Attribute (.Name x xp) "row" rpos) "append" apos) [e] [] cpos) pos) (tS X.K cl W (sAppRow f)) :=
  (ps_expr (pe_bm PySem.F.plainAttrs_list PySem.F.slot_list_append PySem.F.type_list_append mt_append (pe_fld (pe_var hN hv hd hcd) hb0) (pa_cons he pa_nil hs) hbase hfew hline hs hplain) hsw).imp fun D σ H ⟨fr, ρ, gd, h⟩ => by
    unfold sAppRow at h
    cases e0 : objAt ρ with
    | none => simp only [e0] at h; exact h.elim
    | some row =>
      simp only [e0] at h
      obtain ⟨Ow, g0⟩ := id gd
      obtain ⟨p, a, dx, xs, e1, hF, ha, ne, hp, hx, r, ho⟩ := g0.self e0
      have hl := r.length
      refine ⟨.ref p, e1, p, _, dx, _, .ref a, rfl, hp, T.cls, T.na, rfl, Or.inl ⟨rfl, _, SqL.of hx⟩, eP gd (fun e => by simp only [e] at h; exact h) (fun z e v H' s g' va => ?_) (fun c e H' g' => by simp only [e] at h; exact h σ H' g')⟩
      simp only [e] at h
      split at h
      · rename_i d e2
        cases e2
        split at h
        · rename_i hz
          refine ⟨a, xs, v, rfl, rfl, s _ _ hx, Nat.lt_of_lt_of_le (by omega) (lim_line (Nat.le_refl _)), h _ _ ⟨Ow, (g0.same s).mut ho (s _ _ hx) ((Reps.mono s.tp _ _ r).append (.cons va .nil)) (.inr (.inr ⟨_, objAt_eq e0, rfl⟩))⟩⟩
        · exact h.elim
      · rename_i e2; cases e2
      · exact h.elim
end
/-! ## methods -/
structure MethK (P : Program) (w : World) (K : PySem.W.Frag) (mg : Str → Option Value) (base : Heap) (cl : String → Addr) (m : Str) (ps : List Str) (n : Nat) (F : FX) : Prop where
  ex : ∃ f fd, FnOk P w K mg base (L2.CX P w) n f fd ps (spX K cl ps.length true F) ∧ Meth K (He.ga K "Path") m f ∧ Binds K fd ps []
  ar : ∀ row args, args.length + 1 ≠ ps.length → F row args = .no
theorem MethK.up {P : Program} {w : World} {K : PySem.W.Frag} {mg : Str → Option Value} {base : Heap} {cl : String → Addr} {m : Str} {ps : List Str} {n k : Nat} {F : FX} (h : MethK P w K mg base cl m ps n F) (hl : n ≤ k) : MethK P w K mg base cl m ps k F := by
  obtain ⟨⟨f, fd, G, r⟩, ar⟩ := h
  exact ⟨⟨f, fd, G.mono hl, r⟩, ar⟩
theorem passF {X : Cx} : Passes (L2.CX X.prog X.w) X (fun _ _ _ => False) := fun pins σ H s e s' I h => by
  obtain ⟨_, _, _, _, _, _, _, _, _, _, _, _, z⟩ := h
  exact z.elim
section
variable {cl : String → Addr} {W : WX} {X : Cx} {pos apos xp : Pos} {g : XAF} {e : Expr} {es : List Expr} {x m : Str} {n : Nat} {F : FX} {ps : List Str}
/-- self.m(e, ..) -/
theorem x_meth (T : PathC X.K) (G : MethK X.prog X.w X.K X.mg X.base cl m ps n F) (hr : Room n X.A) (hmr : (m == ("row" : Str)) = false) (ha : PA X (e :: es) (tXA X.K cl W g)) (hN : X.N[(0 : Nat)]? = some x := by rfl) (hv : Vis X.env.scope x := by first | exact Or.inl rfl | exact Or.inr (Or.inl rfl) | exact Or.inr (Or.inr rfl)) (hd : (x == ("__debug__" : Str)) = false := by decide)
    (hcd : (x == ("__classdict__" : Str)) = false := by decide) {pl : Sem Bool} (hst : starEach (e :: es) X.env = (false, eval e X.env) :: starEach es X.env := by rfl) (hpl : (backTo pos (starEach es X.env)).any (·.1) = false := by rfl)
    (ht : eval (.Call (.Attribute (.Name x xp) m apos) (e :: es) [] pos) X.env = (do
      let ov ← eval (.Name x xp) X.env
      standAt apos.atName
      let (f, first) ← holding [ov] (getMethod ov m pl)
      callWith pos f first (backTo pos (starEach (e :: es) X.env)) (backToKw pos (keywordEach [] X.env))) := by rfl) :
    PE X (.Call (.Attribute (.Name x xp) m apos) (e :: es) [] pos) (tX X.K cl W (xMeth F g)) := by
  obtain ⟨f, fd, G1, hm, hb⟩ := G.ex
  have ar := G.ar
  refine (pe_meth (pl := pl) (pe_var hN hv hd hcd) T.cls hm G1 hr hb .nil passF ha hst hpl ht).imp fun σ H Q ⟨fr, ρ, gd, h⟩ => ?_
  unfold xMeth at h
  cases e0 : objAt ρ with
  | none => simp only [e0] at h; exact h.elim
  | some row0 =>
    simp only [e0] at h
    obtain ⟨Ow, g0⟩ := id gd
    obtain ⟨p, a, dx, xs, e1, hF, ha, ne, hp, hx, r, ho⟩ := g0.self e0
    have hlk : ([("row", V.ref a)] : List (Str × V)).lookup m = none := by
      simp [List.lookup, hmr]
    refine ⟨.ref p, e1, p, dx, _, rfl, hp, hlk, fr, ρ, gd, ?_⟩
    cases e2 : g ρ with
    | no => simp only [e2] at h; exact h
    | exc c ρ1 => simp only [e2] at h; exact h
    | ok ds ρ1 =>
      simp only [e2] at h
      intro vs H2 ⟨Ow2, g2⟩ rvs
      cases e3 : objAt ρ1 with
      | none => simp only [e3] at h; exact h.elim
      | some row =>
        simp only [e3] at h
        obtain ⟨p2, a2, dx2, xs2, e4, hF2, ha2, ne2, hp2, hx2, r2, ho2⟩ := g2.self e3
        rw [e1] at e4
        cases e4
        rw [ha] at ha2
        cases ha2
        have hl := rvs.length
        cases e5 : F row ds with
        | no => simp only [e5] at h; exact h.elim
        | exc c row' => simp only [e5] at h; exact h.elim
        | ret z row' =>
          simp only [e5] at h
          have hlen : (V.ref p :: (vs ++ [])).length = ps.length := by
            by_cases z : ds.length + 1 = ps.length
            · simp; omega
            · rw [ar row ds z] at e5; cases e5
          refine ⟨hlen, .ref p, vs ++ [], a, xs2, row, ds, rfl, hx2, r2, .inr ⟨rfl, p, dx2, rfl, hp2⟩, by rw [List.append_nil]; exact rvs, ?_⟩
          rw [e5]
          intro v H' ys s1 h1 r1 rv
          exact h v H' ⟨Ow2, g2.ownX ho2 hx2 s1 h1 r1 (.inr (.inr ⟨_, objAt_eq e3, rfl⟩))⟩ rv
end
section
variable {P : Program} {w : World} {K : PySem.W.Frag} {mg : Str → Option Value} {base : Heap} {cl : String → Addr}
theorem meth_mk {m qual x : Str} {ps : List Str} {params : Arguments} {body : List Stmt} {scope : Scope} {N : List Str} {k : Nat} {b : SF} {f : Addr} {fd : FuncData} (FD : FunD K x qual params body scope [] [] f fd) (hM : Meth K (He.ga K "Path") m f) (S : FnScope N ps scope) (hm : ps.length ≤ N.length)
    (hbi : ∀ (kV doc pm : Value) (an : Option Addr) (cdv ct : Value) (us : List Value), us.length = ps.length → bindArgs (PySem.W.fnOf x qual params body scope .none kV doc pm an cdv ct) ⟨us, []⟩ = pure (ps.zip us))
    (hbody : ∀ (cdv : Value) (A : Around) (outer : List Env) (s : Shared) (H : Hp) (E : XK), Room k (A.deeper (envOfC qual scope s.heap.objs.size f cdv)) →
      Takes (cxOf (L2.CX P w) P w K mg base N qual scope f cdv A outer s H E) (fun cls d _ H => E cls d H) →
      PSs (cxOf (L2.CX P w) P w K mg base N qual scope f cdv A outer s H E) body (tS K cl (fun cls d _ H => E cls d H) b)) :
    MethK P w K mg base cl m ps (k + 1) (runX N.length ps.length true b) :=
  ⟨⟨f, fd, fn_okX FD S hm hbody, hM, FD.bindsN hbi⟩, runX_ar⟩
theorem meth_zero {m qual x : Str} {ps : List Str} {params : Arguments} {body : List Stmt} {scope : Scope} {f : Addr} {fd : FuncData} (FD : FunD K x qual params body scope [] [] f fd) (hM : Meth K (He.ga K "Path") m f)
    (hbi : ∀ (kV doc pm : Value) (an : Option Addr) (cdv ct : Value) (us : List Value), us.length = ps.length → bindArgs (PySem.W.fnOf x qual params body scope .none kV doc pm an cdv ct) ⟨us, []⟩ = pure (ps.zip us)) :
    MethK P w K mg base cl m ps 0 (fun _ _ => .no) :=
  ⟨⟨f, fd, fn_noneX, hM, FD.bindsN hbi⟩, fun _ _ _ => rfl⟩
end
/-! ## Path(), path.plainer(kind, ()), path.row -/
def spInit (K : PySem.W.Frag) : Sp := fun vs H Q _ => ∃ x dx, vs = [.ref x] ∧ H x = some (.ins (He.ga K "Path") dx []) ∧ ∀ a, H a = none → Q .non (upd (upd H a (.lst [])) x (.ins (He.ga K "Path") dx [("row", .ref a)]))
structure InitK (P : Program) (w : World) (K : PySem.W.Frag) (mg : Str → Option Value) (base : Heap) (n : Nat) : Prop where
  ex : ∃ f fd, FnOk P w K mg base (L2.CX P w) n f fd ["self"] (spInit K) ∧ Mk K (He.ga K "Path") f ∧ Binds K fd ["self"] []
theorem InitK.up {P : Program} {w : World} {K : PySem.W.Frag} {mg : Str → Option Value} {base : Heap} {n k : Nat} (h : InitK P w K mg base n) (hl : n ≤ k) : InitK P w K mg base k := by
  obtain ⟨f, fd, G, r⟩ := h.ex
  exact ⟨f, fd, G.mono hl, r⟩
section
variable {P : Program} {w : World} {K : PySem.W.Frag} {mg : Str → Option Value} {base : Heap}
theorem init_mk {qual x : Str} {params : Arguments} {scope : Scope} {f : Addr} {fd : FuncData} {p1 p2 p3 p4 : Pos} (T : PathC K) (FD : FunD K x qual params [.Assign [.Attribute (.Name "self" p1) "row" p2] (.List [] p3) p4] scope [] [] f fd) (hM : Mk K (He.ga K "Path") f) (S : FnScope ["self"] ["self"] scope)
    (hsw : ∀ env : Env, swapsWith (.List [] p3) (some (.Attribute (.Name "self" p1) "row" p2)) p4.line env = pure false)
    (hbi : ∀ (kV doc pm : Value) (an : Option Addr) (cdv ct : Value) (us : List Value), us.length = (["self"] : List Str).length → bindArgs (PySem.W.fnOf x qual params [.Assign [.Attribute (.Name "self" p1) "row" p2] (.List [] p3) p4] scope .none kV doc pm an cdv ct) ⟨us, []⟩ = pure ((["self"] : List Str).zip us))
    (hvis : ∀ (cdv : Value) (A : Around) (outer : List Env) (s : Shared) (H : Hp) (E : XK), Vis (cxOf (L2.CX P w) P w K mg base ["self"] qual scope f cdv A outer s H E).env.scope "self") :
    InitK P w K mg base 1 := by
  refine ⟨f, fd, FD.ok S (fun vs H Q E h => by obtain ⟨x, dx, rfl, _⟩ := h; rfl) (fun cdv A outer s H vs Q E hr h => ?_), hM, FD.bindsN hbi⟩
  obtain ⟨x, dx, rfl, hx, k⟩ := h
  refine ⟨_, pss_one (ps_fld (pe_var (i := 0) rfl (hvis cdv A outer s H E) (by decide) (by decide)) (pe_lst pa_nil) (hsw _)), ?_⟩
  refine ⟨Nat.zero_le _, fun a ha => ⟨.ref x, rfl, x, _, dx, [], rfl, ?_, T.cls, T.na, by decide, k a ha⟩⟩
  rw [upd_ne (ne_of_none hx ha)]; exact hx
end
def sRtp (F : FX) : SF := fun ρ => match ρ[(0 : Nat)]? with
  | some (some (.dat d)) => (match F [] [d, .tup []] with
    | .ret _ row => (match ρ[(1 : Nat)]? with
      | some none => .ret (.own row) ρ
      | _ => .no)
    | _ => .no)
  | _ => .no
section
variable {cl : String → Addr} {W : WX} {X : Cx} {n j : Nat} {F : FX} {ps : List Str} {a1 a2 b1 b2 b3 b4 b5 b6 c1 c2 c3 : Pos} {kk : Nat}
theorem s_rtp (T : PathC X.K) (G0 : InitK X.prog X.w X.K X.mg X.base j) (G : MethK X.prog X.w X.K X.mg X.base cl "plainer" ps n F) (hr0 : Room (j + 1) X.A) (hr : Room n X.A) (hnd : X.N.Nodup) (hg : Gl X "Path") (hm : X.mg "Path" = some (.ref (He.ga X.K "Path")))
    (hN0 : X.N[(0 : Nat)]? = some ("kind" : Str)) (hN1 : X.N[(1 : Nat)]? = some ("path" : Str)) (hv0 : Vis X.env.scope "kind") (hv1 : Vis X.env.scope "path") (hl1 : Loc X.env.scope "path") {pl : Sem Bool} {a0 : Pos}
    (hf : X.fn ("path" : Str) = true ∨ X.env.scope.names.lookup ("path" : Str) = some .local)
    (hs1 : swapsWith (.Call (.Name "Path" a2) [] [] a0) (some (.Name "path" b6)) a1.line X.env = pure false := by rfl)
    (hst : starEach [.Name "kind" b1, .Tuple [] kk b2] X.env = (false, eval (.Name "kind" b1) X.env) :: starEach [.Tuple [] kk b2] X.env := by rfl)
    (hst2 : starEach [.Tuple [] kk b2] X.env = (false, eval (.Tuple [] kk b2) X.env) :: starEach [] X.env := by rfl)
    (hpl : (backTo b3 (starEach [.Tuple [] kk b2] X.env)).any (·.1) = false := by rfl)
    (ht : eval (.Call (.Attribute (.Name "path" b4) "plainer" b5) [.Name "kind" b1, .Tuple [] kk b2] [] b3) X.env = (do
      let ov ← eval (.Name "path" b4) X.env
      standAt b5.atName
      let (f, first) ← holding [ov] (getMethod ov "plainer" pl)
      callWith b3 f first (backTo b3 (starEach [.Name "kind" b1, .Tuple [] kk b2] X.env)) (backToKw b3 (keywordEach [] X.env))) := by rfl)
    {c0 : Pos} (hs2 : swapsWith (.Call (.Attribute (.Name "path" b4) "plainer" b5) [.Name "kind" b1, .Tuple [] kk b2] [] b3) none c0.line X.env = pure false := by rfl)
    (hb : attributeBase (.Name "path" c1) "row" X.env (eval (.Name "path" c1) X.env) = eval (.Name "path" c1) X.env := by rfl) :
    PSs X [.Assign [.Name "path" b6] (.Call (.Name "Path" a2) [] [] a0) a1, .Expr (.Call (.Attribute (.Name "path" b4) "plainer" b5) [.Name "kind" b1, .Tuple [] kk b2] [] b3) c0, .Return (some (.Attribute (.Name "path" c1) "row" c2)) c3] (tS X.K cl W (sRtp F)) := by
  obtain ⟨f0, fd0, F0, M0, B0⟩ := G0.ex
  obtain ⟨f1, fd1, F1, M1, B1⟩ := G.ex
  have ar := G.ar
  refine (pss_cons (ps_set hnd hN1 hl1 (pe_make0 M0 F0 hr0 hg hm B0 .nil passF) hs1 hf) (pss_cons (ps_expr (pe_meth (pl := pl) (pe_var hN1 hv1 (by decide) (by decide)) T.cls M1 F1 hr B1 .nil passF (pa_cons (pe_var hN0 hv0 (by decide) (by decide)) (pa_cons (pe_tup pa_nil) pa_nil hst2) hst) hst hpl ht) hs2)
    (pss_one (ps_ret (pe_fld (pe_var hN1 hv1 (by decide) (by decide)) hb))))).imp fun D σ H ⟨fr, ρ, gd, h⟩ => ?_
  unfold sRtp at h
  split at h
  · rename_i d e0
    cases e5 : F [] [d, .tup []] with
    | no => simp only [e5] at h; exact h.elim
    | exc c row => simp only [e5] at h; exact h.elim
    | ret z row =>
      simp only [e5] at h
      split at h
      · rename_i e1
        obtain ⟨Ow, g⟩ := id gd
        have l1 : 1 < σ.length := by
          rw [← g.len]; exact (List.getElem?_eq_some_iff.mp e1).1
        obtain ⟨v, es0, rv⟩ := g.sl 0 _ e0
        have rv : Rep H v d := rv.1
        intro x dx hx hdx hne
        have nx : upd (upd H dx (.own x)) x (.ins (He.ga X.K "Path") dx []) x = some (.ins (He.ga X.K "Path") dx []) := upd_same
        refine ⟨x, dx, rfl, nx, fun a ha => ⟨rfl, ?_⟩⟩
        have axn : a ≠ x := fun z => by rw [z, nx] at ha; cases ha
        have adn : a ≠ dx := fun z => by rw [z, upd_ne hne, upd_same] at ha; cases ha
        have aH : H a = none := by rw [upd_ne axn, upd_ne adn] at ha; exact ha
        have s1 : Same H (upd (upd (upd (upd H dx (.own x)) x (.ins (He.ga X.K "Path") dx [])) a (.lst [])) x (.ins (He.ga X.K "Path") dx [("row", .ref a)])) := fun b o e => by
          rw [upd_ne (ne_of_none e hx), upd_ne (ne_of_none e aH), upd_ne (ne_of_none e hx), upd_ne (ne_of_none e hdx)]; exact e
        generalize hH2 : upd (upd (upd (upd H dx (.own x)) x (.ins (He.ga X.K "Path") dx [])) a (.lst [])) x (.ins (He.ga X.K "Path") dx [("row", .ref a)]) = H2 at s1 ⊢
        have hx2 : H2 x = some (.ins (He.ga X.K "Path") dx [("row", .ref a)]) := by rw [← hH2]; exact upd_same
        have ha2 : H2 a = some (.lst []) := by rw [← hH2, upd_ne axn]; exact upd_same
        -- the slot path
        have sg : (σ.set 1 (some (.ref x)))[(1 : Nat)]? = some (some (.ref x)) := List.getElem?_set_self l1
        have sg0 : (σ.set 1 (some (.ref x)))[(0 : Nat)]? = some (some v) := by rw [List.getElem?_set_ne (by decide)]; exact es0
        refine ⟨.ref x, sg, x, dx, _, rfl, hx2, rfl, ?_⟩
        refine ⟨v, sg0, ⟨Nat.zero_le _, fun p hp => ?_⟩⟩
        have s2 := s1.trans (same_upd (o := .tup []) hp)
        have hx3 : upd H2 p (.tup []) x = some (.ins (He.ga X.K "Path") dx [("row", .ref a)]) := same_upd hp x _ hx2
        have ha3 : upd H2 p (.tup []) a = some (.lst []) := same_upd hp a _ ha2
        have hlen : [V.ref x, v, V.ref p].length = ps.length := by
          by_cases z : [d, KT.D.tup []].length + 1 = ps.length
          · simpa using z
          · rw [ar [] [d, .tup []] z] at e5; cases e5
        refine ⟨hlen, .ref x, [v, .ref p], a, [], [], [d, .tup []], rfl, ha3, .nil, .inr ⟨rfl, x, dx, rfl, hx3⟩, .cons (Rep.mono s2.tp _ _ rv) (.cons (.tup upd_same .nil) .nil), ?_⟩
        rw [e5]
        intro v' H' xs sx h1 r1 _
        have s3 : Same H H' := fun b o e => sx b o (fun z => by rw [z, aH] at e; cases e) (s2 b o e)
        refine ⟨.ref x, sg, x, _, dx, _, .ref a, rfl, sx x _ axn.symm hx3, T.cls, T.na, rfl, ?_⟩
        have aF : fr.F0 a = none := by
          cases q : fr.F0 a with
          | none => rfl
          | some o => obtain ⟨o', z⟩ := g.dom q; rw [aH] at z; cases z
        obtain ⟨Ow', g'⟩ := (g.same s3).setNone (i := 1) (x := some (.ref x))
        have er : ρ.set 1 none = ρ := by
          apply List.ext_getElem?
          intro i
          by_cases hi : i = 1
          · subst hi; rw [List.getElem?_set_self (List.getElem?_eq_some_iff.mp e1).1, e1]
          · rw [List.getElem?_set_ne (Ne.symm hi)]
        rw [er] at g'
        exact h (.ref a) _ H' ⟨Ow', g'⟩ ⟨⟨a, rfl, aF⟩, a, xs, rfl, h1, r1⟩
      · exact h.elim
  · exact h.elim
end
end KT

set_option Elab.async false
set_option linter.all false
set_option maxRecDepth 100000
set_option maxHeartbeats 4000000
namespace KT
open PySem PySem.Spec PyProof.Rows L2

/-! ## met = {}; x in met; met[x] = True -/
mutual
theorem nk_is {P : Program} {w : World} {H : Hp} {h : Heap} (ok : HOk P w H h) : ∀ (d : D) (v : V) (u : Value), Rep H v d → RelV v u → NestedIs h (nk d) u
  | .non, v, u, r, q => by
    cases r
    obtain rfl : u = Value.none := q
    exact .none
  | .bl b, v, u, r, q => by
    cases r
    obtain rfl : u = Value.bool b := q
    exact .bool rfl
  | .int i, v, u, r, q => by
    cases r
    obtain ⟨t, rfl⟩ := (show ∃ t, u = Value.int i t from q)
    exact .int _ _
  | .str s, v, u, r, q => by
    cases r
    obtain ⟨t, rfl⟩ := (show ∃ t, u = Value.str (Str.ofString s) t from q)
    exact .text _ _
  | .tup ds, v, u, r, q => by
    cases r with
    | @tup a xs _ e rs =>
      obtain rfl : u = Value.ref a := q
      obtain ⟨_, its, rv, o, h1, h2, n, h3⟩ := (show ObjOk P w H h a (.tup xs) from ok a _ e)
      exact .tup h1 h2 h3 (by simpa using nks_is ok ds xs its rs rv)
theorem nks_is {P : Program} {w : World} {H : Hp} {h : Heap} (ok : HOk P w H h) : ∀ (ds : List D) (vs : List V) (us : List Value), Reps H vs ds → Vals vs us → NestedAll h (nks ds) us
  | [], vs, us, r, q => by cases r; cases q; exact .nil
  | d :: ds, vs, us, r, q => by
    cases r with
    | cons r1 r2 =>
      cases q with
      | cons q1 q2 => exact .cons (nk_is ok d _ _ r1 q1) (nks_is ok ds _ _ r2 q2)
end
def okM (ks : List D) : D → Bool
  | .int n => ks.all isIntD
  | .tup ds => ks.all isTupD && decide ((nk (.tup ds)).depth ≤ 8)
  | _ => false
theorem MetKs.keys {H : Hp} {ks : List D} {xs : List (NestedKey × Addr × Value)} (h : MetKs H ks xs) : xs.map (·.1) = ks.map nk := by
  induction h with
  | nil => rfl
  | cons _ _ _ _ ih => rw [List.map_cons, List.map_cons, ih]
theorem MetKs.tups {H : Hp} {ks : List D} {xs : List (NestedKey × Addr × Value)} (h : MetKs H ks xs) : ∀ d ∈ ks, isTupD d = true := by
  induction h with
  | nil => intro d hd; cases hd
  | cons _ _ i _ ih =>
    intro d hd
    rcases List.mem_cons.mp hd with rfl | hd
    · exact i
    · exact ih d hd
theorem MetKs.is {P : Program} {w : World} {H : Hp} {h : Heap} (ok : HOk P w H h) {ks : List D} {xs : List (NestedKey × Addr × Value)} (m : MetKs H ks xs) : ∀ x ∈ xs, (nestedKind P w).is h x.1 x.2.1 := by
  induction m with
  | nil => intro x hx; cases hx
  | cons r d i _ ih =>
    intro x hx
    rcases List.mem_cons.mp hx with rfl | hx
    · exact ⟨nk_is ok _ _ _ r rfl, d⟩
    · exact ih x hx
theorem MetKs.snoc {H : Hp} {d : D} {b : Addr} (r : Rep H (.ref b) d) (hd : (nk d).depth ≤ 8) (i : isTupD d = true) {ks : List D} {xs : List (NestedKey × Addr × Value)} (m : MetKs H ks xs) : MetKs H (ks ++ [d]) (xs ++ [(nk d, b, .bool true)]) := by
  induction m with
  | nil => exact .cons r hd i .nil
  | cons r1 d1 i1 _ ih => exact .cons r1 d1 i1 ih
theorem atKey_mem (xs : List (NestedKey × Addr × Value)) (k : NestedKey) : (atKey xs k).isSome = decide (k ∈ xs.map (·.1)) := by
  unfold atKey
  induction xs with
  | nil => rfl
  | cons x xs ih =>
    rw [List.find?_cons]
    by_cases e : x.1 = k
    · simp [e]
    · simp only [decide_eq_false e, ih, List.map_cons, List.mem_cons]
      simp [Ne.symm e]
theorem valV_ints (n : Int) (ns : List Int) : (valV (intKv ns) (Sum.inl n : Key)).isSome = decide (nk (.int n) ∈ (ns.map D.int).map nk) := by
  unfold valV intKv
  induction ns with
  | nil => rfl
  | cons m ns ih =>
    rw [List.map_cons, List.find?_cons]
    by_cases e : m = n
    · subst e; simp
    · have e1 : ((Sum.inl m : Key) = Sum.inl n) = False := by simp [e]
      have e2 : ¬ nk (.int n) = nk (.int m) := fun z => by
        simp only [nk] at z; injection z with z; exact e z.symm
      simp only [e1, decide_false, ih, List.map_cons, List.mem_cons, e2, false_or]
/-- the dict that is read with a tuple -/
theorem met_dict {X : Cx} {pins : List (Addr × Obj)} {σ : L2.St} {H : Hp} {s : Shared} (I : Inv X pins σ H s) {a : Addr} {ks : List D} (m : MetOk X.w H a ks) (ht : ∀ d ∈ ks, isTupD d = true) :
    (a == sysModules) = false ∧ ∃ xs, s.heap.DictOfH (nestedKind X.prog X.w) a xs ∧ xs.map (·.1) = ks.map nk ∧ MetKs H ks xs ∧ Mut (H a) ∧ ∀ ys, H a ≠ some (.tup ys) := by
  rcases m with ⟨ns, rfl, e⟩ | ⟨h0, es, xs, e, h2, h3, h4⟩
  · have : ns = [] := by
      cases ns with
      | nil => rfl
      | cons n ns => have := ht (.int n) (by simp); cases this
    subst this
    obtain ⟨z, hd, vs, rel, o, es, ep, h1, h2, h3, _, h5, _⟩ := dk_of I.hok e
    have : vs = [] := by
      have := rel.length
      exact List.length_eq_zero_iff.mp this.symm
    subst this
    have he : es.toList = [] := by
      have := h5.length
      exact List.length_eq_zero_iff.mp this
    exact ⟨hd, [], ⟨o, es, ep, h1, h2, h3, by rw [he]; rfl, fun x hx => by (cases hx), List.nodup_nil⟩, rfl, .nil, by rw [e]; trivial, fun ys z => by rw [e] at z; cases z⟩
  · obtain ⟨⟨hd, o, ep, q1, q2, q3⟩, _⟩ := (show ObjOk X.prog X.w H s.heap a (RawM a es) from I.hok a _ e)
    exact ⟨hd, xs, ⟨o, es, ep, q1, q2, q3, h2, h3.is I.hok, h4⟩, h3.keys, h3, by rw [e]; trivial, fun ys z => by rw [e] at z; cases z⟩
theorem not_both (z : D) (h5 : isIntD z = true) (h6 : isTupD z = true) : False := by
  cases z with
  | int n => cases h6
  | tup ds => cases h5
  | non => cases h5
  | bl b => cases h5
  | str x => cases h5
def rInM (w : World) (neg : Bool) : R2 := fun x y H Q => ∃ a ks d, y = .ref a ∧ MetOk w H a ks ∧ Rep H x d ∧ okM ks d = true ∧ Q (.bl (if neg then !(decide (nk d ∈ ks.map nk)) else decide (nk d ∈ ks.map nk))) H
theorem op_inM {X : Cx} (hu : X.A.units + 200 < cLine) : OpR X (compareOp .In) (rInM X.w false) := by
  intro pins s σ H x y v u Q I rx ry ⟨a, ks, d, ey, m, rd, ok, q⟩
  subst ey
  obtain rfl : u = Value.ref a := ry
  cases d with
  | int n =>
    cases rd
    have hi : ∀ z ∈ ks, isIntD z = true := by simpa [okM] using ok
    rcases m with ⟨ns, rfl, e⟩ | ⟨h0, es, xs, e, h2, h3, h4⟩
    · have g := DGet.k (k := (Sum.inl n : Key)) e
      refine d_in (by omega) I g (u := v) rx fun s' I' => ⟨.bl (valV (intKv ns) (Sum.inl n : Key)).isSome, H, I', rfl, ?_⟩
      rw [valV_ints]
      exact q
    · cases ks with
      | nil => exact absurd rfl h0
      | cons z zs =>
        have h5 := hi z (by simp); have h6 := h3.tups z (by simp)
        exact (not_both z h5 h6).elim
  | tup ds =>
    simp only [okM, Bool.and_eq_true, List.all_eq_true, decide_eq_true_eq] at ok
    obtain ⟨hd, xs, dd, hk, _, _⟩ := met_dict I m ok.1
    have hkey := nk_is I.hok _ _ _ rd rx
    cases rd with
    | @tup b ys _ e rs =>
      obtain rfl : v = Value.ref b := rx
      refine wpAny_in_heap (knd := nestedKind X.prog X.w) (show _ + 8 < cLine by have : X.A.in1.units ≤ X.A.units + 1 := Nat.le_refl _; omega) ⟨hkey, ok.2⟩ hd dd ⟨.bl (atKey xs (nk (.tup ds))).isSome, H, I.tok _, rfl, ?_⟩
      rw [atKey_mem, hk]
      exact q
  | non => cases ok
  | bl b => cases ok
  | str z => cases ok
theorem op_notInM {X : Cx} (hu : X.A.units + 200 < cLine) : OpR X (compareOp .NotIn) (rInM X.w true) := by
  intro pins s σ H x y v u Q I rx ry ⟨a, ks, d, ey, m, rd, ok, q⟩
  subst ey
  obtain rfl : u = Value.ref a := ry
  cases d with
  | int n =>
    cases rd
    have hi : ∀ z ∈ ks, isIntD z = true := by simpa [okM] using ok
    rcases m with ⟨ns, rfl, e⟩ | ⟨h0, es, xs, e, h2, h3, h4⟩
    · have g := DGet.k (k := (Sum.inl n : Key)) e
      refine d_notIn (by omega) I g (u := v) rx fun s' I' => ⟨.bl (!(valV (intKv ns) (Sum.inl n : Key)).isSome), H, I', rfl, ?_⟩
      rw [valV_ints]
      exact q
    · cases ks with
      | nil => exact absurd rfl h0
      | cons z zs =>
        have h5 := hi z (by simp); have h6 := h3.tups z (by simp)
        exact (not_both z h5 h6).elim
  | tup ds =>
    simp only [okM, Bool.and_eq_true, List.all_eq_true, decide_eq_true_eq] at ok
    obtain ⟨hd, xs, dd, hk, _, _⟩ := met_dict I m ok.1
    have hkey := nk_is I.hok _ _ _ rd rx
    cases rd with
    | @tup b ys _ e rs =>
      obtain rfl : v = Value.ref b := rx
      refine wpAny_notIn_heap (knd := nestedKind X.prog X.w) (show _ + 8 < cLine by have : X.A.in1.units ≤ X.A.units + 1 := Nat.le_refl _; omega) ⟨hkey, ok.2⟩ hd dd ⟨.bl (!(atKey xs (nk (.tup ds))).isSome), H, I.tok _, rfl, ?_⟩
      rw [atKey_mem, hk]
      exact q
  | non => cases ok
  | bl b => cases ok
  | str z => cases ok
open Classical in
noncomputable def cInM (w : World) (neg : Bool) (i : Nat) (f : EF) : TF := fun ρ => match f ρ with
  | .ok (.dat d) => (match ρ[i]? with
    | some (some (.bdict w' ks)) => if w' = w ∧ okM ks d = true then .ok (if neg then !(decide (nk d ∈ ks.map nk)) else decide (nk d ∈ ks.map nk)) else .no
    | _ => .no)
  | .exc c => .exc c
  | _ => .no
/-- the heap behind met[y] = v, y new -/
def PutM (w : World) (H : Hp) (a : Addr) (y v : V) (H' : Hp) : Prop := ∃ ks d lab, MetOk w H a ks ∧ Rep H y d ∧ okM ks d = true ∧ nk d ∉ ks.map nk ∧ ks.length < 16777216 ∧ v = .bl true ∧ H' = upd H a lab
/-- met[y] = True -/
theorem m_setItem {X : Cx} {pins : List (Addr × Obj)} {σ : L2.St} {H : Hp} {s : Shared} {a : Addr} {y : V} {u r : Value} {ks : List D} {d : D} {A : Around} {E : Value → Shared → Prop} {Q : Unit → Shared → Prop} (hu : A.units + 200 < cLine) (I : Inv X pins σ H s) (m : MetOk X.w H a ks) (rd : Rep H y d) (ok : okM ks d = true) (hn : nk d ∉ ks.map nk) (hl : ks.length < 16777216) (ry : RelV y u) (rv : RelV (.bl true) r)
    (h : ∀ lab s', Mut (H a) → (∀ xs, H a ≠ some (.lst xs)) → (∀ xs, H a ≠ some (.tup xs)) → MetOk X.w (upd H a lab) a (ks ++ [d]) → (∀ xs, lab ≠ .lst xs) → Inv X pins σ (upd H a lab) s' → Q () s') :
    wpAny (model X.prog X.w) A (setItem (.ref a) u r) Q E s := by
  obtain rfl : r = Value.bool true := rv
  cases d with
  | int n =>
    cases rd
    have hi : ∀ z ∈ ks, isIntD z = true := by simpa [okM] using ok
    rcases m with ⟨ns, rfl, e⟩ | ⟨h0, es, xs, e, h2, h3, h4⟩
    · have lim : (intKv ns).length < sizeLine := by
        rw [List.length_map] at hl
        rw [sizeLine_eq]; simp only [intKv, List.length_map]; omega
      have vn : (valV (intKv ns) (Sum.inl n : Key)).isSome = false := by
        rw [valV_ints]; exact decide_eq_false hn
      refine d_setItem (by omega) I (DPut.k (k := (Sum.inl n : Key)) (v := V.bl true) e lim) ry rfl fun s' I' => h _ s' (by rw [e]; trivial) (fun xs z => by rw [e] at z; cases z) (fun xs z => by rw [e] at z; cases z) (.inl ⟨ns ++ [n], by simp, ?_⟩) (fun xs z => by cases z) I'
      rw [upd_same]
      congr 2
      unfold putK
      rw [valV_any, vn]
      simp [intKv]
    · cases ks with
      | nil => exact absurd rfl h0
      | cons z zs =>
        have h5 := hi z (by simp); have h6 := h3.tups z (by simp)
        exact (not_both z h5 h6).elim
  | tup ds =>
    simp only [okM, Bool.and_eq_true, List.all_eq_true, decide_eq_true_eq] at ok
    have nl : (∀ xs, H a ≠ some (.lst xs)) := fun xs z => by
      rcases m with ⟨ns, _, e⟩ | ⟨_, _, _, e, _⟩ <;> rw [z] at e <;> cases e
    obtain ⟨hd, xs, dd, hk, mk, mu, nt⟩ := met_dict I m ok.1
    have hkey := nk_is I.hok _ _ _ rd ry
    cases rd with
    | @tup b ys _ e rs =>
      obtain rfl : u = Value.ref b := ry
      have an : atKey xs (nk (.tup ds)) = none := by
        have := atKey_mem xs (nk (.tup ds))
        rw [hk, decide_eq_false hn] at this
        simpa using this
      have xl : xs.length = ks.length := by
        have := congrArg List.length hk
        simpa using this
      refine wpAny_setItem_heap (knd := nestedKind X.prog X.w) (show _ + 8 < cLine by have : A.in1.units ≤ A.units + 1 := Nat.le_refl _; omega) ⟨hkey, ok.2⟩ dd (fun h' dd' hs => ?_) (by rw [sizeLine_eq]; omega)
      rw [storedH_new an] at dd'
      obtain ⟨o, es, ep, q1, q2, q3, q4, q5, q6⟩ := dd'
      have tp : Tp H (upd H a (RawM a es)) := fun c zs ec => by
        rw [upd_ne (fun z => nt zs (by rw [← z]; exact ec))]; exact ec
      refine h (RawM a es) _ mu nl nt ?_ (fun xs z => by cases z) (d_write I mu hs ⟨o, q1⟩ ⟨⟨hd, o, ep, q1, q2, q3⟩, ⟨o, q1⟩, ?_⟩)
      · exact .inr ⟨by simp, es, _, upd_same, q4, (mk.snoc (.tup e rs) ok.2 rfl).mono tp, q6⟩
      · rintro h1 h2 ⟨z1, o', ep', z2, z3, z4⟩ k
        exact ⟨z1, o', ep', k _ z2, z3, z4⟩
  | non => cases ok
  | bl b => cases ok
  | str z => cases ok
/-- no dict in a slot but i -/
def onlyM (ρ : Rho) (i : Nat) : Bool := (ρ.set i none).all fun s => match s with
  | some d => !isDic d
  | none => true
theorem onlyM_ne {ρ : Rho} {i j : Nat} {s : DV} (h : onlyM ρ i = true) (hj : j ≠ i) (e : ρ[j]? = some (some s)) : isDic s = false := by
  unfold onlyM at h
  rw [List.all_eq_true] at h
  have e2 : (ρ.set i none)[j]? = some (some s) := by rw [List.getElem?_set_ne (Ne.symm hj)]; exact e
  have := h _ (List.mem_of_getElem? e2)
  simpa using this
theorem Good.putM {K : PySem.W.Frag} {fr : Fr} {ρ : Rho} {σ : L2.St} {H : Hp} {Ow : Nat → Addr → Prop} (g : Good K fr ρ σ H Ow) {i : Nat} {a : Addr} {w : World} {ks ks' : List D} {lab : HO} (e : ρ[i]? = some (some (.bdict w ks))) (ea : σ[i]? = some (some (.ref a))) (hF : fr.F0 a = none) (oM : onlyM ρ i = true)
    (nl : ∀ xs, H a ≠ some (.lst xs)) (nt : ∀ xs, H a ≠ some (.tup xs)) (m : MetOk w (upd H a lab) a ks') : Good K fr (ρ.set i (some (.bdict w ks'))) σ (upd H a lab) Ow := by
  have tp : Tp H (upd H a lab) := fun b zs eb => by rw [upd_ne (fun z => nt zs (by rw [← z]; exact eb))]; exact eb
  have lst : ∀ b xs, H b = some (.lst xs) → upd H a lab b = some (.lst xs) := fun b xs h => by rw [upd_ne (fun z => nl xs (by rw [← z]; exact h))]; exact h
  have il : i < ρ.length := (List.getElem?_eq_some_iff.mp e).1
  refine ⟨by simpa using g.len, fun j s es => ?_, fun j n => ?_, g.one, g.mine, fun b ob eb n => ?_, fun b eb => ?_, fun b zs eb => ?_, g.wf, g.tp.trans tp⟩
  · rcases get_set es with ⟨rfl, q, hl⟩ | ⟨ne, e'⟩
    · cases Option.some.inj q
      obtain ⟨v, e1, q⟩ := g.sl _ _ e
      exact ⟨_, ea, ⟨a, rfl, hF, m⟩, q.2⟩
    · obtain ⟨v, e1, q⟩ := g.sl j s e'
      exact ⟨v, e1, q.stay tp (fun b xs _ h => lst b xs h) fun z => by rw [onlyM_ne oM ne e'] at z; cases z⟩
  · by_cases hj : j = i
    · intro _ _
      exact n _ (by rw [hj, List.getElem?_set_self il])
    · exact g.off j fun s e => n s (by rw [List.getElem?_set_ne (Ne.symm hj)]; exact e)
  · have nb : b ≠ a := fun z => by rw [z, hF] at eb; cases eb
    rw [upd_ne nb]; exact g.keep b ob eb n
  · obtain ⟨h1, zs, h2⟩ := g.iow b eb
    exact ⟨h1, zs, lst b zs h2⟩
  · obtain ⟨h1, h2⟩ := g.prot b zs eb
    exact ⟨lst b zs h1, h2⟩
def sNewM (w : World) (i : Nat) : SF := fun ρ => .nx (ρ.set i (some (.bdict w [])))
open Classical in
noncomputable def sPutM (w : World) (i j : Nat) : SF := fun ρ => match ρ[i]? with
  | some (some (.bdict w' ks)) => (match ρ[j]? with
    | some (some (.dat d)) => if w' = w ∧ okM ks d = true ∧ nk d ∉ ks.map nk ∧ ks.length < 16777216 ∧ onlyM ρ i = true then .nx (ρ.set i (some (.bdict w (ks ++ [d])))) else .no
    | _ => .no)
  | _ => .no
section
variable {cl : String → Addr} {W : WX} {X : Cx} {pos : Pos} {f : EF} {e : Expr}
theorem it_inM (i : Nat) {x : Str} {xp : Pos} (hu : X.A.units + 200 < cLine) (ha : PE X e (tI X.K cl W f)) (hN : X.N[i]? = some x := by rfl) (hv : Vis X.env.scope x := by first | exact Or.inl rfl | exact Or.inr (Or.inl rfl) | exact Or.inr (Or.inr rfl)) (hd : (x == ("__debug__" : Str)) = false := by decide)
    (hcd : (x == ("__classdict__" : Str)) = false := by decide) (hm : behindInMarks .In (.Name x xp) = false := by rfl) : PT X (.Compare e [.In] [.Name x xp] pos) (tT X.K cl W (cInM X.w false i f)) :=
  (pt_cmpR (op_inM hu) ha (pe_var hN hv hd hcd) hm).imp fun σ H Q ⟨ρ, S, h⟩ => by
    refine ⟨ρ, S, ?_⟩
    unfold cInM at h
    cases e0 : f ρ with
    | no => rw [e0] at h; exact h.elim
    | exc c => rw [e0] at h; exact h
    | ok r =>
      rw [e0] at h
      intro v H' s va
      cases r with
      | dat d =>
        simp only at h
        split at h
        · rename_i w' ks e3
          split at h
          · rename_i hw
            obtain ⟨rfl, ok⟩ := hw
            obtain ⟨v', es, a, rfl, m⟩ := S i _ e3
            exact ⟨.ref a, es, a, ks, d, rfl, m.mono s.tp (fun o _ q => s _ _ q), va, ok, _, rfl, h H' s⟩
          · exact h.elim
        · exact h.elim
      | _ => exact h.elim
theorem it_notInM (i : Nat) {x : Str} {xp : Pos} (hu : X.A.units + 200 < cLine) (ha : PE X e (tI X.K cl W f)) (hN : X.N[i]? = some x := by rfl) (hv : Vis X.env.scope x := by first | exact Or.inl rfl | exact Or.inr (Or.inl rfl) | exact Or.inr (Or.inr rfl)) (hd : (x == ("__debug__" : Str)) = false := by decide)
    (hcd : (x == ("__classdict__" : Str)) = false := by decide) (hm : behindInMarks .NotIn (.Name x xp) = false := by rfl) : PT X (.Compare e [.NotIn] [.Name x xp] pos) (tT X.K cl W (cInM X.w true i f)) :=
  (pt_cmpR (op_notInM hu) ha (pe_var hN hv hd hcd) hm).imp fun σ H Q ⟨ρ, S, h⟩ => by
    refine ⟨ρ, S, ?_⟩
    unfold cInM at h
    cases e0 : f ρ with
    | no => rw [e0] at h; exact h.elim
    | exc c => rw [e0] at h; exact h
    | ok r =>
      rw [e0] at h
      intro v H' s va
      cases r with
      | dat d =>
        simp only at h
        split at h
        · rename_i w' ks e3
          split at h
          · rename_i hw
            obtain ⟨rfl, ok⟩ := hw
            obtain ⟨v', es, a, rfl, m⟩ := S i _ e3
            exact ⟨.ref a, es, a, ks, d, rfl, m.mono s.tp (fun o _ q => s _ _ q), va, ok, _, rfl, h H' s⟩
          · exact h.elim
        · exact h.elim
      | _ => exact h.elim
theorem s_newM (i : Nat) {x : Str} {pos' p : Pos} (hN : X.N.Nodup) (hi : X.N[i]? = some x := by rfl) (hx : Loc X.env.scope x := by first | exact Or.inl rfl | exact Or.inr rfl) (hs : swapsWith (.Dict [] [] p) (some (.Name x pos')) pos.line X.env = pure false := by rfl)
    (hf : X.fn x = true ∨ X.env.scope.names.lookup x = some .local := by first | exact .inl rfl | exact .inr rfl | assumption) : PS X (.Assign [.Name x pos'] (.Dict [] [] p) pos) (tS X.K cl W (sNewM X.w i)) := (ps_set hN hi hx pe_dnewK hs hf).imp fun D σ H ⟨fr, ρ, ⟨Ow, g⟩, h⟩ => by
  intro p hp
  have hF : fr.F0 p = none := by
    cases q : fr.F0 p with
    | none => rfl
    | some o => obtain ⟨o', z⟩ := g.dom q; rw [hp] at z; cases z
  have g1 := g.same (same_upd (o := .dK []) hp)
  exact h _ _ (g1.put (P := fun _ => False) (fun s' e => by cases e; exact ⟨.ref p, rfl, ⟨p, rfl, hF, .inl ⟨[], rfl, upd_same⟩⟩, fun _ h => h⟩) (fun e => by cases e) (fun _ _ h => h.elim) (fun _ h => h.elim) fun _ _ _ h => h)
theorem s_putM (i j : Nat) {x y : Str} {xp yp p cp : Pos} {kk : Nat} (hu : X.A.units + 200 < cLine) (hN : X.N[i]? = some x := by rfl) (hv : Vis X.env.scope x := by first | exact Or.inl rfl | exact Or.inr (Or.inl rfl) | exact Or.inr (Or.inr rfl)) (hd : (x == ("__debug__" : Str)) = false := by decide) (hcd : (x == ("__classdict__" : Str)) = false := by decide)
    (hN2 : X.N[j]? = some y := by rfl) (hv2 : Vis X.env.scope y := by first | exact Or.inl rfl | exact Or.inr (Or.inl rfl) | exact Or.inr (Or.inr rfl)) (hd2 : (y == ("__debug__" : Str)) = false := by decide) (hcd2 : (y == ("__classdict__" : Str)) = false := by decide)
    (hs : swapsWith (.Constant (.bool true) kk cp) (some (.Subscript (.Name x xp) (.Name y yp) p)) pos.line X.env = pure false := by rfl) :
    PS X (.Assign [.Subscript (.Name x xp) (.Name y yp) p] (.Constant (.bool true) kk cp) pos) (tS X.K cl W (sPutM X.w i j)) := by
  have hv0 : PE X (.Constant (.bool true) kk cp) (tC (.bl true)) := pe_bl
  have ho : PE X (.Name x xp) (tVar i) := pe_var hN hv hd hcd
  have hi : PE X (.Name y yp) (tVar j) := pe_var hN2 hv2 hd2 hcd2
  refine ⟨fun pins s σ H D I ⟨fr, ρ, ⟨Ow, g⟩, h⟩ => ?_⟩
  unfold sPutM at h
  split at h
  · rename_i w' ks e1
    split at h
    · rename_i d e2
      split at h
      · rename_i hc
        obtain ⟨rfl, ok, hn, hl, oM⟩ := hc
        obtain ⟨v, ea, ⟨a, rfl, hF, m⟩, _⟩ := g.sl i _ e1
        obtain ⟨vd, ed, rd⟩ := g.sl j _ e2
        have rd : Rep H vd d := rd.1
        refine wpAny_Assign_Subscript (thn (hv0.run pins s σ H (fun v H1 => v = .bl true ∧ H1 = H) I ⟨rfl, rfl⟩) fun r s1 ⟨v, H1, I1, rv, ev, eH⟩ => ?_) hs
        obtain rfl := eH
        obtain rfl := ev
        refine thn (ho.run pins s1 σ H1 (fun v H2 => v = .ref a ∧ H2 = H1) I1 ⟨_, ea, rfl, rfl⟩) fun u s2 ⟨z, H2, I2, rx, ez, eH⟩ => ?_
        obtain rfl := eH
        obtain rfl := ez
        refine thn (hi.run pins s2 σ H2 (fun v H3 => v = vd ∧ H3 = H2) I2 ⟨_, ed, rfl, rfl⟩) fun iv s3 ⟨y2, H3, I3, ry, ey, eH⟩ => ?_
        obtain rfl := eH
        obtain rfl := ey
        obtain rfl : u = Value.ref a := rx
        exact m_setItem hu I3 m rd ok hn hl ry rv fun lab s4 mu nl nt mk _ I4 => ⟨σ, _, I4, h σ _ ⟨Ow, g.putM e1 ea hF oM nl nt mk⟩⟩
      · exact h.elim
    · exact h.elim
  · exact h.elim
end
theorem call_lenM {X : Cx} : CallR X (.builtin "len") (fun xs H Q => ∃ a ks, xs = [V.ref a] ∧ MetOk X.w H a ks ∧ ks.length ≤ 16777216 ∧ Q (.int (ks.length : Int)) H) := by
  intro pins s σ H xs us Q I r h
  obtain ⟨a, ks, rfl, m, hl, q⟩ := h
  obtain ⟨u, rfl, rx⟩ := vals1 r
  obtain rfl : u = .ref a := rx
  rcases m with ⟨ns, rfl, e⟩ | ⟨h0, es, xs, e, h2, h3, h4⟩
  · obtain ⟨z, hd, vs, rel, dd⟩ := dk_of I.hok e
    have hv : vs.length = ns.length := by
      have := rel.length
      simp only [intKv, List.length_map] at this; omega
    rw [List.length_map] at hl q
    refine call_len_dict hd dd (by omega) ?_
    rw [hv]
    exact ⟨.int (ns.length : Int), H, I.tok _, ⟨_, rfl⟩, q⟩
  · obtain ⟨⟨hd, o, ep, q1, q2, q3⟩, _⟩ := (show ObjOk X.prog X.w H s.heap a (RawM a es) from I.hok a _ e)
    have xl : xs.length = ks.length := by
      have := congrArg List.length h3.keys
      simpa using this
    refine call_len_dictH (knd := nestedKind X.prog X.w) hd ⟨o, es, ep, q1, q2, q3, h2, h3.is I.hok, h4⟩ (by omega) ?_
    rw [xl]
    exact ⟨.int (ks.length : Int), H, I.tok _, ⟨_, rfl⟩, q⟩
open Classical in
noncomputable def eLenM (w : World) (i : Nat) : EF := fun ρ => match ρ[i]? with
  | some (some (.bdict w' ks)) => if w' = w ∧ ks.length ≤ 16777216 then .ok (.dat (.int (ks.length : Int))) else .no
  | _ => .no
section
variable {cl : String → Addr} {W : WX} {X : Cx} {pos p xp : Pos} {x : Str}
theorem i_lenM (i : Nat) (hg : Gl X "len") (hm : X.mg "len" = none) (hN : X.N[i]? = some x := by rfl) (hv : Vis X.env.scope x := by first | exact Or.inl rfl | exact Or.inr (Or.inl rfl) | exact Or.inr (Or.inr rfl)) (hd : (x == ("__debug__" : Str)) = false := by decide)
    (hcd : (x == ("__classdict__" : Str)) = false := by decide) (hs0 : starEach [.Name x xp] X.env = (false, eval (.Name x xp) X.env) :: starEach [] X.env := by rfl)
    (he : starEach [.Name x xp] X.env = (false, eval (.Name x xp) X.env) :: starEach [] X.env := by rfl) (hpl : (backTo pos (starEach [] X.env)).any (·.1) = false := by rfl) : PE X (.Call (.Name "len" p) [.Name x xp] [] pos) (tI X.K cl W (eLenM X.w i)) :=
  (pe_callB call_lenM hg hm boot_len (pa_cons (pe_var hN hv hd hcd) pa_nil hs0) (by decide) (by decide) he hpl).imp fun σ H Q ⟨ρ, S, h⟩ => by
    unfold eLenM at h
    split at h
    · rename_i w' ks e1
      split at h
      · rename_i hc
        obtain ⟨rfl, hl⟩ := hc
        obtain ⟨v', es, a, rfl, m⟩ := S i _ e1
        exact ⟨.ref a, es, a, ks, rfl, m, hl, h _ H (Same.refl H) (.int _)⟩
      · exact h.elim
    · exact h.elim
end
end KT

set_option Elab.async false
set_option linter.all false
set_option maxRecDepth 100000
set_option maxHeartbeats 4000000
namespace KT
open PySem PySem.Spec PyProof.Rows L2

/-! ## a dict from rows of ints to ints -/
abbrev KVs := List (List Int × Int)
def gtK (kvs : KVs) (k : List Int) : Option Int := (kvs.find? fun kv => decide (kv.1 = k)).map (·.2)
def puK (kvs : KVs) (k : List Int) (v : Int) : KVs := if (kvs.any fun kv => decide (kv.1 = k)) = true then kvs.map (fun kv => if kv.1 = k then (kv.1, v) else kv) else kvs ++ [(k, v)]
theorem inl_inj {a b : List Int} : (a.map Sum.inl : List Key) = b.map Sum.inl ↔ a = b := by
  constructor
  · intro h
    exact (List.map_inj_right (fun x y e => by injection e)).mp h
  · rintro rfl; rfl
theorem valV_dkv (k : List Int) : ∀ kvs : KVs, valV (dkv kvs) (k.map Sum.inl : List Key) = (gtK kvs k).map V.int
  | [] => rfl
  | kv :: kvs => by
    have ih := valV_dkv k kvs
    unfold valV dkv gtK at *
    rw [List.map_cons, List.find?_cons, List.find?_cons]
    by_cases h : kv.1 = k
    · simp [h]
    · have h2 : ¬ (kv.1.map Sum.inl : List Key) = k.map Sum.inl := fun z => h (inl_inj.mp z)
      simp only [decide_eq_false h, decide_eq_false h2]
      exact ih
theorem any_dkv (k : List Int) (kvs : KVs) : ((dkv kvs).any fun kv => decide (kv.1 = (k.map Sum.inl : List Key))) = kvs.any fun kv => decide (kv.1 = k) := by
  unfold dkv
  rw [List.any_map]
  congr 1
  funext kv
  simp only [Function.comp]
  by_cases h : kv.1 = k
  · simp [h]
  · have h2 : ¬ (kv.1.map Sum.inl : List Key) = k.map Sum.inl := fun z => h (inl_inj.mp z)
    rw [decide_eq_false h, decide_eq_false h2]
theorem putK_dkv (k : List Int) (v : Int) (kvs : KVs) : putK (dkv kvs) (k.map Sum.inl : List Key) (V.int v) = dkv (puK kvs k v) := by
  unfold putK puK
  rw [any_dkv]
  split
  · unfold dkv
    rw [List.map_map, List.map_map]
    congr 1
    funext kv
    simp only [Function.comp]
    by_cases h : kv.1 = k
    · simp [h]
    · have h2 : ¬ (kv.1.map Sum.inl : List Key) = k.map Sum.inl := fun z => h (inl_inj.mp z)
      simp only [if_neg h, if_neg h2]
  · unfold dkv; rw [List.map_append]; rfl
theorem reps_key {H : Hp} : ∀ {ns : List Int} {vs : List V}, Reps H vs (ns.map D.int) → vs = (ns.map Sum.inl : List Key).map kV
  | [], _, h => by cases h; rfl
  | n :: ns, _, h => by
    cases h with
    | cons a b =>
      cases a
      rw [reps_key b]; rfl
/-- a row as a key -/
theorem key_at {H : Hp} {v : V} {ds : List D} {ns : List Int} (r : Rep H v (.tup ds)) (e : intsOf ds = some ns) : ∃ b, v = .ref b ∧ H b = some (.tup ((ns.map Sum.inl : List Key).map kV)) := by
  rw [intsOf_eq e] at r
  cases r with
  | tup h rs => rw [reps_key rs] at h; exact ⟨_, rfl, h⟩
def dicAt (ρ : Rho) (i : Nat) : Option KVs := match ρ[i]? with
  | some (some (.dict kvs)) => some kvs
  | some (some (.bd kvs)) => some kvs
  | _ => none
theorem dicAt_ok {K : PySem.W.Frag} {ρ : Rho} {σ : L2.St} {H : Hp} {i : Nat} {kvs : KVs} (S : SlR K ρ σ H) (h : dicAt ρ i = some kvs) : ∃ a, σ[i]? = some (some (.ref a)) ∧ DAt H a kvs := by
  unfold dicAt at h
  split at h
  · rename_i e; cases h; obtain ⟨v, e1, a, rfl, m⟩ := S i _ e; exact ⟨a, e1, m⟩
  · rename_i e; cases h; obtain ⟨v, e1, a, rfl, m⟩ := S i _ e; exact ⟨a, e1, m⟩
  · cases h
theorem DAt.rd {H : Hp} {a : Addr} {kvs : KVs} (h : DAt H a kvs) : Rd H a (.dT (dkv kvs)) := h
def rowOf : D → Option (List Int)
  | .tup ds => intsOf ds
  | _ => none
theorem rowOf_key {H : Hp} {v : V} {d : D} {ns : List Int} (r : Rep H v d) (e : rowOf d = some ns) : ∃ b, v = .ref b ∧ H b = some (.tup ((ns.map Sum.inl : List Key).map kV)) := by
  cases d <;> first | exact key_at r e | cases e
/-- d[k] -/
def eDGet (i : Nat) (f : EF) : EF := fun ρ => match dicAt ρ i with
  | some kvs => (match f ρ with
    | .ok (.dat d) => (match rowOf d with
      | some ns => (match gtK kvs ns with
        | some v => .ok (.dat (.int v))
        | none => .no)
      | none => .no)
    | .exc c => .exc c
    | _ => .no)
  | none => .no
/-- d.get(k, x) -/
def eDGet2 (i : Nat) (f g : EF) : EF := fun ρ => match dicAt ρ i with
  | some kvs => (match f ρ with
    | .ok (.dat d) => (match g ρ with
      | .ok (.dat (.int x)) => (match rowOf d with
        | some ns => .ok (.dat (.int ((gtK kvs ns).getD x)))
        | none => .no)
      | .exc c => .exc c
      | _ => .no)
    | .exc c => .exc c
    | _ => .no)
  | none => .no
def sNewD (i : Nat) : SF := fun ρ => .nx (ρ.set i (some (.dict [])))
/-- d[k] = e -/
def sPutD (i : Nat) (f g : EF) : SF := fun ρ => match g ρ with
  | .ok (.dat (.int v)) => (match ρ[i]? with
    | some (some (.dict kvs)) => (match f ρ with
      | .ok (.dat d) => (match rowOf d with
        | some ns => if kvs.length < 16777216 ∧ onlyM ρ i = true then .nx (ρ.set i (some (.dict (puK kvs ns v)))) else .no
        | none => .no)
      | .exc c => .exc c ρ
      | _ => .no)
    | _ => .no)
  | .exc c => .exc c ρ
  | _ => .no
theorem Good.putD {K : PySem.W.Frag} {fr : Fr} {ρ : Rho} {σ : L2.St} {H : Hp} {Ow : Nat → Addr → Prop} (g : Good K fr ρ σ H Ow) {i : Nat} {a : Addr} {kvs kvs' : KVs} (e : ρ[i]? = some (some (.dict kvs))) (ea : σ[i]? = some (some (.ref a))) (oM : onlyM ρ i = true) :
    Good K fr (ρ.set i (some (.dict kvs'))) σ (upd H a (.dT (dkv kvs'))) Ow := by
  obtain ⟨v, e1, ⟨a', ev, hF, m⟩, no⟩ := g.sl _ _ e
  rw [ea] at e1
  cases e1
  cases ev
  have tp : Tp H (upd H a (.dT (dkv kvs'))) := fun b zs eb => by rw [upd_ne (fun z => by rw [z, m] at eb; cases eb)]; exact eb
  have lst : ∀ b xs, H b = some (.lst xs) → upd H a (.dT (dkv kvs')) b = some (.lst xs) := fun b xs h => by rw [upd_ne (fun z => by rw [z, m] at h; cases h)]; exact h
  have il : i < ρ.length := (List.getElem?_eq_some_iff.mp e).1
  refine ⟨by simpa using g.len, fun j s es => ?_, fun j n => ?_, g.one, g.mine, fun b ob eb n => ?_, fun b eb => ?_, fun b zs eb => ?_, g.wf, g.tp.trans tp⟩
  · rcases get_set es with ⟨rfl, q, hl⟩ | ⟨ne, e'⟩
    · cases Option.some.inj q
      exact ⟨_, ea, ⟨a, rfl, hF, upd_same⟩, no⟩
    · obtain ⟨v, e1, q⟩ := g.sl j s e'
      exact ⟨v, e1, q.stay tp (fun b xs _ h => lst b xs h) fun z => by rw [onlyM_ne oM ne e'] at z; cases z⟩
  · by_cases hj : j = i
    · intro _ _
      exact n _ (by rw [hj, List.getElem?_set_self il])
    · exact g.off j fun s e => n s (by rw [List.getElem?_set_ne (Ne.symm hj)]; exact e)
  · have nb : b ≠ a := fun z => by rw [z, hF] at eb; cases eb
    rw [upd_ne nb]; exact g.keep b ob eb n
  · obtain ⟨h1, zs, h2⟩ := g.iow b eb
    exact ⟨h1, zs, lst b zs h2⟩
  · obtain ⟨h1, h2⟩ := g.prot b zs eb
    exact ⟨lst b zs h1, h2⟩
section
variable {cl : String → Addr} {W : WX} {X : Cx} {pos : Pos} {f g : EF} {e e2 : Expr}
theorem i_dicG (i : Nat) {x : Str} {xp : Pos} (hu : X.A.units + 200 < cLine) (hf : PE X e (tI X.K cl W f)) (hs : NoSl e := by intro _ _; rfl) (hN : X.N[i]? = some x := by rfl) (hv : Vis X.env.scope x := by first | exact Or.inl rfl | exact Or.inr (Or.inl rfl) | exact Or.inr (Or.inr rfl)) (hd : (x == ("__debug__" : Str)) = false := by decide)
    (hcd : (x == ("__classdict__" : Str)) = false := by decide) : PE X (.Subscript (.Name x xp) e pos) (tI X.K cl W (eDGet i f)) :=
  (pe_dget (by omega) (pe_var hN hv hd hcd) hf hs).imp fun σ H Q ⟨ρ, S, h⟩ => by
    unfold eDGet at h
    split at h
    · rename_i kvs e0
      obtain ⟨a, ea, m⟩ := dicAt_ok S e0
      refine ⟨.ref a, ea, ρ, S, ?_⟩
      cases e1 : f ρ with
      | no => rw [e1] at h; exact h.elim
      | exc c => rw [e1] at h; exact h
      | ok r =>
        rw [e1] at h
        intro v H' s va
        cases r with
        | dat d =>
          simp only at h
          split at h
          · rename_i ns e2
            split at h
            · rename_i n e3
              obtain ⟨b, rfl, hb⟩ := rowOf_key va e2
              refine ⟨a, .int n, rfl, .inr ⟨_, ns.map Sum.inl, b, (m.mono fun _ q => s _ _ q).rd, rfl, hb, ?_⟩, h _ H' s (.int _)⟩
              rw [valV_dkv, e3]; rfl
            · exact h.elim
          · exact h.elim
        | _ => exact h.elim
    · exact h.elim
theorem i_dicG2 (i : Nat) {x : Str} {xp apos : Pos} (hu : X.A.units + 200 < cLine) (hf : PE X e (tI X.K cl W f)) (hg : PE X e2 (tI X.K cl W g)) (hN : X.N[i]? = some x := by rfl) (hv : Vis X.env.scope x := by first | exact Or.inl rfl | exact Or.inr (Or.inl rfl) | exact Or.inr (Or.inr rfl)) (hd : (x == ("__debug__" : Str)) = false := by decide)
    (hcd : (x == ("__classdict__" : Str)) = false := by decide) (m : M2 X (.Name x xp) "get" apos e e2 pos := by exact ⟨rfl, rfl, rfl, rfl⟩) : PE X (.Call (.Attribute (.Name x xp) "get" apos) [e, e2] [] pos) (tI X.K cl W (eDGet2 i f g)) :=
  (pe_dget2 (by omega) (pe_var hN hv hd hcd) hf hg m).imp fun σ H Q ⟨ρ, S, h⟩ => by
    unfold eDGet2 at h
    split at h
    · rename_i kvs e0
      obtain ⟨a, ea, m⟩ := dicAt_ok S e0
      refine ⟨.ref a, ea, a, rfl, .inr ⟨_, m.rd⟩, ρ, S, ?_⟩
      cases e1 : f ρ with
      | no => rw [e1] at h; exact h.elim
      | exc c => rw [e1] at h; exact h
      | ok r =>
        rw [e1] at h
        intro v H' s va
        cases r with
        | dat d =>
          simp only at h
          refine ⟨ρ, S.mono s, ?_⟩
          cases e3 : g ρ with
          | no => rw [e3] at h; exact h.elim
          | exc c => rw [e3] at h; exact fun H2 s2 => h H2 (s.trans s2)
          | ok r2 =>
            rw [e3] at h
            intro v2 H2 s2 va2
            cases r2 with
            | dat d2 =>
              cases d2 with
              | int z =>
                simp only at h
                split at h
                · rename_i ns e4
                  cases (show Rep H2 v2 (.int z) from va2)
                  obtain ⟨b, rfl, hb⟩ := rowOf_key (Rep.mono s2.tp _ _ va) e4
                  refine ⟨valV (dkv kvs) (ns.map Sum.inl), .inr ⟨_, ns.map Sum.inl, b, (m.mono fun _ q => s2 _ _ (s _ _ q)).rd, rfl, hb, rfl⟩, ?_⟩
                  rw [valV_dkv]
                  have : ((gtK kvs ns).map V.int).getD (V.int z) = V.int ((gtK kvs ns).getD z) := by cases gtK kvs ns <;> rfl
                  rw [this]
                  exact h _ H2 (s.trans s2) (.int _)
                · exact h.elim
              | _ => exact h.elim
            | _ => exact h.elim
        | _ => exact h.elim
    · exact h.elim
theorem s_newD (i : Nat) {x : Str} {pos' p : Pos} (hN : X.N.Nodup) (hi : X.N[i]? = some x := by rfl) (hx : Loc X.env.scope x := by first | exact Or.inl rfl | exact Or.inr rfl) (hs : swapsWith (.Dict [] [] p) (some (.Name x pos')) pos.line X.env = pure false := by rfl)
    (hf : X.fn x = true ∨ X.env.scope.names.lookup x = some .local := by first | exact .inl rfl | exact .inr rfl | assumption) : PS X (.Assign [.Name x pos'] (.Dict [] [] p) pos) (tS X.K cl W (sNewD i)) := (ps_set hN hi hx pe_dnewT hs hf).imp fun D σ H ⟨fr, ρ, ⟨Ow, g⟩, h⟩ => by
  intro p hp
  have hF : fr.F0 p = none := by
    cases q : fr.F0 p with
    | none => rfl
    | some o => obtain ⟨o', z⟩ := g.dom q; rw [hp] at z; cases z
  have g1 := g.same (same_upd (o := .dT []) hp)
  exact h _ _ (g1.put (P := fun _ => False) (fun s' e => by cases e; exact ⟨.ref p, rfl, ⟨p, rfl, hF, upd_same⟩, fun _ h => h⟩) (fun e => by cases e) (fun _ _ h => h.elim) (fun _ h => h.elim) fun _ _ _ h => h)
theorem s_putD (i : Nat) {x : Str} {xp p : Pos} (hu : X.A.units + 200 < cLine) (hf : PE X e (tI X.K cl W f)) (hg : PE X e2 (tI X.K cl W g)) (hN : X.N[i]? = some x := by rfl) (hv : Vis X.env.scope x := by first | exact Or.inl rfl | exact Or.inr (Or.inl rfl) | exact Or.inr (Or.inr rfl)) (hd : (x == ("__debug__" : Str)) = false := by decide)
    (hcd : (x == ("__classdict__" : Str)) = false := by decide) (hs : swapsWith e2 (some (.Subscript (.Name x xp) e p)) pos.line X.env = pure false := by rfl) : PS X (.Assign [.Subscript (.Name x xp) e p] e2 pos) (tS X.K cl W (sPutD i f g)) :=
  (ps_dput (by omega) (pe_var hN hv hd hcd) hf hg hs).imp fun D σ H ⟨fr, ρ, gd, h⟩ => by
    unfold sPutD at h
    refine eP gd (fun z => by rw [z] at h; exact h) (fun r z v H1 s g1 va => ?_) (fun c z H' g' => by rw [z] at h; exact h σ H' g')
    rw [z] at h
    cases r with
    | dat d0 =>
      cases d0 with
      | int n =>
        simp only at h
        cases (show Rep H1 v (.int n) from va)
        split at h
        · rename_i kvs e0
          obtain ⟨Ow1, q1⟩ := id g1
          obtain ⟨v0, ea, ⟨a, rfl, hF, m⟩, _⟩ := q1.sl i _ e0
          refine ⟨.ref a, ea, ?_⟩
          refine eP g1 (fun z => by rw [z] at h; exact h) (fun r2 z2 y H2 s2 g2 va2 => ?_) (fun c z H' g' => by rw [z] at h; exact h σ H' g')
          rw [z2] at h
          cases r2 with
          | dat d =>
            simp only at h
            split at h
            · rename_i ns e4
              split at h
              · rename_i hc
                obtain ⟨b, rfl, hb⟩ := rowOf_key va2 e4
                have m2 := s2 _ _ m
                have lim : (dkv kvs).length < sizeLine := by rw [sizeLine_eq]; simp only [dkv, List.length_map]; exact hc.1
                refine ⟨a, _, rfl, DPut.t (k := (ns.map Sum.inl : List Key)) (v := V.int n) m2 hb lim, ?_⟩
                rw [putK_dkv]
                obtain ⟨Ow2, q2⟩ := g2
                exact h σ _ ⟨Ow2, q2.putD e0 ea hc.2⟩
              · exact h.elim
            · exact h.elim
          | _ => exact h.elim
        · exact h.elim
      | _ => exact h.elim
    | _ => exact h.elim
end
/-! ## for k in d -/
/-- the label at a is another one, in the frame and in the heap -/
theorem Good.relab {K : PySem.W.Frag} {fr : Fr} {ρ : Rho} {σ : L2.St} {H : Hp} {Ow : Nat → Addr → Prop} (g : Good K fr ρ σ H Ow) {a : Addr} {u u' : HO} {L : List (List Key × V)} (eF : fr.F0 a = some u) (eH : H a = some u) (hio : fr.ioA ≠ some a)
    (hu : u = .dT L ∨ ∃ o, u = .frz o (.dT L)) (hu' : u' = .dT L ∨ ∃ o, u' = .frz o (.dT L)) : Good K { fr with F0 := upd fr.F0 a u' } ρ σ (upd H a u') Ow := by
  have nl : ∀ xs, u ≠ .lst xs := fun xs z => by rcases hu with h | ⟨o, h⟩ <;> rw [h] at z <;> cases z
  have nt : ∀ xs, u ≠ .tup xs := fun xs z => by rcases hu with h | ⟨o, h⟩ <;> rw [h] at z <;> cases z
  have nf : ∀ o xs, u ≠ .frz o (.lst xs) := fun o xs z => by rcases hu with h | ⟨o, h⟩ <;> rw [h] at z <;> cases z
  have ni : ∀ C dx fs, u ≠ .ins C dx fs := fun C dx fs z => by rcases hu with h | ⟨o, h⟩ <;> rw [h] at z <;> cases z
  have tp : Tp H (upd H a u') := fun b zs eb => by rw [upd_ne (fun z => by rw [z, eH] at eb; exact nt zs (Option.some.inj eb))]; exact eb
  have lst : ∀ b xs, H b = some (.lst xs) → upd H a u' b = some (.lst xs) := fun b xs h => by rw [upd_ne (fun z => by rw [z, eH] at h; exact nl xs (Option.some.inj h))]; exact h
  have lstF : ∀ b xs, fr.F0 b = some (.lst xs) → upd fr.F0 a u' b = some (.lst xs) := fun b xs h => by rw [upd_ne (fun z => by rw [z, eF] at h; exact nl xs (Option.some.inj h))]; exact h
  have noF : ∀ b, fr.F0 b = none → upd fr.F0 a u' b = none := fun b h => by rw [upd_ne (fun z => by rw [z, eF] at h; cases h)]; exact h
  have noFa : ∀ b, fr.F0 b = none → b ≠ a := fun b h z => by rw [z, eF] at h; cases h
  have dat : ∀ b kvs, DAt fr.F0 b kvs → DAt (upd fr.F0 a u') b kvs := fun b kvs h => by
    by_cases z : b = a
    · subst z
      have eL : L = dkv kvs := by
        rcases h with h | ⟨o, h⟩ <;> rw [eF] at h <;> injection h with h <;> rcases hu with q | ⟨o', q⟩ <;> rw [q] at h
        · injection h
        · cases h
        · cases h
        · injection h with _ h; injection h
      unfold DAt
      rw [upd_same, ← eL]
      rcases hu' with q | ⟨o, q⟩
      · exact .inl (by rw [q])
      · exact .inr ⟨o, by rw [q]⟩
    · exact h.mono fun o ho => by rw [upd_ne z]; exact ho
  refine ⟨g.len, fun i s e => ?_, g.off, g.one, fun i b o => ?_, fun b o eb n => ?_, fun b eb => ?_, fun b zs eb => ?_, g.wf, g.tp.trans tp⟩
  · obtain ⟨v, e1, q⟩ := g.sl i s e
    refine ⟨v, e1, ?_⟩
    cases s with
    | dat d => exact ⟨Rep.mono tp _ _ q.1, q.2⟩
    | own ds => obtain ⟨b, xs, ev, q1, r, z, ho⟩ := q; exact ⟨b, xs, ev, lst _ _ q1, Reps.mono tp _ _ r, noF b z, ho⟩
    | io ds => obtain ⟨b, xs, ev, q1, r, z, ho⟩ := q; exact ⟨b, xs, ev, lst _ _ q1, Reps.mono tp _ _ r, z, ho⟩
    | bor ds => obtain ⟨⟨b, xs, ev, q1, n, r⟩, z⟩ := q; exact ⟨⟨b, xs, ev, lstF _ _ q1, n, Reps.mono tp _ _ r⟩, z⟩
    | lent ds => obtain ⟨⟨b, xs, ev, l, q1, r⟩, z⟩ := q; exact ⟨⟨b, xs, ev, l, q1, Reps.mono tp _ _ r⟩, z⟩
    | scr ds =>
      obtain ⟨⟨b, xs, ev, q1, r⟩, z⟩ := q
      exact ⟨⟨b, xs, ev, q1.mono fun o ho => by rw [show ({ fr with F0 := upd fr.F0 a u' } : Fr).F0 b = fr.F0 b from upd_ne (fun w => by rw [w, eF] at ho; exact nf o xs (Option.some.inj ho))]; exact ho, Reps.mono tp _ _ r⟩, z⟩
    | exc c => exact q
    | obj ds =>
      obtain ⟨p, b, dx, xs, ev, f, q1, r, z, ho⟩ := q
      exact ⟨p, b, dx, xs, ev, by rw [show ({ fr with F0 := upd fr.F0 a u' } : Fr).F0 p = fr.F0 p from upd_ne (fun w => by rw [w, eF] at f; exact ni _ _ _ (Option.some.inj f))]; exact f, lst _ _ q1, Reps.mono tp _ _ r, z, ho⟩
    | dict kvs => obtain ⟨⟨b, ev, z, m⟩, no⟩ := q; exact ⟨⟨b, ev, noF b z, by rw [upd_ne (noFa b z)]; exact m⟩, no⟩
    | bd kvs => obtain ⟨⟨b, ev, n, m⟩, no⟩ := q; exact ⟨⟨b, ev, n, dat b kvs m⟩, no⟩
    | two _ _ _ =>
      obtain ⟨b, c, h, fb, fc, ho⟩ := q
      exact ⟨b, c, h.mono tp (fun _ q => lst _ _ q) (fun _ q => lst _ _ q), noF b fb, noF c fc, ho⟩
    | btwo _ _ _ =>
      obtain ⟨⟨b, c, h, nb, nc⟩, no⟩ := q
      exact ⟨⟨b, c, h.mono (fun d zs ed => by rw [show ({ fr with F0 := upd fr.F0 a u' } : Fr).F0 d = fr.F0 d from upd_ne (fun w => by rw [w, eF] at ed; exact nt zs (Option.some.inj ed))]; exact ed) (fun _ q => lstF _ _ q) (fun _ q => lstF _ _ q), nb, nc⟩, no⟩
    | bdict w ks =>
      obtain ⟨⟨b, ev, z, m⟩, no⟩ := q
      refine ⟨⟨b, ev, noF b z, ?_⟩, no⟩
      rcases m with ⟨ns, h1, h2⟩ | ⟨h0, es, xs, h1, h2, h3, h4⟩
      · exact .inl ⟨ns, h1, by rw [upd_ne (noFa b z)]; exact h2⟩
      · exact .inr ⟨h0, es, xs, by rw [upd_ne (noFa b z)]; exact h1, h2, h3.mono tp, h4⟩
  · rcases g.mine i b o with h | h
    · exact .inl (noF b h)
    · exact .inr h
  · by_cases z : b = a
    · subst z
      have eb : upd fr.F0 b u' b = some o := eb
      rw [upd_same] at eb ⊢; exact eb
    · have eb : upd fr.F0 a u' b = some o := eb
      rw [upd_ne z] at eb ⊢; exact g.keep b o eb n
  · obtain ⟨⟨xs, h1⟩, ys, h2⟩ := g.iow b eb
    exact ⟨⟨xs, lstF b xs h1⟩, ys, lst b ys h2⟩
  · obtain ⟨h1, h2⟩ := g.prot b zs eb
    exact ⟨lst b zs h1, h2⟩
def noX : SO → SO
  | .exc _ _ => .no
  | o => o
def sForD (i : Nat) (b : BF) (F : SF) : SF := fun ρ => match ρ[i]? with
  | some (some (.bd kvs)) => noX (loop b F (kvs.map fun kv => rowD kv.1) ρ)
  | _ => .no
theorem reps_keys {H : Hp} : ∀ ns : List Int, Reps H ((ns.map Sum.inl : List Key).map kV) (ns.map D.int)
  | [] => .nil
  | n :: ns => .cons (.int n) (reps_keys ns)
theorem y_keysT {a : Addr} {o : Obj} {kvs : KVs} : Yields (Itkt a o (dkv kvs)) (kvs.map fun kv => rowD kv.1) (fun H => H a = some (.frz o (.dT (dkv kvs)))) where
  go := fun i H h hi => ⟨h, by simpa [dkv] using hi⟩
  yl := fun i H x H' h hi y => by
    obtain ⟨rfl, k, v, q, e, rfl, hq⟩ := y
    refine ⟨Same.refl _, ?_⟩
    have hi : i < kvs.length := by simpa using hi
    unfold dkv at e
    rw [List.getElem?_map, List.getElem?_eq_getElem hi] at e
    simp only [Option.map_some, Option.some.injEq, Prod.mk.injEq] at e
    refine ⟨rowD kvs[i].1, by rw [List.getElem?_map, List.getElem?_eq_getElem hi]; rfl, ?_⟩
    rw [← e.1] at hq
    exact .tup hq (reps_keys _)
  stop := fun i H h hi => ⟨h, by simpa [dkv] using hi⟩
theorem PS.or' {X : Cx} {st : Stmt} {t1 t2 : TS} (h1 : PS X st t1) (h2 : PS X st t2) : PS X st (fun D σ H => t1 D σ H ∨ t2 D σ H) := ⟨fun pins s σ H D I h => h.elim (h1.run pins s σ H D I) (h2.run pins s σ H D I)⟩
section
variable {cl : String → Addr} {W : WX} {X : Cx} {pos p : Pos} {F : SF} {tg : Expr} {g : TG} {b : BF} {body : List Stmt} {x : Str}
theorem s_forD (i : Nat) (hp : PassesOwn (model X.prog X.w) X.A X.env X.xe) (hc : X.calm = true) (hg : PG X tg g) (T : TgOk X.K g b) (hb : PSs X body (tS X.K cl W F)) (hN : X.N[i]? = some x := by rfl) (hv : Vis X.env.scope x := by first | exact Or.inl rfl | exact Or.inr (Or.inl rfl) | exact Or.inr (Or.inr rfl))
    (hd : (x == ("__debug__" : Str)) = false := by decide) (hcd : (x == ("__classdict__" : Str)) = false := by decide) (hs : ∀ y, foldedSetIterable (.Name x p) X.env y = pure y := by intro _; rfl) : PS X (.For tg (.Name x p) body [] pos) (tS X.K cl W (sForD i b F)) := by
  have p0 := ps_for (pos := pos) hp hc (pi_keys (tg := tg) (pe_var (pos := p) hN hv hd hcd)) hg hb hs
  refine (PS.or' (ps_lock p0) p0).imp fun D σ H ⟨fr, ρ, ⟨Ow, gd⟩, h⟩ => ?_
  unfold sForD at h
  split at h
  · rename_i kvs e0
    obtain ⟨v, e1, ⟨a, rfl, hio, m⟩, no⟩ := gd.sl i _ e0
    rcases m with m | ⟨o, m⟩
    · refine .inl ?_
      have hH := gd.keep a _ m hio
      refine ⟨a, _, hH, trivial, fun od => ?_⟩
      refine ⟨.ref a, e1, a, od, rfl, .inr ⟨dkv kvs, upd_same, ?_⟩⟩
      have rl := gd.relab (u' := .frz od (.dT (dkv kvs))) m hH hio (.inl rfl) (.inr ⟨od, rfl⟩)
      generalize hfr : ({ fr with F0 := upd fr.F0 a (.frz od (.dT (dkv kvs))) } : Fr) = fr1 at rl
      have f1 : fr1.F0 a = some (.frz od (.dT (dkv kvs))) := by rw [← hfr]; exact upd_same
      have f2 : fr1.ioA ≠ some a := by rw [← hfr]; exact hio
      have back : ({ fr1 with F0 := upd fr1.F0 a (.dT (dkv kvs)) } : Fr) = fr := by
        rw [← hfr]
        have : upd (upd fr.F0 a (.frz od (.dT (dkv kvs)))) a (.dT (dkv kvs)) = fr.F0 := by
          funext c
          by_cases z : c = a
          · rw [z, upd_same, m]
          · rw [upd_ne z, upd_ne z]
        show ({ fr with F0 := upd (upd fr.F0 a (.frz od (.dT (dkv kvs)))) a (.dT (dkv kvs)) } : Fr) = fr
        rw [this]
      have un : ∀ {ρ' : Rho} {σ' : L2.St} {H' : Hp}, Gd X.K fr1 ρ' σ' H' → H' a = some (.frz od (.dT (dkv kvs))) ∧ Gd X.K fr ρ' σ' (upd H' a (.dT (dkv kvs))) := fun {ρ' σ' H'} ⟨Ow', g'⟩ => by
        have k := g'.keep a _ f1 f2
        have r := g'.relab (u' := .dT (dkv kvs)) f1 k f2 (.inr ⟨od, rfl⟩) (.inl rfl)
        rw [back] at r
        exact ⟨k, Ow', r⟩
      refine loop_ok (fr := fr1) y_keysT (fun ρ' σ' H' ⟨Ow', g'⟩ => g'.keep a _ f1 f2) T ⟨Ow, rl⟩ ?_
      cases e2 : loop b F (kvs.map fun kv => rowD kv.1) ρ with
      | no => rw [e2] at h; exact h
      | exc c ρ' => rw [e2] at h; exact h.elim
      | nx ρ' =>
        rw [e2] at h
        exact fun σ' H' g' => ⟨(un g').1, h σ' _ (un g').2⟩
      | ret r ρ' =>
        rw [e2] at h
        refine fun v' σ' H' g' q => ⟨(un g').1, h v' σ' _ (un g').2 ?_⟩
        have k := (un g').1
        have nF : ∀ c, fr1.F0 c = none → fr.F0 c = none := fun c hc => by
          have ne : c ≠ a := fun z => by rw [z, f1] at hc; cases hc
          rw [← hfr] at hc
          have hc : upd fr.F0 a (.frz od (.dT (dkv kvs))) c = none := hc
          rw [upd_ne ne] at hc; exact hc
        cases r with
        | dat d => exact Rep.mono (fun c zs ec => by rw [upd_ne (fun z => by rw [z, k] at ec; cases ec)]; exact ec) _ _ q
        | own ds =>
          obtain ⟨⟨c, ec, hc⟩, c2, xs, ec2, hx, r⟩ := q
          exact ⟨⟨c, ec, nF c hc⟩, c2, xs, ec2, by rw [upd_ne (fun z => by rw [z, k] at hx; cases hx)]; exact hx, Reps.mono (fun c zs ec => by rw [upd_ne (fun z => by rw [z, k] at ec; cases ec)]; exact ec) _ _ r⟩
        | two _ _ _ =>
          obtain ⟨c, c2, hh, hc, hc2⟩ := q
          exact ⟨c, c2, hh.mono (fun c zs ec => by rw [upd_ne (fun z => by rw [z, k] at ec; cases ec)]; exact ec) (fun _ ec => by rw [upd_ne (fun z => by rw [z, k] at ec; cases ec)]; exact ec) (fun _ ec => by rw [upd_ne (fun z => by rw [z, k] at ec; cases ec)]; exact ec), nF c hc, nF c2 hc2⟩
        | dict kv =>
          obtain ⟨⟨c, ec, hc⟩, c2, ec2, hx⟩ := q
          exact ⟨⟨c, ec, nF c hc⟩, c2, ec2, by rw [upd_ne (fun z => by rw [z, k] at hx; cases hx)]; exact hx⟩
        | _ => exact q.elim
    · refine .inr ?_
      have hH := gd.keep a _ m hio
      refine ⟨.ref a, e1, a, o, rfl, .inr ⟨dkv kvs, hH, ?_⟩⟩
      refine loop_ok (fr := fr) y_keysT (fun ρ' σ' H' ⟨Ow', g'⟩ => g'.keep a _ m hio) T ⟨Ow, gd⟩ ?_
      cases e2 : loop b F (kvs.map fun kv => rowD kv.1) ρ with
      | no => rw [e2] at h; exact h
      | exc c ρ' => rw [e2] at h; exact h.elim
      | nx ρ' => rw [e2] at h; exact h
      | ret r ρ' => rw [e2] at h; exact h
  · exact h.elim
end
end KT

set_option Elab.async false
set_option linter.all false
set_option maxRecDepth 100000
set_option maxHeartbeats 4000000
namespace KT
open PySem PySem.Spec PyProof.Rows L2

/-! ## (text, list, list) -/
def eMkTwo (s : String) (f g : EF) : EF := fun ρ => match f ρ with
  | .ok (.own r1) => (match g ρ with
    | .ok (.own r2) => .ok (.two s r1 r2)
    | .exc c => .exc c
    | _ => .no)
  | .exc c => .exc c
  | _ => .no
def pick3 (s : String) (r1 r2 : List D) (i : Int) : EO := if i = 0 then .ok (.dat (.str s)) else if i = 1 then .ok (.bor r1) else if i = 2 then .ok (.bor r2) else .no
def kIxT (a b : DV) : EO := match a, b with
  | .two s r1 r2, .dat (.int i) => pick3 s r1 r2 i
  | .btwo s r1 r2, .dat (.int i) => pick3 s r1 r2 i
  | .dat (.tup ds), .dat (.int i) => (match ixD ds i with
    | some d => .ok (.dat d)
    | none => .no)
  | _, _ => .no
theorem pick3_ok {K : PySem.W.Frag} {s : String} {r1 r2 : List D} {i : Int} {v : V} {H : Hp} {Q : VK} (h : ∃ a b, TwoAt H v s r1 r2 a b) : KPost K H Q (rIx K v (.int i) H Q) (pick3 s r1 r2 i) := by
  obtain ⟨x, y, p, xs, ys, rfl, h1, h2, h3, h4, h5, h6⟩ := h
  unfold pick3
  by_cases e0 : i = 0
  · subst e0
    rw [if_pos rfl]
    exact fun q => .inr (.inl ⟨p, _, _, .str (Str.ofString s), rfl, rfl, SqT.of h1, rfl, q _ H (Same.refl H) (.str s)⟩)
  · rw [if_neg e0]
    by_cases e1 : i = 1
    · subst e1
      rw [if_pos rfl]
      exact fun q => .inr (.inl ⟨p, _, _, .ref x, rfl, rfl, SqT.of h1, rfl, q _ H (Same.refl H) ⟨x, xs, rfl, h2, h3⟩⟩)
    · rw [if_neg e1]
      by_cases e2 : i = 2
      · subst e2
        rw [if_pos rfl]
        exact fun q => .inr (.inl ⟨p, _, _, .ref y, rfl, rfl, SqT.of h1, rfl, q _ H (Same.refl H) ⟨y, ys, rfl, h4, h5⟩⟩)
      · rw [if_neg e2]; trivial
theorem snd_ixT {K : PySem.W.Frag} : KSnd K (rIx K) kIxT := by
  intro a b v w H Q ra rb
  unfold kIxT
  split
  · cases rd_int rb; exact pick3_ok ra
  · cases rd_int rb; exact pick3_ok ra
  · rename_i ds i
    split
    · rename_i d e
      intro q
      cases rd_int rb
      obtain ⟨p, xs, rfl, e2, r2⟩ := rd_tup ra
      obtain ⟨y, h1, h2⟩ := atI_ix r2 e
      exact .inr (.inl ⟨p, xs, _, y, rfl, rfl, SqT.of e2, h1, q _ H (Same.refl H) h2⟩)
    · trivial
  · trivial
section
variable {cl : String → Addr} {W : WX} {X : Cx} {pos p : Pos} {f g : EF} {a b e e2 : Expr} {j : Nat} {kk : Nat}
theorem i_ixT (ha : PE X a (tI X.K cl W f)) (hb : PE X b (tI X.K cl W g)) (hs : PlainIx b := by intro _ _; rfl) : PE X (.Subscript a b pos) (tI X.K cl W (eTwo kIxT f g)) := i_ixR ix_seq snd_ixT hs ha hb
theorem i_mkTwo {s : String} (hf : PE X e (tI X.K cl W f)) (hg : PE X e2 (tI X.K cl W g)) (h1 : starEach [.Constant (.str (Str.ofString s)) j p, e, e2] X.env = (false, eval (.Constant (.str (Str.ofString s)) j p) X.env) :: starEach [e, e2] X.env := by rfl)
    (h2 : starEach [e, e2] X.env = (false, eval e X.env) :: starEach [e2] X.env := by rfl) (h3 : starEach [e2] X.env = (false, eval e2 X.env) :: starEach [] X.env := by rfl) :
    PE X (.Tuple [.Constant (.str (Str.ofString s)) j p, e, e2] kk pos) (tI X.K cl W (eMkTwo s f g)) :=
  (pe_tup (pa_cons pe_str (pa_cons hf (pa_cons hg pa_nil h3) h2) h1)).imp fun σ H Q ⟨ρ, S, h⟩ => by
    refine ⟨ρ, S, ?_⟩
    unfold eMkTwo at h
    cases e1 : f ρ with
    | no => rw [e1] at h; exact h.elim
    | exc c => rw [e1] at h; exact h
    | ok r =>
      rw [e1] at h
      intro v1 H1 s1 va1
      cases r with
      | own r1 =>
        simp only at h
        refine ⟨ρ, S.mono s1, ?_⟩
        cases e3 : g ρ with
        | no => rw [e3] at h; exact h.elim
        | exc c => rw [e3] at h; exact fun H2 s2 => h H2 (s1.trans s2)
        | ok r' =>
          rw [e3] at h
          intro v2 H2 s2 va2
          cases r' with
          | own r2 =>
            simp only at h
            obtain ⟨⟨x, ex, fx⟩, x', xs, ex', hx, rx⟩ := va1
            obtain ⟨⟨y, ey, fy⟩, y', ys, ey', hy, ry⟩ := va2
            subst ex
            subst ey
            cases ex'
            cases ey'
            refine ⟨by rw [sizeLine_eq]; simp, fun q hq => ?_⟩
            have s3 : Same H2 (upd H2 q (.tup [.str (Str.ofString s), .ref x, .ref y])) := same_upd hq
            exact h (.ref q) _ ((s1.trans s2).trans s3) ⟨x, y, ⟨q, xs, ys, rfl, upd_same, s3 _ _ (s2 _ _ hx), Reps.mono (s2.trans s3).tp _ _ rx, s3 _ _ hy, Reps.mono s3.tp _ _ ry, fun z => by rw [z, fy] at hx; cases hx⟩, fx, fresh_of s1 fy⟩
          | _ => exact h.elim
      | _ => exact h.elim
end
end KT


set_option Elab.async false
set_option linter.all false
set_option maxRecDepth 100000
set_option maxHeartbeats 4000000
namespace KT
open PySem PySem.Spec PyProof.Rows L2

/-! ## evaluation -/
def fin : SO → FO
  | .nx _ => .ret (.dat .non)
  | .ret r _ => .ret r
  | .exc c _ => .exc c
  | .no => .no
section
variable (F G : SF) (f g h : EF) (c d : TF) (ag : AF) (ρ : Rho) (i j : Nat)
@[simp] theorem fin_nx (ρ : Rho) : fin (.nx ρ) = .ret (.dat .non) := rfl
@[simp] theorem fin_ret (r : DV) (ρ : Rho) : fin (.ret r ρ) = .ret r := rfl
@[simp] theorem fin_exc (c : String) (ρ : Rho) : fin (.exc c ρ) = .exc c := rfl
@[simp] theorem z_seq : sSeq F G ρ = match F ρ with | .nx ρ' => G ρ' | o => o := rfl
@[simp] theorem z_if : sIf c F G ρ = match c ρ with | .ok true => F ρ | .ok false => G ρ | .exc c => .exc c ρ | .no => .no := rfl
@[simp] theorem z_next : sNext ρ = .nx ρ := rfl
@[simp] theorem z_asg : sAsg i f ρ = match f ρ with | .ok r => (match keepable r with | some s => .nx (ρ.set i (some s)) | none => .no) | .exc c => .exc c ρ | .no => .no := rfl
@[simp] theorem z_ret : sRet f ρ = match f ρ with | .ok r => (match keepable r with | some s => .ret s ρ | none => .no) | .exc c => .exc c ρ | .no => .no := rfl
@[simp] theorem z_retV : sRetV i ρ = match ρ[i]? with | some (some (.dat d)) => .ret (.dat d) ρ | some (some (.own ds)) => .ret (.own ds) ρ | some (some (.dict kvs)) => .ret (.dict kvs) ρ | _ => .no := rfl
@[simp] theorem z_drop : sDrop f ρ = match f ρ with | .ok _ => .nx ρ | .exc c => .exc c ρ | .no => .no := rfl
@[simp] theorem z_raise (c : String) : sRaise c ρ = .exc c ρ := rfl
@[simp] theorem keep_dat (x : D) : keepable (.dat x) = some (.dat x) := rfl
@[simp] theorem keep_dict (x : KVs) : keepable (.dict x) = some (.dict x) := rfl
@[simp] theorem arg_dict (x : KVs) : toArg (.dict x) = .bd x := rfl
@[simp] theorem arg_bd (x : KVs) : toArg (.bd x) = .bd x := rfl
@[simp] theorem keep_own (x : List D) : keepable (.own x) = some (.own x) := rfl
@[simp] theorem z_var : eVar i ρ = match ρ[i]? with | some (some (.dat d)) => .ok (.dat d) | some (some (.own ds)) => .ok (.bor ds) | some (some (.bor ds)) => .ok (.bor ds) | some (some (.io ds)) => .ok (.bor ds) | some (some (.lent ds)) => .ok (.bor ds) | some (some (.scr ds)) => .ok (.scr ds) | some (some (.dict kvs)) => .ok (.bd kvs) | some (some (.bd kvs)) => .ok (.bd kvs) | _ => .no := rfl
@[simp] theorem z_c (x : D) : eC x ρ = .ok (.dat x) := rfl
@[simp] theorem z_two (k : DV → DV → EO) : eTwo k f g ρ = (f ρ).bind fun a => (g ρ).bind fun b => k a b := rfl
@[simp] theorem z_one (k : DV → EO) : eOne k f ρ = (f ρ).bind k := rfl
@[simp] theorem z_cof : cOf f ρ = match f ρ with | .ok (.dat (.bl b)) => .ok b | .exc c => .exc c | _ => .no := rfl
@[simp] theorem z_cand : cAnd c d ρ = match c ρ with | .ok true => d ρ | r => r := rfl
@[simp] theorem z_cor : cOr c d ρ = match c ρ with | .ok false => d ρ | r => r := rfl
@[simp] theorem z_cnot : cNot c ρ = match c ρ with | .ok b => .ok (!b) | r => r := rfl
@[simp] theorem z_and : eAnd f g ρ = match f ρ with | .ok (.dat (.bl true)) => g ρ | .ok (.dat (.bl false)) => .ok (.dat (.bl false)) | .exc c => .exc c | _ => .no := rfl
@[simp] theorem z_or : eOr f g ρ = match f ρ with | .ok (.dat (.bl false)) => g ρ | .ok (.dat (.bl true)) => .ok (.dat (.bl true)) | .exc c => .exc c | _ => .no := rfl
@[simp] theorem z_not : eNot f ρ = match f ρ with | .ok (.dat (.bl b)) => .ok (.dat (.bl (!b))) | .exc c => .exc c | _ => .no := rfl
@[simp] theorem z_eif : eIf c f g ρ = match c ρ with | .ok true => f ρ | .ok false => g ρ | .exc c => .exc c | .no => .no := rfl
@[simp] theorem z_chain (k k' : DV → DV → EO) : eChain k k' f g h ρ = (f ρ).bind fun a => (g ρ).bind fun b => match k a b with | .ok (.dat (.bl true)) => (h ρ).bind fun c => k' b c | .ok (.dat (.bl false)) => .ok (.dat (.bl false)) | _ => .no := rfl
@[simp] theorem z_nil : aNil ρ = .ok [] := rfl
@[simp] theorem z_cons : aCons f ag ρ = match f ρ with | .ok a => (match ag ρ with | .ok rs => .ok (a :: rs) | .exc c => .exc c | .no => .no) | .exc c => .exc c | .no => .no := rfl
@[simp] theorem z_tup : eTup ag ρ = match ag ρ with | .ok rs => (match datsOf rs with | some ds => if ds.length ≤ 1000 then .ok (.dat (.tup ds)) else .no | none => .no) | .exc c => .exc c | .no => .no := rfl
@[simp] theorem z_lst : eLst ag ρ = match ag ρ with | .ok rs => (match datsOf rs with | some ds => if ds.length ≤ 1000 then .ok (.own ds) else .no | none => .no) | .exc c => .exc c | .no => .no := rfl
@[simp] theorem dats_nil : datsOf [] = some [] := rfl
@[simp] theorem dats_cons (x : D) (r : List DV) : datsOf (.dat x :: r) = (datsOf r).map (x :: ·) := rfl
@[simp] theorem z_call (M : FF) : eCall M ag ρ = match ag ρ with | .ok rs => (match M (rs.map toArg) with | .ret r => .ok r | .exc c => .exc c | .no => .no) | .exc c => .exc c | .no => .no := rfl
@[simp] theorem z_cb (k : List DV → EO) : eCB k ag ρ = match ag ρ with | .ok rs => k rs | .exc c => .exc c | .no => .no := rfl
@[simp] theorem arg_dat (x : D) : toArg (.dat x) = .dat x := rfl
@[simp] theorem arg_own (x : List D) : toArg (.own x) = .bor x := rfl
@[simp] theorem arg_bor (x : List D) : toArg (.bor x) = .bor x := rfl
@[simp] theorem arg_scr (x : List D) : toArg (.scr x) = .scr x := rfl
@[simp] theorem z_sl (l h : OF) : eSl f l h ρ = (f ρ).bind fun a => match l ρ with | .ok lo => (match h ρ with | .ok hi => (match vSl a lo hi with | some r => .ok r | none => .no) | .exc c => .exc c | .no => .no) | .exc c => .exc c | .no => .no := rfl
@[simp] theorem z_onone : oNone ρ = .ok none := rfl
@[simp] theorem z_app : sApp i f ρ = match ownOf ρ i with | some (ds, mk) => (match f ρ with | .ok (.dat d) => if ds.length < 16777216 then .nx (ρ.set i (some (mk (ds ++ [d])))) else .no | .exc c => .exc c ρ | _ => .no) | none => .no := rfl
@[simp] theorem z_ext : sExt i f ρ = match ownOf ρ i with | some (ds, mk) => (match f ρ with | .ok r => (match elems r with | some es => if ds.length + es.length ≤ 16777216 then .nx (ρ.set i (some (mk (ds ++ es)))) else .no | none => .no) | .exc c => .exc c ρ | .no => .no) | none => .no := rfl
@[simp] theorem z_pop : sPop i ρ = match ownOf ρ i with | some (ds, mk) => (match ds.getLast? with | some _ => .nx (ρ.set i (some (mk ds.dropLast))) | none => .no) | none => .no := rfl
@[simp] theorem z_popTo : sPopTo j i ρ = match ownOf ρ i with | some (ds, mk) => (match ds.getLast? with | some d => .nx ((ρ.set i (some (mk ds.dropLast))).set j (some (.dat d))) | none => .no) | none => .no := rfl
@[simp] theorem z_own : ownOf ρ i = match ρ[i]? with | some (some (.own ds)) => some (ds, .own) | some (some (.io ds)) => some (ds, .io) | _ => none := rfl
@[simp] theorem elems_tup (x : List D) : elems (.dat (.tup x)) = some x := rfl
@[simp] theorem elems_own (x : List D) : elems (.own x) = some x := rfl
@[simp] theorem elems_bor (x : List D) : elems (.bor x) = some x := rfl
@[simp] theorem z_forV (b : BF) : sForV i b F ρ = match ρ[i]? with | some (some (.own ds)) => unO i .own (loop b F ds (ρ.set i (some (.lent ds)))) | some (some (.io ds)) => unO i .io (loop b F ds (ρ.set i (some (.lent ds)))) | some (some (.bor ds)) => loop b F ds ρ | some (some (.lent ds)) => loop b F ds ρ | some (some (.dat (.tup ds))) => loop b F ds ρ | _ => .no := rfl
@[simp] theorem z_forE (b : BF) : sForE f b F ρ = match f ρ with | .ok (.own ds) => loop b F ds ρ | .ok (.dat (.tup ds)) => loop b F ds ρ | .exc c => .exc c ρ | _ => .no := rfl
@[simp] theorem z_forR1 (b : BF) : sForR1 f b F ρ = match f ρ with | .ok (.dat (.int j)) => if -(2 ^ 62) ≤ j ∧ j < 2 ^ 62 then loop b F (rangeD 0 j.toNat) ρ else .no | .exc c => .exc c ρ | _ => .no := rfl
@[simp] theorem loop_nil (b : BF) : loop b F [] ρ = .nx ρ := rfl
theorem loop_cons (b : BF) (x : D) (xs : List D) : loop b F (x :: xs) ρ = match b x ρ with | some ρ1 => (match F ρ1 with | .nx ρ2 => loop b F xs ρ2 | o => o) | none => .no := rfl
@[simp] theorem bName_e (x : D) : bName i x ρ = some (ρ.set i (some (.dat x))) := rfl
@[simp] theorem bPair_e (x y : D) : bPair i j (.tup [x, y]) ρ = some ((ρ.set i (some (.dat x))).set j (some (.dat y))) := rfl
theorem while_s (n : Nat) : whileF c F (n + 1) ρ = match c ρ with | .ok true => (match F ρ with | .nx ρ' => whileF c F n ρ' | o => o) | .ok false => .nx ρ | .exc c => .exc c ρ | .no => .no := rfl
@[simp] theorem z_comp (s : LF) : eComp s j c f ρ = match s ρ with | .ok ds => if ds.length ≤ 16777216 then (match compF (bName j) c f ρ ds with | some rs => .ok (.own rs) | none => .no) else .no | .exc c => .exc c | .no => .no := rfl
@[simp] theorem z_srcR1 : srcR1 f ρ = match f ρ with | .ok (.dat (.int j)) => if -(2 ^ 62) ≤ j ∧ j < 2 ^ 62 then .ok (rangeD 0 j.toNat) else .no | .exc c => .exc c | _ => .no := rfl
@[simp] theorem z_srcE : srcE f ρ = match f ρ with | .ok (.own ds) => .ok ds | .ok (.bor ds) => .ok ds | .ok (.dat (.tup ds)) => .ok ds | .ok _ => .no | .exc c => .exc c | .no => .no := rfl
@[simp] theorem comp_nil (b : BF) : compF b c f ρ [] = some [] := rfl
theorem comp_cons (b : BF) (x : D) (xs : List D) : compF b c f ρ (x :: xs) = match b x ρ with | some ρ1 => (match c ρ1 with | .ok true => (match f ρ1 with | .ok (.dat r) => (compF b c f ρ xs).map (r :: ·) | _ => none) | .ok false => compF b c f ρ xs | _ => none) | none => none := rfl
@[simp] theorem z_try (cs : List String) (O : String → TO2) : sTry i cs O F ρ = match F ρ with | .exc c ρ' => if c ∈ cs ∧ i < ρ'.length then (match O c with | .ret r => .ret r (ρ'.set i none) | .asg j r => if i = j then .no else .nx ((ρ'.set j (some r)).set i none)) else .no | o => o := rfl
@[simp] theorem z_enV (b : BF) : sForEnV i b F ρ = match ρ[i]? with | some (some (.own ds)) => unO i .own (loop b F (enumD ds) (ρ.set i (some (.lent ds)))) | some (some (.io ds)) => unO i .io (loop b F (enumD ds) (ρ.set i (some (.lent ds)))) | some (some (.bor ds)) => loop b F (enumD ds) ρ | some (some (.lent ds)) => loop b F (enumD ds) ρ | _ => .no := rfl
@[simp] theorem z_enE (b : BF) : sForEnE f b F ρ = match f ρ with | .ok (.own ds) => loop b F (enumD ds) ρ | .exc c => .exc c ρ | _ => .no := rfl
@[simp] theorem z_zip (b : BF) : sForZip f i b F ρ = match f ρ with | .ok (.own ds) => (match ρ[i]? with | some (some (.own es)) => unO i .own (loop b F (zipD ds es) (ρ.set i (some (.lent es)))) | some (some (.io es)) => unO i .io (loop b F (zipD ds es) (ρ.set i (some (.lent es)))) | some (some (.bor es)) => loop b F (zipD ds es) ρ | some (some (.lent es)) => loop b F (zipD ds es) ρ | _ => .no) | .exc c => .exc c ρ | _ => .no := rfl
@[simp] theorem z_down (f2 f3 : EF) (b : BF) : sForDown f f2 f3 b F ρ = match f ρ with | .ok (.dat (.int i)) => (match f2 ρ with | .ok (.dat (.int j)) => (match f3 ρ with | .ok (.dat (.int c)) => if c = -1 ∧ -(2 ^ 62) ≤ i ∧ i < 2 ^ 62 ∧ -(2 ^ 62) ≤ j ∧ j < 2 ^ 62 then loop b F (downD i (i - j).toNat) ρ else .no | .exc c => .exc c ρ | _ => .no) | .exc c => .exc c ρ | _ => .no) | .exc c => .exc c ρ | _ => .no := rfl
@[simp] theorem z_asgT (b : BF) : sAsgT b f ρ = match f ρ with | .ok (.dat d) => (match b d ρ with | some ρ' => .nx ρ' | none => .no) | .exc c => .exc c ρ | _ => .no := rfl
@[simp] theorem z_lstRg : eLstRg f ρ = match f ρ with | .ok (.dat (.int j)) => if 0 ≤ j ∧ j ≤ 16777216 then .ok (.own (rangeD 0 j.toNat)) else .no | .exc c => .exc c | _ => .no := rfl
@[simp] theorem z_dix (k1 : String) (d1 : D) (k2 : String) (d2 : D) : eDix k1 d1 k2 d2 f ρ = match f ρ with | .ok (.dat d) => (match kv2 k1 d1 k2 d2 d with | some (some x) => .ok (.dat x) | _ => .no) | .exc c => .exc c | _ => .no := rfl
@[simp] theorem z_dget (k1 : String) (d1 : D) (k2 : String) (d2 : D) : eDget k1 d1 k2 d2 f g ρ = match f ρ with | .ok (.dat d) => (match g ρ with | .ok (.dat z) => (match kv2 k1 d1 k2 d2 d with | some (some x) => .ok (.dat x) | some none => .ok (.dat z) | none => .no) | .exc c => .exc c | _ => .no) | .exc c => .exc c | _ => .no := rfl
@[simp] theorem kv2_s (k1 : String) (d1 : D) (k2 : String) (d2 : D) (s : String) : kv2 k1 d1 k2 d2 (.str s) = some (if s = k1 then some d1 else if s = k2 then some d2 else none) := rfl
@[simp] theorem kv2_i (k1 : String) (d1 : D) (k2 : String) (d2 : D) (n : Int) : kv2 k1 d1 k2 d2 (.int n) = some none := rfl
@[simp] theorem unO_nx (mk : List D → DV) (h : ∃ ds, ρ[i]? = some (some (.lent ds))) : unO i mk (.nx ρ) = match ρ[i]? with | some (some (.lent ds)) => .nx (ρ.set i (some (mk ds))) | _ => .no := by
  obtain ⟨ds, h⟩ := h
  simp [unO, unlend, h]
@[simp] theorem yes_e : cYes ρ = .ok true := rfl
end
@[simp] theorem z_osome (f : EF) (ρ : Rho) : oSome f ρ = match f ρ with | .ok (.dat (.int i)) => .ok (some i) | .exc c => .exc c | _ => .no := rfl
section
variable (x y : Int) (s t : String) (ds es : List D) (a b : D) (p q : Bool)
@[simp] theorem kAdd_i : kAdd (.dat (.int x)) (.dat (.int y)) = .ok (.dat (.int (x + y))) := rfl
@[simp] theorem kAdd_t : kAdd (.dat (.tup ds)) (.dat (.tup es)) = if ds.length + es.length ≤ 16777216 then .ok (.dat (.tup (ds ++ es))) else .no := rfl
@[simp] theorem kAdd_s : kAdd (.dat (.str s)) (.dat (.str t)) = if s.length + t.length ≤ 16777216 then .ok (.dat (.str (s ++ t))) else .no := rfl
@[simp] theorem kAdd_l1 : kAdd (.own ds) (.own es) = if ds.length + es.length ≤ 16777216 then .ok (.own (ds ++ es)) else .no := rfl
@[simp] theorem kAdd_l2 : kAdd (.bor ds) (.bor es) = if ds.length + es.length ≤ 16777216 then .ok (.own (ds ++ es)) else .no := rfl
@[simp] theorem kAdd_l3 : kAdd (.own ds) (.bor es) = if ds.length + es.length ≤ 16777216 then .ok (.own (ds ++ es)) else .no := rfl
@[simp] theorem kAdd_l4 : kAdd (.bor ds) (.own es) = if ds.length + es.length ≤ 16777216 then .ok (.own (ds ++ es)) else .no := rfl
@[simp] theorem kSub_i : kSub (.dat (.int x)) (.dat (.int y)) = .ok (.dat (.int (x - y))) := rfl
theorem kMul_i (h : mulOk x y = true) : kMul (.dat (.int x)) (.dat (.int y)) = .ok (.dat (.int (x * y))) := by
  show (if mulOk x y = true then _ else _) = _
  rw [if_pos h]
theorem kFdiv_i (h : 0 < y) (h2 : y < 2 ^ 4000) : kFdiv (.dat (.int x)) (.dat (.int y)) = .ok (.dat (.int (x / y))) := by
  show (if 0 < y ∧ y < 2 ^ 4000 then _ else _) = _
  rw [if_pos ⟨h, h2⟩]
theorem kFdiv_l (h : 0 < y) (h2 : y < 1000000000000000000) : kFdiv (.dat (.int x)) (.dat (.int y)) = .ok (.dat (.int (x / y))) := kFdiv_i x y h (Int.lt_of_lt_of_le h2 (by decide +kernel))
theorem kMod_i (h : 0 < y) : kMod (.dat (.int x)) (.dat (.int y)) = .ok (.dat (.int (x % y))) := by
  show (if 0 < y then _ else _) = _
  rw [if_pos h]
@[simp] theorem kPow_109 : kPow (.dat (.int 10)) (.dat (.int 9)) = .ok (.dat (.int 1000000000)) := by simp [kPow]
@[simp] theorem kPow_106 : kPow (.dat (.int 10)) (.dat (.int 6)) = .ok (.dat (.int 1000000)) := by simp [kPow]
@[simp] theorem kPow_1012 : kPow (.dat (.int 10)) (.dat (.int 12)) = .ok (.dat (.int 1000000000000)) := by simp [kPow]
@[simp] theorem kNeg_i : kNeg (.dat (.int x)) = .ok (.dat (.int (-x))) := rfl
@[simp] theorem kLt_i : kLt (.dat (.int x)) (.dat (.int y)) = .ok (.dat (.bl (decide (x < y)))) := rfl
@[simp] theorem kLe_i : kLe (.dat (.int x)) (.dat (.int y)) = .ok (.dat (.bl (decide (x ≤ y)))) := rfl
@[simp] theorem kGt_i : kGt (.dat (.int x)) (.dat (.int y)) = .ok (.dat (.bl (decide (y < x)))) := rfl
@[simp] theorem kGe_i : kGe (.dat (.int x)) (.dat (.int y)) = .ok (.dat (.bl (decide (y ≤ x)))) := rfl
@[simp] theorem kLen_t : kLen [.dat (.tup ds)] = .ok (.dat (.int ds.length)) := rfl
@[simp] theorem kLen_o : kLen [.own ds] = .ok (.dat (.int ds.length)) := rfl
@[simp] theorem kLen_b : kLen [.bor ds] = .ok (.dat (.int ds.length)) := rfl
@[simp] theorem kLen_r : kLen [.scr ds] = .ok (.dat (.int ds.length)) := rfl
@[simp] theorem kLen_s : kLen [.dat (.str s)] = if s.length ≤ 16777216 then .ok (.dat (.int s.length)) else .no := rfl
@[simp] theorem kInt_i : kInt [.dat (.int x)] = .ok (.dat (.int x)) := rfl
@[simp] theorem kInt_b : kInt [.dat (.bl p)] = .ok (.dat (.int (if p then 1 else 0))) := rfl
@[simp] theorem kTup_t : kTupOf [.dat (.tup ds)] = .ok (.dat (.tup ds)) := rfl
@[simp] theorem kTup_o : kTupOf [.own ds] = .ok (.dat (.tup ds)) := rfl
@[simp] theorem kTup_b : kTupOf [.bor ds] = .ok (.dat (.tup ds)) := rfl
@[simp] theorem kLst_t : kLstOf [.dat (.tup ds)] = .ok (.own ds) := rfl
@[simp] theorem kLst_o : kLstOf [.own ds] = .ok (.own ds) := rfl
@[simp] theorem kLst_b : kLstOf [.bor ds] = .ok (.own ds) := rfl
@[simp] theorem kIs_n : kIs (.dat .non) (.dat .non) = .ok (.dat (.bl true)) := rfl
@[simp] theorem kIs_t : kIs (.dat (.tup ds)) (.dat .non) = .ok (.dat (.bl false)) := rfl
@[simp] theorem kIs_i : kIs (.dat (.int x)) (.dat .non) = .ok (.dat (.bl false)) := rfl
@[simp] theorem kIs_s : kIs (.dat (.str s)) (.dat .non) = .ok (.dat (.bl false)) := rfl
@[simp] theorem kIs_b : kIs (.dat (.bl p)) (.dat (.bl q)) = .ok (.dat (.bl (p == q))) := rfl
@[simp] theorem kIsN_n : kIsNot (.dat .non) (.dat .non) = .ok (.dat (.bl false)) := rfl
@[simp] theorem kIsN_t : kIsNot (.dat (.tup ds)) (.dat .non) = .ok (.dat (.bl true)) := rfl
@[simp] theorem kIsN_b : kIsNot (.dat (.bl p)) (.dat (.bl q)) = .ok (.dat (.bl (!(p == q)))) := rfl
@[simp] theorem kIsi_e (n : String) (v : DV) : kIsi n v = match tyOf v with | some t => .ok (.dat (.bl (isiT t n))) | none => .no := rfl
@[simp] theorem ty1 : tyOf (.dat .non) = some "NoneType" := rfl
@[simp] theorem ty2 : tyOf (.dat (.bl p)) = some "bool" := rfl
@[simp] theorem ty3 : tyOf (.dat (.int x)) = some "int" := rfl
@[simp] theorem ty4 : tyOf (.dat (.str s)) = some "str" := rfl
@[simp] theorem ty5 : tyOf (.dat (.tup ds)) = some "tuple" := rfl
@[simp] theorem ty6 : tyOf (.own ds) = some "list" := rfl
@[simp] theorem ty7 : tyOf (.bor ds) = some "list" := rfl
@[simp] theorem kIx_t : kIx (.dat (.tup ds)) (.dat (.int x)) = match ixD ds x with | some d => .ok (.dat d) | none => .no := rfl
@[simp] theorem kIx_o : kIx (.own ds) (.dat (.int x)) = match ixD ds x with | some d => .ok (.dat d) | none => .no := rfl
@[simp] theorem kIx_b : kIx (.bor ds) (.dat (.int x)) = match ixD ds x with | some d => .ok (.dat d) | none => .no := rfl
@[simp] theorem kIx_r : kIx (.scr ds) (.dat (.int x)) = match ixD ds x with | some d => .ok (.dat d) | none => .no := rfl
end
section
variable (ds : List D) (lo hi : Option Int)
@[simp] theorem vSl_t : vSl (.dat (.tup ds)) lo hi = some (.dat (.tup (cutA ds lo hi))) := rfl
@[simp] theorem vSl_o : vSl (.own ds) lo hi = some (.own (cutA ds lo hi)) := rfl
@[simp] theorem vSl_b : vSl (.bor ds) lo hi = some (.own (cutA ds lo hi)) := rfl
@[simp] theorem vSl_s (s : String) : vSl (.dat (.str s)) lo hi = if s.length ≤ 16777216 then some (.dat (.str (String.ofList (cutA s.toList lo hi)))) else none := rfl
end
@[simp] theorem ix0 (a : D) (ds : List D) : ixD (a :: ds) 0 = some a := by simp [ixD]
@[simp] theorem ix1 (a b : D) (ds : List D) : ixD (a :: b :: ds) 1 = some b := by simp [ixD]
@[simp] theorem ix2 (a b c : D) (ds : List D) : ixD (a :: b :: c :: ds) 2 = some c := by simp [ixD]
section
variable (x y : Int) (s t : String) (ds es : List D) (a b : D) (p q : Bool)
@[simp] theorem kEq_ii : kEq (.dat (.int x)) (.dat (.int y)) = .ok (.dat (.bl (decide (x = y)))) := by simp [kEq, vEq, dpOf, D.deq, D.dep, Bool.beq_eq_decide_eq]
@[simp] theorem kNe_ii : kNe (.dat (.int x)) (.dat (.int y)) = .ok (.dat (.bl (!decide (x = y)))) := by simp [kNe, vEq, dpOf, D.deq, D.dep, Bool.beq_eq_decide_eq]
@[simp] theorem kEq_ss : kEq (.dat (.str s)) (.dat (.str t)) = .ok (.dat (.bl (decide (s = t)))) := by simp [kEq, vEq, dpOf, D.deq, D.dep, Bool.beq_eq_decide_eq]
@[simp] theorem kNe_ss : kNe (.dat (.str s)) (.dat (.str t)) = .ok (.dat (.bl (!decide (s = t)))) := by simp [kNe, vEq, dpOf, D.deq, D.dep, Bool.beq_eq_decide_eq]
theorem kEq_dd (h : min a.dep b.dep ≤ 190) : kEq (.dat a) (.dat b) = .ok (.dat (.bl (D.deq a b))) := by simp [kEq, vEq, dpOf, h]
theorem kNe_dd (h : min a.dep b.dep ≤ 190) : kNe (.dat a) (.dat b) = .ok (.dat (.bl (!D.deq a b))) := by simp [kNe, vEq, dpOf, h]
end
theorem ix_nat (ds : List D) (n : Nat) : ixD ds (n : Int) = ds[n]? := by simp [ixD]
theorem ix_get {ds : List D} {i : Int} {d : D} (h0 : 0 ≤ i) (h : ds[i.toNat]? = some d) : ixD ds i = some d := by simp [ixD, h0, h]
section
variable (F : SF) (f g : EF) (ρ : Rho) (i : Nat)
@[simp] theorem z_sidx : eSIdx f g ρ = match f ρ with | .ok (.dat (.str s)) => (match g ρ with | .ok (.dat (.str t)) => (match Builtin.Str.occurrences (Str.ofString s) (Str.ofString t) 0 (Str.ofString s).length 1 with | i :: _ => .ok (.dat (.int (i : Nat))) | [] => .no) | .exc c => .exc c | _ => .no) | .exc c => .exc c | _ => .no := rfl
@[simp] theorem z_forT (b : BF) : sForT f b F ρ = match f ρ with | .ok (.dat (.str s)) => loop b F (strD s) ρ | .exc c => .exc c ρ | _ => .no := rfl
@[simp] theorem z_callX (M : FX) : sCallX i M ρ = match ownOf ρ i with | some (ds, mk) => (match M ds [] with | .ret _ es => .nx (ρ.set i (some (mk es))) | .exc c es => .exc c (ρ.set i (some (mk es))) | .no => .no) | none => .no := rfl
@[simp] theorem finX_nx : finX (.nx ρ) = match rowAt ρ with | some r => .ret .non r | none => .no := rfl
@[simp] theorem finX_ret (x : D) : finX (.ret (.dat x) ρ) = match rowAt ρ with | some r => .ret x r | none => .no := rfl
@[simp] theorem finX_exc (c : String) : finX (.exc c ρ) = match rowAt ρ with | some r => .exc c r | none => .no := rfl
@[simp] theorem rowAt_io (r : List D) (l : List (Option DV)) : rowAt (some (.io r) :: l) = some r := rfl
@[simp] theorem rowAt_obj (r : List D) (l : List (Option DV)) : rowAt (some (.obj r) :: l) = some r := rfl
end
section
variable (f : EF) (ρ : Rho) (ds es : List D)
@[simp] theorem z_lstRev : eLstRev f ρ = match f ρ with | .ok r => revOf r | .exc c => .exc c | .no => .no := rfl
@[simp] theorem rev_o : revOf (.own ds) = if ds.length ≤ 16777216 then .ok (.own ds.reverse) else .no := rfl
@[simp] theorem rev_b : revOf (.bor ds) = if ds.length ≤ 16777216 then .ok (.own ds.reverse) else .no := rfl
@[simp] theorem rev_t : revOf (.dat (.tup ds)) = if ds.length ≤ 16777216 then .ok (.own ds.reverse) else .no := rfl
@[simp] theorem kSorted_o : kSorted [.own ds] = sortL ds := rfl
@[simp] theorem kSorted_b : kSorted [.bor ds] = sortL ds := rfl
theorem kSorted_t (ns : List Int) (h : ns.length ≤ 16777216) : kSorted [.dat (.tup (ns.map D.int))] = .ok (.own ((isort ile ns).map D.int)) := by
  simp [kSorted, intsOf_map, h]
theorem sortL_ints (ns : List Int) : sortL (ns.map D.int) = .ok (.own ((isort ile ns).map D.int)) := by simp [sortL, intsOf_map]
theorem sortL_rows (rs : List (List Int)) : sortL (rs.map rowD) = .ok (.own ((isort lexLe rs).map rowD)) := by
  cases rs with
  | nil => rfl
  | cons r rs =>
    have e : intsOf ((r :: rs).map rowD) = none := rfl
    simp only [sortL, e, rowsOf_map]
@[simp] theorem kAll_o : kAll [.own ds] = match boolsOf ds with | some bs => .ok (.dat (.bl (bs.all id))) | none => .no := rfl
end
section
variable (f : EF) (xf : XF) (g : XAF) (ρ : Rho) (i : Nat) (F : FX)
@[simp] theorem z_xP : xP f ρ = match f ρ with | .ok (.dat d) => .ok d ρ | .exc c => .exc c ρ | _ => .no := rfl
@[simp] theorem z_xNil : xNil ρ = .ok [] ρ := rfl
@[simp] theorem z_xCons : xCons xf g ρ = match xf ρ with | .ok d ρ1 => (match g ρ1 with | .ok ds ρ2 => .ok (d :: ds) ρ2 | .exc c ρ2 => .exc c ρ2 | .no => .no) | .exc c ρ1 => .exc c ρ1 | .no => .no := rfl
@[simp] theorem z_xTup : xTup g ρ = match g ρ with | .ok ds ρ1 => if ds.length ≤ 1000 then .ok (.tup ds) ρ1 else .no | .exc c ρ1 => .exc c ρ1 | .no => .no := rfl
@[simp] theorem objAt_o (r : List D) (l : List (Option DV)) : objAt (some (.obj r) :: l) = some r := rfl
@[simp] theorem z_xMeth : xMeth F g ρ = match objAt ρ with | some _ => (match g ρ with | .ok ds ρ1 => (match objAt ρ1 with | some row => (match F row ds with | .ret r row' => .ok r (ρ1.set 0 (some (.obj row'))) | _ => .no) | none => .no) | .exc c ρ1 => .exc c ρ1 | .no => .no) | none => .no := rfl
@[simp] theorem z_xRet : xRet xf ρ = match xf ρ with | .ok d ρ1 => .ret (.dat d) ρ1 | .exc c ρ1 => .exc c ρ1 | .no => .no := rfl
@[simp] theorem z_xAsg : xAsg i xf ρ = match xf ρ with | .ok d ρ1 => .nx (ρ1.set i (some (.dat d))) | .exc c ρ1 => .exc c ρ1 | .no => .no := rfl
@[simp] theorem z_appRow : sAppRow f ρ = match objAt ρ with | some row => (match f ρ with | .ok (.dat d) => if row.length < 16777216 then .nx (ρ.set 0 (some (.obj (row ++ [d])))) else .no | .exc c => .exc c ρ | _ => .no) | none => .no := rfl
@[simp] theorem z_rtp (d : D) : sRtp F [some (.dat d), none] = match F [] [d, .tup []] with | .ret _ row => .ret (.own row) [some (.dat d), none] | _ => .no := rfl
end
section
variable (w : World) (i j : Nat) (f : EF) (ρ : Rho) (ks : List D) (d : D) (neg : Bool)
@[simp] theorem z_newM : sNewM w i ρ = .nx (ρ.set i (some (.bdict w []))) := rfl
theorem cInM_ev (hf : f ρ = .ok (.dat d)) (hi : ρ[i]? = some (some (.bdict w ks))) (ok : okM ks d = true) : cInM w neg i f ρ = .ok (if neg then !(decide (nk d ∈ ks.map nk)) else decide (nk d ∈ ks.map nk)) := by
  unfold cInM
  rw [hf]
  simp only [hi]
  rw [if_pos ⟨trivial, ok⟩]
theorem sPutM_ev (hi : ρ[i]? = some (some (.bdict w ks))) (hj : ρ[j]? = some (some (.dat d))) (ok : okM ks d = true) (hn : nk d ∉ ks.map nk) (hl : ks.length < 16777216) (oM : onlyM ρ i = true) : sPutM w i j ρ = .nx (ρ.set i (some (.bdict w (ks ++ [d])))) := by
  unfold sPutM
  simp only [hi, hj]
  rw [if_pos ⟨trivial, ok, hn, hl, oM⟩]
theorem eLenM_ev (hi : ρ[i]? = some (some (.bdict w ks))) (hl : ks.length ≤ 16777216) : eLenM w i ρ = .ok (.dat (.int (ks.length : Int))) := by
  unfold eLenM
  simp only [hi]
  rw [if_pos ⟨trivial, hl⟩]
end
section
variable (i : Nat) (f g : EF) (F : SF) (ρ : Rho) (kvs : KVs)
@[simp] theorem z_newD : sNewD i ρ = .nx (ρ.set i (some (.dict []))) := rfl
@[simp] theorem z_dicAt : dicAt ρ i = match ρ[i]? with | some (some (.dict kvs)) => some kvs | some (some (.bd kvs)) => some kvs | _ => none := rfl
@[simp] theorem z_dicG : eDGet i f ρ = match dicAt ρ i with | some kvs => (match f ρ with | .ok (.dat d) => (match rowOf d with | some ns => (match gtK kvs ns with | some v => .ok (.dat (.int v)) | none => .no) | none => .no) | .exc c => .exc c | _ => .no) | none => .no := rfl
@[simp] theorem z_dicG2 : eDGet2 i f g ρ = match dicAt ρ i with | some kvs => (match f ρ with | .ok (.dat d) => (match g ρ with | .ok (.dat (.int x)) => (match rowOf d with | some ns => .ok (.dat (.int ((gtK kvs ns).getD x))) | none => .no) | .exc c => .exc c | _ => .no) | .exc c => .exc c | _ => .no) | none => .no := rfl
@[simp] theorem z_putD : sPutD i f g ρ = match g ρ with | .ok (.dat (.int v)) => (match ρ[i]? with | some (some (.dict kvs)) => (match f ρ with | .ok (.dat d) => (match rowOf d with | some ns => if kvs.length < 16777216 ∧ onlyM ρ i = true then .nx (ρ.set i (some (.dict (puK kvs ns v)))) else .no | none => .no) | .exc c => .exc c ρ | _ => .no) | _ => .no) | .exc c => .exc c ρ | _ => .no := rfl
@[simp] theorem z_forD (b : BF) : sForD i b F ρ = match ρ[i]? with | some (some (.bd kvs)) => noX (loop b F (kvs.map fun kv => rowD kv.1) ρ) | _ => .no := rfl
@[simp] theorem noX_nx (ρ : Rho) : noX (.nx ρ) = .nx ρ := rfl
@[simp] theorem noX_ret (r : DV) (ρ : Rho) : noX (.ret r ρ) = .ret r ρ := rfl
@[simp] theorem rowOf_row (ns : List Int) : rowOf (rowD ns) = some ns := intsOf_map ns
end
section
variable (f g : EF) (ρ : Rho) (s : String) (r1 r2 ds : List D) (x : Int)
@[simp] theorem keep_two : keepable (.two s r1 r2) = some (.two s r1 r2) := rfl
@[simp] theorem arg_two : toArg (.two s r1 r2) = .btwo s r1 r2 := rfl
@[simp] theorem z_mkTwo : eMkTwo s f g ρ = match f ρ with | .ok (.own r1) => (match g ρ with | .ok (.own r2) => .ok (.two s r1 r2) | .exc c => .exc c | _ => .no) | .exc c => .exc c | _ => .no := rfl
@[simp] theorem kIxT_0 : kIxT (.two s r1 r2) (.dat (.int 0)) = .ok (.dat (.str s)) := rfl
@[simp] theorem kIxT_t : kIxT (.dat (.tup ds)) (.dat (.int x)) = match ixD ds x with | some d => .ok (.dat d) | none => .no := rfl
end
end KT

set_option linter.all false
set_option maxRecDepth 100000
set_option maxHeartbeats 4000000
noncomputable section
namespace KT
open PySem PySem.Spec PyProof.Rows L2
def b_law_draw : SF := sSeq (sAsg 3 (eTwo kMod (eTwo kAdd (eTwo kAdd (eTwo kMod (eVar 0) (eC (.int 2147483629))) (eC (.int 1))) (eTwo kMul (eVar 1) (eC (.int 1000003)))) (eC (.int 2147483647)))) (sSeq (sAsg 3 (eTwo kMod (eTwo kMul (eTwo kMod (eTwo kMul (eVar 3) (eVar 3)) (eC (.int 2147483647))) (eC (.int 48271))) (eC (.int 2147483629)))) (sSeq (sAsg 3 (eTwo kMod (eTwo kMul (eTwo kMod (eTwo kMul (eVar 3) (eVar 3)) (eC (.int 2147483629))) (eC (.int 40692))) (eC (.int 2147483399)))) (sRet (eTwo kMod (eTwo kFdiv (eVar 3) (eC (.int 97))) (eVar 2)))))
def b_law_kind (g_law_draw : FF) (g_law_kind : FF) : SF := sSeq (sIf (cOf (eTwo kLt (eVar 1) (eC (.int 2)))) (sSeq (sAsg 5 (eCall g_law_draw (aCons (eVar 0) (aCons (eTwo kMul (eC (.int 5)) (eVar 2)) (aCons (eC (.int 12)) aNil))))) (sSeq (sIf (cOf (eTwo kEq (eVar 5) (eC (.int 0)))) (sRet (eTup (aCons (eC (.str "none")) aNil))) sNext) (sSeq (sIf (cOf (eTwo kLt (eVar 5) (eC (.int 3)))) (sRet (eTup (aCons (eC (.str "one")) aNil))) sNext) (sRet (eTup (aCons (eC (.str "name")) (aCons (eTwo kMod (eVar 5) (eC (.int 4))) aNil))))))) sNext) (sSeq (sAsg 3 (eTwo kAdd (eC (.int 1)) (eCall g_law_draw (aCons (eVar 0) (aCons (eTwo kAdd (eTwo kMul (eC (.int 5)) (eVar 2)) (eC (.int 1))) (aCons (eTwo kSub (eVar 1) (eC (.int 1))) aNil)))))) (sSeq (sAsg 4 (eTwo kIx (eLst (aCons (eC (.str "either")) (aCons (eC (.str "both")) aNil))) (eCall g_law_draw (aCons (eVar 0) (aCons (eTwo kAdd (eTwo kMul (eC (.int 5)) (eVar 2)) (eC (.int 2))) (aCons (eC (.int 2)) aNil)))))) (sRet (eTup (aCons (eVar 4) (aCons (eCall g_law_kind (aCons (eVar 0) (aCons (eVar 3) (aCons (eTwo kMul (eC (.int 2)) (eVar 2)) aNil)))) (aCons (eCall g_law_kind (aCons (eVar 0) (aCons (eTwo kSub (eVar 1) (eVar 3)) (aCons (eTwo kAdd (eTwo kMul (eC (.int 2)) (eVar 2)) (eC (.int 1))) aNil)))) aNil)))))))
def b_law_sizes (g_law_draw : FF) : SF := sRet (eCB kTupOf (aCons (eComp (srcR1 (eC (.int 4))) 2 cYes (eCall g_law_draw (aCons (eVar 0) (aCons (eTwo kAdd (eC (.int 900)) (eVar 2)) (aCons (eTwo kAdd (eVar 1) (eC (.int 1))) aNil))))) aNil))
def b_count (g_count : FF) : SF := sSeq (sIf (cOf (eTwo kEq (eTwo kIx (eVar 0) (eC (.int 0))) (eC (.str "none")))) (sRet (eC (.int 0))) sNext) (sSeq (sIf (cOf (eTwo kEq (eTwo kIx (eVar 0) (eC (.int 0))) (eC (.str "one")))) (sRet (eC (.int 1))) sNext) (sSeq (sIf (cOf (eTwo kEq (eTwo kIx (eVar 0) (eC (.int 0))) (eC (.str "name")))) (sRet (eTwo kIx (eVar 1) (eTwo kIx (eVar 0) (eC (.int 1))))) sNext) (sSeq (sAsg 2 (eCall g_count (aCons (eTwo kIx (eVar 0) (eC (.int 1))) (aCons (eVar 1) aNil)))) (sSeq (sIf (cOf (eTwo kEq (eTwo kIx (eVar 0) (eC (.int 0))) (eC (.str "either")))) (sRet (eTwo kAdd (eVar 2) (eCall g_count (aCons (eTwo kIx (eVar 0) (eC (.int 2))) (aCons (eVar 1) aNil))))) sNext) (sRet (eTwo kMul (eVar 2) (eCall g_count (aCons (eTwo kIx (eVar 0) (eC (.int 2))) (aCons (eVar 1) aNil)))))))))
def b_law_part : SF := sSeq (sForV 1 (bName 2) (sAsg 0 (eTwo kIx (eVar 0) (eTwo kAdd (eC (.int 1)) (eVar 2))))) (sRetV 0)
def b_law_paths (g_law_part : FF) : SF := sSeq (sAsg 1 (eLst aNil)) (sSeq (sAsg 2 (eLst (aCons (eTup aNil) aNil))) (sSeq (sWhile (cOf (eTwo kNe (eVar 2) (eLst aNil))) (sSeq (sPopTo 3 2) (sSeq (sApp 1 (eVar 3)) (sIf (cOf (eTwo kEq (eCB kLen (aCons (eCall g_law_part (aCons (eVar 0) (aCons (eVar 3) aNil))) aNil)) (eC (.int 3)))) (sExt 2 (eLst (aCons (eTwo kAdd (eVar 3) (eTup (aCons (eC (.int 1)) aNil))) (aCons (eTwo kAdd (eVar 3) (eTup (aCons (eC (.int 0)) aNil))) aNil)))) sNext)))) (sRetV 1)))
def b_is_pair : SF := sRet (eOr (eTwo kEq (eTwo kIx (eVar 0) (eC (.int 0))) (eC (.str "either"))) (eTwo kEq (eTwo kIx (eVar 0) (eC (.int 0))) (eC (.str "both"))))
def b_part (g_is_pair : FF) : SF := sSeq (sForV 1 (bName 2) (sSeq (sIf (cOr (cOf (eTwo kNotIn (eVar 2) (eTup (aCons (eC (.int 0)) (aCons (eC (.int 1)) aNil))))) (cNot (cOf (eCall g_is_pair (aCons (eVar 0) aNil))))) (sRaise "NoTurning") sNext) (sAsg 0 (eTwo kIx (eVar 0) (eTwo kAdd (eC (.int 1)) (eVar 2)))))) (sRetV 0)
def b_law_told_k01 (g_part : FF) : SF := sTry 2 ["NoTurning"] (fun _ => .ret (.own [.bl true, .bl true, .bl false])) (sRet (eCall g_part (aCons (eVar 0) (aCons (eVar 1) aNil))))
def b_law_stir : SF := sSeq (sAsg 1 (eC (.int 0))) (sSeq (sForE (eLst (aCons (eC (.int 48271)) (aCons (eC (.int 69621)) (aCons (eC (.int 39373)) (aCons (eC (.int 44488)) aNil))))) (bName 2) (sSeq (sAsg 3 (eTwo kMod (eTwo kAdd (eTwo kMul (eVar 0) (eVar 2)) (eC (.int 7919))) (eC (.int 2147483647)))) (sSeq (sAsg 3 (eTwo kMod (eTwo kMul (eTwo kMod (eTwo kMul (eVar 3) (eVar 3)) (eC (.int 2147483647))) (eC (.int 40692))) (eC (.int 2147483399)))) (sAsg 1 (eTwo kAdd (eTwo kMul (eVar 1) (eTwo kPow (eC (.int 10)) (eC (.int 9)))) (eTwo kFdiv (eVar 3) (eC (.int 7)))))))) (sRetV 1))
def b_law_cell (g_law_stir : FF) : SF := sSeq (sIf (cOf (eTwo kLt (eVar 1) (eCB kLen (aCons (eVar 0) aNil)))) (sRet (eCall g_law_stir (aCons (eTwo kIx (eVar 0) (eVar 1)) aNil))) sNext) (sRet (eCall g_law_stir (aCons (eC (.int 0)) aNil)))
def b_law_whole : SF := sRet (eAnd (eOne (kIsi "int") (eVar 0)) (eNot (eOne (kIsi "bool") (eVar 0))))
def b_law_whole_thing (g_law_whole : FF) : SF := sSeq (sAsg 1 (eLst (aCons (eVar 0) aNil))) (sSeq (sWhile (cOf (eTwo kNe (eVar 1) (eLst aNil))) (sSeq (sPopTo 2 1) (sIf (cOf (eOne (kIsi "tuple") (eVar 2))) (sExt 1 (eVar 2)) (sIf (cAnd (cNot (cOf (eCall g_law_whole (aCons (eVar 2) aNil)))) (cNot (cOf (eOne (kIsi "str") (eVar 2))))) (sRet (eC (.bl false))) sNext)))) (sRet (eC (.bl true))))
def b_law_same (g_law_whole_thing : FF) : SF := sRet (eAnd (eCall g_law_whole_thing (aCons (eVar 0) aNil)) (eTwo kEq (eVar 0) (eVar 1)))
def b_law_count (g_law_count : FF) : SF := sSeq (sIf (cOf (eTwo kEq (eCB kLen (aCons (eVar 0) aNil)) (eC (.int 1)))) (sRet (eCB kInt (aCons (eTwo kEq (eTwo kIx (eVar 0) (eC (.int 0))) (eC (.str "one"))) aNil))) sNext) (sSeq (sIf (cOf (eTwo kEq (eCB kLen (aCons (eVar 0) aNil)) (eC (.int 2)))) (sRet (eTwo kIx (eVar 1) (eTwo kIx (eVar 0) (eC (.int 1))))) sNext) (sSeq (sIf (cOf (eTwo kEq (eTwo kIx (eVar 0) (eC (.int 0))) (eC (.str "either")))) (sRet (eTwo kAdd (eCall g_law_count (aCons (eTwo kIx (eVar 0) (eC (.int 1))) (aCons (eVar 1) aNil))) (eCall g_law_count (aCons (eTwo kIx (eVar 0) (eC (.int 2))) (aCons (eVar 1) aNil))))) sNext) (sRet (eTwo kMul (eCall g_law_count (aCons (eTwo kIx (eVar 0) (eC (.int 1))) (aCons (eVar 1) aNil))) (eCall g_law_count (aCons (eTwo kIx (eVar 0) (eC (.int 2))) (aCons (eVar 1) aNil)))))))
def b_law_k01 (g_law_kind : FF) (g_law_cell : FF) (g_law_sizes : FF) (g_count : FF) (g_law_whole : FF) (g_law_count : FF) (g_law_paths : FF) (g_law_told : FF) (g_law_same : FF) (g_law_part : FF) : SF := sSeq (sAsg 1 (eCall g_law_kind (aCons (eCall g_law_cell (aCons (eVar 0) (aCons (eC (.int 0)) aNil))) (aCons (eTwo kAdd (eC (.int 1)) (eTwo kMod (eCall g_law_cell (aCons (eVar 0) (aCons (eC (.int 1)) aNil))) (eC (.int 8)))) (aCons (eC (.int 1)) aNil))))) (sSeq (sAsg 2 (eCall g_law_sizes (aCons (eCall g_law_cell (aCons (eVar 0) (aCons (eC (.int 2)) aNil))) (aCons (eTwo kIx (eLst (aCons (eC (.int 3)) (aCons (eTwo kPow (eC (.int 10)) (eC (.int 6))) aNil))) (eTwo kMod (eTwo kFdiv (eCall g_law_cell (aCons (eVar 0) (aCons (eC (.int 1)) aNil))) (eC (.int 8))) (eC (.int 2)))) aNil)))) (sSeq (sAsg 3 (eCall g_count (aCons (eVar 1) (aCons (eVar 2) aNil)))) (sSeq (sIf (cOr (cNot (cOf (eCall g_law_whole (aCons (eVar 3) aNil)))) (cOf (eTwo kNe (eVar 3) (eCall g_law_count (aCons (eVar 1) (aCons (eVar 2) aNil)))))) (sRet (eC (.bl false))) sNext) (sSeq (sAsg 4 (eCall g_law_paths (aCons (eVar 1) aNil))) (sSeq (sAsg 5 (eTwo kIx (eVar 4) (eTwo kMod (eCall g_law_cell (aCons (eVar 0) (aCons (eC (.int 3)) aNil))) (eCB kLen (aCons (eVar 4) aNil))))) (sSeq (sIf (cOf (eTwo kEq (eTwo kMod (eCall g_law_cell (aCons (eVar 0) (aCons (eC (.int 4)) aNil))) (eC (.int 3))) (eC (.int 1)))) (sAsg 5 (eTwo kAdd (eVar 5) (eTup (aCons (eTwo kIx (eLst (aCons (eC (.int 0)) (aCons (eC (.int 1)) (aCons (eC (.int 2)) (aCons (eOne kNeg (eC (.int 1))) aNil))))) (eTwo kMod (eTwo kFdiv (eCall g_law_cell (aCons (eVar 0) (aCons (eC (.int 4)) aNil))) (eC (.int 3))) (eC (.int 4)))) aNil)))) sNext) (sSeq (sAsg 6 (eCall g_law_told (aCons (eVar 1) (aCons (eVar 5) aNil)))) (sSeq (sIf (cOf (eTwo kNotIn (eVar 5) (eVar 4))) (sRet (eTwo kEq (eVar 6) (eLst (aCons (eC (.bl true)) (aCons (eC (.bl true)) (aCons (eC (.bl false)) aNil)))))) sNext) (sRet (eAnd (eOne (kIsi "tuple") (eVar 6)) (eCall g_law_same (aCons (eVar 6) (aCons (eCall g_law_part (aCons (eVar 1) (aCons (eVar 5) aNil))) aNil)))))))))))))
def m_law_draw : FF := run 4 3 b_law_draw
theorem m_law_draw_eq (a0 a1 a2 : DV) : m_law_draw [a0, a1, a2] = fin (b_law_draw [some a0, some a1, some a2, none]) := rfl
def m_law_kindN : Nat → FF
  | 0 => fun _ => .no
  | n + 1 => run 6 3 (b_law_kind m_law_draw (m_law_kindN n))
theorem m_law_kindN_eq (n : Nat) (a0 a1 a2 : DV) : m_law_kindN (n + 1) [a0, a1, a2] = fin (b_law_kind m_law_draw (m_law_kindN n) [some a0, some a1, some a2, none, none, none]) := rfl
def m_law_kind : FF := m_law_kindN 40
def m_law_sizes : FF := run 3 2 (b_law_sizes m_law_draw)
theorem m_law_sizes_eq (a0 a1 : DV) : m_law_sizes [a0, a1] = fin (b_law_sizes m_law_draw [some a0, some a1, none]) := rfl
def m_countN : Nat → FF
  | 0 => fun _ => .no
  | n + 1 => run 3 2 (b_count (m_countN n))
theorem m_countN_eq (n : Nat) (a0 a1 : DV) : m_countN (n + 1) [a0, a1] = fin (b_count (m_countN n) [some a0, some a1, none]) := rfl
def m_count : FF := m_countN 40
def m_law_part : FF := run 3 2 b_law_part
theorem m_law_part_eq (a0 a1 : DV) : m_law_part [a0, a1] = fin (b_law_part [some a0, some a1, none]) := rfl
def m_law_paths : FF := run 4 1 (b_law_paths m_law_part)
theorem m_law_paths_eq (a0 : DV) : m_law_paths [a0] = fin (b_law_paths m_law_part [some a0, none, none, none]) := rfl
def m_is_pair : FF := run 1 1 b_is_pair
theorem m_is_pair_eq (a0 : DV) : m_is_pair [a0] = fin (b_is_pair [some a0]) := rfl
def m_part : FF := run 3 2 (b_part m_is_pair)
theorem m_part_eq (a0 a1 : DV) : m_part [a0, a1] = fin (b_part m_is_pair [some a0, some a1, none]) := rfl
def m_law_told_k01 : FF := run 3 2 (b_law_told_k01 m_part)
theorem m_law_told_k01_eq (a0 a1 : DV) : m_law_told_k01 [a0, a1] = fin (b_law_told_k01 m_part [some a0, some a1, none]) := rfl
def m_law_stir : FF := run 4 1 b_law_stir
theorem m_law_stir_eq (a0 : DV) : m_law_stir [a0] = fin (b_law_stir [some a0, none, none, none]) := rfl
def m_law_cell : FF := run 2 2 (b_law_cell m_law_stir)
theorem m_law_cell_eq (a0 a1 : DV) : m_law_cell [a0, a1] = fin (b_law_cell m_law_stir [some a0, some a1]) := rfl
def m_law_whole : FF := run 1 1 b_law_whole
theorem m_law_whole_eq (a0 : DV) : m_law_whole [a0] = fin (b_law_whole [some a0]) := rfl
def m_law_whole_thing : FF := run 3 1 (b_law_whole_thing m_law_whole)
theorem m_law_whole_thing_eq (a0 : DV) : m_law_whole_thing [a0] = fin (b_law_whole_thing m_law_whole [some a0, none, none]) := rfl
def m_law_same : FF := run 2 2 (b_law_same m_law_whole_thing)
theorem m_law_same_eq (a0 a1 : DV) : m_law_same [a0, a1] = fin (b_law_same m_law_whole_thing [some a0, some a1]) := rfl
def m_law_countN : Nat → FF
  | 0 => fun _ => .no
  | n + 1 => run 2 2 (b_law_count (m_law_countN n))
theorem m_law_countN_eq (n : Nat) (a0 a1 : DV) : m_law_countN (n + 1) [a0, a1] = fin (b_law_count (m_law_countN n) [some a0, some a1]) := rfl
def m_law_count : FF := m_law_countN 40
def m_law_k01 : FF := run 7 1 (b_law_k01 m_law_kind m_law_cell m_law_sizes m_count m_law_whole m_law_count m_law_paths m_law_told_k01 m_law_same m_law_part)
theorem m_law_k01_eq (a0 : DV) : m_law_k01 [a0] = fin (b_law_k01 m_law_kind m_law_cell m_law_sizes m_count m_law_whole m_law_count m_law_paths m_law_told_k01 m_law_same m_law_part [some a0, none, none, none, none, none, none]) := rfl
def b_law_is (g_law_is : FF) : SF := sSeq (sIf (cOf (eTwo kEq (eCB kLen (aCons (eVar 0) aNil)) (eC (.int 1)))) (sRet (eAnd (eTwo kEq (eTwo kIx (eVar 0) (eC (.int 0))) (eC (.str "one"))) (eTwo kEq (eVar 2) (eTup aNil)))) sNext) (sSeq (sIf (cOf (eTwo kEq (eCB kLen (aCons (eVar 0) aNil)) (eC (.int 2)))) (sRet (eAnd (eOne (kIsi "int") (eVar 2)) (eChain kLe kLt (eC (.int 0)) (eVar 2) (eTwo kIx (eVar 1) (eTwo kIx (eVar 0) (eC (.int 1))))))) sNext) (sSeq (sIf (cOr (cNot (cOf (eOne (kIsi "tuple") (eVar 2)))) (cOf (eTwo kNe (eCB kLen (aCons (eVar 2) aNil)) (eC (.int 2))))) (sRet (eC (.bl false))) sNext) (sSeq (sIf (cOf (eTwo kEq (eTwo kIx (eVar 0) (eC (.int 0))) (eC (.str "both")))) (sRet (eAnd (eCall g_law_is (aCons (eTwo kIx (eVar 0) (eC (.int 1))) (aCons (eVar 1) (aCons (eTwo kIx (eVar 2) (eC (.int 0))) aNil)))) (eCall g_law_is (aCons (eTwo kIx (eVar 0) (eC (.int 2))) (aCons (eVar 1) (aCons (eTwo kIx (eVar 2) (eC (.int 1))) aNil)))))) sNext) (sSeq (sIf (cOf (eTwo kNotIn (eTwo kIx (eVar 2) (eC (.int 0))) (eTup (aCons (eC (.str "left")) (aCons (eC (.str "right")) aNil))))) (sRet (eC (.bl false))) sNext) (sRet (eCall g_law_is (aCons (eTwo kIx (eVar 0) (eTwo kAdd (eC (.int 1)) (eCB kInt (aCons (eTwo kEq (eTwo kIx (eVar 2) (eC (.int 0))) (eC (.str "right"))) aNil)))) (aCons (eVar 1) (aCons (eTwo kIx (eVar 2) (eC (.int 1))) aNil)))))))))
def b_is_thing (g_is_thing : FF) : SF := sSeq (sIf (cOf (eTwo kEq (eTwo kIx (eVar 0) (eC (.int 0))) (eC (.str "none")))) (sRet (eC (.bl false))) sNext) (sSeq (sIf (cOf (eTwo kEq (eTwo kIx (eVar 0) (eC (.int 0))) (eC (.str "name")))) (sRet (eAnd (eOne (kIsi "int") (eVar 2)) (eChain kLe kLt (eC (.int 0)) (eVar 2) (eTwo kIx (eVar 1) (eTwo kIx (eVar 0) (eC (.int 1))))))) sNext) (sSeq (sIf (cOf (eTwo kEq (eTwo kIx (eVar 0) (eC (.int 0))) (eC (.str "one")))) (sRet (eTwo kEq (eVar 2) (eTup aNil))) sNext) (sSeq (sIf (cOr (cNot (cOf (eOne (kIsi "tuple") (eVar 2)))) (cOf (eTwo kNe (eCB kLen (aCons (eVar 2) aNil)) (eC (.int 2))))) (sRet (eC (.bl false))) sNext) (sSeq (sIf (cOf (eTwo kEq (eTwo kIx (eVar 0) (eC (.int 0))) (eC (.str "both")))) (sRet (eAnd (eCall g_is_thing (aCons (eTwo kIx (eVar 0) (eC (.int 1))) (aCons (eVar 1) (aCons (eTwo kIx (eVar 2) (eC (.int 0))) aNil)))) (eCall g_is_thing (aCons (eTwo kIx (eVar 0) (eC (.int 2))) (aCons (eVar 1) (aCons (eTwo kIx (eVar 2) (eC (.int 1))) aNil)))))) sNext) (sSeq (sIf (cOf (eTwo kEq (eTwo kIx (eVar 2) (eC (.int 0))) (eC (.str "left")))) (sRet (eCall g_is_thing (aCons (eTwo kIx (eVar 0) (eC (.int 1))) (aCons (eVar 1) (aCons (eTwo kIx (eVar 2) (eC (.int 1))) aNil))))) sNext) (sRet (eAnd (eTwo kEq (eTwo kIx (eVar 2) (eC (.int 0))) (eC (.str "right"))) (eCall g_is_thing (aCons (eTwo kIx (eVar 0) (eC (.int 2))) (aCons (eVar 1) (aCons (eTwo kIx (eVar 2) (eC (.int 1))) aNil)))))))))))
def b_place_of (g_place_of : FF) (g_count : FF) : SF := sSeq (sIf (cOf (eTwo kEq (eTwo kIx (eVar 0) (eC (.int 0))) (eC (.str "one")))) (sRet (eC (.int 0))) sNext) (sSeq (sIf (cOf (eTwo kEq (eTwo kIx (eVar 0) (eC (.int 0))) (eC (.str "name")))) (sRetV 2) sNext) (sSeq (sIf (cOf (eTwo kEq (eTwo kIx (eVar 0) (eC (.int 0))) (eC (.str "both")))) (sSeq (sAsg 3 (eCall g_place_of (aCons (eTwo kIx (eVar 0) (eC (.int 1))) (aCons (eVar 1) (aCons (eTwo kIx (eVar 2) (eC (.int 0))) aNil))))) (sRet (eTwo kAdd (eTwo kMul (eVar 3) (eCall g_count (aCons (eTwo kIx (eVar 0) (eC (.int 2))) (aCons (eVar 1) aNil)))) (eCall g_place_of (aCons (eTwo kIx (eVar 0) (eC (.int 2))) (aCons (eVar 1) (aCons (eTwo kIx (eVar 2) (eC (.int 1))) aNil))))))) sNext) (sSeq (sIf (cOf (eTwo kEq (eTwo kIx (eVar 2) (eC (.int 0))) (eC (.str "left")))) (sRet (eCall g_place_of (aCons (eTwo kIx (eVar 0) (eC (.int 1))) (aCons (eVar 1) (aCons (eTwo kIx (eVar 2) (eC (.int 1))) aNil))))) sNext) (sRet (eTwo kAdd (eCall g_count (aCons (eTwo kIx (eVar 0) (eC (.int 1))) (aCons (eVar 1) aNil))) (eCall g_place_of (aCons (eTwo kIx (eVar 0) (eC (.int 2))) (aCons (eVar 1) (aCons (eTwo kIx (eVar 2) (eC (.int 1))) aNil)))))))))
def b_number_of (g_is_thing : FF) (g_place_of : FF) : SF := sSeq (sIf (cNot (cOf (eCall g_is_thing (aCons (eVar 0) (aCons (eVar 1) (aCons (eVar 2) aNil)))))) (sRaise "NoThing") sNext) (sRet (eCall g_place_of (aCons (eVar 0) (aCons (eVar 1) (aCons (eVar 2) aNil)))))
def b_law_told_k02 (g_number_of : FF) : SF := sTry 3 ["NoThing"] (fun _ => .ret (.own [.bl true, .bl true, .bl false])) (sRet (eCall g_number_of (aCons (eVar 0) (aCons (eVar 1) (aCons (eVar 2) aNil)))))
def b_law_at (g_law_count : FF) (g_law_at : FF) : SF := sSeq (sIf (cOf (eTwo kLt (eCB kLen (aCons (eVar 0) aNil)) (eC (.int 3)))) (sRet (eTwo kIx (eLst (aCons (eTup aNil) (aCons (eVar 2) aNil))) (eTwo kSub (eCB kLen (aCons (eVar 0) aNil)) (eC (.int 1))))) sNext) (sSeq (sAsg 3 (eCall g_law_count (aCons (eTwo kIx (eVar 0) (eC (.int 2))) (aCons (eVar 1) aNil)))) (sSeq (sIf (cOf (eTwo kEq (eTwo kIx (eVar 0) (eC (.int 0))) (eC (.str "both")))) (sRet (eTup (aCons (eCall g_law_at (aCons (eTwo kIx (eVar 0) (eC (.int 1))) (aCons (eVar 1) (aCons (eTwo kFdiv (eVar 2) (eVar 3)) aNil)))) (aCons (eCall g_law_at (aCons (eTwo kIx (eVar 0) (eC (.int 2))) (aCons (eVar 1) (aCons (eTwo kMod (eVar 2) (eVar 3)) aNil)))) aNil)))) sNext) (sSeq (sAsg 4 (eCall g_law_count (aCons (eTwo kIx (eVar 0) (eC (.int 1))) (aCons (eVar 1) aNil)))) (sSeq (sIf (cOf (eTwo kLt (eVar 2) (eVar 4))) (sRet (eTup (aCons (eC (.str "left")) (aCons (eCall g_law_at (aCons (eTwo kIx (eVar 0) (eC (.int 1))) (aCons (eVar 1) (aCons (eVar 2) aNil)))) aNil)))) sNext) (sRet (eTup (aCons (eC (.str "right")) (aCons (eCall g_law_at (aCons (eTwo kIx (eVar 0) (eC (.int 2))) (aCons (eVar 1) (aCons (eTwo kSub (eVar 2) (eVar 4)) aNil)))) aNil))))))))
def b_law_spots : SF := sSeq (sAsg 1 (eLst aNil)) (sSeq (sAsg 2 (eLst (aCons (eTup aNil) aNil))) (sSeq (sWhile (cOf (eTwo kNe (eVar 2) (eLst aNil))) (sSeq (sPopTo 3 2) (sSeq (sApp 1 (eVar 3)) (sSeq (sAsg 4 (eVar 0)) (sSeq (sForV 3 (bName 5) (sAsg 4 (eTwo kIx (eVar 4) (eVar 5)))) (sIf (cOf (eOne (kIsi "tuple") (eVar 4))) (sExt 2 (eComp (srcR1 (eCB kLen (aCons (eVar 4) aNil))) 5 cYes (eTwo kAdd (eVar 3) (eTup (aCons (eVar 5) aNil))))) sNext)))))) (sRetV 1)))
def b_law_changed_k02 (g_law_changed : FF) : SF := sSeq (sIf (cOf (eTwo kNe (eVar 1) (eTup aNil))) (sSeq (sAsg 3 (eCall g_law_changed (aCons (eTwo kIx (eVar 0) (eTwo kIx (eVar 1) (eC (.int 0)))) (aCons (eSl (eVar 1) (oSome (eC (.int 1))) oNone) (aCons (eVar 2) aNil))))) (sRet (eTwo kAdd (eTwo kAdd (eSl (eVar 0) oNone (oSome (eTwo kIx (eVar 1) (eC (.int 0))))) (eTup (aCons (eVar 3) aNil))) (eSl (eVar 0) (oSome (eTwo kAdd (eTwo kIx (eVar 1) (eC (.int 0))) (eC (.int 1)))) oNone)))) sNext) (sSeq (sIf (cOf (eOne (kIsi "tuple") (eVar 0))) (sRet (eTwo kIx (eLst (aCons (eTup aNil) (aCons (eC (.int 0)) (aCons (eTwo kAdd (eVar 0) (eTup (aCons (eC (.int 0)) aNil))) (aCons (eSl (eVar 0) oNone (oSome (eC (.int 1)))) (aCons (eC (.str "left")) (aCons (eTup (aCons (eVar 0) (aCons (eC (.int 0)) aNil))) (aCons (eTup (aCons (eC (.str "right")) (aCons (eVar 0) aNil))) aNil)))))))) (eTwo kMod (eVar 2) (eC (.int 7))))) sNext) (sSeq (sIf (cOf (eOne (kIsi "str") (eVar 0))) (sRet (eTwo kIx (eLst (aCons (eC (.str "left")) (aCons (eC (.str "right")) (aCons (eC (.int 0)) (aCons (eTup aNil) aNil))))) (eTwo kMod (eVar 2) (eC (.int 4))))) sNext) (sRet (eTwo kIx (eLst (aCons (eTwo kAdd (eVar 0) (eC (.int 1))) (aCons (eOne kNeg (eC (.int 1))) (aCons (eTwo kAdd (eVar 0) (eC (.int 4))) (aCons (eTup aNil) (aCons (eC (.str "right")) (aCons (eC (.int 0)) aNil))))))) (eTwo kMod (eVar 2) (eC (.int 6)))))))
def b_law_number (g_law_number : FF) (g_law_count : FF) : SF := sSeq (sIf (cOf (eTwo kLt (eCB kLen (aCons (eVar 0) aNil)) (eC (.int 3)))) (sRet (eTwo kIx (eLst (aCons (eC (.int 0)) (aCons (eVar 2) aNil))) (eTwo kSub (eCB kLen (aCons (eVar 0) aNil)) (eC (.int 1))))) sNext) (sSeq (sIf (cOf (eTwo kEq (eTwo kIx (eVar 0) (eC (.int 0))) (eC (.str "both")))) (sSeq (sAsg 3 (eCall g_law_number (aCons (eTwo kIx (eVar 0) (eC (.int 1))) (aCons (eVar 1) (aCons (eTwo kIx (eVar 2) (eC (.int 0))) aNil))))) (sRet (eTwo kAdd (eTwo kMul (eVar 3) (eCall g_law_count (aCons (eTwo kIx (eVar 0) (eC (.int 2))) (aCons (eVar 1) aNil)))) (eCall g_law_number (aCons (eTwo kIx (eVar 0) (eC (.int 2))) (aCons (eVar 1) (aCons (eTwo kIx (eVar 2) (eC (.int 1))) aNil))))))) sNext) (sSeq (sIf (cOf (eTwo kEq (eTwo kIx (eVar 2) (eC (.int 0))) (eC (.str "left")))) (sRet (eCall g_law_number (aCons (eTwo kIx (eVar 0) (eC (.int 1))) (aCons (eVar 1) (aCons (eTwo kIx (eVar 2) (eC (.int 1))) aNil))))) sNext) (sRet (eTwo kAdd (eCall g_law_count (aCons (eTwo kIx (eVar 0) (eC (.int 1))) (aCons (eVar 1) aNil))) (eCall g_law_number (aCons (eTwo kIx (eVar 0) (eC (.int 2))) (aCons (eVar 1) (aCons (eTwo kIx (eVar 2) (eC (.int 1))) aNil))))))))
def b_law_k02 (g_law_kind : FF) (g_law_cell : FF) (g_law_sizes : FF) (g_law_count : FF) (g_law_at : FF) (g_law_spots : FF) (g_law_changed : FF) (g_law_is : FF) (g_is_thing : FF) (g_law_told : FF) (g_law_whole : FF) (g_law_number : FF) : SF := sSeq (sAsg 1 (eCall g_law_kind (aCons (eCall g_law_cell (aCons (eVar 0) (aCons (eC (.int 0)) aNil))) (aCons (eTwo kAdd (eC (.int 1)) (eTwo kMod (eCall g_law_cell (aCons (eVar 0) (aCons (eC (.int 1)) aNil))) (eC (.int 6)))) (aCons (eC (.int 1)) aNil))))) (sSeq (sAsg 2 (eCall g_law_sizes (aCons (eCall g_law_cell (aCons (eVar 0) (aCons (eC (.int 2)) aNil))) (aCons (eC (.int 4)) aNil)))) (sSeq (sAsg 3 (eCall g_law_count (aCons (eVar 1) (aCons (eVar 2) aNil)))) (sSeq (sAsg 4 (eTwo kIx (eLst (aCons (eTup aNil) (aCons (eC (.int 0)) (aCons (eTup (aCons (eC (.str "left")) (aCons (eC (.int 0)) aNil))) (aCons (eTup (aCons (eC (.int 0)) (aCons (eC (.int 0)) aNil))) (aCons (eTup (aCons (eC (.str "right")) (aCons (eTup aNil) aNil))) aNil)))))) (eTwo kMod (eCall g_law_cell (aCons (eVar 0) (aCons (eC (.int 3)) aNil))) (eC (.int 5))))) (sSeq (sIf (cOf (eTwo kGt (eVar 3) (eC (.int 0)))) (sAsg 4 (eCall g_law_at (aCons (eVar 1) (aCons (eVar 2) (aCons (eTwo kMod (eCall g_law_cell (aCons (eVar 0) (aCons (eC (.int 3)) aNil))) (eVar 3)) aNil))))) sNext) (sSeq (sIf (cOf (eTwo kGt (eTwo kMod (eCall g_law_cell (aCons (eVar 0) (aCons (eC (.int 4)) aNil))) (eC (.int 4))) (eC (.int 0)))) (sSeq (sAsg 8 (eCall g_law_spots (aCons (eVar 4) aNil))) (sAsg 4 (eCall g_law_changed (aCons (eVar 4) (aCons (eTwo kIx (eVar 8) (eTwo kMod (eCall g_law_cell (aCons (eVar 0) (aCons (eC (.int 5)) aNil))) (eCB kLen (aCons (eVar 8) aNil)))) (aCons (eTwo kFdiv (eCall g_law_cell (aCons (eVar 0) (aCons (eC (.int 4)) aNil))) (eC (.int 4))) aNil)))))) sNext) (sSeq (sAsg 5 (eCall g_law_is (aCons (eVar 1) (aCons (eVar 2) (aCons (eVar 4) aNil))))) (sSeq (sAsg 6 (eCall g_is_thing (aCons (eVar 1) (aCons (eVar 2) (aCons (eVar 4) aNil))))) (sSeq (sIf (cOr (cNot (cOf (eOne (kIsi "bool") (eVar 6)))) (cOf (eTwo kNe (eVar 6) (eVar 5)))) (sRet (eC (.bl false))) sNext) (sSeq (sAsg 7 (eCall g_law_told (aCons (eVar 1) (aCons (eVar 2) (aCons (eVar 4) aNil))))) (sSeq (sIf (cNot (cOf (eVar 5))) (sRet (eTwo kEq (eVar 7) (eLst (aCons (eC (.bl true)) (aCons (eC (.bl true)) (aCons (eC (.bl false)) aNil)))))) sNext) (sRet (eAnd (eCall g_law_whole (aCons (eVar 7) aNil)) (eTwo kEq (eVar 7) (eCall g_law_number (aCons (eVar 1) (aCons (eVar 2) (aCons (eVar 4) aNil)))))))))))))))))
def m_law_isN : Nat → FF
  | 0 => fun _ => .no
  | n + 1 => run 3 3 (b_law_is (m_law_isN n))
theorem m_law_isN_eq (n : Nat) (a0 a1 a2 : DV) : m_law_isN (n + 1) [a0, a1, a2] = fin (b_law_is (m_law_isN n) [some a0, some a1, some a2]) := rfl
def m_law_is : FF := m_law_isN 40
def m_is_thingN : Nat → FF
  | 0 => fun _ => .no
  | n + 1 => run 3 3 (b_is_thing (m_is_thingN n))
theorem m_is_thingN_eq (n : Nat) (a0 a1 a2 : DV) : m_is_thingN (n + 1) [a0, a1, a2] = fin (b_is_thing (m_is_thingN n) [some a0, some a1, some a2]) := rfl
def m_is_thing : FF := m_is_thingN 40
def m_place_ofN : Nat → FF
  | 0 => fun _ => .no
  | n + 1 => run 4 3 (b_place_of (m_place_ofN n) m_count)
theorem m_place_ofN_eq (n : Nat) (a0 a1 a2 : DV) : m_place_ofN (n + 1) [a0, a1, a2] = fin (b_place_of (m_place_ofN n) m_count [some a0, some a1, some a2, none]) := rfl
def m_place_of : FF := m_place_ofN 40
def m_number_of : FF := run 3 3 (b_number_of m_is_thing m_place_of)
theorem m_number_of_eq (a0 a1 a2 : DV) : m_number_of [a0, a1, a2] = fin (b_number_of m_is_thing m_place_of [some a0, some a1, some a2]) := rfl
def m_law_told_k02 : FF := run 4 3 (b_law_told_k02 m_number_of)
theorem m_law_told_k02_eq (a0 a1 a2 : DV) : m_law_told_k02 [a0, a1, a2] = fin (b_law_told_k02 m_number_of [some a0, some a1, some a2, none]) := rfl
def m_law_atN : Nat → FF
  | 0 => fun _ => .no
  | n + 1 => run 5 3 (b_law_at m_law_count (m_law_atN n))
theorem m_law_atN_eq (n : Nat) (a0 a1 a2 : DV) : m_law_atN (n + 1) [a0, a1, a2] = fin (b_law_at m_law_count (m_law_atN n) [some a0, some a1, some a2, none, none]) := rfl
def m_law_at : FF := m_law_atN 40
def m_law_spots : FF := run 6 1 b_law_spots
theorem m_law_spots_eq (a0 : DV) : m_law_spots [a0] = fin (b_law_spots [some a0, none, none, none, none, none]) := rfl
def m_law_changed_k02N : Nat → FF
  | 0 => fun _ => .no
  | n + 1 => run 4 3 (b_law_changed_k02 (m_law_changed_k02N n))
theorem m_law_changed_k02N_eq (n : Nat) (a0 a1 a2 : DV) : m_law_changed_k02N (n + 1) [a0, a1, a2] = fin (b_law_changed_k02 (m_law_changed_k02N n) [some a0, some a1, some a2, none]) := rfl
def m_law_changed_k02 : FF := m_law_changed_k02N 40
def m_law_numberN : Nat → FF
  | 0 => fun _ => .no
  | n + 1 => run 4 3 (b_law_number (m_law_numberN n) m_law_count)
theorem m_law_numberN_eq (n : Nat) (a0 a1 a2 : DV) : m_law_numberN (n + 1) [a0, a1, a2] = fin (b_law_number (m_law_numberN n) m_law_count [some a0, some a1, some a2, none]) := rfl
def m_law_number : FF := m_law_numberN 40
def m_law_k02 : FF := run 9 1 (b_law_k02 m_law_kind m_law_cell m_law_sizes m_law_count m_law_at m_law_spots m_law_changed_k02 m_law_is m_is_thing m_law_told_k02 m_law_whole m_law_number)
theorem m_law_k02_eq (a0 : DV) : m_law_k02 [a0] = fin (b_law_k02 m_law_kind m_law_cell m_law_sizes m_law_count m_law_at m_law_spots m_law_changed_k02 m_law_is m_is_thing m_law_told_k02 m_law_whole m_law_number [some a0, none, none, none, none, none, none, none, none]) := rfl
def b_law_things (g_law_things : FF) : SF := sSeq (sIf (cOf (eTwo kEq (eCB kLen (aCons (eVar 0) aNil)) (eC (.int 1)))) (sRet (eTwo kMulL (eLst (aCons (eTup aNil) aNil)) (eCB kInt (aCons (eTwo kEq (eTwo kIx (eVar 0) (eC (.int 0))) (eC (.str "one"))) aNil)))) sNext) (sSeq (sIf (cOf (eTwo kEq (eCB kLen (aCons (eVar 0) aNil)) (eC (.int 2)))) (sRet (eLstRg (eTwo kIx (eVar 1) (eTwo kIx (eVar 0) (eC (.int 1)))))) sNext) (sSeq (sAsg 2 (eCall g_law_things (aCons (eTwo kIx (eVar 0) (eC (.int 1))) (aCons (eVar 1) aNil)))) (sSeq (sAsg 3 (eCall g_law_things (aCons (eTwo kIx (eVar 0) (eC (.int 2))) (aCons (eVar 1) aNil)))) (sSeq (sAsg 4 (eLst aNil)) (sSeq (sIf (cOf (eTwo kEq (eTwo kIx (eVar 0) (eC (.int 0))) (eC (.str "either")))) (sSeq (sExt 4 (eComp (srcE (eVar 2)) 5 cYes (eTup (aCons (eC (.str "left")) (aCons (eVar 5) aNil))))) (sSeq (sExt 4 (eComp (srcE (eVar 3)) 5 cYes (eTup (aCons (eC (.str "right")) (aCons (eVar 5) aNil))))) (sRetV 4))) sNext) (sSeq (sForV 2 (bName 5) (sExt 4 (eComp (srcE (eVar 3)) 6 cYes (eTup (aCons (eVar 5) (aCons (eVar 6) aNil)))))) (sRetV 4)))))))
def b_at_number (g_count : FF) (g_at_number : FF) : SF := sSeq (sIf (cOf (eTwo kEq (eTwo kIx (eVar 0) (eC (.int 0))) (eC (.str "one")))) (sRet (eTup aNil)) sNext) (sSeq (sIf (cOf (eTwo kEq (eTwo kIx (eVar 0) (eC (.int 0))) (eC (.str "name")))) (sRetV 2) sNext) (sSeq (sIf (cOf (eTwo kEq (eTwo kIx (eVar 0) (eC (.int 0))) (eC (.str "both")))) (sSeq (sAsg 3 (eCall g_count (aCons (eTwo kIx (eVar 0) (eC (.int 2))) (aCons (eVar 1) aNil)))) (sRet (eTup (aCons (eCall g_at_number (aCons (eTwo kIx (eVar 0) (eC (.int 1))) (aCons (eVar 1) (aCons (eTwo kFdiv (eVar 2) (eVar 3)) aNil)))) (aCons (eCall g_at_number (aCons (eTwo kIx (eVar 0) (eC (.int 2))) (aCons (eVar 1) (aCons (eTwo kMod (eVar 2) (eVar 3)) aNil)))) aNil))))) sNext) (sSeq (sAsg 3 (eCall g_count (aCons (eTwo kIx (eVar 0) (eC (.int 1))) (aCons (eVar 1) aNil)))) (sSeq (sIf (cOf (eTwo kLt (eVar 2) (eVar 3))) (sRet (eTup (aCons (eC (.str "left")) (aCons (eCall g_at_number (aCons (eTwo kIx (eVar 0) (eC (.int 1))) (aCons (eVar 1) (aCons (eVar 2) aNil)))) aNil)))) sNext) (sRet (eTup (aCons (eC (.str "right")) (aCons (eCall g_at_number (aCons (eTwo kIx (eVar 0) (eC (.int 2))) (aCons (eVar 1) (aCons (eTwo kSub (eVar 2) (eVar 3)) aNil)))) aNil))))))))
def b_thing_at (g_count : FF) (g_at_number : FF) : SF := sSeq (sIf (cOr (cOf (eTwo kLt (eVar 2) (eC (.int 0)))) (cOf (eTwo kGe (eVar 2) (eCall g_count (aCons (eVar 0) (aCons (eVar 1) aNil)))))) (sRaise "NoNumber") sNext) (sRet (eCall g_at_number (aCons (eVar 0) (aCons (eVar 1) (aCons (eVar 2) aNil)))))
def b_law_refused_k03 (g_thing_at : FF) : SF := sSeq (sTry 3 ["NoNumber"] (fun _ => .ret (.dat (.bl true))) (sDrop (eCall g_thing_at (aCons (eVar 0) (aCons (eVar 1) (aCons (eVar 2) aNil)))))) (sRet (eC (.bl false)))
def b_law_k03 (g_law_kind : FF) (g_law_cell : FF) (g_law_sizes : FF) (g_law_count : FF) (g_law_things : FF) (g_number_of : FF) (g_law_same : FF) (g_thing_at : FF) (g_law_whole : FF) (g_law_refused : FF) : SF := sSeq (sAsg 1 (eCall g_law_kind (aCons (eCall g_law_cell (aCons (eVar 0) (aCons (eC (.int 0)) aNil))) (aCons (eTwo kAdd (eC (.int 1)) (eTwo kMod (eCall g_law_cell (aCons (eVar 0) (aCons (eC (.int 1)) aNil))) (eC (.int 5)))) (aCons (eC (.int 1)) aNil))))) (sSeq (sAsg 2 (eCall g_law_sizes (aCons (eCall g_law_cell (aCons (eVar 0) (aCons (eC (.int 2)) aNil))) (aCons (eC (.int 3)) aNil)))) (sSeq (sIf (cOf (eTwo kGt (eCall g_law_count (aCons (eVar 1) (aCons (eVar 2) aNil))) (eC (.int 200)))) (sAsg 2 (eCall g_law_sizes (aCons (eCall g_law_cell (aCons (eVar 0) (aCons (eC (.int 2)) aNil))) (aCons (eC (.int 1)) aNil)))) sNext) (sSeq (sAsg 3 (eCall g_law_things (aCons (eVar 1) (aCons (eVar 2) aNil)))) (sSeq (sForEnV 3 (bPair 5 6) (sSeq (sAsg 7 (eCall g_number_of (aCons (eVar 1) (aCons (eVar 2) (aCons (eVar 6) aNil))))) (sIf (cOr (cNot (cOf (eCall g_law_same (aCons (eCall g_thing_at (aCons (eVar 1) (aCons (eVar 2) (aCons (eVar 5) aNil)))) (aCons (eVar 6) aNil))))) (cOr (cNot (cOf (eCall g_law_whole (aCons (eVar 7) aNil)))) (cOf (eTwo kNe (eVar 7) (eVar 5))))) (sRet (eC (.bl false))) sNext))) (sSeq (sAsg 4 (eTwo kMod (eCall g_law_cell (aCons (eVar 0) (aCons (eC (.int 3)) aNil))) (eTwo kPow (eC (.int 10)) (eC (.int 12))))) (sSeq (sForE (eLst (aCons (eOne kNeg (eC (.int 1))) (aCons (eCB kLen (aCons (eVar 3) aNil)) (aCons (eTwo kSub (eOne kNeg (eC (.int 1))) (eVar 4)) (aCons (eTwo kAdd (eCB kLen (aCons (eVar 3) aNil)) (eVar 4)) aNil))))) (bName 5) (sIf (cNot (cOf (eCall g_law_refused (aCons (eVar 1) (aCons (eVar 2) (aCons (eVar 5) aNil)))))) (sRet (eC (.bl false))) sNext)) (sRet (eC (.bl true)))))))))
def m_law_thingsN : Nat → FF
  | 0 => fun _ => .no
  | n + 1 => run 7 2 (b_law_things (m_law_thingsN n))
theorem m_law_thingsN_eq (n : Nat) (a0 a1 : DV) : m_law_thingsN (n + 1) [a0, a1] = fin (b_law_things (m_law_thingsN n) [some a0, some a1, none, none, none, none, none]) := rfl
def m_law_things : FF := m_law_thingsN 40
def m_at_numberN : Nat → FF
  | 0 => fun _ => .no
  | n + 1 => run 4 3 (b_at_number m_count (m_at_numberN n))
theorem m_at_numberN_eq (n : Nat) (a0 a1 a2 : DV) : m_at_numberN (n + 1) [a0, a1, a2] = fin (b_at_number m_count (m_at_numberN n) [some a0, some a1, some a2, none]) := rfl
def m_at_number : FF := m_at_numberN 40
def m_thing_at : FF := run 3 3 (b_thing_at m_count m_at_number)
theorem m_thing_at_eq (a0 a1 a2 : DV) : m_thing_at [a0, a1, a2] = fin (b_thing_at m_count m_at_number [some a0, some a1, some a2]) := rfl
def m_law_refused_k03 : FF := run 4 3 (b_law_refused_k03 m_thing_at)
theorem m_law_refused_k03_eq (a0 a1 a2 : DV) : m_law_refused_k03 [a0, a1, a2] = fin (b_law_refused_k03 m_thing_at [some a0, some a1, some a2, none]) := rfl
def m_law_k03 : FF := run 8 1 (b_law_k03 m_law_kind m_law_cell m_law_sizes m_law_count m_law_things m_number_of m_law_same m_thing_at m_law_whole m_law_refused_k03)
theorem m_law_k03_eq (a0 : DV) : m_law_k03 [a0] = fin (b_law_k03 m_law_kind m_law_cell m_law_sizes m_law_count m_law_things m_number_of m_law_same m_thing_at m_law_whole m_law_refused_k03 [some a0, none, none, none, none, none, none, none]) := rfl
def b_law_row : SF := sSeq (sAsg 1 (eLst aNil)) (sSeq (sAsg 2 (eLst (aCons (eVar 0) aNil))) (sSeq (sWhile (cOf (eTwo kNe (eVar 2) (eLst aNil))) (sSeq (sPopTo 3 2) (sIf (cOf (eOne (kIsi "tuple") (eVar 3))) (sExt 2 (eLstRev (eVar 3))) (sApp 1 (eDget "left" (.int 0) "right" (.int 1) (eVar 3) (eVar 3)))))) (sRetV 1)))
def b_law_k04 (g_law_kind : FF) (g_law_cell : FF) (g_law_sizes : FF) (g_law_count : FF) (g_thing_at : FF) (g_law_whole_thing : FF) (g_is_thing : FF) (g_number_of : FF) (g_law_whole : FF) (g_law_row : FF) : SF := sSeq (sAsg 1 (eCall g_law_kind (aCons (eCall g_law_cell (aCons (eVar 0) (aCons (eC (.int 0)) aNil))) (aCons (eTwo kAdd (eC (.int 1)) (eTwo kMod (eCall g_law_cell (aCons (eVar 0) (aCons (eC (.int 1)) aNil))) (eC (.int 8)))) (aCons (eC (.int 1)) aNil))))) (sSeq (sAsg 2 (eCB kTupOf (aCons (eComp (srcE (eCall g_law_sizes (aCons (eCall g_law_cell (aCons (eVar 0) (aCons (eC (.int 2)) aNil))) (aCons (eTwo kSub (eTwo kPow (eC (.int 10)) (eC (.int 6))) (eC (.int 1))) aNil)))) 10 cYes (eTwo kAdd (eVar 10) (eC (.int 1)))) aNil))) (sSeq (sAsg 3 (eCall g_law_count (aCons (eVar 1) (aCons (eVar 2) aNil)))) (sSeq (sIf (cOf (eTwo kEq (eVar 3) (eC (.int 0)))) (sRet (eC (.bl true))) sNext) (sSeq (sAsg 4 (eTwo kMod (eTwo kMul (eCall g_law_cell (aCons (eVar 0) (aCons (eC (.int 3)) aNil))) (eCall g_law_cell (aCons (eVar 0) (aCons (eC (.int 4)) aNil)))) (eVar 3))) (sSeq (sAsg 5 (eTwo kMod (eTwo kAdd (eTwo kAdd (eVar 4) (eC (.int 1))) (eTwo kMod (eCall g_law_cell (aCons (eVar 0) (aCons (eC (.int 5)) aNil))) (eC (.int 3)))) (eVar 3))) (sSeq (sAsg 6 (eLst (aCons (eCall g_thing_at (aCons (eVar 1) (aCons (eVar 2) (aCons (eVar 4) aNil)))) (aCons (eCall g_thing_at (aCons (eVar 1) (aCons (eVar 2) (aCons (eVar 5) aNil)))) aNil)))) (sSeq (sForZip (eLst (aCons (eVar 4) (aCons (eVar 5) aNil))) 6 (bPair 7 8) (sSeq (sIf (cOr (cNot (cOf (eCall g_law_whole_thing (aCons (eVar 8) aNil)))) (cOf (eTwo kIsNot (eCall g_is_thing (aCons (eVar 1) (aCons (eVar 2) (aCons (eVar 8) aNil)))) (eC (.bl true))))) (sRet (eC (.bl false))) sNext) (sSeq (sAsg 9 (eCall g_number_of (aCons (eVar 1) (aCons (eVar 2) (aCons (eVar 8) aNil))))) (sIf (cOr (cNot (cOf (eCall g_law_whole (aCons (eVar 9) aNil)))) (cOf (eTwo kNe (eVar 9) (eVar 7)))) (sRet (eC (.bl false))) sNext)))) (sRet (eOr (eTwo kEq (eVar 4) (eVar 5)) (eTwo kEq (eTwo kLtL (eCall g_law_row (aCons (eTwo kIx (eVar 6) (eC (.int 0))) aNil)) (eCall g_law_row (aCons (eTwo kIx (eVar 6) (eC (.int 1))) aNil))) (eTwo kLt (eVar 4) (eVar 5))))))))))))
def m_law_row : FF := run 4 1 b_law_row
theorem m_law_row_eq (a0 : DV) : m_law_row [a0] = fin (b_law_row [some a0, none, none, none]) := rfl
def m_law_k04 : FF := run 11 1 (b_law_k04 m_law_kind m_law_cell m_law_sizes m_law_count m_thing_at m_law_whole_thing m_is_thing m_number_of m_law_whole m_law_row)
theorem m_law_k04_eq (a0 : DV) : m_law_k04 [a0] = fin (b_law_k04 m_law_kind m_law_cell m_law_sizes m_law_count m_thing_at m_law_whole_thing m_is_thing m_number_of m_law_whole m_law_row [some a0, none, none, none, none, none, none, none, none, none, none]) := rfl
def b_law_here : SF := sSeq (sIf (cOf (eTwo kLt (eCB kLen (aCons (eVar 0) aNil)) (eC (.int 3)))) (sRet (eC .non)) sNext) (sSeq (sAsg 2 (eTwo kIx (eVar 0) (eC (.int 1)))) (sSeq (sAsg 3 (eTwo kIx (eVar 0) (eC (.int 2)))) (sSeq (sIf (cOf (eTwo kEq (eVar 1) (eC (.str "swap")))) (sRet (eTup (aCons (eTwo kIx (eVar 0) (eC (.int 0))) (aCons (eVar 3) (aCons (eVar 2) aNil))))) sNext) (sSeq (sIf (cAnd (cOf (eTwo kEq (eVar 1) (eC (.str "group")))) (cOf (eTwo kEq (eTwo kIx (eVar 2) (eC (.int 0))) (eTwo kIx (eVar 0) (eC (.int 0)))))) (sRet (eTup (aCons (eTwo kIx (eVar 0) (eC (.int 0))) (aCons (eTwo kIx (eVar 2) (eC (.int 1))) (aCons (eTup (aCons (eTwo kIx (eVar 0) (eC (.int 0))) (aCons (eTwo kIx (eVar 2) (eC (.int 2))) (aCons (eVar 3) aNil)))) aNil))))) sNext) (sSeq (sIf (cAnd (cOf (eTwo kEq (eVar 1) (eC (.str "spread")))) (cAnd (cOf (eTwo kEq (eTwo kIx (eVar 0) (eC (.int 0))) (eC (.str "both")))) (cOf (eTwo kEq (eTwo kIx (eVar 3) (eC (.int 0))) (eC (.str "either")))))) (sRet (eTup (aCons (eC (.str "either")) (aCons (eTup (aCons (eC (.str "both")) (aCons (eVar 2) (aCons (eTwo kIx (eVar 3) (eC (.int 1))) aNil)))) (aCons (eTup (aCons (eC (.str "both")) (aCons (eVar 2) (aCons (eTwo kIx (eVar 3) (eC (.int 2))) aNil)))) aNil))))) sNext) (sSeq (sIf (cAnd (cOf (eTwo kEq (eVar 1) (eC (.str "drop")))) (cAnd (cOf (eTwo kEq (eTwo kIx (eVar 0) (eC (.int 0))) (eC (.str "both")))) (cOf (eTwo kEq (eTwo kIx (eVar 2) (eC (.int 0))) (eC (.str "none")))))) (sRet (eTup (aCons (eC (.str "none")) aNil))) sNext) (sSeq (sIf (cAnd (cOf (eTwo kEq (eVar 1) (eC (.str "drop")))) (cOf (eTwo kIn (eTup (aCons (eTwo kIx (eVar 0) (eC (.int 0))) (aCons (eTwo kIx (eVar 2) (eC (.int 0))) aNil))) (eTup (aCons (eTup (aCons (eC (.str "both")) (aCons (eC (.str "one")) aNil))) (aCons (eTup (aCons (eC (.str "either")) (aCons (eC (.str "none")) aNil))) aNil)))))) (sRetV 3) sNext) (sRet (eC .non)))))))))
def b_law_all_turnings (g_law_here : FF) (g_law_part : FF) (g_law_paths : FF) : SF := sSeq (sAsg 1 (eLst aNil)) (sSeq (sForE (eCall g_law_paths (aCons (eVar 0) aNil)) (bName 2) (sForE (eLst (aCons (eC (.str "swap")) (aCons (eC (.str "group")) (aCons (eC (.str "spread")) (aCons (eC (.str "drop")) aNil))))) (bName 3) (sIf (cOf (eTwo kIsNot (eCall g_law_here (aCons (eCall g_law_part (aCons (eVar 0) (aCons (eVar 2) aNil))) (aCons (eVar 3) aNil))) (eC .non))) (sApp 1 (eTup (aCons (eVar 3) (aCons (eVar 2) aNil)))) sNext))) (sRetV 1))
def b_law_put (g_law_put : FF) : SF := sSeq (sIf (cOf (eTwo kEq (eVar 1) (eTup aNil))) (sRetV 2) sNext) (sSeq (sAsg 3 (eCall g_law_put (aCons (eTwo kIx (eVar 0) (eTwo kAdd (eC (.int 1)) (eTwo kIx (eVar 1) (eC (.int 0))))) (aCons (eSl (eVar 1) (oSome (eC (.int 1))) oNone) (aCons (eVar 2) aNil))))) (sSeq (sIf (cOf (eTwo kEq (eTwo kIx (eVar 1) (eC (.int 0))) (eC (.int 0)))) (sRet (eTup (aCons (eTwo kIx (eVar 0) (eC (.int 0))) (aCons (eVar 3) (aCons (eTwo kIx (eVar 0) (eC (.int 2))) aNil))))) sNext) (sRet (eTup (aCons (eTwo kIx (eVar 0) (eC (.int 0))) (aCons (eTwo kIx (eVar 0) (eC (.int 1))) (aCons (eVar 3) aNil)))))))
def b_law_turned (g_law_paths : FF) (g_law_here : FF) (g_law_part : FF) (g_law_put : FF) : SF := sSeq (sIf (cOf (eTwo kNotIn (eVar 2) (eCall g_law_paths (aCons (eVar 0) aNil)))) (sRet (eC .non)) sNext) (sSeq (sAsg 3 (eCall g_law_here (aCons (eCall g_law_part (aCons (eVar 0) (aCons (eVar 2) aNil))) (aCons (eVar 1) aNil)))) (sSeq (sIf (cOf (eTwo kIs (eVar 3) (eC .non))) (sRet (eC .non)) sNext) (sRet (eCall g_law_put (aCons (eVar 0) (aCons (eVar 2) (aCons (eVar 3) aNil)))))))
def b_with_part (g_with_part : FF) : SF := sSeq (sIf (cOf (eTwo kEq (eVar 1) (eTup aNil))) (sRetV 2) sNext) (sSeq (sIf (cOf (eTwo kEq (eTwo kIx (eVar 1) (eC (.int 0))) (eC (.int 0)))) (sRet (eTup (aCons (eTwo kIx (eVar 0) (eC (.int 0))) (aCons (eCall g_with_part (aCons (eTwo kIx (eVar 0) (eC (.int 1))) (aCons (eSl (eVar 1) (oSome (eC (.int 1))) oNone) (aCons (eVar 2) aNil)))) (aCons (eTwo kIx (eVar 0) (eC (.int 2))) aNil))))) sNext) (sRet (eTup (aCons (eTwo kIx (eVar 0) (eC (.int 0))) (aCons (eTwo kIx (eVar 0) (eC (.int 1))) (aCons (eCall g_with_part (aCons (eTwo kIx (eVar 0) (eC (.int 2))) (aCons (eSl (eVar 1) (oSome (eC (.int 1))) oNone) (aCons (eVar 2) aNil)))) aNil))))))
def b_need : SF := sIf (cNot (cOf (eVar 0))) (sRaise "NoTurning") sNext
def b_turned_here (g_need : FF) (g_is_pair : FF) : SF := sSeq (sDrop (eCall g_need (aCons (eCall g_is_pair (aCons (eVar 0) aNil)) aNil))) (sSeq (sAsg 2 (eTwo kIx (eVar 0) (eC (.int 1)))) (sSeq (sAsg 3 (eTwo kIx (eVar 0) (eC (.int 2)))) (sSeq (sIf (cOf (eTwo kEq (eVar 1) (eC (.str "swap")))) (sRet (eTup (aCons (eTwo kIx (eVar 0) (eC (.int 0))) (aCons (eVar 3) (aCons (eVar 2) aNil))))) sNext) (sSeq (sIf (cOf (eTwo kEq (eVar 1) (eC (.str "group")))) (sSeq (sDrop (eCall g_need (aCons (eTwo kEq (eTwo kIx (eVar 2) (eC (.int 0))) (eTwo kIx (eVar 0) (eC (.int 0)))) aNil))) (sRet (eTup (aCons (eTwo kIx (eVar 0) (eC (.int 0))) (aCons (eTwo kIx (eVar 2) (eC (.int 1))) (aCons (eTup (aCons (eTwo kIx (eVar 0) (eC (.int 0))) (aCons (eTwo kIx (eVar 2) (eC (.int 2))) (aCons (eVar 3) aNil)))) aNil)))))) sNext) (sSeq (sIf (cOf (eTwo kEq (eVar 1) (eC (.str "spread")))) (sSeq (sDrop (eCall g_need (aCons (eAnd (eTwo kEq (eTwo kIx (eVar 0) (eC (.int 0))) (eC (.str "both"))) (eTwo kEq (eTwo kIx (eVar 3) (eC (.int 0))) (eC (.str "either")))) aNil))) (sRet (eTup (aCons (eC (.str "either")) (aCons (eTup (aCons (eC (.str "both")) (aCons (eVar 2) (aCons (eTwo kIx (eVar 3) (eC (.int 1))) aNil)))) (aCons (eTup (aCons (eC (.str "both")) (aCons (eVar 2) (aCons (eTwo kIx (eVar 3) (eC (.int 2))) aNil)))) aNil)))))) sNext) (sSeq (sDrop (eCall g_need (aCons (eTwo kEq (eVar 1) (eC (.str "drop"))) aNil))) (sSeq (sIf (cAnd (cOf (eTwo kEq (eTwo kIx (eVar 0) (eC (.int 0))) (eC (.str "both")))) (cOf (eTwo kEq (eTwo kIx (eVar 2) (eC (.int 0))) (eC (.str "none"))))) (sRetV 2) sNext) (sSeq (sDrop (eCall g_need (aCons (eOr (eAnd (eTwo kEq (eTwo kIx (eVar 0) (eC (.int 0))) (eC (.str "either"))) (eTwo kEq (eTwo kIx (eVar 2) (eC (.int 0))) (eC (.str "none")))) (eAnd (eTwo kEq (eTwo kIx (eVar 0) (eC (.int 0))) (eC (.str "both"))) (eTwo kEq (eTwo kIx (eVar 2) (eC (.int 0))) (eC (.str "one"))))) aNil))) (sRetV 3)))))))))
def b_turned (g_with_part : FF) (g_turned_here : FF) (g_part : FF) : SF := sRet (eCall g_with_part (aCons (eVar 0) (aCons (eTwo kIx (eVar 1) (eC (.int 1))) (aCons (eCall g_turned_here (aCons (eCall g_part (aCons (eVar 0) (aCons (eTwo kIx (eVar 1) (eC (.int 1))) aNil))) (aCons (eTwo kIx (eVar 1) (eC (.int 0))) aNil))) aNil))))
def b_law_told_k05 (g_turned : FF) : SF := sTry 2 ["NoTurning"] (fun _ => .ret (.own [.bl true, .bl true, .bl false])) (sRet (eCall g_turned (aCons (eVar 0) (aCons (eVar 1) aNil))))
def b_law_k05 (g_law_kind : FF) (g_law_cell : FF) (g_law_same : FF) (g_law_turned : FF) (g_law_told : FF) (g_law_all_turnings : FF) (g_law_paths : FF) : SF := sSeq (sAsg 1 (eCall g_law_kind (aCons (eCall g_law_cell (aCons (eVar 0) (aCons (eC (.int 0)) aNil))) (aCons (eTwo kAdd (eC (.int 1)) (eTwo kMod (eCall g_law_cell (aCons (eVar 0) (aCons (eC (.int 1)) aNil))) (eC (.int 8)))) (aCons (eC (.int 1)) aNil))))) (sSeq (sForE (eCall g_law_all_turnings (aCons (eVar 1) aNil)) (bPair 4 5) (sIf (cNot (cOf (eCall g_law_same (aCons (eCall g_law_told (aCons (eVar 1) (aCons (eTup (aCons (eVar 4) (aCons (eVar 5) aNil))) aNil))) (aCons (eCall g_law_turned (aCons (eVar 1) (aCons (eVar 4) (aCons (eVar 5) aNil)))) aNil))))) (sRet (eC (.bl false))) sNext)) (sSeq (sAsg 2 (eCall g_law_paths (aCons (eVar 1) aNil))) (sSeq (sForR1 (eC (.int 4)) (bName 3) (sSeq (sAsg 6 (eCall g_law_cell (aCons (eVar 0) (aCons (eTwo kAdd (eC (.int 2)) (eVar 3)) aNil)))) (sSeq (sAsg 5 (eTwo kIx (eVar 2) (eTwo kMod (eVar 6) (eCB kLen (aCons (eVar 2) aNil))))) (sSeq (sIf (cOf (eTwo kEq (eTwo kMod (eTwo kFdiv (eVar 6) (eC (.int 64))) (eC (.int 4))) (eC (.int 1)))) (sAsg 5 (eTwo kAdd (eVar 5) (eTup (aCons (eTwo kIx (eLst (aCons (eC (.int 0)) (aCons (eC (.int 1)) (aCons (eC (.int 2)) (aCons (eOne kNeg (eC (.int 1))) aNil))))) (eTwo kMod (eTwo kFdiv (eVar 6) (eC (.int 256))) (eC (.int 4)))) aNil)))) sNext) (sSeq (sAsg 4 (eTwo kIx (eLst (aCons (eC (.str "swap")) (aCons (eC (.str "group")) (aCons (eC (.str "spread")) (aCons (eC (.str "drop")) (aCons (eC (.str "turn")) aNil)))))) (eTwo kMod (eTwo kFdiv (eVar 6) (eC (.int 1024))) (eC (.int 5))))) (sSeq (sAsg 7 (eCall g_law_turned (aCons (eVar 1) (aCons (eVar 4) (aCons (eVar 5) aNil))))) (sSeq (sAsg 8 (eCall g_law_told (aCons (eVar 1) (aCons (eTup (aCons (eVar 4) (aCons (eVar 5) aNil))) aNil)))) (sIf (cOr (cAnd (cOf (eTwo kIs (eVar 7) (eC .non))) (cOf (eTwo kNe (eVar 8) (eLst (aCons (eC (.bl true)) (aCons (eC (.bl true)) (aCons (eC (.bl false)) aNil))))))) (cAnd (cOf (eTwo kIsNot (eVar 7) (eC .non))) (cNot (cOf (eCall g_law_same (aCons (eVar 8) (aCons (eVar 7) aNil))))))) (sRet (eC (.bl false))) sNext)))))))) (sRet (eC (.bl true))))))
def m_law_here : FF := run 4 2 b_law_here
theorem m_law_here_eq (a0 a1 : DV) : m_law_here [a0, a1] = fin (b_law_here [some a0, some a1, none, none]) := rfl
def m_law_all_turnings : FF := run 4 1 (b_law_all_turnings m_law_here m_law_part m_law_paths)
theorem m_law_all_turnings_eq (a0 : DV) : m_law_all_turnings [a0] = fin (b_law_all_turnings m_law_here m_law_part m_law_paths [some a0, none, none, none]) := rfl
def m_law_putN : Nat → FF
  | 0 => fun _ => .no
  | n + 1 => run 4 3 (b_law_put (m_law_putN n))
theorem m_law_putN_eq (n : Nat) (a0 a1 a2 : DV) : m_law_putN (n + 1) [a0, a1, a2] = fin (b_law_put (m_law_putN n) [some a0, some a1, some a2, none]) := rfl
def m_law_put : FF := m_law_putN 40
def m_law_turned : FF := run 4 3 (b_law_turned m_law_paths m_law_here m_law_part m_law_put)
theorem m_law_turned_eq (a0 a1 a2 : DV) : m_law_turned [a0, a1, a2] = fin (b_law_turned m_law_paths m_law_here m_law_part m_law_put [some a0, some a1, some a2, none]) := rfl
def m_with_partN : Nat → FF
  | 0 => fun _ => .no
  | n + 1 => run 3 3 (b_with_part (m_with_partN n))
theorem m_with_partN_eq (n : Nat) (a0 a1 a2 : DV) : m_with_partN (n + 1) [a0, a1, a2] = fin (b_with_part (m_with_partN n) [some a0, some a1, some a2]) := rfl
def m_with_part : FF := m_with_partN 40
def m_need : FF := run 1 1 b_need
theorem m_need_eq (a0 : DV) : m_need [a0] = fin (b_need [some a0]) := rfl
def m_turned_here : FF := run 4 2 (b_turned_here m_need m_is_pair)
theorem m_turned_here_eq (a0 a1 : DV) : m_turned_here [a0, a1] = fin (b_turned_here m_need m_is_pair [some a0, some a1, none, none]) := rfl
def m_turned : FF := run 2 2 (b_turned m_with_part m_turned_here m_part)
theorem m_turned_eq (a0 a1 : DV) : m_turned [a0, a1] = fin (b_turned m_with_part m_turned_here m_part [some a0, some a1]) := rfl
def m_law_told_k05 : FF := run 3 2 (b_law_told_k05 m_turned)
theorem m_law_told_k05_eq (a0 a1 : DV) : m_law_told_k05 [a0, a1] = fin (b_law_told_k05 m_turned [some a0, some a1, none]) := rfl
def m_law_k05 : FF := run 9 1 (b_law_k05 m_law_kind m_law_cell m_law_same m_law_turned m_law_told_k05 m_law_all_turnings m_law_paths)
theorem m_law_k05_eq (a0 : DV) : m_law_k05 [a0] = fin (b_law_k05 m_law_kind m_law_cell m_law_same m_law_turned m_law_told_k05 m_law_all_turnings m_law_paths [some a0, none, none, none, none, none, none, none, none]) := rfl
def b_law_thing (g_law_count : FF) (g_law_thing : FF) : SF := sSeq (sIf (cOf (eTwo kLt (eCB kLen (aCons (eVar 0) aNil)) (eC (.int 3)))) (sRet (eTwo kIx (eLst (aCons (eTup aNil) (aCons (eVar 2) aNil))) (eTwo kSub (eCB kLen (aCons (eVar 0) aNil)) (eC (.int 1))))) sNext) (sSeq (sIf (cOf (eTwo kEq (eTwo kIx (eVar 0) (eC (.int 0))) (eC (.str "both")))) (sSeq (sAsg 4 (eCall g_law_count (aCons (eTwo kIx (eVar 0) (eC (.int 2))) (aCons (eVar 1) aNil)))) (sRet (eTup (aCons (eCall g_law_thing (aCons (eTwo kIx (eVar 0) (eC (.int 1))) (aCons (eVar 1) (aCons (eTwo kFdiv (eVar 2) (eVar 4)) aNil)))) (aCons (eCall g_law_thing (aCons (eTwo kIx (eVar 0) (eC (.int 2))) (aCons (eVar 1) (aCons (eTwo kMod (eVar 2) (eVar 4)) aNil)))) aNil))))) sNext) (sSeq (sAsg 3 (eCall g_law_count (aCons (eTwo kIx (eVar 0) (eC (.int 1))) (aCons (eVar 1) aNil)))) (sSeq (sIf (cOf (eTwo kLt (eVar 2) (eVar 3))) (sRet (eTup (aCons (eC (.str "left")) (aCons (eCall g_law_thing (aCons (eTwo kIx (eVar 0) (eC (.int 1))) (aCons (eVar 1) (aCons (eVar 2) aNil)))) aNil)))) sNext) (sRet (eTup (aCons (eC (.str "right")) (aCons (eCall g_law_thing (aCons (eTwo kIx (eVar 0) (eC (.int 2))) (aCons (eVar 1) (aCons (eTwo kSub (eVar 2) (eVar 3)) aNil)))) aNil)))))))
def b_law_forth_here : SF := sSeq (sIf (cOr (cOf (eTwo kEq (eVar 1) (eC (.str "drop")))) (cAnd (cOf (eTwo kEq (eVar 1) (eC (.str "swap")))) (cOf (eTwo kEq (eTwo kIx (eVar 0) (eC (.int 0))) (eC (.str "both")))))) (sRet (eTwo kIx (eLst (aCons (eTwo kIx (eVar 2) (eC (.int 1))) (aCons (eTup (aCons (eTwo kIx (eVar 2) (eC (.int 1))) (aCons (eTwo kIx (eVar 2) (eC (.int 0))) aNil))) aNil))) (eCB kInt (aCons (eTwo kEq (eVar 1) (eC (.str "swap"))) aNil)))) sNext) (sSeq (sIf (cOf (eTwo kEq (eVar 1) (eC (.str "swap")))) (sRet (eTup (aCons (eDix "left" (.str "right") "right" (.str "left") (eTwo kIx (eVar 2) (eC (.int 0)))) (aCons (eTwo kIx (eVar 2) (eC (.int 1))) aNil)))) sNext) (sSeq (sIf (cOf (eTwo kEq (eVar 1) (eC (.str "spread")))) (sRet (eTup (aCons (eTwo kIx (eTwo kIx (eVar 2) (eC (.int 1))) (eC (.int 0))) (aCons (eTup (aCons (eTwo kIx (eVar 2) (eC (.int 0))) (aCons (eTwo kIx (eTwo kIx (eVar 2) (eC (.int 1))) (eC (.int 1))) aNil))) aNil)))) sNext) (sSeq (sIf (cOf (eTwo kEq (eTwo kIx (eVar 0) (eC (.int 0))) (eC (.str "both")))) (sRet (eTup (aCons (eTwo kIx (eTwo kIx (eVar 2) (eC (.int 0))) (eC (.int 0))) (aCons (eTup (aCons (eTwo kIx (eTwo kIx (eVar 2) (eC (.int 0))) (eC (.int 1))) (aCons (eTwo kIx (eVar 2) (eC (.int 1))) aNil))) aNil)))) sNext) (sSeq (sIf (cOf (eTwo kEq (eTwo kIx (eVar 2) (eC (.int 0))) (eC (.str "right")))) (sRet (eTup (aCons (eC (.str "right")) (aCons (eTup (aCons (eC (.str "right")) (aCons (eTwo kIx (eVar 2) (eC (.int 1))) aNil))) aNil)))) sNext) (sSeq (sIf (cOf (eTwo kEq (eTwo kIx (eTwo kIx (eVar 2) (eC (.int 1))) (eC (.int 0))) (eC (.str "left")))) (sRet (eTup (aCons (eC (.str "left")) (aCons (eTwo kIx (eTwo kIx (eVar 2) (eC (.int 1))) (eC (.int 1))) aNil)))) sNext) (sRet (eTup (aCons (eC (.str "right")) (aCons (eTup (aCons (eC (.str "left")) (aCons (eTwo kIx (eTwo kIx (eVar 2) (eC (.int 1))) (eC (.int 1))) aNil))) aNil)))))))))
def b_law_forth (g_law_forth_here : FF) (g_law_forth : FF) : SF := sSeq (sIf (cOf (eTwo kEq (eVar 2) (eTup aNil))) (sRet (eCall g_law_forth_here (aCons (eVar 0) (aCons (eVar 1) (aCons (eVar 3) aNil))))) sNext) (sSeq (sAsg 4 (eTwo kIx (eVar 0) (eTwo kAdd (eC (.int 1)) (eTwo kIx (eVar 2) (eC (.int 0)))))) (sSeq (sIf (cOf (eTwo kEq (eTwo kIx (eVar 0) (eC (.int 0))) (eC (.str "either")))) (sSeq (sIf (cOf (eTwo kNe (eTwo kIx (eVar 3) (eC (.int 0))) (eTwo kIx (eLst (aCons (eC (.str "left")) (aCons (eC (.str "right")) aNil))) (eTwo kIx (eVar 2) (eC (.int 0)))))) (sRetV 3) sNext) (sRet (eTup (aCons (eTwo kIx (eVar 3) (eC (.int 0))) (aCons (eCall g_law_forth (aCons (eVar 4) (aCons (eVar 1) (aCons (eSl (eVar 2) (oSome (eC (.int 1))) oNone) (aCons (eTwo kIx (eVar 3) (eC (.int 1))) aNil))))) aNil))))) sNext) (sSeq (sIf (cOf (eTwo kEq (eTwo kIx (eVar 2) (eC (.int 0))) (eC (.int 0)))) (sRet (eTup (aCons (eCall g_law_forth (aCons (eVar 4) (aCons (eVar 1) (aCons (eSl (eVar 2) (oSome (eC (.int 1))) oNone) (aCons (eTwo kIx (eVar 3) (eC (.int 0))) aNil))))) (aCons (eTwo kIx (eVar 3) (eC (.int 1))) aNil)))) sNext) (sRet (eTup (aCons (eTwo kIx (eVar 3) (eC (.int 0))) (aCons (eCall g_law_forth (aCons (eVar 4) (aCons (eVar 1) (aCons (eSl (eVar 2) (oSome (eC (.int 1))) oNone) (aCons (eTwo kIx (eVar 3) (eC (.int 1))) aNil))))) aNil)))))))
def b_other_side : SF := sSeq (sIf (cOf (eTwo kEq (eVar 0) (eC (.str "left")))) (sRet (eC (.str "right"))) sNext) (sRet (eC (.str "left")))
def b_forth_here (g_other_side : FF) : SF := sSeq (sIf (cOf (eTwo kEq (eVar 1) (eC (.str "swap")))) (sSeq (sIf (cOf (eTwo kEq (eTwo kIx (eVar 0) (eC (.int 0))) (eC (.str "both")))) (sRet (eTup (aCons (eTwo kIx (eVar 2) (eC (.int 1))) (aCons (eTwo kIx (eVar 2) (eC (.int 0))) aNil)))) sNext) (sRet (eTup (aCons (eCall g_other_side (aCons (eTwo kIx (eVar 2) (eC (.int 0))) aNil)) (aCons (eTwo kIx (eVar 2) (eC (.int 1))) aNil))))) sNext) (sSeq (sIf (cOf (eTwo kEq (eVar 1) (eC (.str "spread")))) (sRet (eTup (aCons (eTwo kIx (eTwo kIx (eVar 2) (eC (.int 1))) (eC (.int 0))) (aCons (eTup (aCons (eTwo kIx (eVar 2) (eC (.int 0))) (aCons (eTwo kIx (eTwo kIx (eVar 2) (eC (.int 1))) (eC (.int 1))) aNil))) aNil)))) sNext) (sSeq (sIf (cOf (eTwo kEq (eVar 1) (eC (.str "drop")))) (sRet (eTwo kIx (eVar 2) (eC (.int 1)))) sNext) (sSeq (sIf (cOf (eTwo kEq (eTwo kIx (eVar 0) (eC (.int 0))) (eC (.str "both")))) (sRet (eTup (aCons (eTwo kIx (eTwo kIx (eVar 2) (eC (.int 0))) (eC (.int 0))) (aCons (eTup (aCons (eTwo kIx (eTwo kIx (eVar 2) (eC (.int 0))) (eC (.int 1))) (aCons (eTwo kIx (eVar 2) (eC (.int 1))) aNil))) aNil)))) sNext) (sSeq (sIf (cOf (eTwo kEq (eTwo kIx (eVar 2) (eC (.int 0))) (eC (.str "right")))) (sRet (eTup (aCons (eC (.str "right")) (aCons (eVar 2) aNil)))) sNext) (sSeq (sIf (cOf (eTwo kEq (eTwo kIx (eTwo kIx (eVar 2) (eC (.int 1))) (eC (.int 0))) (eC (.str "left")))) (sRet (eTwo kIx (eVar 2) (eC (.int 1)))) sNext) (sRet (eTup (aCons (eC (.str "right")) (aCons (eTup (aCons (eC (.str "left")) (aCons (eTwo kIx (eTwo kIx (eVar 2) (eC (.int 1))) (eC (.int 1))) aNil))) aNil)))))))))
def b_back_here (g_forth_here : FF) : SF := sSeq (sIf (cOf (eTwo kEq (eVar 1) (eC (.str "swap")))) (sRet (eCall g_forth_here (aCons (eVar 0) (aCons (eVar 1) (aCons (eVar 2) aNil))))) sNext) (sSeq (sIf (cOf (eTwo kEq (eVar 1) (eC (.str "spread")))) (sRet (eTup (aCons (eTwo kIx (eTwo kIx (eVar 2) (eC (.int 1))) (eC (.int 0))) (aCons (eTup (aCons (eTwo kIx (eVar 2) (eC (.int 0))) (aCons (eTwo kIx (eTwo kIx (eVar 2) (eC (.int 1))) (eC (.int 1))) aNil))) aNil)))) sNext) (sSeq (sIf (cOf (eTwo kEq (eVar 1) (eC (.str "drop")))) (sSeq (sIf (cOf (eTwo kEq (eTwo kIx (eVar 0) (eC (.int 0))) (eC (.str "either")))) (sRet (eTup (aCons (eC (.str "right")) (aCons (eVar 2) aNil)))) sNext) (sRet (eTup (aCons (eTup aNil) (aCons (eVar 2) aNil))))) sNext) (sSeq (sIf (cOf (eTwo kEq (eTwo kIx (eVar 0) (eC (.int 0))) (eC (.str "both")))) (sRet (eTup (aCons (eTup (aCons (eTwo kIx (eVar 2) (eC (.int 0))) (aCons (eTwo kIx (eTwo kIx (eVar 2) (eC (.int 1))) (eC (.int 0))) aNil))) (aCons (eTwo kIx (eTwo kIx (eVar 2) (eC (.int 1))) (eC (.int 1))) aNil)))) sNext) (sSeq (sIf (cOf (eTwo kEq (eTwo kIx (eVar 2) (eC (.int 0))) (eC (.str "left")))) (sRet (eTup (aCons (eC (.str "left")) (aCons (eVar 2) aNil)))) sNext) (sSeq (sIf (cOf (eTwo kEq (eTwo kIx (eTwo kIx (eVar 2) (eC (.int 1))) (eC (.int 0))) (eC (.str "left")))) (sRet (eTup (aCons (eC (.str "left")) (aCons (eTup (aCons (eC (.str "right")) (aCons (eTwo kIx (eTwo kIx (eVar 2) (eC (.int 1))) (eC (.int 1))) aNil))) aNil)))) sNext) (sRet (eTwo kIx (eVar 2) (eC (.int 1)))))))))
def b_within (g_back_here : FF) (g_forth_here : FF) (g_within : FF) : SF := sSeq (sIf (cOf (eTwo kEq (eVar 1) (eTup aNil))) (sSeq (sIf (cOf (eVar 4)) (sRet (eCall g_back_here (aCons (eVar 0) (aCons (eVar 2) (aCons (eVar 3) aNil))))) sNext) (sRet (eCall g_forth_here (aCons (eVar 0) (aCons (eVar 2) (aCons (eVar 3) aNil)))))) sNext) (sSeq (sAsg 5 (eTwo kIx (eVar 0) (eTwo kAdd (eC (.int 1)) (eTwo kIx (eVar 1) (eC (.int 0)))))) (sSeq (sIf (cOf (eTwo kEq (eTwo kIx (eVar 0) (eC (.int 0))) (eC (.str "either")))) (sSeq (sIf (cOf (eTwo kNe (eTwo kIx (eVar 3) (eC (.int 0))) (eTwo kIx (eLst (aCons (eC (.str "left")) (aCons (eC (.str "right")) aNil))) (eTwo kIx (eVar 1) (eC (.int 0)))))) (sRetV 3) sNext) (sRet (eTup (aCons (eTwo kIx (eVar 3) (eC (.int 0))) (aCons (eCall g_within (aCons (eVar 5) (aCons (eSl (eVar 1) (oSome (eC (.int 1))) oNone) (aCons (eVar 2) (aCons (eTwo kIx (eVar 3) (eC (.int 1))) (aCons (eVar 4) aNil)))))) aNil))))) sNext) (sSeq (sIf (cOf (eTwo kEq (eTwo kIx (eVar 1) (eC (.int 0))) (eC (.int 0)))) (sRet (eTup (aCons (eCall g_within (aCons (eVar 5) (aCons (eSl (eVar 1) (oSome (eC (.int 1))) oNone) (aCons (eVar 2) (aCons (eTwo kIx (eVar 3) (eC (.int 0))) (aCons (eVar 4) aNil)))))) (aCons (eTwo kIx (eVar 3) (eC (.int 1))) aNil)))) sNext) (sRet (eTup (aCons (eTwo kIx (eVar 3) (eC (.int 0))) (aCons (eCall g_within (aCons (eVar 5) (aCons (eSl (eVar 1) (oSome (eC (.int 1))) oNone) (aCons (eVar 2) (aCons (eTwo kIx (eVar 3) (eC (.int 1))) (aCons (eVar 4) aNil)))))) aNil)))))))
def b_forth (g_turned : FF) (g_within : FF) : SF := sSeq (sDrop (eCall g_turned (aCons (eVar 0) (aCons (eVar 1) aNil)))) (sRet (eCall g_within (aCons (eVar 0) (aCons (eTwo kIx (eVar 1) (eC (.int 1))) (aCons (eTwo kIx (eVar 1) (eC (.int 0))) (aCons (eVar 2) (aCons (eC (.bl false)) aNil)))))))
def b_back (g_turned : FF) (g_within : FF) : SF := sSeq (sDrop (eCall g_turned (aCons (eVar 0) (aCons (eVar 1) aNil)))) (sRet (eCall g_within (aCons (eVar 0) (aCons (eTwo kIx (eVar 1) (eC (.int 1))) (aCons (eTwo kIx (eVar 1) (eC (.int 0))) (aCons (eVar 2) (aCons (eC (.bl true)) aNil)))))))
def b_law_refused_k06 (g_forth : FF) (g_back : FF) : SF := sSeq (sTry 4 ["NoTurning"] (fun _ => .ret (.dat (.bl true))) (sIf (cOf (eTwo kEq (eVar 3) (eC (.int 0)))) (sDrop (eCall g_forth (aCons (eVar 0) (aCons (eVar 1) (aCons (eVar 2) aNil))))) (sDrop (eCall g_back (aCons (eVar 0) (aCons (eVar 1) (aCons (eVar 2) aNil))))))) (sRet (eC (.bl false)))
def b_law_k06 (g_law_kind : FF) (g_law_cell : FF) (g_law_sizes : FF) (g_law_count : FF) (g_law_all_turnings : FF) (g_law_paths : FF) (g_law_thing : FF) (g_law_forth : FF) (g_law_same : FF) (g_forth : FF) (g_back : FF) (g_law_turned : FF) (g_law_refused : FF) : SF := sSeq (sAsg 1 (eCall g_law_kind (aCons (eCall g_law_cell (aCons (eVar 0) (aCons (eC (.int 0)) aNil))) (aCons (eTwo kAdd (eC (.int 1)) (eTwo kMod (eCall g_law_cell (aCons (eVar 0) (aCons (eC (.int 1)) aNil))) (eC (.int 8)))) (aCons (eC (.int 1)) aNil))))) (sSeq (sAsg 2 (eCB kTupOf (aCons (eComp (srcE (eCall g_law_sizes (aCons (eCall g_law_cell (aCons (eVar 0) (aCons (eC (.int 2)) aNil))) (aCons (eC (.int 4)) aNil)))) 11 cYes (eTwo kAdd (eVar 11) (eC (.int 1)))) aNil))) (sSeq (sAsg 3 (eCall g_law_count (aCons (eVar 1) (aCons (eVar 2) aNil)))) (sSeq (sIf (cOf (eTwo kEq (eVar 3) (eC (.int 0)))) (sRet (eC (.bl true))) sNext) (sSeq (sAsg 4 (eCall g_law_all_turnings (aCons (eVar 1) aNil))) (sSeq (sAsg 5 (eCall g_law_paths (aCons (eVar 1) aNil))) (sSeq (sForR1 (eC (.int 6)) (bName 6) (sSeq (sAsg 7 (eCall g_law_thing (aCons (eVar 1) (aCons (eVar 2) (aCons (eTwo kMod (eCall g_law_cell (aCons (eVar 0) (aCons (eTwo kAdd (eC (.int 3)) (eVar 6)) aNil))) (eVar 3)) aNil))))) (sSeq (sIf (cOf (eTwo kNe (eVar 4) (eLst aNil))) (sSeq (sAsgT (bPair 9 8) (eTwo kIx (eVar 4) (eTwo kMod (eCall g_law_cell (aCons (eVar 0) (aCons (eTwo kAdd (eC (.int 9)) (eVar 6)) aNil))) (eCB kLen (aCons (eVar 4) aNil))))) (sSeq (sAsg 10 (eCall g_law_forth (aCons (eVar 1) (aCons (eVar 9) (aCons (eVar 8) (aCons (eVar 7) aNil)))))) (sSeq (sIf (cNot (cOf (eCall g_law_same (aCons (eCall g_forth (aCons (eVar 1) (aCons (eTup (aCons (eVar 9) (aCons (eVar 8) aNil))) (aCons (eVar 7) aNil)))) (aCons (eVar 10) aNil))))) (sRet (eC (.bl false))) sNext) (sIf (cNot (cOf (eCall g_law_same (aCons (eCall g_back (aCons (eVar 1) (aCons (eTup (aCons (eVar 9) (aCons (eVar 8) aNil))) (aCons (eVar 10) aNil)))) (aCons (eVar 7) aNil))))) (sRet (eC (.bl false))) sNext)))) sNext) (sSeq (sAsg 8 (eTwo kIx (eVar 5) (eTwo kMod (eCall g_law_cell (aCons (eVar 0) (aCons (eTwo kAdd (eC (.int 15)) (eVar 6)) aNil))) (eCB kLen (aCons (eVar 5) aNil))))) (sSeq (sAsg 9 (eTwo kIx (eLst (aCons (eC (.str "swap")) (aCons (eC (.str "group")) (aCons (eC (.str "spread")) (aCons (eC (.str "drop")) aNil))))) (eTwo kMod (eTwo kFdiv (eCall g_law_cell (aCons (eVar 0) (aCons (eTwo kAdd (eC (.int 9)) (eVar 6)) aNil))) (eC (.int 64))) (eC (.int 4))))) (sIf (cOf (eTwo kIs (eCall g_law_turned (aCons (eVar 1) (aCons (eVar 9) (aCons (eVar 8) aNil)))) (eC .non))) (sIf (cNot (cOf (eCall g_law_refused (aCons (eVar 1) (aCons (eTup (aCons (eVar 9) (aCons (eVar 8) aNil))) (aCons (eVar 7) (aCons (eTwo kMod (eTwo kFdiv (eCall g_law_cell (aCons (eVar 0) (aCons (eTwo kAdd (eC (.int 15)) (eVar 6)) aNil))) (eC (.int 64))) (eC (.int 2))) aNil))))))) (sRet (eC (.bl false))) sNext) sNext)))))) (sRet (eC (.bl true)))))))))
def m_law_thingN : Nat → FF
  | 0 => fun _ => .no
  | n + 1 => run 5 3 (b_law_thing m_law_count (m_law_thingN n))
theorem m_law_thingN_eq (n : Nat) (a0 a1 a2 : DV) : m_law_thingN (n + 1) [a0, a1, a2] = fin (b_law_thing m_law_count (m_law_thingN n) [some a0, some a1, some a2, none, none]) := rfl
def m_law_thing : FF := m_law_thingN 40
def m_law_forth_here : FF := run 3 3 b_law_forth_here
theorem m_law_forth_here_eq (a0 a1 a2 : DV) : m_law_forth_here [a0, a1, a2] = fin (b_law_forth_here [some a0, some a1, some a2]) := rfl
def m_law_forthN : Nat → FF
  | 0 => fun _ => .no
  | n + 1 => run 5 4 (b_law_forth m_law_forth_here (m_law_forthN n))
theorem m_law_forthN_eq (n : Nat) (a0 a1 a2 a3 : DV) : m_law_forthN (n + 1) [a0, a1, a2, a3] = fin (b_law_forth m_law_forth_here (m_law_forthN n) [some a0, some a1, some a2, some a3, none]) := rfl
def m_law_forth : FF := m_law_forthN 40
def m_other_side : FF := run 1 1 b_other_side
theorem m_other_side_eq (a0 : DV) : m_other_side [a0] = fin (b_other_side [some a0]) := rfl
def m_forth_here : FF := run 3 3 (b_forth_here m_other_side)
theorem m_forth_here_eq (a0 a1 a2 : DV) : m_forth_here [a0, a1, a2] = fin (b_forth_here m_other_side [some a0, some a1, some a2]) := rfl
def m_back_here : FF := run 3 3 (b_back_here m_forth_here)
theorem m_back_here_eq (a0 a1 a2 : DV) : m_back_here [a0, a1, a2] = fin (b_back_here m_forth_here [some a0, some a1, some a2]) := rfl
def m_withinN : Nat → FF
  | 0 => fun _ => .no
  | n + 1 => run 6 5 (b_within m_back_here m_forth_here (m_withinN n))
theorem m_withinN_eq (n : Nat) (a0 a1 a2 a3 a4 : DV) : m_withinN (n + 1) [a0, a1, a2, a3, a4] = fin (b_within m_back_here m_forth_here (m_withinN n) [some a0, some a1, some a2, some a3, some a4, none]) := rfl
def m_within : FF := m_withinN 40
def m_forth : FF := run 3 3 (b_forth m_turned m_within)
theorem m_forth_eq (a0 a1 a2 : DV) : m_forth [a0, a1, a2] = fin (b_forth m_turned m_within [some a0, some a1, some a2]) := rfl
def m_back : FF := run 3 3 (b_back m_turned m_within)
theorem m_back_eq (a0 a1 a2 : DV) : m_back [a0, a1, a2] = fin (b_back m_turned m_within [some a0, some a1, some a2]) := rfl
def m_law_refused_k06 : FF := run 5 4 (b_law_refused_k06 m_forth m_back)
theorem m_law_refused_k06_eq (a0 a1 a2 a3 : DV) : m_law_refused_k06 [a0, a1, a2, a3] = fin (b_law_refused_k06 m_forth m_back [some a0, some a1, some a2, some a3, none]) := rfl
def m_law_k06 : FF := run 12 1 (b_law_k06 m_law_kind m_law_cell m_law_sizes m_law_count m_law_all_turnings m_law_paths m_law_thing m_law_forth m_law_same m_forth m_back m_law_turned m_law_refused_k06)
theorem m_law_k06_eq (a0 : DV) : m_law_k06 [a0] = fin (b_law_k06 m_law_kind m_law_cell m_law_sizes m_law_count m_law_all_turnings m_law_paths m_law_thing m_law_forth m_law_same m_forth m_back m_law_turned m_law_refused_k06 [some a0, none, none, none, none, none, none, none, none, none, none, none]) := rfl
def b_law_k07 (w : World) (g_law_kind : FF) (g_law_cell : FF) (g_law_sizes : FF) (g_law_count : FF) (g_law_things : FF) (g_turned : FF) (g_count : FF) (g_forth : FF) (g_back : FF) (g_law_all_turnings : FF) : SF := sSeq (sAsg 1 (eCall g_law_kind (aCons (eCall g_law_cell (aCons (eVar 0) (aCons (eC (.int 0)) aNil))) (aCons (eTwo kAdd (eC (.int 1)) (eTwo kMod (eCall g_law_cell (aCons (eVar 0) (aCons (eC (.int 1)) aNil))) (eC (.int 5)))) (aCons (eC (.int 1)) aNil))))) (sSeq (sAsg 2 (eCall g_law_sizes (aCons (eCall g_law_cell (aCons (eVar 0) (aCons (eC (.int 2)) aNil))) (aCons (eC (.int 3)) aNil)))) (sSeq (sIf (cOf (eTwo kGt (eCall g_law_count (aCons (eVar 1) (aCons (eVar 2) aNil))) (eC (.int 60)))) (sAsg 2 (eCall g_law_sizes (aCons (eCall g_law_cell (aCons (eVar 0) (aCons (eC (.int 2)) aNil))) (aCons (eC (.int 1)) aNil)))) sNext) (sSeq (sAsg 3 (eCall g_law_things (aCons (eVar 1) (aCons (eVar 2) aNil)))) (sSeq (sForE (eSl (eCall g_law_all_turnings (aCons (eVar 1) aNil)) oNone (oSome (eC (.int 6)))) (bName 4) (sSeq (sAsg 5 (eCall g_turned (aCons (eVar 1) (aCons (eVar 4) aNil)))) (sSeq (sAsg 6 (eCall g_law_things (aCons (eVar 5) (aCons (eVar 2) aNil)))) (sSeq (sIf (cOr (cOf (eTwo kNe (eCall g_count (aCons (eVar 5) (aCons (eVar 2) aNil))) (eCB kLen (aCons (eVar 3) aNil)))) (cOf (eTwo kNe (eCB kLen (aCons (eVar 6) aNil)) (eCB kLen (aCons (eVar 3) aNil))))) (sRet (eC (.bl false))) sNext) (sSeq (sNewM w 7) (sSeq (sForV 3 (bName 8) (sSeq (sAsg 9 (eCall g_forth (aCons (eVar 1) (aCons (eVar 4) (aCons (eVar 8) aNil))))) (sSeq (sIf (cOr (cInM w false 7 (eVar 9)) (cOf (eTwo kNe (eCall g_back (aCons (eVar 1) (aCons (eVar 4) (aCons (eVar 9) aNil)))) (eVar 8)))) (sRet (eC (.bl false))) sNext) (sPutM w 7 9)))) (sForV 6 (bName 8) (sSeq (sAsg 10 (eCall g_back (aCons (eVar 1) (aCons (eVar 4) (aCons (eVar 8) aNil))))) (sIf (cOr (cInM w true 7 (eVar 8)) (cOf (eTwo kNe (eCall g_forth (aCons (eVar 1) (aCons (eVar 4) (aCons (eVar 10) aNil)))) (eVar 8)))) (sRet (eC (.bl false))) sNext))))))))) (sRet (eC (.bl true)))))))
def m_law_k07 (w : World) : FF := run 11 1 (b_law_k07 w m_law_kind m_law_cell m_law_sizes m_law_count m_law_things m_turned m_count m_forth m_back m_law_all_turnings)
theorem m_law_k07_eq (w : World) (a0 : DV) : m_law_k07 w [a0] = fin (b_law_k07 w m_law_kind m_law_cell m_law_sizes m_law_count m_law_things m_turned m_count m_forth m_back m_law_all_turnings [some a0, none, none, none, none, none, none, none, none, none, none]) := rfl
def b_law_bundles (g_law_bundles : FF) : SF := sSeq (sIf (cOf (eTwo kEq (eCB kLen (aCons (eVar 0) aNil)) (eC (.int 1)))) (sRet (eTwo kMulL (eLst (aCons (eTup aNil) aNil)) (eCB kInt (aCons (eTwo kEq (eTwo kIx (eVar 0) (eC (.int 0))) (eC (.str "one"))) aNil)))) sNext) (sSeq (sIf (cOf (eTwo kEq (eCB kLen (aCons (eVar 0) aNil)) (eC (.int 2)))) (sRet (eLst (aCons (eTup (aCons (eTwo kIx (eVar 0) (eC (.int 1))) aNil)) aNil))) sNext) (sSeq (sAsg 1 (eCall g_law_bundles (aCons (eTwo kIx (eVar 0) (eC (.int 1))) aNil))) (sSeq (sAsg 2 (eCall g_law_bundles (aCons (eTwo kIx (eVar 0) (eC (.int 2))) aNil))) (sSeq (sIf (cOf (eTwo kEq (eTwo kIx (eVar 0) (eC (.int 0))) (eC (.str "either")))) (sRet (eCB kSorted (aCons (eTwo kAdd (eVar 1) (eVar 2)) aNil))) sNext) (sSeq (sAsg 3 (eLst aNil)) (sSeq (sForV 1 (bName 4) (sForV 2 (bName 5) (sApp 3 (eCB kTupOf (aCons (eCB kSorted (aCons (eTwo kAdd (eVar 4) (eVar 5)) aNil)) aNil))))) (sRet (eCB kSorted (aCons (eVar 3) aNil)))))))))
def b_bundles (g_bundles : FF) : SF := sSeq (sIf (cOf (eTwo kEq (eTwo kIx (eVar 0) (eC (.int 0))) (eC (.str "none")))) (sRet (eLst aNil)) sNext) (sSeq (sIf (cOf (eTwo kEq (eTwo kIx (eVar 0) (eC (.int 0))) (eC (.str "one")))) (sRet (eLst (aCons (eTup aNil) aNil))) sNext) (sSeq (sIf (cOf (eTwo kEq (eTwo kIx (eVar 0) (eC (.int 0))) (eC (.str "name")))) (sRet (eLst (aCons (eTup (aCons (eTwo kIx (eVar 0) (eC (.int 1))) aNil)) aNil))) sNext) (sSeq (sAsg 1 (eCall g_bundles (aCons (eTwo kIx (eVar 0) (eC (.int 1))) aNil))) (sSeq (sAsg 2 (eCall g_bundles (aCons (eTwo kIx (eVar 0) (eC (.int 2))) aNil))) (sSeq (sIf (cOf (eTwo kEq (eTwo kIx (eVar 0) (eC (.int 0))) (eC (.str "either")))) (sRet (eCB kSorted (aCons (eTwo kAdd (eVar 1) (eVar 2)) aNil))) sNext) (sSeq (sAsg 3 (eLst aNil)) (sSeq (sForV 1 (bName 4) (sExt 3 (eComp (srcE (eVar 2)) 5 cYes (eCB kTupOf (aCons (eCB kSorted (aCons (eTwo kAdd (eVar 4) (eVar 5)) aNil)) aNil))))) (sRet (eCB kSorted (aCons (eVar 3) aNil))))))))))
def b_law_k08 (g_law_kind : FF) (g_law_cell : FF) (g_law_bundles : FF) (g_bundles : FF) (g_law_whole_thing : FF) (g_count : FF) : SF := sSeq (sAsg 1 (eCall g_law_kind (aCons (eCall g_law_cell (aCons (eVar 0) (aCons (eC (.int 0)) aNil))) (aCons (eTwo kAdd (eC (.int 1)) (eTwo kMod (eCall g_law_cell (aCons (eVar 0) (aCons (eC (.int 1)) aNil))) (eC (.int 8)))) (aCons (eC (.int 1)) aNil))))) (sSeq (sAsg 2 (eCall g_law_bundles (aCons (eVar 1) aNil))) (sSeq (sForR1 (eC (.int 2)) (bName 3) (sSeq (sAsg 4 (eCall g_bundles (aCons (eVar 1) aNil))) (sSeq (sIf (cOr (cNot (cOf (eOne (kIsi "list") (eVar 4)))) (cOr (cNot (cOf (eCB kAll (aCons (eComp (srcE (eVar 4)) 5 cYes (eCall g_law_whole_thing (aCons (eVar 5) aNil))) aNil)))) (cOf (eTwo kNe (eVar 4) (eVar 2))))) (sRet (eC (.bl false))) sNext) (sApp 4 (eTup (aCons (eC (.int 0)) aNil)))))) (sRet (eTwo kEq (eCall g_count (aCons (eVar 1) (aCons (eTup (aCons (eC (.int 1)) (aCons (eC (.int 1)) (aCons (eC (.int 1)) (aCons (eC (.int 1)) aNil))))) aNil))) (eCB kLen (aCons (eVar 2) aNil))))))
def m_law_bundlesN : Nat → FF
  | 0 => fun _ => .no
  | n + 1 => run 6 1 (b_law_bundles (m_law_bundlesN n))
theorem m_law_bundlesN_eq (n : Nat) (a0 : DV) : m_law_bundlesN (n + 1) [a0] = fin (b_law_bundles (m_law_bundlesN n) [some a0, none, none, none, none, none]) := rfl
def m_law_bundles : FF := m_law_bundlesN 40
def m_bundlesN : Nat → FF
  | 0 => fun _ => .no
  | n + 1 => run 6 1 (b_bundles (m_bundlesN n))
theorem m_bundlesN_eq (n : Nat) (a0 : DV) : m_bundlesN (n + 1) [a0] = fin (b_bundles (m_bundlesN n) [some a0, none, none, none, none, none]) := rfl
def m_bundles : FF := m_bundlesN 40
def m_law_k08 : FF := run 6 1 (b_law_k08 m_law_kind m_law_cell m_law_bundles m_bundles m_law_whole_thing m_count)
theorem m_law_k08_eq (a0 : DV) : m_law_k08 [a0] = fin (b_law_k08 m_law_kind m_law_cell m_law_bundles m_bundles m_law_whole_thing m_count [some a0, none, none, none, none, none]) := rfl
def b_plain_bundle (g_plain_bundle : FF) : SF := sSeq (sIf (cOf (eTwo kEq (eVar 0) (eTup aNil))) (sRet (eTup (aCons (eC (.str "one")) aNil))) sNext) (sSeq (sIf (cOf (eTwo kEq (eCB kLen (aCons (eVar 0) aNil)) (eC (.int 1)))) (sRet (eTup (aCons (eC (.str "name")) (aCons (eTwo kIx (eVar 0) (eC (.int 0))) aNil)))) sNext) (sRet (eTup (aCons (eC (.str "both")) (aCons (eTup (aCons (eC (.str "name")) (aCons (eTwo kIx (eVar 0) (eC (.int 0))) aNil))) (aCons (eCall g_plain_bundle (aCons (eSl (eVar 0) (oSome (eC (.int 1))) oNone) aNil)) aNil))))))
def b_plain_of (g_plain_bundle : FF) (g_plain_of : FF) : SF := sSeq (sIf (cOf (eTwo kEq (eCB kLen (aCons (eVar 0) aNil)) (eC (.int 0)))) (sRet (eTup (aCons (eC (.str "none")) aNil))) sNext) (sSeq (sIf (cOf (eTwo kEq (eCB kLen (aCons (eVar 0) aNil)) (eC (.int 1)))) (sRet (eCall g_plain_bundle (aCons (eTwo kIx (eVar 0) (eC (.int 0))) aNil))) sNext) (sRet (eTup (aCons (eC (.str "either")) (aCons (eCall g_plain_bundle (aCons (eTwo kIx (eVar 0) (eC (.int 0))) aNil)) (aCons (eCall g_plain_of (aCons (eSl (eVar 0) (oSome (eC (.int 1))) oNone) aNil)) aNil))))))
def b_law_plain : SF := sSeq (sAsg 1 (eLst aNil)) (sSeq (sForV 0 (bName 2) (sSeq (sAsg 4 (eTup (aCons (eC (.str "one")) aNil))) (sSeq (sForEnE (eLstRev (eVar 2)) (bPair 5 6) (sAsg 4 (eIf (cOf (eTwo kEq (eVar 5) (eC (.int 0)))) (eTup (aCons (eC (.str "name")) (aCons (eVar 6) aNil))) (eTup (aCons (eC (.str "both")) (aCons (eTup (aCons (eC (.str "name")) (aCons (eVar 6) aNil))) (aCons (eVar 4) aNil))))))) (sApp 1 (eVar 4))))) (sSeq (sAsg 3 (eTup (aCons (eC (.str "none")) aNil))) (sSeq (sForEnE (eLstRev (eVar 1)) (bPair 5 4) (sAsg 3 (eIf (cOf (eTwo kEq (eVar 5) (eC (.int 0)))) (eVar 4) (eTup (aCons (eC (.str "either")) (aCons (eVar 4) (aCons (eVar 3) aNil))))))) (sRetV 3))))
def b_law_k09 (g_law_cell : FF) (g_law_draw : FF) (g_plain_of : FF) (g_law_same : FF) (g_law_plain : FF) (g_bundles : FF) (g_law_bundles : FF) : SF := sSeq (sAsg 1 (eLst aNil)) (sSeq (sForR1 (eTwo kMod (eCall g_law_cell (aCons (eVar 0) (aCons (eC (.int 0)) aNil))) (eC (.int 10))) (bName 2) (sSeq (sAsg 5 (eCall g_law_cell (aCons (eVar 0) (aCons (eTwo kAdd (eC (.int 1)) (eVar 2)) aNil)))) (sSeq (sAsg 6 (eCall g_law_draw (aCons (eVar 5) (aCons (eC (.int 0)) (aCons (eC (.int 6)) aNil))))) (sSeq (sApp 1 (eCB kTupOf (aCons (eCB kSorted (aCons (eComp (srcR1 (eVar 6)) 7 cYes (eCall g_law_draw (aCons (eVar 5) (aCons (eTwo kAdd (eC (.int 1)) (eVar 7)) (aCons (eC (.int 4)) aNil))))) aNil)) aNil))) (sIf (cOf (eTwo kEq (eTwo kMod (eCall g_law_cell (aCons (eVar 0) (aCons (eTwo kAdd (eC (.int 10)) (eVar 2)) aNil))) (eC (.int 5))) (eC (.int 1)))) (sApp 1 (eTwo kIx (eVar 1) (eC (.int 0)))) sNext))))) (sSeq (sAsg 1 (eSl (eVar 1) oNone (oSome (eC (.int 9))))) (sSeq (sIf (cOf (eTwo kEq (eTwo kMod (eTwo kFdiv (eCall g_law_cell (aCons (eVar 0) (aCons (eC (.int 0)) aNil))) (eC (.int 10))) (eC (.int 2))) (eC (.int 1)))) (sAsg 1 (eCB kSorted (aCons (eVar 1) aNil))) sNext) (sSeq (sAsg 3 (eCB kLstOf (aCons (eVar 1) aNil))) (sSeq (sAsg 4 (eCall g_plain_of (aCons (eVar 3) aNil))) (sSeq (sIf (cOr (cNot (cOf (eOne (kIsi "tuple") (eVar 4)))) (cOr (cNot (cOf (eCall g_law_same (aCons (eVar 4) (aCons (eCall g_law_plain (aCons (eVar 1) aNil)) aNil))))) (cOf (eTwo kNe (eVar 3) (eVar 1))))) (sRet (eC (.bl false))) sNext) (sRet (eAnd (eTwo kEq (eCall g_bundles (aCons (eVar 4) aNil)) (eCB kSorted (aCons (eVar 1) aNil))) (eTwo kEq (eCall g_law_bundles (aCons (eVar 4) aNil)) (eCB kSorted (aCons (eVar 1) aNil)))))))))))
def m_plain_bundleN : Nat → FF
  | 0 => fun _ => .no
  | n + 1 => run 1 1 (b_plain_bundle (m_plain_bundleN n))
theorem m_plain_bundleN_eq (n : Nat) (a0 : DV) : m_plain_bundleN (n + 1) [a0] = fin (b_plain_bundle (m_plain_bundleN n) [some a0]) := rfl
def m_plain_bundle : FF := m_plain_bundleN 40
def m_plain_ofN : Nat → FF
  | 0 => fun _ => .no
  | n + 1 => run 1 1 (b_plain_of m_plain_bundle (m_plain_ofN n))
theorem m_plain_ofN_eq (n : Nat) (a0 : DV) : m_plain_ofN (n + 1) [a0] = fin (b_plain_of m_plain_bundle (m_plain_ofN n) [some a0]) := rfl
def m_plain_of : FF := m_plain_ofN 40
def m_law_plain : FF := run 7 1 b_law_plain
theorem m_law_plain_eq (a0 : DV) : m_law_plain [a0] = fin (b_law_plain [some a0, none, none, none, none, none, none]) := rfl
def m_law_k09 : FF := run 8 1 (b_law_k09 m_law_cell m_law_draw m_plain_of m_law_same m_law_plain m_bundles m_law_bundles)
theorem m_law_k09_eq (a0 : DV) : m_law_k09 [a0] = fin (b_law_k09 m_law_cell m_law_draw m_plain_of m_law_same m_law_plain m_bundles m_law_bundles [some a0, none, none, none, none, none, none, none]) := rfl
def b_Path_turn (g_turned_here : FF) : SF := sSeq (sAppRow (eTup (aCons (eVar 3) (aCons (eVar 2) aNil)))) (sRet (eCall g_turned_here (aCons (eVar 1) (aCons (eVar 3) aNil))))
def b_Path_sift (g_bundles : FF) (g_Path_turn : FX) (g_Path_sift : FX) : SF := sSeq (sAsg 3 (eCall g_bundles (aCons (eTwo kIx (eVar 1) (eC (.int 1))) aNil))) (sSeq (sIf (cOf (eTwo kNe (eTwo kIx (eTwo kIx (eVar 1) (eC (.int 2))) (eC (.int 0))) (eTwo kIx (eVar 1) (eC (.int 0))))) (sSeq (sIf (cOf (eTwo kGtL (eVar 3) (eCall g_bundles (aCons (eTwo kIx (eVar 1) (eC (.int 2))) aNil)))) (xRet (xMeth g_Path_turn (xCons (xP (eVar 1)) (xCons (xP (eVar 2)) (xCons (xP (eC (.str "swap"))) xNil))))) sNext) (sRetV 1)) sNext) (sSeq (sIf (cOf (eTwo kLeL (eVar 3) (eCall g_bundles (aCons (eTwo kIx (eTwo kIx (eVar 1) (eC (.int 2))) (eC (.int 1))) aNil)))) (sRetV 1) sNext) (sSeq (xAsg 1 (xMeth g_Path_turn (xCons (xMeth g_Path_turn (xCons (xP (eVar 1)) (xCons (xP (eVar 2)) (xCons (xP (eC (.str "swap"))) xNil)))) (xCons (xP (eVar 2)) (xCons (xP (eC (.str "group"))) xNil))))) (sSeq (xAsg 4 (xMeth g_Path_turn (xCons (xP (eTwo kIx (eVar 1) (eC (.int 2)))) (xCons (xP (eTwo kAdd (eVar 2) (eTup (aCons (eC (.int 1)) aNil)))) (xCons (xP (eC (.str "swap"))) xNil))))) (xRet (xTup (xCons (xP (eTwo kIx (eVar 1) (eC (.int 0)))) (xCons (xP (eTwo kIx (eVar 1) (eC (.int 1)))) (xCons (xMeth g_Path_sift (xCons (xP (eVar 4)) (xCons (xP (eTwo kAdd (eVar 2) (eTup (aCons (eC (.int 1)) aNil)))) xNil))) xNil)))))))))
def b_Path_merge (g_Path_turn : FX) (g_Path_merge : FX) (g_Path_sift : FX) : SF := sSeq (sIf (cOf (eTwo kEq (eTwo kIx (eTwo kIx (eVar 1) (eC (.int 1))) (eC (.int 0))) (eVar 3))) (xRet (xMeth g_Path_turn (xCons (xP (eVar 1)) (xCons (xP (eVar 2)) (xCons (xP (eC (.str "drop"))) xNil))))) sNext) (sSeq (sIf (cOf (eTwo kEq (eTwo kIx (eTwo kIx (eVar 1) (eC (.int 2))) (eC (.int 0))) (eVar 3))) (xRet (xMeth g_Path_turn (xCons (xMeth g_Path_turn (xCons (xP (eVar 1)) (xCons (xP (eVar 2)) (xCons (xP (eC (.str "swap"))) xNil)))) (xCons (xP (eVar 2)) (xCons (xP (eC (.str "drop"))) xNil))))) sNext) (sSeq (sIf (cOf (eTwo kEq (eTwo kIx (eTwo kIx (eVar 1) (eC (.int 1))) (eC (.int 0))) (eTwo kIx (eVar 1) (eC (.int 0))))) (sSeq (xAsg 1 (xMeth g_Path_turn (xCons (xP (eVar 1)) (xCons (xP (eVar 2)) (xCons (xP (eC (.str "group"))) xNil))))) (xAsg 1 (xTup (xCons (xP (eTwo kIx (eVar 1) (eC (.int 0)))) (xCons (xP (eTwo kIx (eVar 1) (eC (.int 1)))) (xCons (xMeth g_Path_merge (xCons (xP (eTwo kIx (eVar 1) (eC (.int 2)))) (xCons (xP (eTwo kAdd (eVar 2) (eTup (aCons (eC (.int 1)) aNil)))) (xCons (xP (eVar 3)) xNil)))) xNil)))))) sNext) (xRet (xMeth g_Path_sift (xCons (xP (eVar 1)) (xCons (xP (eVar 2)) xNil))))))
def b_Path_share (g_Path_turn : FX) (g_Path_times : FX) (g_Path_merge : FX) : SF := sSeq (xAsg 1 (xMeth g_Path_turn (xCons (xP (eVar 1)) (xCons (xP (eVar 2)) (xCons (xP (eC (.str "spread"))) xNil))))) (sSeq (xAsg 3 (xMeth g_Path_times (xCons (xP (eTwo kIx (eVar 1) (eC (.int 1)))) (xCons (xP (eTwo kAdd (eVar 2) (eTup (aCons (eC (.int 0)) aNil)))) xNil)))) (sSeq (xAsg 4 (xMeth g_Path_times (xCons (xP (eTwo kIx (eVar 1) (eC (.int 2)))) (xCons (xP (eTwo kAdd (eVar 2) (eTup (aCons (eC (.int 1)) aNil)))) xNil)))) (xRet (xMeth g_Path_merge (xCons (xP (eTup (aCons (eC (.str "either")) (aCons (eVar 3) (aCons (eVar 4) aNil))))) (xCons (xP (eVar 2)) (xCons (xP (eC (.str "none"))) xNil)))))))
def b_Path_times (g_Path_turn : FX) (g_Path_share : FX) (g_Path_merge : FX) : SF := sSeq (sIf (cOf (eTwo kEq (eTwo kIx (eTwo kIx (eVar 1) (eC (.int 1))) (eC (.int 0))) (eC (.str "none")))) (xRet (xMeth g_Path_turn (xCons (xP (eVar 1)) (xCons (xP (eVar 2)) (xCons (xP (eC (.str "drop"))) xNil))))) sNext) (sSeq (sIf (cOf (eTwo kEq (eTwo kIx (eTwo kIx (eVar 1) (eC (.int 2))) (eC (.int 0))) (eC (.str "none")))) (xRet (xMeth g_Path_turn (xCons (xMeth g_Path_turn (xCons (xP (eVar 1)) (xCons (xP (eVar 2)) (xCons (xP (eC (.str "swap"))) xNil)))) (xCons (xP (eVar 2)) (xCons (xP (eC (.str "drop"))) xNil))))) sNext) (sSeq (sIf (cOf (eTwo kEq (eTwo kIx (eTwo kIx (eVar 1) (eC (.int 2))) (eC (.int 0))) (eC (.str "either")))) (xRet (xMeth g_Path_share (xCons (xP (eVar 1)) (xCons (xP (eVar 2)) xNil)))) sNext) (sSeq (sIf (cOf (eTwo kEq (eTwo kIx (eTwo kIx (eVar 1) (eC (.int 1))) (eC (.int 0))) (eC (.str "either")))) (xRet (xMeth g_Path_share (xCons (xMeth g_Path_turn (xCons (xP (eVar 1)) (xCons (xP (eVar 2)) (xCons (xP (eC (.str "swap"))) xNil)))) (xCons (xP (eVar 2)) xNil)))) sNext) (xRet (xMeth g_Path_merge (xCons (xP (eVar 1)) (xCons (xP (eVar 2)) (xCons (xP (eC (.str "one"))) xNil))))))))
def b_Path_plainer (g_Path_plainer : FX) (g_Path_merge : FX) (g_Path_times : FX) : SF := sSeq (sIf (cAnd (cOf (eTwo kNe (eTwo kIx (eVar 1) (eC (.int 0))) (eC (.str "either")))) (cOf (eTwo kNe (eTwo kIx (eVar 1) (eC (.int 0))) (eC (.str "both"))))) (sRetV 1) sNext) (sSeq (xAsg 3 (xMeth g_Path_plainer (xCons (xP (eTwo kIx (eVar 1) (eC (.int 1)))) (xCons (xP (eTwo kAdd (eVar 2) (eTup (aCons (eC (.int 0)) aNil)))) xNil)))) (sSeq (xAsg 4 (xMeth g_Path_plainer (xCons (xP (eTwo kIx (eVar 1) (eC (.int 2)))) (xCons (xP (eTwo kAdd (eVar 2) (eTup (aCons (eC (.int 1)) aNil)))) xNil)))) (sSeq (sIf (cOf (eTwo kEq (eTwo kIx (eVar 1) (eC (.int 0))) (eC (.str "either")))) (xRet (xMeth g_Path_merge (xCons (xP (eTup (aCons (eC (.str "either")) (aCons (eVar 3) (aCons (eVar 4) aNil))))) (xCons (xP (eVar 2)) (xCons (xP (eC (.str "none"))) xNil))))) sNext) (xRet (xMeth g_Path_times (xCons (xP (eTup (aCons (eC (.str "both")) (aCons (eVar 3) (aCons (eVar 4) aNil))))) (xCons (xP (eVar 2)) xNil)))))))
def b_row_to_plain (g_Path_plainer : FX) : SF := sRtp g_Path_plainer
def b_law_gone_k10 (g_law_whole_thing : FF) (g_law_here : FF) (g_law_put : FF) : SF := sSeq (sIf (cNot (cOf (eOne (kIsi "list") (eVar 1)))) (sRet (eC .non)) sNext) (sSeq (sForV 1 (bName 2) (sSeq (sIf (cOr (cNot (cOf (eOne (kIsi "tuple") (eVar 2)))) (cOr (cOf (eTwo kNe (eCB kLen (aCons (eVar 2) aNil)) (eC (.int 2)))) (cNot (cOf (eOne (kIsi "tuple") (eTwo kIx (eVar 2) (eC (.int 1)))))))) (sRet (eC .non)) sNext) (sSeq (sIf (cNot (cOf (eCall g_law_whole_thing (aCons (eVar 2) aNil)))) (sRet (eC .non)) sNext) (sSeq (sAsg 3 (eVar 0)) (sSeq (sForE (eTwo kIx (eVar 2) (eC (.int 1))) (bName 4) (sSeq (sIf (cOr (cOf (eTwo kNotIn (eVar 4) (eTup (aCons (eC (.int 0)) (aCons (eC (.int 1)) aNil))))) (cOf (eTwo kLt (eCB kLen (aCons (eVar 3) aNil)) (eC (.int 3))))) (sRet (eC .non)) sNext) (sAsg 3 (eTwo kIx (eVar 3) (eTwo kAdd (eC (.int 1)) (eVar 4)))))) (sSeq (sAsg 5 (eCall g_law_here (aCons (eVar 3) (aCons (eTwo kIx (eVar 2) (eC (.int 0))) aNil)))) (sSeq (sIf (cOf (eTwo kIs (eVar 5) (eC .non))) (sRet (eC .non)) sNext) (sAsg 0 (eCall g_law_put (aCons (eVar 0) (aCons (eTwo kIx (eVar 2) (eC (.int 1))) (aCons (eVar 5) aNil)))))))))))) (sRetV 0))
def b_law_k10 (g_law_kind : FF) (g_law_cell : FF) (g_law_plain : FF) (g_law_bundles : FF) (g_row_to_plain : FF) (g_law_gone : FF) : SF := sSeq (sAsg 1 (eCall g_law_kind (aCons (eCall g_law_cell (aCons (eVar 0) (aCons (eC (.int 0)) aNil))) (aCons (eTwo kAdd (eC (.int 1)) (eTwo kMod (eCall g_law_cell (aCons (eVar 0) (aCons (eC (.int 1)) aNil))) (eC (.int 7)))) (aCons (eC (.int 1)) aNil))))) (sSeq (sAsg 2 (eCall g_law_plain (aCons (eCall g_law_bundles (aCons (eVar 1) aNil)) aNil))) (sSeq (sForR1 (eC (.int 2)) (bName 3) (sSeq (sAsg 4 (eCall g_row_to_plain (aCons (eVar 1) aNil))) (sSeq (sIf (cOf (eTwo kNe (eCall g_law_gone (aCons (eVar 1) (aCons (eVar 4) aNil))) (eVar 2))) (sRet (eC (.bl false))) sNext) (sApp 4 (eTup (aCons (eC (.str "drop")) (aCons (eTup (aCons (eC (.int 0)) aNil)) aNil))))))) (sRet (eTwo kEq (eCall g_law_gone (aCons (eVar 2) (aCons (eCall g_row_to_plain (aCons (eVar 2) aNil)) aNil))) (eVar 2)))))
def m_Path_turn : FX := runX 4 4 true (b_Path_turn m_turned_here)
theorem m_Path_turn_eq (row : List D) (a1 a2 a3 : D) : m_Path_turn row [a1, a2, a3] = finX (b_Path_turn m_turned_here [some (.obj row), some (.dat a1), some (.dat a2), some (.dat a3)]) := rfl
def m_Path_siftN : Nat → FX
  | 0 => fun _ _ => .no
  | n + 1 => runX 5 3 true (b_Path_sift m_bundles m_Path_turn (m_Path_siftN n))
theorem m_Path_siftN_eq (n : Nat) (row : List D) (a1 a2 : D) : m_Path_siftN (n + 1) row [a1, a2] = finX (b_Path_sift m_bundles m_Path_turn (m_Path_siftN n) [some (.obj row), some (.dat a1), some (.dat a2), none, none]) := rfl
def m_Path_sift : FX := m_Path_siftN 40
def m_Path_mergeN : Nat → FX
  | 0 => fun _ _ => .no
  | n + 1 => runX 4 4 true (b_Path_merge m_Path_turn (m_Path_mergeN n) m_Path_sift)
theorem m_Path_mergeN_eq (n : Nat) (row : List D) (a1 a2 a3 : D) : m_Path_mergeN (n + 1) row [a1, a2, a3] = finX (b_Path_merge m_Path_turn (m_Path_mergeN n) m_Path_sift [some (.obj row), some (.dat a1), some (.dat a2), some (.dat a3)]) := rfl
def m_Path_merge : FX := m_Path_mergeN 40
mutual
def m_Path_shareN : Nat → FX
  | 0 => fun _ _ => .no
  | n + 1 => runX 5 3 true (b_Path_share m_Path_turn (m_Path_timesN n) m_Path_merge)
def m_Path_timesN : Nat → FX
  | 0 => fun _ _ => .no
  | n + 1 => runX 3 3 true (b_Path_times m_Path_turn (m_Path_shareN n) m_Path_merge)
end
theorem m_Path_shareN_eq (n : Nat) (row : List D) (a1 a2 : D) : m_Path_shareN (n + 1) row [a1, a2] = finX (b_Path_share m_Path_turn (m_Path_timesN n) m_Path_merge [some (.obj row), some (.dat a1), some (.dat a2), none, none]) := rfl
def m_Path_share : FX := m_Path_shareN 40
theorem m_Path_timesN_eq (n : Nat) (row : List D) (a1 a2 : D) : m_Path_timesN (n + 1) row [a1, a2] = finX (b_Path_times m_Path_turn (m_Path_shareN n) m_Path_merge [some (.obj row), some (.dat a1), some (.dat a2)]) := rfl
def m_Path_times : FX := m_Path_timesN 40
def m_Path_plainerN : Nat → FX
  | 0 => fun _ _ => .no
  | n + 1 => runX 5 3 true (b_Path_plainer (m_Path_plainerN n) m_Path_merge m_Path_times)
theorem m_Path_plainerN_eq (n : Nat) (row : List D) (a1 a2 : D) : m_Path_plainerN (n + 1) row [a1, a2] = finX (b_Path_plainer (m_Path_plainerN n) m_Path_merge m_Path_times [some (.obj row), some (.dat a1), some (.dat a2), none, none]) := rfl
def m_Path_plainer : FX := m_Path_plainerN 40
def m_row_to_plain : FF := run 2 1 (b_row_to_plain m_Path_plainer)
theorem m_row_to_plain_eq (a0 : DV) : m_row_to_plain [a0] = fin (b_row_to_plain m_Path_plainer [some a0, none]) := rfl
def m_law_gone_k10 : FF := run 6 2 (b_law_gone_k10 m_law_whole_thing m_law_here m_law_put)
theorem m_law_gone_k10_eq (a0 a1 : DV) : m_law_gone_k10 [a0, a1] = fin (b_law_gone_k10 m_law_whole_thing m_law_here m_law_put [some a0, some a1, none, none, none, none]) := rfl
def m_law_k10 : FF := run 5 1 (b_law_k10 m_law_kind m_law_cell m_law_plain m_law_bundles m_row_to_plain m_law_gone_k10)
theorem m_law_k10_eq (a0 : DV) : m_law_k10 [a0] = fin (b_law_k10 m_law_kind m_law_cell m_law_plain m_law_bundles m_row_to_plain m_law_gone_k10 [some a0, none, none, none, none]) := rfl
def b_kinds_along (g_turned : FF) : SF := sSeq (sAsg 2 (eLst (aCons (eVar 0) aNil))) (sSeq (sForV 1 (bName 3) (sApp 2 (eCall g_turned (aCons (eTwo kIx (eVar 2) (eOne kNeg (eC (.int 1)))) (aCons (eVar 3) aNil))))) (sRetV 2))
def b_gone (g_kinds_along : FF) : SF := sRet (eTwo kIx (eCall g_kinds_along (aCons (eVar 0) (aCons (eVar 1) aNil))) (eOne kNeg (eC (.int 1))))
def b_carried (g_within : FF) (g_kinds_along : FF) : SF := sSeq (sForZip (eCall g_kinds_along (aCons (eVar 0) (aCons (eVar 1) aNil))) 1 (bPair 3 4) (sAsg 2 (eCall g_within (aCons (eVar 3) (aCons (eTwo kIx (eVar 4) (eC (.int 1))) (aCons (eTwo kIx (eVar 4) (eC (.int 0))) (aCons (eVar 2) (aCons (eC (.bl false)) aNil)))))))) (sRetV 2)
def b_brought (g_kinds_along : FF) (g_within : FF) : SF := sSeq (sAsg 3 (eCall g_kinds_along (aCons (eVar 0) (aCons (eVar 1) aNil)))) (sSeq (sForDown (eTwo kSub (eCB kLen (aCons (eVar 1) aNil)) (eC (.int 1))) (eOne kNeg (eC (.int 1))) (eOne kNeg (eC (.int 1))) (bName 4) (sAsg 2 (eCall g_within (aCons (eTwo kIx (eVar 3) (eVar 4)) (aCons (eTwo kIx (eTwo kIx (eVar 1) (eVar 4)) (eC (.int 1))) (aCons (eTwo kIx (eTwo kIx (eVar 1) (eVar 4)) (eC (.int 0))) (aCons (eVar 2) (aCons (eC (.bl true)) aNil)))))))) (sRetV 2))
def b_law_refused_k11 (g_gone : FF) (g_carried : FF) (g_brought : FF) : SF := sSeq (sTry 4 ["NoTurning"] (fun _ => .ret (.dat (.bl true))) (sIf (cOf (eTwo kEq (eVar 0) (eC (.int 0)))) (sDrop (eCall g_gone (aCons (eVar 1) (aCons (eVar 2) aNil)))) (sIf (cOf (eTwo kEq (eVar 0) (eC (.int 1)))) (sDrop (eCall g_carried (aCons (eVar 1) (aCons (eVar 2) (aCons (eVar 3) aNil))))) (sDrop (eCall g_brought (aCons (eVar 1) (aCons (eVar 2) (aCons (eVar 3) aNil)))))))) (sRet (eC (.bl false)))
def b_law_k11 (g_law_kind : FF) (g_law_cell : FF) (g_law_sizes : FF) (g_law_count : FF) (g_law_thing : FF) (g_law_all_turnings : FF) (g_law_forth : FF) (g_law_turned : FF) (g_law_same : FF) (g_gone : FF) (g_carried : FF) (g_brought : FF) (g_law_refused : FF) : SF := sSeq (sAsg 1 (eCall g_law_kind (aCons (eCall g_law_cell (aCons (eVar 0) (aCons (eC (.int 0)) aNil))) (aCons (eTwo kAdd (eC (.int 1)) (eTwo kMod (eCall g_law_cell (aCons (eVar 0) (aCons (eC (.int 1)) aNil))) (eC (.int 7)))) (aCons (eC (.int 1)) aNil))))) (sSeq (sAsg 2 (eCB kTupOf (aCons (eComp (srcE (eCall g_law_sizes (aCons (eCall g_law_cell (aCons (eVar 0) (aCons (eC (.int 2)) aNil))) (aCons (eC (.int 4)) aNil)))) 13 cYes (eTwo kAdd (eVar 13) (eC (.int 1)))) aNil))) (sSeq (sAsg 3 (eCall g_law_count (aCons (eVar 1) (aCons (eVar 2) aNil)))) (sSeq (sAsg 4 (eTup aNil)) (sSeq (sIf (cOf (eTwo kGt (eVar 3) (eC (.int 0)))) (sAsg 4 (eCall g_law_thing (aCons (eVar 1) (aCons (eVar 2) (aCons (eTwo kMod (eCall g_law_cell (aCons (eVar 0) (aCons (eC (.int 3)) aNil))) (eVar 3)) aNil))))) sNext) (sSeq (sAsg 5 (eVar 4)) (sSeq (sAsg 6 (eLst (aCons (eVar 1) aNil))) (sSeq (sAsg 7 (eLst aNil)) (sSeq (sForR1 (eTwo kMod (eCall g_law_cell (aCons (eVar 0) (aCons (eC (.int 4)) aNil))) (eC (.int 11))) (bName 8) (sSeq (sAsg 10 (eCall g_law_all_turnings (aCons (eTwo kIx (eVar 6) (eOne kNeg (eC (.int 1)))) aNil))) (sIf (cOf (eTwo kNe (eVar 10) (eLst aNil))) (sSeq (sApp 7 (eTwo kIx (eVar 10) (eTwo kMod (eCall g_law_cell (aCons (eVar 0) (aCons (eTwo kAdd (eC (.int 6)) (eVar 8)) aNil))) (eCB kLen (aCons (eVar 10) aNil))))) (sSeq (sIf (cOf (eTwo kGt (eVar 3) (eC (.int 0)))) (sAsg 4 (eCall g_law_forth (aCons (eTwo kIx (eVar 6) (eOne kNeg (eC (.int 1)))) (aCons (eTwo kIx (eTwo kIx (eVar 7) (eOne kNeg (eC (.int 1)))) (eC (.int 0))) (aCons (eTwo kIx (eTwo kIx (eVar 7) (eOne kNeg (eC (.int 1)))) (eC (.int 1))) (aCons (eVar 4) aNil)))))) sNext) (sApp 6 (eCall g_law_turned (aCons (eTwo kIx (eVar 6) (eOne kNeg (eC (.int 1)))) (aCons (eTwo kIx (eTwo kIx (eVar 7) (eOne kNeg (eC (.int 1)))) (eC (.int 0))) (aCons (eTwo kIx (eTwo kIx (eVar 7) (eOne kNeg (eC (.int 1)))) (eC (.int 1))) aNil))))))) sNext))) (sSeq (sAsg 9 (eCB kLstOf (aCons (eVar 7) aNil))) (sSeq (sIf (cNot (cOf (eCall g_law_same (aCons (eCall g_gone (aCons (eVar 1) (aCons (eVar 9) aNil))) (aCons (eTwo kIx (eVar 6) (eOne kNeg (eC (.int 1)))) aNil))))) (sRet (eC (.bl false))) sNext) (sSeq (sIf (cOf (eTwo kGt (eVar 3) (eC (.int 0)))) (sSeq (sIf (cNot (cOf (eCall g_law_same (aCons (eCall g_carried (aCons (eVar 1) (aCons (eVar 9) (aCons (eVar 5) aNil)))) (aCons (eVar 4) aNil))))) (sRet (eC (.bl false))) sNext) (sIf (cNot (cOf (eCall g_law_same (aCons (eCall g_brought (aCons (eVar 1) (aCons (eVar 9) (aCons (eVar 4) aNil)))) (aCons (eVar 5) aNil))))) (sRet (eC (.bl false))) sNext)) sNext) (sSeq (sIf (cOf (eTwo kNe (eVar 9) (eVar 7))) (sRet (eC (.bl false))) sNext) (sSeq (sIf (cAnd (cOf (eTwo kEq (eTwo kMod (eCall g_law_cell (aCons (eVar 0) (aCons (eC (.int 5)) aNil))) (eC (.int 4))) (eC (.int 1)))) (cOf (eTwo kGt (eVar 3) (eC (.int 0))))) (sSeq (sAsg 11 (eTwo kMod (eTwo kFdiv (eCall g_law_cell (aCons (eVar 0) (aCons (eC (.int 5)) aNil))) (eC (.int 4))) (eTwo kAdd (eCB kLen (aCons (eVar 7) aNil)) (eC (.int 1))))) (sSeq (sAsg 10 (eLst (aCons (eTup (aCons (eC (.str "spread")) (aCons (eCB kTupOf (aCons (eTwo kMulL (eLst (aCons (eC (.int 0)) aNil)) (eC (.int 40))) aNil)) aNil))) (aCons (eTup (aCons (eC (.str "turn")) (aCons (eTup aNil) aNil))) (aCons (eTup (aCons (eC (.str "swap")) (aCons (eTup (aCons (eC (.int 2)) aNil)) aNil))) aNil))))) (sSeq (sAsg 12 (eTwo kIx (eVar 10) (eTwo kMod (eTwo kFdiv (eCall g_law_cell (aCons (eVar 0) (aCons (eC (.int 5)) aNil))) (eC (.int 64))) (eC (.int 3))))) (sRet (eCall g_law_refused (aCons (eTwo kMod (eTwo kFdiv (eCall g_law_cell (aCons (eVar 0) (aCons (eC (.int 5)) aNil))) (eC (.int 256))) (eC (.int 3))) (aCons (eVar 1) (aCons (eTwo kAdd (eTwo kAdd (eSl (eVar 7) oNone (oSome (eVar 11))) (eLst (aCons (eVar 12) aNil))) (eSl (eVar 7) (oSome (eVar 11)) oNone)) (aCons (eVar 5) aNil))))))))) sNext) (sRet (eC (.bl true))))))))))))))))
def m_kinds_along : FF := run 4 2 (b_kinds_along m_turned)
theorem m_kinds_along_eq (a0 a1 : DV) : m_kinds_along [a0, a1] = fin (b_kinds_along m_turned [some a0, some a1, none, none]) := rfl
def m_gone : FF := run 2 2 (b_gone m_kinds_along)
theorem m_gone_eq (a0 a1 : DV) : m_gone [a0, a1] = fin (b_gone m_kinds_along [some a0, some a1]) := rfl
def m_carried : FF := run 5 3 (b_carried m_within m_kinds_along)
theorem m_carried_eq (a0 a1 a2 : DV) : m_carried [a0, a1, a2] = fin (b_carried m_within m_kinds_along [some a0, some a1, some a2, none, none]) := rfl
def m_brought : FF := run 5 3 (b_brought m_kinds_along m_within)
theorem m_brought_eq (a0 a1 a2 : DV) : m_brought [a0, a1, a2] = fin (b_brought m_kinds_along m_within [some a0, some a1, some a2, none, none]) := rfl
def m_law_refused_k11 : FF := run 5 4 (b_law_refused_k11 m_gone m_carried m_brought)
theorem m_law_refused_k11_eq (a0 a1 a2 a3 : DV) : m_law_refused_k11 [a0, a1, a2, a3] = fin (b_law_refused_k11 m_gone m_carried m_brought [some a0, some a1, some a2, some a3, none]) := rfl
def m_law_k11 : FF := run 14 1 (b_law_k11 m_law_kind m_law_cell m_law_sizes m_law_count m_law_thing m_law_all_turnings m_law_forth m_law_turned m_law_same m_gone m_carried m_brought m_law_refused_k11)
theorem m_law_k11_eq (a0 : DV) : m_law_k11 [a0] = fin (b_law_k11 m_law_kind m_law_cell m_law_sizes m_law_count m_law_thing m_law_all_turnings m_law_forth m_law_turned m_law_same m_gone m_carried m_brought m_law_refused_k11 [some a0, none, none, none, none, none, none, none, none, none, none, none, none, none]) := rfl
def b_law_other (g_law_all_turnings : FF) (g_law_paths : FF) (g_law_cell : FF) (g_law_turned : FF) : SF := sSeq (sForR1 (eTwo kMod (eCall g_law_cell (aCons (eVar 0) (aCons (eVar 1) aNil))) (eC (.int 9))) (bName 3) (sSeq (sAsg 4 (eCall g_law_all_turnings (aCons (eVar 2) aNil))) (sIf (cAnd (cOf (eTwo kNe (eVar 4) (eLst aNil))) (cOf (eTwo kLt (eCB kLen (aCons (eCall g_law_paths (aCons (eVar 2) aNil)) aNil)) (eC (.int 14))))) (sSeq (sAsgT (bPair 5 6) (eTwo kIx (eVar 4) (eTwo kMod (eCall g_law_cell (aCons (eVar 0) (aCons (eTwo kAdd (eTwo kAdd (eVar 1) (eC (.int 1))) (eVar 3)) aNil))) (eCB kLen (aCons (eVar 4) aNil))))) (sAsg 2 (eCall g_law_turned (aCons (eVar 2) (aCons (eVar 5) (aCons (eVar 6) aNil)))))) sNext))) (sRetV 2)
def b_law_leafed (g_law_draw : FF) (g_law_leafed : FF) : SF := sSeq (sIf (cOf (eTwo kLt (eCB kLen (aCons (eVar 0) aNil)) (eC (.int 3)))) (sSeq (sIf (cOf (eTwo kEq (eCall g_law_draw (aCons (eVar 1) (aCons (eVar 2) (aCons (eC (.int 6)) aNil)))) (eC (.int 0)))) (sRet (eTwo kIx (eLst (aCons (eTup (aCons (eC (.str "one")) aNil)) (aCons (eTup (aCons (eC (.str "name")) (aCons (eCall g_law_draw (aCons (eVar 1) (aCons (eTwo kAdd (eVar 2) (eC (.int 1))) (aCons (eC (.int 4)) aNil)))) aNil))) aNil))) (eCall g_law_draw (aCons (eVar 1) (aCons (eTwo kAdd (eVar 2) (eC (.int 2))) (aCons (eC (.int 2)) aNil)))))) sNext) (sRetV 0)) sNext) (sRet (eTup (aCons (eTwo kIx (eVar 0) (eC (.int 0))) (aCons (eCall g_law_leafed (aCons (eTwo kIx (eVar 0) (eC (.int 1))) (aCons (eVar 1) (aCons (eTwo kMul (eC (.int 2)) (eVar 2)) aNil)))) (aCons (eCall g_law_leafed (aCons (eTwo kIx (eVar 0) (eC (.int 2))) (aCons (eVar 1) (aCons (eTwo kAdd (eTwo kMul (eC (.int 2)) (eVar 2)) (eC (.int 1))) aNil)))) aNil)))))
def b_law_some : SF := sSeq (sAsg 2 (eVar 0)) (sSeq (sForR1 (eTwo kSub (eVar 1) (eC (.int 1))) (bName 3) (sAsg 2 (eTup (aCons (eC (.str "either")) (aCons (eVar 0) (aCons (eVar 2) aNil)))))) (sRetV 2))
def b_law_far (g_law_some : FF) : SF := sSeq (sAsg 1 (eTup (aCons (eC (.str "both")) (aCons (eVar 0) (aCons (eVar 0) aNil))))) (sSeq (sAsg 2 (eTup (aCons (eC (.str "both")) (aCons (eVar 1) (aCons (eTup (aCons (eC (.str "either")) (aCons (eVar 1) (aCons (eCall g_law_some (aCons (eTup (aCons (eC (.str "one")) aNil)) (aCons (eC (.int 11)) aNil))) aNil)))) aNil))))) (sRet (eTup (aCons (eVar 2) (aCons (eTup (aCons (eC (.str "both")) (aCons (eCall g_law_some (aCons (eVar 0) (aCons (eC (.int 6)) aNil))) (aCons (eTup (aCons (eC (.str "either")) (aCons (eVar 1) (aCons (eTup (aCons (eC (.str "one")) aNil)) aNil)))) aNil)))) aNil)))))
def b_put_in : SF := sSeq (sNewD 3) (sSeq (sForD 0 (bName 4) (sSeq (sAsg 5 (eCB kTupOf (aCons (eComp (srcE (eVar 4)) 7 (cOf (eTwo kNe (eVar 7) (eVar 1))) (eVar 7)) aNil))) (sSeq (sAsg 6 (eDGet 0 (eVar 4))) (sSeq (sForV 4 (bName 7) (sIf (cOf (eTwo kEq (eVar 7) (eVar 1))) (sAsg 6 (eTwo kMul (eVar 6) (eVar 2))) sNext)) (sPutD 3 (eVar 5) (eTwo kAdd (eDGet2 3 (eVar 5) (eC (.int 0))) (eVar 6))))))) (sRetV 3))
def b_all_even : SF := sSeq (sForD 0 (bName 1) (sIf (cOf (eTwo kNe (eDGet 0 (eVar 1)) (eC (.int 0)))) (sRet (eC (.bl false))) sNext)) (sRet (eC (.bl true)))
def b_sizes_for (g_all_even : FF) (g_put_in : FF) : SF := sSeq (sAsg 1 (eLst aNil)) (sSeq (sForR1 (eC (.int 4)) (bName 2) (sSeq (sAsg 3 (eC (.int 0))) (sSeq (sWhile (cAnd (cOf (eTwo kLt (eVar 3) (eC (.int 20)))) (cOf (eCall g_all_even (aCons (eCall g_put_in (aCons (eVar 0) (aCons (eVar 2) (aCons (eVar 3) aNil)))) aNil)))) (sAsg 3 (eTwo kAdd (eVar 3) (eC (.int 1))))) (sSeq (sAsg 0 (eCall g_put_in (aCons (eVar 0) (aCons (eVar 2) (aCons (eVar 3) aNil))))) (sApp 1 (eVar 3)))))) (sRet (eCB kTupOf (aCons (eVar 1) aNil))))
def b_judged (g_bundles : FF) (g_row_to_plain : FF) (g_sizes_for : FF) : SF := sSeq (sAsg 2 (eCall g_bundles (aCons (eVar 0) aNil))) (sSeq (sAsg 3 (eCall g_bundles (aCons (eVar 1) aNil))) (sSeq (sIf (cOf (eTwo kEq (eVar 2) (eVar 3))) (sRet (eMkTwo "same" (eCall g_row_to_plain (aCons (eVar 0) aNil)) (eCall g_row_to_plain (aCons (eVar 1) aNil)))) sNext) (sSeq (sNewD 4) (sSeq (sForV 2 (bName 5) (sPutD 4 (eVar 5) (eTwo kAdd (eDGet2 4 (eVar 5) (eC (.int 0))) (eC (.int 1))))) (sSeq (sForV 3 (bName 5) (sPutD 4 (eVar 5) (eTwo kSub (eDGet2 4 (eVar 5) (eC (.int 0))) (eC (.int 1))))) (sRet (eTup (aCons (eC (.str "unlike")) (aCons (eCall g_sizes_for (aCons (eVar 4) aNil)) aNil)))))))))
def b_law_gone_k12 (g_law_here : FF) (g_law_put : FF) : SF := sSeq (sIf (cNot (cOf (eOne (kIsi "list") (eVar 1)))) (sRet (eC .non)) sNext) (sSeq (sForV 1 (bName 2) (sSeq (sIf (cOr (cNot (cOf (eOne (kIsi "tuple") (eVar 2)))) (cOr (cOf (eTwo kNe (eCB kLen (aCons (eVar 2) aNil)) (eC (.int 2)))) (cNot (cOf (eOne (kIsi "tuple") (eTwo kIx (eVar 2) (eC (.int 1)))))))) (sRet (eC .non)) sNext) (sSeq (sAsg 3 (eVar 0)) (sSeq (sForE (eTwo kIx (eVar 2) (eC (.int 1))) (bName 4) (sSeq (sIf (cOr (cOf (eTwo kNotIn (eVar 4) (eTup (aCons (eC (.int 0)) (aCons (eC (.int 1)) aNil))))) (cOf (eTwo kLt (eCB kLen (aCons (eVar 3) aNil)) (eC (.int 3))))) (sRet (eC .non)) sNext) (sAsg 3 (eTwo kIx (eVar 3) (eTwo kAdd (eC (.int 1)) (eVar 4)))))) (sSeq (sAsg 5 (eCall g_law_here (aCons (eVar 3) (aCons (eTwo kIx (eVar 2) (eC (.int 0))) aNil)))) (sSeq (sIf (cOf (eTwo kIs (eVar 5) (eC .non))) (sRet (eC .non)) sNext) (sAsg 0 (eCall g_law_put (aCons (eVar 0) (aCons (eTwo kIx (eVar 2) (eC (.int 1))) (aCons (eVar 5) aNil))))))))))) (sRetV 0))
def m_law_other : FF := run 7 3 (b_law_other m_law_all_turnings m_law_paths m_law_cell m_law_turned)
theorem m_law_other_eq (a0 a1 a2 : DV) : m_law_other [a0, a1, a2] = fin (b_law_other m_law_all_turnings m_law_paths m_law_cell m_law_turned [some a0, some a1, some a2, none, none, none, none]) := rfl
def m_law_leafedN : Nat → FF
  | 0 => fun _ => .no
  | n + 1 => run 3 3 (b_law_leafed m_law_draw (m_law_leafedN n))
theorem m_law_leafedN_eq (n : Nat) (a0 a1 a2 : DV) : m_law_leafedN (n + 1) [a0, a1, a2] = fin (b_law_leafed m_law_draw (m_law_leafedN n) [some a0, some a1, some a2]) := rfl
def m_law_leafed : FF := m_law_leafedN 40
def m_law_some : FF := run 4 2 b_law_some
theorem m_law_some_eq (a0 a1 : DV) : m_law_some [a0, a1] = fin (b_law_some [some a0, some a1, none, none]) := rfl
def m_law_far : FF := run 3 1 (b_law_far m_law_some)
theorem m_law_far_eq (a0 : DV) : m_law_far [a0] = fin (b_law_far m_law_some [some a0, none, none]) := rfl
def m_put_in : FF := run 8 3 b_put_in
theorem m_put_in_eq (a0 a1 a2 : DV) : m_put_in [a0, a1, a2] = fin (b_put_in [some a0, some a1, some a2, none, none, none, none, none]) := rfl
def m_all_even : FF := run 2 1 b_all_even
theorem m_all_even_eq (a0 : DV) : m_all_even [a0] = fin (b_all_even [some a0, none]) := rfl
def m_sizes_for : FF := run 4 1 (b_sizes_for m_all_even m_put_in)
theorem m_sizes_for_eq (a0 : DV) : m_sizes_for [a0] = fin (b_sizes_for m_all_even m_put_in [some a0, none, none, none]) := rfl
def m_judged : FF := run 6 2 (b_judged m_bundles m_row_to_plain m_sizes_for)
theorem m_judged_eq (a0 a1 : DV) : m_judged [a0, a1] = fin (b_judged m_bundles m_row_to_plain m_sizes_for [some a0, some a1, none, none, none, none]) := rfl
def m_law_gone_k12 : FF := run 6 2 (b_law_gone_k12 m_law_here m_law_put)
theorem m_law_gone_k12_eq (a0 a1 : DV) : m_law_gone_k12 [a0, a1] = fin (b_law_gone_k12 m_law_here m_law_put [some a0, some a1, none, none, none, none]) := rfl
def b_sent (g_bundles : FF) (g_brought : FF) (g_carried : FF) (g_row_to_plain : FF) : SF := sSeq (sIf (cOf (eTwo kNe (eCall g_bundles (aCons (eVar 0) aNil)) (eCall g_bundles (aCons (eVar 1) aNil)))) (sRaise "Unlike") sNext) (sRet (eCall g_brought (aCons (eVar 1) (aCons (eCall g_row_to_plain (aCons (eVar 1) aNil)) (aCons (eCall g_carried (aCons (eVar 0) (aCons (eCall g_row_to_plain (aCons (eVar 0) aNil)) (aCons (eVar 2) aNil)))) aNil)))))
def b_law_refused_k13 (g_sent : FF) : SF := sSeq (sTry 3 ["NoTurning", "Unlike"] (fun c => if c == "NoTurning" then .ret (.dat (.bl false)) else if c == "Unlike" then .ret (.dat (.bl true)) else .ret (.dat (.bl true))) (sDrop (eCall g_sent (aCons (eVar 0) (aCons (eVar 1) (aCons (eVar 2) aNil)))))) (sRet (eC (.bl false)))
def b_law_k13 (w : World) (g_law_kind : FF) (g_law_cell : FF) (g_law_other : FF) (g_law_leafed : FF) (g_law_sizes : FF) (g_law_count : FF) (g_law_things : FF) (g_law_bundles : FF) (g_law_refused : FF) (g_sent : FF) : SF := sSeq (sAsg 1 (eCall g_law_kind (aCons (eCall g_law_cell (aCons (eVar 0) (aCons (eC (.int 0)) aNil))) (aCons (eTwo kAdd (eC (.int 1)) (eTwo kMod (eCall g_law_cell (aCons (eVar 0) (aCons (eC (.int 1)) aNil))) (eC (.int 4)))) (aCons (eC (.int 1)) aNil))))) (sSeq (sAsg 2 (eCall g_law_other (aCons (eVar 0) (aCons (eC (.int 2)) (aCons (eVar 1) aNil))))) (sSeq (sIf (cOf (eTwo kEq (eTwo kMod (eTwo kFdiv (eCall g_law_cell (aCons (eVar 0) (aCons (eC (.int 1)) aNil))) (eC (.int 4))) (eC (.int 3))) (eC (.int 1)))) (sAsg 2 (eCall g_law_leafed (aCons (eVar 2) (aCons (eCall g_law_cell (aCons (eVar 0) (aCons (eC (.int 12)) aNil))) (aCons (eC (.int 1)) aNil))))) sNext) (sSeq (sAsg 3 (eCall g_law_sizes (aCons (eCall g_law_cell (aCons (eVar 0) (aCons (eC (.int 13)) aNil))) (aCons (eC (.int 3)) aNil)))) (sSeq (sIf (cOf (eTwo kGt (eCall g_law_count (aCons (eVar 1) (aCons (eVar 3) aNil))) (eC (.int 10)))) (sAsg 3 (eCall g_law_sizes (aCons (eCall g_law_cell (aCons (eVar 0) (aCons (eC (.int 13)) aNil))) (aCons (eC (.int 1)) aNil)))) sNext) (sSeq (sAsg 4 (eSl (eCall g_law_things (aCons (eVar 1) (aCons (eVar 3) aNil))) oNone (oSome (eC (.int 10))))) (sSeq (sIf (cOf (eTwo kNe (eCall g_law_bundles (aCons (eVar 1) aNil)) (eCall g_law_bundles (aCons (eVar 2) aNil)))) (sRet (eOr (eTwo kEq (eVar 4) (eLst aNil)) (eCall g_law_refused (aCons (eVar 1) (aCons (eVar 2) (aCons (eTwo kIx (eVar 4) (eC (.int 0))) aNil)))))) sNext) (sSeq (sAsg 5 (eCall g_law_things (aCons (eVar 2) (aCons (eVar 3) aNil)))) (sSeq (sNewM w 6) (sSeq (sForV 4 (bName 7) (sSeq (sAsg 8 (eCall g_sent (aCons (eVar 1) (aCons (eVar 2) (aCons (eVar 7) aNil))))) (sSeq (sIf (cOr (cOf (eTwo kNotIn (eVar 8) (eVar 5))) (cOr (cInM w false 6 (eVar 8)) (cOf (eTwo kNe (eCall g_sent (aCons (eVar 2) (aCons (eVar 1) (aCons (eVar 8) aNil)))) (eVar 7))))) (sRet (eC (.bl false))) sNext) (sPutM w 6 8)))) (sRet (eOr (eTwo kEq (eCB kLen (aCons (eVar 4) aNil)) (eC (.int 10))) (eTwo kEq (eLenM w 6) (eCB kLen (aCons (eVar 5) aNil))))))))))))))
def m_sent : FF := run 3 3 (b_sent m_bundles m_brought m_carried m_row_to_plain)
theorem m_sent_eq (a0 a1 a2 : DV) : m_sent [a0, a1, a2] = fin (b_sent m_bundles m_brought m_carried m_row_to_plain [some a0, some a1, some a2]) := rfl
def m_law_refused_k13 : FF := run 4 3 (b_law_refused_k13 m_sent)
theorem m_law_refused_k13_eq (a0 a1 a2 : DV) : m_law_refused_k13 [a0, a1, a2] = fin (b_law_refused_k13 m_sent [some a0, some a1, some a2, none]) := rfl
def m_law_k13 (w : World) : FF := run 9 1 (b_law_k13 w m_law_kind m_law_cell m_law_other m_law_leafed m_law_sizes m_law_count m_law_things m_law_bundles m_law_refused_k13 m_sent)
theorem m_law_k13_eq (w : World) (a0 : DV) : m_law_k13 w [a0] = fin (b_law_k13 w m_law_kind m_law_cell m_law_other m_law_leafed m_law_sizes m_law_count m_law_things m_law_bundles m_law_refused_k13 m_sent [some a0, none, none, none, none, none, none, none, none]) := rfl
def b_law_k14 (g_law_kind : FF) (g_law_cell : FF) (g_law_other : FF) (g_law_leafed : FF) (g_judged : FF) (g_law_bundles : FF) : SF := sSeq (sAsg 1 (eCall g_law_kind (aCons (eCall g_law_cell (aCons (eVar 0) (aCons (eC (.int 0)) aNil))) (aCons (eTwo kAdd (eC (.int 1)) (eTwo kMod (eCall g_law_cell (aCons (eVar 0) (aCons (eC (.int 1)) aNil))) (eC (.int 4)))) (aCons (eC (.int 1)) aNil))))) (sSeq (sAsg 2 (eCall g_law_other (aCons (eVar 0) (aCons (eC (.int 2)) (aCons (eVar 1) aNil))))) (sSeq (sIf (cOf (eTwo kGt (eTwo kMod (eTwo kFdiv (eCall g_law_cell (aCons (eVar 0) (aCons (eC (.int 1)) aNil))) (eC (.int 4))) (eC (.int 3))) (eC (.int 0)))) (sAsg 2 (eCall g_law_leafed (aCons (eVar 2) (aCons (eCall g_law_cell (aCons (eVar 0) (aCons (eC (.int 12)) aNil))) (aCons (eC (.int 1)) aNil))))) sNext) (sSeq (sAsg 3 (eCall g_law_kind (aCons (eCall g_law_cell (aCons (eVar 0) (aCons (eC (.int 13)) aNil))) (aCons (eTwo kAdd (eC (.int 1)) (eTwo kMod (eCall g_law_cell (aCons (eVar 0) (aCons (eC (.int 14)) aNil))) (eC (.int 2)))) (aCons (eC (.int 1)) aNil))))) (sSeq (sAsg 4 (eTwo kIxT (eCall g_judged (aCons (eVar 1) (aCons (eVar 2) aNil))) (eC (.int 0)))) (sSeq (sIf (cOf (eTwo kNe (eTwo kIxT (eCall g_judged (aCons (eTup (aCons (eC (.str "either")) (aCons (eVar 1) (aCons (eVar 3) aNil)))) (aCons (eTup (aCons (eC (.str "either")) (aCons (eVar 3) (aCons (eVar 2) aNil)))) aNil))) (eC (.int 0))) (eVar 4))) (sRet (eC (.bl false))) sNext) (sSeq (sIf (cAnd (cOf (eTwo kNe (eCall g_law_bundles (aCons (eVar 3) aNil)) (eLst aNil))) (cOf (eTwo kNe (eTwo kIxT (eCall g_judged (aCons (eTup (aCons (eC (.str "both")) (aCons (eVar 3) (aCons (eVar 1) aNil)))) (aCons (eTup (aCons (eC (.str "both")) (aCons (eVar 2) (aCons (eVar 3) aNil)))) aNil))) (eC (.int 0))) (eVar 4)))) (sRet (eC (.bl false))) sNext) (sSeq (sIf (cOf (eTwo kNe (eTwo kIxT (eCall g_judged (aCons (eVar 1) (aCons (eVar 1) aNil))) (eC (.int 0))) (eC (.str "same")))) (sRet (eC (.bl false))) sNext) (sRet (eTwo kEq (eTwo kIxT (eCall g_judged (aCons (eTup (aCons (eC (.str "either")) (aCons (eVar 1) (aCons (eVar 2) aNil)))) (aCons (eTup (aCons (eC (.str "either")) (aCons (eVar 2) (aCons (eVar 1) aNil)))) aNil))) (eC (.int 0))) (eC (.str "same")))))))))))
def m_law_k14 : FF := run 5 1 (b_law_k14 m_law_kind m_law_cell m_law_other m_law_leafed m_judged m_law_bundles)
theorem m_law_k14_eq (a0 : DV) : m_law_k14 [a0] = fin (b_law_k14 m_law_kind m_law_cell m_law_other m_law_leafed m_judged m_law_bundles [some a0, none, none, none, none]) := rfl
def b_law_text (g_law_text : FF) : SF := sSeq (sIf (cOf (eTwo kLt (eCB kLen (aCons (eVar 0) aNil)) (eC (.int 3)))) (sRet (eDget "none" (.str "0") "one" (.str "1") (eTwo kIx (eVar 0) (eC (.int 0))) (eTwo kIx (eC (.str "abcd")) (eIf (cOf (eTwo kEq (eCB kLen (aCons (eVar 0) aNil)) (eC (.int 2)))) (eTwo kIx (eVar 0) (eOne kNeg (eC (.int 1)))) (eC (.int 0)))))) sNext) (sRet (eTwo kAdd (eTwo kAdd (eTwo kAdd (eTwo kAdd (eC (.str "(")) (eCall g_law_text (aCons (eTwo kIx (eVar 0) (eC (.int 1))) aNil))) (eDix "either" (.str "+") "both" (.str "*") (eTwo kIx (eVar 0) (eC (.int 0))))) (eCall g_law_text (aCons (eTwo kIx (eVar 0) (eC (.int 2))) aNil))) (eC (.str ")"))))
def b_written (g_written : FF) : SF := sSeq (sIf (cOf (eTwo kEq (eTwo kIx (eVar 0) (eC (.int 0))) (eC (.str "none")))) (sRet (eC (.str "0"))) sNext) (sSeq (sIf (cOf (eTwo kEq (eTwo kIx (eVar 0) (eC (.int 0))) (eC (.str "one")))) (sRet (eC (.str "1"))) sNext) (sSeq (sIf (cOf (eTwo kEq (eTwo kIx (eVar 0) (eC (.int 0))) (eC (.str "name")))) (sRet (eTwo kIx (eC (.str "abcd")) (eTwo kIx (eVar 0) (eC (.int 1))))) sNext) (sSeq (sAsg 1 (eC (.str "*"))) (sSeq (sIf (cOf (eTwo kEq (eTwo kIx (eVar 0) (eC (.int 0))) (eC (.str "either")))) (sAsg 1 (eC (.str "+"))) sNext) (sRet (eTwo kAdd (eTwo kAdd (eTwo kAdd (eTwo kAdd (eC (.str "(")) (eCall g_written (aCons (eTwo kIx (eVar 0) (eC (.int 1))) aNil))) (eVar 1)) (eCall g_written (aCons (eTwo kIx (eVar 0) (eC (.int 2))) aNil))) (eC (.str ")"))))))))
def b_closed : SF := sSeq (sIf (cOr (cOf (eTwo kLt (eCB kLen (aCons (eVar 0) aNil)) (eC (.int 4)))) (cOr (cOf (eTwo kNe (eTwo kIx (eVar 0) (eOne kNeg (eC (.int 4)))) (eC (.str "(")))) (cOf (eTwo kNotIn (eTwo kIx (eVar 0) (eOne kNeg (eC (.int 2)))) (eTup (aCons (eC (.str "+")) (aCons (eC (.str "*")) aNil))))))) (sRaise "NotRead") sNext) (sSeq (sIf (cOr (cNot (cOf (eOne (kIsi "tuple") (eTwo kIx (eVar 0) (eOne kNeg (eC (.int 3))))))) (cNot (cOf (eOne (kIsi "tuple") (eTwo kIx (eVar 0) (eOne kNeg (eC (.int 1)))))))) (sRaise "NotRead") sNext) (sSeq (sAsg 1 (eC (.str "both"))) (sSeq (sIf (cOf (eTwo kEq (eTwo kIx (eVar 0) (eOne kNeg (eC (.int 2)))) (eC (.str "+")))) (sAsg 1 (eC (.str "either"))) sNext) (sSeq (sAsg 2 (eTup (aCons (eVar 1) (aCons (eTwo kIx (eVar 0) (eOne kNeg (eC (.int 3)))) (aCons (eTwo kIx (eVar 0) (eOne kNeg (eC (.int 1)))) aNil))))) (sSeq (sForR1 (eC (.int 4)) (bName 3) (sPop 0)) (sApp 0 (eVar 2)))))))
def b_leaf : SF := sSeq (sIf (cOf (eTwo kEq (eVar 0) (eC (.str "0")))) (sRet (eTup (aCons (eC (.str "none")) aNil))) sNext) (sSeq (sIf (cOf (eTwo kEq (eVar 0) (eC (.str "1")))) (sRet (eTup (aCons (eC (.str "one")) aNil))) sNext) (sSeq (sIf (cOf (eTwo kNotIn (eVar 0) (eC (.str "abcd")))) (sRaise "NotRead") sNext) (sRet (eTup (aCons (eC (.str "name")) (aCons (eSIdx (eC (.str "abcd")) (eVar 0)) aNil))))))
def b_read (g_closed : FX) (g_leaf : FF) : SF := sSeq (sAsg 1 (eLst aNil)) (sSeq (sForT (eVar 0) (bName 2) (sIf (cOf (eTwo kIn (eVar 2) (eTup (aCons (eC (.str "(")) (aCons (eC (.str "+")) (aCons (eC (.str "*")) aNil)))))) (sApp 1 (eVar 2)) (sIf (cOf (eTwo kEq (eVar 2) (eC (.str ")")))) (sCallX 1 g_closed) (sApp 1 (eCall g_leaf (aCons (eVar 2) aNil)))))) (sSeq (sIf (cOr (cOf (eTwo kNe (eCB kLen (aCons (eVar 1) aNil)) (eC (.int 1)))) (cNot (cOf (eOne (kIsi "tuple") (eTwo kIx (eVar 1) (eC (.int 0))))))) (sRaise "NotRead") sNext) (sRet (eTwo kIx (eVar 1) (eC (.int 0))))))
def b_law_k15 (g_law_kind : FF) (g_law_cell : FF) (g_law_text : FF) (g_written : FF) (g_read : FF) (g_law_same : FF) : SF := sSeq (sAsg 1 (eCall g_law_kind (aCons (eCall g_law_cell (aCons (eVar 0) (aCons (eC (.int 0)) aNil))) (aCons (eTwo kAdd (eC (.int 1)) (eTwo kMod (eCall g_law_cell (aCons (eVar 0) (aCons (eC (.int 1)) aNil))) (eC (.int 8)))) (aCons (eC (.int 1)) aNil))))) (sSeq (sAsg 2 (eCall g_law_text (aCons (eVar 1) aNil))) (sSeq (sAsg 3 (eCall g_written (aCons (eVar 1) aNil))) (sSeq (sIf (cOr (cNot (cOf (eOne (kIsi "str") (eVar 3)))) (cOf (eTwo kNe (eVar 3) (eVar 2)))) (sRet (eC (.bl false))) sNext) (sSeq (sAsg 4 (eCall g_read (aCons (eVar 2) aNil))) (sRet (eAnd (eOne (kIsi "tuple") (eVar 4)) (eCall g_law_same (aCons (eVar 4) (aCons (eVar 1) aNil)))))))))
def m_law_textN : Nat → FF
  | 0 => fun _ => .no
  | n + 1 => run 1 1 (b_law_text (m_law_textN n))
theorem m_law_textN_eq (n : Nat) (a0 : DV) : m_law_textN (n + 1) [a0] = fin (b_law_text (m_law_textN n) [some a0]) := rfl
def m_law_text : FF := m_law_textN 40
def m_writtenN : Nat → FF
  | 0 => fun _ => .no
  | n + 1 => run 2 1 (b_written (m_writtenN n))
theorem m_writtenN_eq (n : Nat) (a0 : DV) : m_writtenN (n + 1) [a0] = fin (b_written (m_writtenN n) [some a0, none]) := rfl
def m_written : FF := m_writtenN 40
def m_closed : FX := runX 4 1 false b_closed
theorem m_closed_eq (row : List D)  : m_closed row [] = finX (b_closed [some (.io row), none, none, none]) := rfl
def m_leaf : FF := run 1 1 b_leaf
theorem m_leaf_eq (a0 : DV) : m_leaf [a0] = fin (b_leaf [some a0]) := rfl
def m_read : FF := run 3 1 (b_read m_closed m_leaf)
theorem m_read_eq (a0 : DV) : m_read [a0] = fin (b_read m_closed m_leaf [some a0, none, none]) := rfl
def m_law_k15 : FF := run 5 1 (b_law_k15 m_law_kind m_law_cell m_law_text m_written m_read m_law_same)
theorem m_law_k15_eq (a0 : DV) : m_law_k15 [a0] = fin (b_law_k15 m_law_kind m_law_cell m_law_text m_written m_read m_law_same [some a0, none, none, none, none]) := rfl
def b_law_due (g_law_due : FF) : SF := sSeq (sIf (cOf (eTwo kEq (eCB kLen (aCons (eVar 0) aNil)) (eC (.int 1)))) (sSeq (sIf (cOf (eTwo kIn (eVar 0) (eTup (aCons (eC (.str "0")) (aCons (eC (.str "1")) aNil))))) (sRet (eTup (aCons (eDix "0" (.str "none") "1" (.str "one") (eVar 0)) aNil))) sNext) (sSeq (sIf (cOf (eTwo kIn (eVar 0) (eTup (aCons (eC (.str "a")) (aCons (eC (.str "b")) (aCons (eC (.str "c")) (aCons (eC (.str "d")) aNil))))))) (sRet (eTup (aCons (eC (.str "name")) (aCons (eSIdx (eC (.str "abcd")) (eVar 0)) aNil)))) sNext) (sRet (eC .non)))) sNext) (sSeq (sIf (cOr (cOf (eTwo kNe (eSl (eVar 0) oNone (oSome (eC (.int 1)))) (eC (.str "(")))) (cOf (eTwo kNe (eSl (eVar 0) (oSome (eOne kNeg (eC (.int 1)))) oNone) (eC (.str ")"))))) (sRet (eC .non)) sNext) (sSeq (sAsg 1 (eC (.int 0))) (sSeq (sForR2 (eC (.int 1)) (eTwo kSub (eCB kLen (aCons (eVar 0) aNil)) (eC (.int 1))) (bName 2) (sSeq (sIf (cOf (eTwo kEq (eTwo kIx (eVar 0) (eVar 2)) (eC (.str "(")))) (sAsg 1 (eTwo kAdd (eVar 1) (eC (.int 1)))) sNext) (sSeq (sIf (cOf (eTwo kEq (eTwo kIx (eVar 0) (eVar 2)) (eC (.str ")")))) (sAsg 1 (eTwo kSub (eVar 1) (eC (.int 1)))) sNext) (sIf (cAnd (cOf (eTwo kEq (eVar 1) (eC (.int 0)))) (cOf (eTwo kIn (eTwo kIx (eVar 0) (eVar 2)) (eTup (aCons (eC (.str "+")) (aCons (eC (.str "*")) aNil)))))) (sSeq (sAsg 3 (eCall g_law_due (aCons (eSl (eVar 0) (oSome (eC (.int 1))) (oSome (eVar 2))) aNil))) (sSeq (sAsg 4 (eCall g_law_due (aCons (eSl (eVar 0) (oSome (eTwo kAdd (eVar 2) (eC (.int 1)))) (oSome (eOne kNeg (eC (.int 1))))) aNil))) (sSeq (sIf (cOr (cOf (eTwo kIs (eVar 3) (eC .non))) (cOf (eTwo kIs (eVar 4) (eC .non)))) (sRet (eC .non)) sNext) (sRet (eTup (aCons (eDix "+" (.str "either") "*" (.str "both") (eTwo kIx (eVar 0) (eVar 2))) (aCons (eVar 3) (aCons (eVar 4) aNil)))))))) sNext)))) (sRet (eC .non)))))
def b_law_told_k16 (g_read : FF) : SF := sTry 1 ["NotRead"] (fun _ => .ret (.own [.bl true, .bl true, .bl false])) (sRet (eCall g_read (aCons (eVar 0) aNil)))
def b_law_changed_k16 : SF := sSeq (sAsg 2 (eTwo kMod (eVar 1) (eTwo kAdd (eCB kLen (aCons (eVar 0) aNil)) (eC (.int 1))))) (sSeq (sAsg 3 (eTwo kIx (eC (.str "()+*01abcde -x2A")) (eTwo kMod (eTwo kFdiv (eVar 1) (eC (.int 512))) (eC (.int 16))))) (sSeq (sAsg 4 (eTwo kMod (eTwo kFdiv (eVar 1) (eC (.int 16384))) (eC (.int 3)))) (sSeq (sIf (cOf (eTwo kEq (eVar 4) (eC (.int 0)))) (sRet (eTwo kAdd (eSl (eVar 0) oNone (oSome (eVar 2))) (eSl (eVar 0) (oSome (eTwo kAdd (eVar 2) (eC (.int 1)))) oNone))) sNext) (sSeq (sIf (cOf (eTwo kEq (eVar 4) (eC (.int 1)))) (sRet (eTwo kAdd (eTwo kAdd (eSl (eVar 0) oNone (oSome (eVar 2))) (eVar 3)) (eSl (eVar 0) (oSome (eVar 2)) oNone))) sNext) (sRet (eTwo kAdd (eTwo kAdd (eSl (eVar 0) oNone (oSome (eVar 2))) (eVar 3)) (eSl (eVar 0) (oSome (eTwo kAdd (eVar 2) (eC (.int 1)))) oNone)))))))
def b_law_odd : SF := sSeq (sAsg 1 (eLst (aCons (eC (.str "")) (aCons (eC (.str "()")) (aCons (eC (.str "(a)")) (aCons (eC (.str "a+b")) (aCons (eC (.str "(a+b")) (aCons (eC (.str "a+b)")) (aCons (eC (.str "(a+b+c)")) (aCons (eC (.str "(a b)")) (aCons (eC (.str " a")) (aCons (eC (.str "(+a)")) aNil)))))))))))) (sRet (eTwo kIx (eTwo kAdd (eVar 1) (eLst (aCons (eC (.str "(a*)")) (aCons (eC (.str "ab")) (aCons (eC (.str "((a+b))")) (aCons (eC (.str "10")) aNil)))))) (eTwo kMod (eVar 0) (eC (.int 14)))))
def b_law_k16 (g_law_text : FF) (g_law_kind : FF) (g_law_cell : FF) (g_law_changed : FF) (g_law_odd : FF) (g_law_due : FF) (g_law_told : FF) (g_law_same : FF) : SF := sSeq (sAsg 1 (eCall g_law_text (aCons (eCall g_law_kind (aCons (eCall g_law_cell (aCons (eVar 0) (aCons (eC (.int 0)) aNil))) (aCons (eTwo kAdd (eC (.int 1)) (eTwo kMod (eCall g_law_cell (aCons (eVar 0) (aCons (eC (.int 1)) aNil))) (eC (.int 8)))) (aCons (eC (.int 1)) aNil)))) aNil))) (sSeq (sAsg 2 (eTwo kMod (eTwo kFdiv (eCall g_law_cell (aCons (eVar 0) (aCons (eC (.int 1)) aNil))) (eC (.int 8))) (eC (.int 8)))) (sSeq (sIf (cOf (eTwo kIn (eVar 2) (eTup (aCons (eC (.int 1)) (aCons (eC (.int 2)) (aCons (eC (.int 3)) (aCons (eC (.int 4)) aNil))))))) (sAsg 1 (eCall g_law_changed (aCons (eVar 1) (aCons (eCall g_law_cell (aCons (eVar 0) (aCons (eC (.int 2)) aNil))) aNil)))) sNext) (sSeq (sIf (cOf (eTwo kIn (eVar 2) (eTup (aCons (eC (.int 3)) (aCons (eC (.int 4)) aNil))))) (sAsg 1 (eCall g_law_changed (aCons (eVar 1) (aCons (eCall g_law_cell (aCons (eVar 0) (aCons (eC (.int 3)) aNil))) aNil)))) sNext) (sSeq (sIf (cOf (eTwo kEq (eVar 2) (eC (.int 5)))) (sAsg 1 (eTwo kAdd (eTwo kAdd (eC (.str "(")) (eVar 1)) (eC (.str ")")))) sNext) (sSeq (sIf (cOf (eTwo kEq (eVar 2) (eC (.int 6)))) (sAsg 1 (eTwo kAdd (eTwo kAdd (eVar 1) (eTwo kIx (eLst (aCons (eC (.str "")) (aCons (eC (.str "+")) (aCons (eC (.str "*")) aNil)))) (eTwo kMod (eCall g_law_cell (aCons (eVar 0) (aCons (eC (.int 2)) aNil))) (eC (.int 3))))) (eVar 1))) sNext) (sSeq (sIf (cOf (eTwo kEq (eTwo kMod (eTwo kFdiv (eCall g_law_cell (aCons (eVar 0) (aCons (eC (.int 1)) aNil))) (eC (.int 64))) (eC (.int 9))) (eC (.int 1)))) (sAsg 1 (eCall g_law_odd (aCons (eCall g_law_cell (aCons (eVar 0) (aCons (eC (.int 2)) aNil))) aNil))) sNext) (sSeq (sAsg 3 (eCall g_law_due (aCons (eVar 1) aNil))) (sSeq (sAsg 4 (eCall g_law_told (aCons (eVar 1) aNil))) (sSeq (sIf (cOf (eTwo kIs (eVar 3) (eC .non))) (sRet (eTwo kEq (eVar 4) (eLst (aCons (eC (.bl true)) (aCons (eC (.bl true)) (aCons (eC (.bl false)) aNil)))))) sNext) (sRet (eAnd (eOne (kIsi "tuple") (eVar 4)) (eCall g_law_same (aCons (eVar 4) (aCons (eVar 3) aNil))))))))))))))
def m_law_dueN : Nat → FF
  | 0 => fun _ => .no
  | n + 1 => run 5 1 (b_law_due (m_law_dueN n))
theorem m_law_dueN_eq (n : Nat) (a0 : DV) : m_law_dueN (n + 1) [a0] = fin (b_law_due (m_law_dueN n) [some a0, none, none, none, none]) := rfl
def m_law_due : FF := m_law_dueN 40
def m_law_told_k16 : FF := run 2 1 (b_law_told_k16 m_read)
theorem m_law_told_k16_eq (a0 : DV) : m_law_told_k16 [a0] = fin (b_law_told_k16 m_read [some a0, none]) := rfl
def m_law_changed_k16 : FF := run 5 2 b_law_changed_k16
theorem m_law_changed_k16_eq (a0 a1 : DV) : m_law_changed_k16 [a0, a1] = fin (b_law_changed_k16 [some a0, some a1, none, none, none]) := rfl
def m_law_odd : FF := run 2 1 b_law_odd
theorem m_law_odd_eq (a0 : DV) : m_law_odd [a0] = fin (b_law_odd [some a0, none]) := rfl
def m_law_k16 : FF := run 5 1 (b_law_k16 m_law_text m_law_kind m_law_cell m_law_changed_k16 m_law_odd m_law_due m_law_told_k16 m_law_same)
theorem m_law_k16_eq (a0 : DV) : m_law_k16 [a0] = fin (b_law_k16 m_law_text m_law_kind m_law_cell m_law_changed_k16 m_law_odd m_law_due m_law_told_k16 m_law_same [some a0, none, none, none, none]) := rfl
def b_law_no_turning (g_part : FF) (g_turned : FF) (g_forth : FF) (g_back : FF) (g_gone : FF) (g_carried : FF) (g_brought : FF) : SF := sIf (cOf (eTwo kEq (eTwo kMod (eVar 1) (eC (.int 7))) (eC (.int 0)))) (sDrop (eCall g_part (aCons (eVar 0) (aCons (eTup (aCons (eC (.int 0)) (aCons (eC (.int 0)) aNil))) aNil)))) (sIf (cOf (eTwo kEq (eTwo kMod (eVar 1) (eC (.int 7))) (eC (.int 1)))) (sDrop (eCall g_turned (aCons (eVar 0) (aCons (eTup (aCons (eC (.str "spread")) (aCons (eTup aNil) aNil))) aNil)))) (sIf (cOf (eTwo kEq (eTwo kMod (eVar 1) (eC (.int 7))) (eC (.int 2)))) (sDrop (eCall g_forth (aCons (eVar 0) (aCons (eTup (aCons (eC (.str "drop")) (aCons (eTup aNil) aNil))) (aCons (eTup (aCons (eC (.int 0)) (aCons (eTup aNil) aNil))) aNil))))) (sIf (cOf (eTwo kEq (eTwo kMod (eVar 1) (eC (.int 7))) (eC (.int 3)))) (sDrop (eCall g_back (aCons (eVar 0) (aCons (eTup (aCons (eC (.str "group")) (aCons (eTup (aCons (eC (.int 1)) aNil)) aNil))) (aCons (eTup (aCons (eC (.int 0)) (aCons (eTup aNil) aNil))) aNil))))) (sIf (cOf (eTwo kEq (eTwo kMod (eVar 1) (eC (.int 7))) (eC (.int 4)))) (sDrop (eCall g_gone (aCons (eVar 0) (aCons (eLst (aCons (eTup (aCons (eC (.str "swap")) (aCons (eTup aNil) aNil))) (aCons (eTup (aCons (eC (.str "group")) (aCons (eTup aNil) aNil))) aNil))) aNil)))) (sIf (cOf (eTwo kEq (eTwo kMod (eVar 1) (eC (.int 7))) (eC (.int 5)))) (sDrop (eCall g_carried (aCons (eVar 0) (aCons (eLst (aCons (eTup (aCons (eC (.str "swap")) (aCons (eTup (aCons (eC (.int 0)) aNil)) aNil))) aNil)) (aCons (eTup (aCons (eC (.int 0)) (aCons (eTup aNil) aNil))) aNil))))) (sDrop (eCall g_brought (aCons (eVar 0) (aCons (eLst (aCons (eTup (aCons (eC (.str "swap")) (aCons (eTup aNil) aNil))) (aCons (eTup (aCons (eC (.str "drop")) (aCons (eTup aNil) aNil))) (aCons (eTup (aCons (eC (.str "drop")) (aCons (eTup aNil) aNil))) aNil)))) (aCons (eC (.int 0)) aNil))))))))))
def b_law_done (g_read : FF) (g_law_no_turning : FF) (g_thing_at : FF) (g_number_of : FF) (g_sent : FF) : SF := sSeq (sAsg 3 (eTup (aCons (eC (.str "both")) (aCons (eTup (aCons (eC (.str "name")) (aCons (eC (.int 0)) aNil))) (aCons (eTup (aCons (eC (.str "one")) aNil)) aNil))))) (sSeq (sAsg 4 (eTup (aCons (eC (.int 2)) (aCons (eC (.int 0)) (aCons (eC (.int 1)) (aCons (eC (.int 1)) aNil)))))) (sIf (cOf (eTwo kEq (eVar 0) (eC (.int 0)))) (sDrop (eCall g_read (aCons (eTwo kIx (eLst (aCons (eC (.str "")) (aCons (eC (.str "(a*b")) (aCons (eC (.str "a)")) (aCons (eC (.str "(a-b)")) (aCons (eC (.str "e")) (aCons (eC (.str "(a*b)c")) aNil))))))) (eTwo kMod (eVar 1) (eC (.int 6)))) aNil))) (sIf (cOf (eTwo kEq (eVar 0) (eC (.int 1)))) (sDrop (eCall g_law_no_turning (aCons (eVar 3) (aCons (eVar 1) aNil)))) (sIf (cOf (eTwo kEq (eVar 0) (eC (.int 2)))) (sDrop (eCall g_thing_at (aCons (eTwo kIx (eLst (aCons (eVar 3) (aCons (eTup (aCons (eC (.str "none")) aNil)) (aCons (eTup (aCons (eC (.str "name")) (aCons (eC (.int 1)) aNil))) aNil)))) (eTwo kMod (eVar 1) (eC (.int 3)))) (aCons (eVar 4) (aCons (eTwo kIx (eLst (aCons (eTwo kSub (eOne kNeg (eC (.int 1))) (eVar 2)) (aCons (eC (.int 2)) (aCons (eTwo kAdd (eC (.int 2)) (eVar 2)) (aCons (eOne kNeg (eC (.int 1))) aNil))))) (eTwo kMod (eTwo kFdiv (eVar 1) (eC (.int 3))) (eC (.int 4)))) aNil))))) (sIf (cOf (eTwo kEq (eVar 0) (eC (.int 3)))) (sDrop (eCall g_number_of (aCons (eVar 3) (aCons (eVar 4) (aCons (eTwo kIx (eLst (aCons (eTup (aCons (eTwo kAdd (eC (.int 2)) (eVar 2)) (aCons (eTup aNil) aNil))) (aCons (eTup (aCons (eC (.int 0)) (aCons (eC (.int 0)) aNil))) (aCons (eTup aNil) (aCons (eTup (aCons (eC (.str "left")) (aCons (eTup aNil) aNil))) (aCons (eTup (aCons (eC (.int 0)) (aCons (eTup aNil) (aCons (eTup aNil) aNil)))) (aCons (eTup (aCons (eTwo kSub (eOne kNeg (eC (.int 1))) (eVar 2)) (aCons (eTup aNil) aNil))) aNil))))))) (eTwo kMod (eVar 1) (eC (.int 6)))) aNil))))) (sSeq (sAsg 5 (eTwo kIx (eLst (aCons (eTup (aCons (eC (.str "name")) (aCons (eC (.int 1)) aNil))) (aCons (eTup (aCons (eC (.str "both")) (aCons (eTup (aCons (eC (.str "name")) (aCons (eC (.int 0)) aNil))) (aCons (eTup (aCons (eC (.str "name")) (aCons (eC (.int 0)) aNil))) aNil)))) (aCons (eTup (aCons (eC (.str "either")) (aCons (eTup (aCons (eC (.str "name")) (aCons (eC (.int 0)) aNil))) (aCons (eTup (aCons (eC (.str "one")) aNil)) aNil)))) aNil)))) (eTwo kMod (eVar 1) (eC (.int 3))))) (sDrop (eCall g_sent (aCons (eVar 3) (aCons (eVar 5) (aCons (eTup (aCons (eC (.int 1)) (aCons (eTup aNil) aNil))) aNil)))))))))))
def b_law_k17 (g_law_cell : FF) (g_law_done : FF) : SF := sSeq (sAsg 1 (eTwo kMod (eCall g_law_cell (aCons (eVar 0) (aCons (eC (.int 0)) aNil))) (eC (.int 5)))) (sSeq (sAsg 2 (eLst aNil)) (sSeq (sTry 3 ["NotRead", "NoTurning", "NoNumber", "NoThing", "Unlike"] (fun c => if c == "NotRead" then .asg 2 (.own [.bl true, .bl false, .bl false, .bl false, .bl false, .bl true]) else if c == "NoTurning" then .asg 2 (.own [.bl false, .bl true, .bl false, .bl false, .bl false, .bl true]) else if c == "NoNumber" then .asg 2 (.own [.bl false, .bl false, .bl true, .bl false, .bl false, .bl true]) else if c == "NoThing" then .asg 2 (.own [.bl false, .bl false, .bl false, .bl true, .bl false, .bl true]) else if c == "Unlike" then .asg 2 (.own [.bl false, .bl false, .bl false, .bl false, .bl true, .bl true]) else .asg 2 (.own [.bl false, .bl false, .bl false, .bl false, .bl true, .bl true])) (sDrop (eCall g_law_done (aCons (eVar 1) (aCons (eTwo kMod (eCall g_law_cell (aCons (eVar 0) (aCons (eC (.int 1)) aNil))) (eC (.int 900))) (aCons (eTwo kMod (eCall g_law_cell (aCons (eVar 0) (aCons (eC (.int 2)) aNil))) (eTwo kPow (eC (.int 10)) (eC (.int 12)))) aNil)))))) (sRet (eTwo kEq (eVar 2) (eTwo kAdd (eComp (srcR1 (eC (.int 5))) 4 cYes (eTwo kEq (eVar 4) (eVar 1))) (eLst (aCons (eC (.bl true)) aNil)))))))
def m_law_no_turning : FF := run 2 2 (b_law_no_turning m_part m_turned m_forth m_back m_gone m_carried m_brought)
theorem m_law_no_turning_eq (a0 a1 : DV) : m_law_no_turning [a0, a1] = fin (b_law_no_turning m_part m_turned m_forth m_back m_gone m_carried m_brought [some a0, some a1]) := rfl
def m_law_done : FF := run 6 3 (b_law_done m_read m_law_no_turning m_thing_at m_number_of m_sent)
theorem m_law_done_eq (a0 a1 a2 : DV) : m_law_done [a0, a1, a2] = fin (b_law_done m_read m_law_no_turning m_thing_at m_number_of m_sent [some a0, some a1, some a2, none, none, none]) := rfl
def m_law_k17 : FF := run 5 1 (b_law_k17 m_law_cell m_law_done)
theorem m_law_k17_eq (a0 : DV) : m_law_k17 [a0] = fin (b_law_k17 m_law_cell m_law_done [some a0, none, none, none, none]) := rfl
end KT
end

set_option linter.all false
set_option maxRecDepth 100000
set_option maxHeartbeats 4000000
namespace KT
/-! ## polynomials in one name -/
def evP : List Int → Int → Int
  | [], _ => 0
  | c :: p, x => c + x * evP p x
def dvP : List Int → Int → List Int
  | [], _ => []
  | [_], _ => []
  | _ :: d :: p, r => evP (d :: p) r :: dvP (d :: p) r
theorem dvP_len (r : Int) : ∀ p : List Int, (dvP p r).length = p.length - 1
  | [] => rfl
  | [_] => rfl
  | c :: d :: p => by
    have := dvP_len r (d :: p)
    simp only [dvP, List.length_cons] at this ⊢
    omega
theorem dvP_ev (x r : Int) : ∀ p : List Int, evP p x - evP p r = (x - r) * evP (dvP p r) x
  | [] => by simp [evP, dvP]
  | [c] => by simp [evP, dvP]
  | c :: d :: p => by
    have ih := dvP_ev x r (d :: p)
    show c + x * evP (d :: p) x - (c + r * evP (d :: p) r) = (x - r) * (evP (d :: p) r + x * evP (dvP (d :: p) r) x)
    generalize evP (d :: p) x = A at *
    generalize evP (d :: p) r = B at *
    generalize evP (dvP (d :: p) r) x = C at *
    have h1 : (x - r) * (B + x * C) = (x - r) * B + x * ((x - r) * C) := by
      rw [Int.mul_add, Int.mul_left_comm]
    rw [h1, ← ih, Int.sub_mul, Int.mul_sub]
    omega
def allZ (p : List Int) : Prop := ∀ c ∈ p, c = 0
theorem evP_zero (x : Int) : ∀ p : List Int, allZ p → evP p x = 0
  | [], _ => rfl
  | c :: p, h => by
    have h1 : c = 0 := h c (by simp)
    have h2 := evP_zero x p fun d hd => h d (by simp [hd])
    simp [evP, h1, h2]
theorem dvP_zero (r : Int) : ∀ p : List Int, allZ (dvP p r) → allZ p.tail
  | [], _ => fun c h => by cases h
  | [_], _ => fun c h => by cases h
  | c :: d :: p, h => by
    have h1 : evP (d :: p) r = 0 := h _ (by simp [dvP])
    have h2 : allZ (dvP (d :: p) r) := fun e he => h e (by simp [dvP, he])
    have h3 := dvP_zero r (d :: p) h2
    have h4 : evP p r = 0 := evP_zero r p h3
    have h5 : d = 0 := by simp only [evP, h4] at h1; omega
    intro e he
    rcases List.mem_cons.mp he with rfl | he
    · exact h5
    · exact h3 e he
theorem poly_zero : ∀ (n : Nat) (p : List Int) (xs : List Int), p.length ≤ n → xs.length = n → xs.Nodup → (∀ x ∈ xs, evP p x = 0) → allZ p
  | 0, p, xs, hp, _, _, _ => by
    have : p = [] := List.length_eq_zero_iff.mp (by omega)
    rw [this]; intro c h; cases h
  | n + 1, p, [], _, hx, _, _ => by cases hx
  | n + 1, p, r :: xs, hp, hx, hn, h => by
    rw [List.nodup_cons] at hn
    have hr := h r (by simp)
    have q0 : allZ (dvP p r) := by
      refine poly_zero n (dvP p r) xs (by rw [dvP_len]; omega) (by simpa using hx) hn.2 fun x hxm => ?_
      have e := dvP_ev x r p
      rw [h x (by simp [hxm]), hr] at e
      have : (x - r) * evP (dvP p r) x = 0 := by omega
      rcases Int.mul_eq_zero.mp this with z | z
      · exact absurd (show x = r by omega) (fun w => hn.1 (by rw [← w]; exact hxm))
      · exact z
    have t := dvP_zero r p q0
    cases p with
    | nil => intro c h; cases h
    | cons c p =>
      have h4 : evP p r = 0 := evP_zero r p t
      have h5 : c = 0 := by simp only [evP, h4] at hr; omega
      intro e he
      rcases List.mem_cons.mp he with rfl | he
      · exact h5
      · exact t e he
def addM : Nat → Int → List Int → List Int
  | _, _, [] => []
  | 0, v, c :: p => (c + v) :: p
  | e + 1, v, c :: p => c :: addM e v p
theorem addM_len : ∀ (e : Nat) (v : Int) (p : List Int), (addM e v p).length = p.length
  | _, _, [] => by cases ‹Nat› <;> rfl
  | 0, v, c :: p => rfl
  | e + 1, v, c :: p => by simp [addM, addM_len e v p]
theorem addM_ev (x v : Int) : ∀ (e : Nat) (p : List Int), e < p.length → evP (addM e v p) x = evP p x + v * x ^ e
  | _, [], h => by simp at h
  | 0, c :: p, _ => by simp [addM, evP]; omega
  | e + 1, c :: p, h => by
    have ih := addM_ev x v e p (by simpa using h)
    simp only [addM, evP, ih, Int.pow_succ, Int.mul_add]
    have : x * (v * x ^ e) = v * (x ^ e * x) := by rw [Int.mul_left_comm, Int.mul_comm x]
    omega
theorem addM_get (v : Int) : ∀ (e j : Nat) (p : List Int), e < p.length → (addM e v p).getD j 0 = p.getD j 0 + if j = e then v else 0
  | _, _, [], h => by simp at h
  | 0, 0, c :: p, _ => by simp [addM]
  | 0, j + 1, c :: p, _ => by simp [addM]
  | e + 1, 0, c :: p, _ => by simp [addM]
  | e + 1, j + 1, c :: p, h => by
    have ih := addM_get v e j p (by simpa using h)
    simp only [addM, List.getD_cons_succ, ih]
    by_cases z : j = e <;> simp [z]
/-! ## formal sums -/
abbrev FS := List (List Int × Int)
def cf : FS → List Int → Int
  | [], _ => 0
  | (k, v) :: F, q => (if k = q then v else 0) + cf F q
def wo (n : Int) (k : List Int) : List Int := k.filter (fun i => decide (i ≠ n))
def ct (n : Int) (k : List Int) : Nat := (k.filter (fun i => decide (i = n))).length
def sbs (n x : Int) (F : FS) : FS := F.map fun kv => (wo n kv.1, kv.2 * x ^ ct n kv.1)
theorem wo_eq (n : Int) (k : List Int) : wo n (n :: k) = wo n k := by simp [wo]
theorem wo_ne {i n : Int} (h : ¬ i = n) (k : List Int) : wo n (i :: k) = i :: wo n k := by simp [wo, h]
theorem ct_eq (n : Int) (k : List Int) : ct n (n :: k) = ct n k + 1 := by simp [ct]
theorem ct_ne {i n : Int} (h : ¬ i = n) (k : List Int) : ct n (i :: k) = ct n k := by simp [ct, h]
theorem perm_split (n : Int) : ∀ k : List Int, k.Perm (wo n k ++ List.replicate (ct n k) n)
  | [] => .refl _
  | i :: k => by
    have ih := perm_split n k
    by_cases h : i = n
    · subst h
      rw [wo_eq, ct_eq, List.replicate_succ]
      exact (ih.cons i).trans List.perm_middle.symm
    · rw [wo_ne h, ct_ne h]
      exact ih.cons i
theorem key_det {n : Int} {a b : List Int} (ha : Srt ile a) (hb : Srt ile b) (h : wo n a = wo n b) (g : ct n a = ct n b) : a = b := by
  refine srt_eq ile_ord ?_ ha hb
  refine (perm_split n a).trans ?_
  rw [h, g]
  exact (perm_split n b).symm
def polyOf (n : Int) (N : Nat) (q : List Int) : FS → List Int
  | [] => List.replicate (N + 1) 0
  | (k, v) :: F => if wo n k = q then addM (ct n k) v (polyOf n N q F) else polyOf n N q F
theorem polyOf_len (n : Int) (N : Nat) (q : List Int) : ∀ F : FS, (polyOf n N q F).length = N + 1
  | [] => by simp [polyOf]
  | (k, v) :: F => by
    have ih := polyOf_len n N q F
    unfold polyOf
    split
    · rw [addM_len, ih]
    · exact ih
theorem evP_rep (x : Int) : ∀ m : Nat, evP (List.replicate m 0) x = 0
  | 0 => rfl
  | m + 1 => by rw [List.replicate_succ]; simp [evP, evP_rep x m]
theorem polyOf_ev (n x : Int) (N : Nat) (q : List Int) : ∀ F : FS, (∀ kv ∈ F, ct n kv.1 ≤ N) → evP (polyOf n N q F) x = cf (sbs n x F) q
  | [], _ => by simp only [polyOf, evP_rep]; rfl
  | (k, v) :: F, h => by
    have ih := polyOf_ev n x N q F fun kv hk => h kv (by simp [hk])
    have hc := h (k, v) (by simp)
    show evP (if wo n k = q then _ else _) x = (if wo n k = q then v * x ^ ct n k else 0) + cf (sbs n x F) q
    split
    · rw [addM_ev x v _ _ (by rw [polyOf_len]; simp only at hc; omega), ih]; omega
    · rw [ih]; omega
theorem polyOf_get (n : Int) (N : Nat) (k0 : List Int) (h0 : Srt ile k0) : ∀ F : FS, (∀ kv ∈ F, ct n kv.1 ≤ N ∧ Srt ile kv.1) → (polyOf n N (wo n k0) F).getD (ct n k0) 0 = cf F k0
  | [], _ => by
    simp only [polyOf, cf, List.getD_eq_getElem?_getD, List.getElem?_replicate]
    split <;> rfl
  | (k, v) :: F, h => by
    have ih := polyOf_get n N k0 h0 F fun kv hk => h kv (by simp [hk])
    have hc := h (k, v) (by simp)
    simp only at hc
    show (if wo n k = wo n k0 then addM (ct n k) v (polyOf n N (wo n k0) F) else polyOf n N (wo n k0) F).getD (ct n k0) 0 = (if k = k0 then v else 0) + cf F k0
    by_cases e : wo n k = wo n k0
    · rw [if_pos e, addM_get _ _ _ _ (by rw [polyOf_len]; omega), ih]
      by_cases g : ct n k0 = ct n k
      · have := key_det hc.2 h0 e g.symm
        subst this
        simp; omega
      · have ne : ¬ k = k0 := fun z => g (by rw [z])
        simp [g, ne]
    · have ne : ¬ k = k0 := fun z => e (by rw [z])
      rw [if_neg e, if_neg ne, ih]; omega
/-- a sum that is not zero stays so at one of the points -/
theorem sbs_ne {F : FS} {n : Int} {N : Nat} (h : ∀ kv ∈ F, ct n kv.1 ≤ N ∧ Srt ile kv.1) {k0 : List Int} (h0 : Srt ile k0) (hk : cf F k0 ≠ 0) {xs : List Int} (hx : xs.length = N + 1) (hn : xs.Nodup) : ∃ x ∈ xs, cf (sbs n x F) (wo n k0) ≠ 0 := by
  by_cases hall : ∀ x ∈ xs, cf (sbs n x F) (wo n k0) = 0
  · have z := poly_zero (N + 1) (polyOf n N (wo n k0) F) xs (by rw [polyOf_len]; omega) hx hn fun x hxm => by
      rw [polyOf_ev n x N _ F fun kv hkv => (h kv hkv).1]; exact hall x hxm
    have g := polyOf_get n N k0 h0 F h
    refine absurd ?_ hk
    rw [← g, List.getD_eq_getElem?_getD]
    cases e : (polyOf n N (wo n k0) F)[ct n k0]? with
    | none => rfl
    | some c => exact z c (List.mem_of_getElem? e)
  · exact Classical.byContradiction fun hc => hall fun x hxm => Classical.byContradiction fun hz => hc ⟨x, hxm, hz⟩
end KT

set_option linter.all false
set_option maxRecDepth 100000
set_option maxHeartbeats 4000000
namespace KT
open PySem PySem.Spec PyProof.Rows L2

/-! ## put_in, all_even -/
theorem sqY {F G : SF} {ρ ρ' : Rho} (h : F ρ = .nx ρ') : sSeq F G ρ = G ρ' := by rw [z_seq, h]
theorem comp_wo (a b c d e f g h7 : Option DV) (n : Int) (h : b = some (.dat (.int n))) : ∀ k : List Int, compF (bName 7) (cOf (eTwo kNe (eVar 7) (eVar 1))) (eVar 7) [a, b, c, d, e, f, g, h7] (k.map D.int) = some ((wo n k).map D.int)
  | [] => rfl
  | i :: k => by
    have ih := comp_wo a b c d e f g h7 n h k
    subst h
    rw [List.map_cons, comp_cons]
    by_cases hi : i = n
    · subst hi
      rw [wo_eq]
      simp [ih]
    · rw [wo_ne hi]
      simp [ih, hi]
abbrev wB : SF := sIf (cOf (eTwo kEq (eVar 7) (eVar 1))) (sAsg 6 (eTwo kMul (eVar 6) (eVar 2))) sNext
abbrev NoD (g : Option DV) : Prop := ∀ s, g = some s → isDic s = false
theorem worth_loop (a d e f : Option DV) (n x : Int) (hx : 0 ≤ x ∧ x < 1000) : ∀ (k : List Int) (v : Int) (g : Option DV), ∃ g', (NoD g → NoD g') ∧ loop (bName 7) wB (k.map D.int) [a, some (.dat (.int n)), some (.dat (.int x)), d, e, f, some (.dat (.int v)), g] = .nx [a, some (.dat (.int n)), some (.dat (.int x)), d, e, f, some (.dat (.int (v * x ^ ct n k))), g']
  | [], v, g => ⟨g, id, by simp [ct]⟩
  | i :: k, v, g => by
    have hm : mulOk v x = true := by
      unfold mulOk
      simp
      exact .inl (.inr ⟨by omega, by omega⟩)
    by_cases hi : i = n
    · subst hi
      obtain ⟨g', q, e1⟩ := worth_loop a d e f i x hx k (v * x) (some (.dat (.int i)))
      refine ⟨g', fun _ => q (fun s z => by cases z; rfl), ?_⟩
      rw [List.map_cons, loop_cons, ct_eq, Int.pow_succ]
      have : v * (x ^ ct i k * x) = v * x * x ^ ct i k := by rw [Int.mul_comm (x ^ ct i k), Int.mul_assoc]
      rw [this]
      simp [kMul_i v x hm]
      exact e1
    · obtain ⟨g', q, e1⟩ := worth_loop a d e f n x hx k v (some (.dat (.int i)))
      refine ⟨g', fun _ => q (fun s z => by cases z; rfl), ?_⟩
      rw [List.map_cons, loop_cons, ct_ne hi]
      simp [hi]
      exact e1
theorem puK_len (f : KVs) (k : List Int) (v : Int) : (puK f k v).length ≤ f.length + 1 := by
  unfold puK
  split
  · rw [List.length_map]; omega
  · simp
def putL (n x : Int) (full : KVs) : List (List Int) → KVs → KVs
  | [], f => f
  | k :: ks, f => putL n x full ks (puK f (wo n k) ((gtK f (wo n k)).getD 0 + (gtK full k).getD 0 * x ^ ct n k))
abbrev pB : SF := sSeq (sAsg 5 (eCB kTupOf (aCons (eComp (srcE (eVar 4)) 7 (cOf (eTwo kNe (eVar 7) (eVar 1))) (eVar 7)) aNil))) (sSeq (sAsg 6 (eDGet 0 (eVar 4))) (sSeq (sForV 4 (bName 7) wB) (sPutD 3 (eVar 5) (eTwo kAdd (eDGet2 3 (eVar 5) (eC (.int 0))) (eVar 6)))))
theorem put_step (kvs f : KVs) (n x : Int) (hx : 0 ≤ x ∧ x < 1000) (k : List Int) (v : Int) (hk : gtK kvs k = some v) (hl : k.length ≤ 1000000) (hf : f.length < 16000000) (y5 y6 y7 : Option DV) (q5 : ∀ s, y5 = some s → isDic s = false) (q6 : ∀ s, y6 = some s → isDic s = false) (q7 : ∀ s, y7 = some s → isDic s = false) :
    ∃ z7, pB [some (.bd kvs), some (.dat (.int n)), some (.dat (.int x)), some (.dict f), some (.dat (rowD k)), y5, y6, y7] = .nx [some (.bd kvs), some (.dat (.int n)), some (.dat (.int x)), some (.dict (puK f (wo n k) ((gtK f (wo n k)).getD 0 + (gtK kvs k).getD 0 * x ^ ct n k))), some (.dat (rowD k)), some (.dat (rowD (wo n k))), some (.dat (.int (v * x ^ ct n k))), z7] ∧ (∀ s, z7 = some s → isDic s = false) := by
  have cw := comp_wo (some (.bd kvs)) (some (.dat (.int n))) (some (.dat (.int x))) (some (.dict f)) (some (.dat (rowD k))) y5 y6 y7 n rfl k
  have a1 : sAsg 5 (eCB kTupOf (aCons (eComp (srcE (eVar 4)) 7 (cOf (eTwo kNe (eVar 7) (eVar 1))) (eVar 7)) aNil)) [some (.bd kvs), some (.dat (.int n)), some (.dat (.int x)), some (.dict f), some (.dat (rowD k)), y5, y6, y7] = .nx [some (.bd kvs), some (.dat (.int n)), some (.dat (.int x)), some (.dict f), some (.dat (rowD k)), some (.dat (rowD (wo n k))), y6, y7] := by
    have l1 : k.length ≤ 16777216 := by omega
    have e : rowD k = .tup (k.map D.int) := rfl
    rw [e] at cw ⊢
    simp [cw, l1]
    rfl
  have a2 : sAsg 6 (eDGet 0 (eVar 4)) [some (.bd kvs), some (.dat (.int n)), some (.dat (.int x)), some (.dict f), some (.dat (rowD k)), some (.dat (rowD (wo n k))), y6, y7] = .nx [some (.bd kvs), some (.dat (.int n)), some (.dat (.int x)), some (.dict f), some (.dat (rowD k)), some (.dat (rowD (wo n k))), some (.dat (.int v)), y7] := by simp [hk]
  obtain ⟨z7, q, e3⟩ := worth_loop (some (.bd kvs)) (some (.dict f)) (some (.dat (rowD k))) (some (.dat (rowD (wo n k)))) n x hx k v y7
  have a3 : sForV 4 (bName 7) wB [some (.bd kvs), some (.dat (.int n)), some (.dat (.int x)), some (.dict f), some (.dat (rowD k)), some (.dat (rowD (wo n k))), some (.dat (.int v)), y7] = .nx [some (.bd kvs), some (.dat (.int n)), some (.dat (.int x)), some (.dict f), some (.dat (rowD k)), some (.dat (rowD (wo n k))), some (.dat (.int (v * x ^ ct n k))), z7] := by
    rw [z_forV]
    exact e3
  refine ⟨z7, ?_, q q7⟩
  have z : isDic (.bd kvs) = false := rfl
  have lim : f.length < 16777216 := by omega
  have oM : onlyM [some (.bd kvs), some (.dat (.int n)), some (.dat (.int x)), some (.dict f), some (.dat (rowD k)), some (.dat (rowD (wo n k))), some (.dat (.int (v * x ^ ct n k))), z7] 3 = true := by
    have zd : ∀ d, isDic (.dat d) = false := fun _ => rfl
    have q8 := q q7
    cases z7 with
    | none => simp [onlyM, z, zd]
    | some s => simp [onlyM, z, zd, q8 s rfl]
  unfold pB
  rw [sqY a1, sqY a2, sqY a3]
  simp [hk, lim, oM]
theorem put_loop (kvs : KVs) (n x : Int) (hx : 0 ≤ x ∧ x < 1000) : ∀ (ks : List (List Int)) (f : KVs) (y4 y5 y6 y7 : Option DV), (∀ k ∈ ks, (gtK kvs k).isSome = true ∧ k.length ≤ 1000000) → f.length + ks.length < 16000000 → NoD y5 → NoD y6 → NoD y7 →
    ∃ z4 z5 z6 z7, loop (bName 4) pB (ks.map rowD) [some (.bd kvs), some (.dat (.int n)), some (.dat (.int x)), some (.dict f), y4, y5, y6, y7] = .nx [some (.bd kvs), some (.dat (.int n)), some (.dat (.int x)), some (.dict (putL n x kvs ks f)), z4, z5, z6, z7]
  | [], f, y4, y5, y6, y7, _, _, _, _, _ => ⟨y4, y5, y6, y7, rfl⟩
  | k :: ks, f, y4, y5, y6, y7, hk, hl, q5, q6, q7 => by
    obtain ⟨v, hv⟩ := Option.isSome_iff_exists.mp (hk k (by simp)).1
    simp only [List.length_cons] at hl
    obtain ⟨u7, e1, q⟩ := put_step kvs f n x hx k v hv (hk k (by simp)).2 (by omega) y5 y6 y7 q5 q6 q7
    have pl := puK_len f (wo n k) ((gtK f (wo n k)).getD 0 + (gtK kvs k).getD 0 * x ^ ct n k)
    obtain ⟨z4, z5, z6, z7, e2⟩ := put_loop kvs n x hx ks (puK f (wo n k) ((gtK f (wo n k)).getD 0 + (gtK kvs k).getD 0 * x ^ ct n k)) (some (.dat (rowD k))) (some (.dat (rowD (wo n k)))) (some (.dat (.int (v * x ^ ct n k)))) u7 (fun j hj => hk j (by simp [hj])) (by omega) (fun s z => by cases z; rfl) (fun s z => by cases z; rfl) q
    refine ⟨z4, z5, z6, z7, ?_⟩
    rw [List.map_cons, loop_cons]
    simp only [bName_e, List.set_cons_succ, List.set_cons_zero, e1]
    exact e2
theorem put_in_ev (kvs : KVs) (n x : Int) (hx : 0 ≤ x ∧ x < 1000) (hk : ∀ k ∈ kvs.map (·.1), (gtK kvs k).isSome = true ∧ k.length ≤ 1000000) (hl : kvs.length < 15000000) : m_put_in [.bd kvs, .dat (.int n), .dat (.int x)] = .ret (.dict (putL n x kvs (kvs.map (·.1)) [])) := by
  rw [m_put_in_eq]; unfold b_put_in
  obtain ⟨z4, z5, z6, z7, e⟩ := put_loop kvs n x hx (kvs.map (·.1)) [] none none none none hk (by simp; omega) (fun s z => by cases z) (fun s z => by cases z) (fun s z => by cases z)
  have a0 : sNewD 3 [some (.bd kvs), some (.dat (.int n)), some (.dat (.int x)), none, none, none, none, none] = .nx [some (.bd kvs), some (.dat (.int n)), some (.dat (.int x)), some (.dict []), none, none, none, none] := rfl
  have a1 : sForD 0 (bName 4) pB [some (.bd kvs), some (.dat (.int n)), some (.dat (.int x)), some (.dict []), none, none, none, none] = .nx [some (.bd kvs), some (.dat (.int n)), some (.dat (.int x)), some (.dict (putL n x kvs (kvs.map (·.1)) [])), z4, z5, z6, z7] := by
    rw [List.map_map] at e
    rw [z_forD]
    simp only [List.getElem?_cons_zero]
    have e' : loop (bName 4) pB (kvs.map fun kv => rowD kv.1) [some (.bd kvs), some (.dat (.int n)), some (.dat (.int x)), some (.dict []), none, none, none, none] = _ := e
    rw [e']
    rfl
  rw [sqY a0, sqY a1]
  simp
/-- gtK of a key of kvs -/
theorem gtK_mem : ∀ (kvs : KVs) (k : List Int), k ∈ kvs.map (·.1) → (gtK kvs k).isSome = true
  | [], k, h => by cases h
  | kv :: kvs, k, h => by
    unfold gtK
    rw [List.find?_cons]
    by_cases e : kv.1 = k
    · simp [e]
    · simp only [decide_eq_false e]
      rw [List.map_cons, List.mem_cons] at h
      exact gtK_mem kvs k (h.resolve_left (fun z => e z.symm))
abbrev eB : SF := sIf (cOf (eTwo kNe (eDGet 0 (eVar 1)) (eC (.int 0)))) (sRet (eC (.bl false))) sNext
def zeroAt (kvs : KVs) (k : List Int) : Bool := decide ((gtK kvs k).getD 0 = 0)
theorem ev_loop (kvs : KVs) : ∀ (ks : List (List Int)) (y : Option DV), (∀ k ∈ ks, (gtK kvs k).isSome = true) →
    (∃ z, ks.all (zeroAt kvs) = true ∧ loop (bName 1) eB (ks.map rowD) [some (.bd kvs), y] = .nx [some (.bd kvs), z]) ∨ ∃ ρ, ks.all (zeroAt kvs) = false ∧ loop (bName 1) eB (ks.map rowD) [some (.bd kvs), y] = .ret (.dat (.bl false)) ρ
  | [], y, _ => .inl ⟨y, rfl, rfl⟩
  | k :: ks, y, h => by
    obtain ⟨v, hv⟩ := Option.isSome_iff_exists.mp (h k (by simp))
    by_cases h0 : v = 0
    · have z : zeroAt kvs k = true := by simp [zeroAt, hv, h0]
      have st : eB [some (.bd kvs), some (.dat (rowD k))] = .nx [some (.bd kvs), some (.dat (rowD k))] := by simp [hv, h0]
      rcases ev_loop kvs ks (some (.dat (rowD k))) (fun j hj => h j (by simp [hj])) with ⟨y', e1, e2⟩ | ⟨ρ, e1, e2⟩
      · refine .inl ⟨y', by rw [List.all_cons, z, e1]; rfl, ?_⟩
        rw [List.map_cons, loop_cons]
        simp only [bName_e, List.set_cons_succ, List.set_cons_zero, st]
        exact e2
      · refine .inr ⟨ρ, by rw [List.all_cons, z, e1]; rfl, ?_⟩
        rw [List.map_cons, loop_cons]
        simp only [bName_e, List.set_cons_succ, List.set_cons_zero, st]
        exact e2
    · have z : zeroAt kvs k = false := by simp [zeroAt, hv, h0]
      have st : eB [some (.bd kvs), some (.dat (rowD k))] = .ret (.dat (.bl false)) [some (.bd kvs), some (.dat (rowD k))] := by simp [hv, h0]
      refine .inr ⟨[some (.bd kvs), some (.dat (rowD k))], by rw [List.all_cons, z]; rfl, ?_⟩
      rw [List.map_cons, loop_cons]
      simp only [bName_e, List.set_cons_succ, List.set_cons_zero, st]
theorem all_even_ev (kvs : KVs) : m_all_even [.bd kvs] = .ret (.dat (.bl ((kvs.map (·.1)).all (zeroAt kvs)))) := by
  rw [m_all_even_eq]; unfold b_all_even
  have hm : (kvs.map fun kv => rowD kv.1) = (kvs.map (·.1)).map rowD := by rw [List.map_map]; rfl
  rcases ev_loop kvs (kvs.map (·.1)) none (gtK_mem kvs) with ⟨y, e1, e2⟩ | ⟨ρ, e1, e2⟩
  · have a : sForD 0 (bName 1) eB [some (.bd kvs), none] = .nx [some (.bd kvs), y] := by
      rw [z_forD]
      simp only [List.getElem?_cons_zero]
      rw [hm, e2]; rfl
    rw [sqY a, e1]
    simp
  · have a : sForD 0 (bName 1) eB [some (.bd kvs), none] = .ret (.dat (.bl false)) ρ := by
      rw [z_forD]
      simp only [List.getElem?_cons_zero]
      rw [hm, e2]; rfl
    rw [z_seq, a, e1]
    simp
/-! ## what put_in makes -/
theorem puK_keys {f : KVs} {k : List Int} {v : Int} {j : List Int} (h : j ∈ (puK f k v).map (·.1)) : j ∈ f.map (·.1) ∨ j = k := by
  unfold puK at h
  split at h
  · rw [List.map_map] at h
    obtain ⟨kv, hkv, e⟩ := List.mem_map.mp h
    refine .inl (List.mem_map.mpr ⟨kv, hkv, ?_⟩)
    rw [← e]
    simp only [Function.comp]
    split <;> rfl
  · rw [List.map_append, List.mem_append] at h
    rcases h with h | h
    · exact .inl h
    · simp at h; exact .inr h
theorem putL_keys {n x : Int} {full : KVs} : ∀ {ks : List (List Int)} {f : KVs} {j : List Int}, j ∈ (putL n x full ks f).map (·.1) → j ∈ f.map (·.1) ∨ ∃ k ∈ ks, j = wo n k
  | [], f, j, h => .inl h
  | k :: ks, f, j, h => by
    rcases putL_keys (ks := ks) h with h | ⟨k', h, e⟩
    · rcases puK_keys h with h | h
      · exact .inl h
      · exact .inr ⟨k, by simp, h⟩
    · exact .inr ⟨k', by simp [h], e⟩
theorem putL_len (n x : Int) (full : KVs) : ∀ (ks : List (List Int)) (f : KVs), (putL n x full ks f).length ≤ f.length + ks.length
  | [], f => by simp [putL]
  | k :: ks, f => by
    have h1 := putL_len n x full ks (puK f (wo n k) ((gtK f (wo n k)).getD 0 + (gtK full k).getD 0 * x ^ ct n k))
    have h2 := puK_len f (wo n k) ((gtK f (wo n k)).getD 0 + (gtK full k).getD 0 * x ^ ct n k)
    simp only [putL, List.length_cons]; omega
theorem gtK_puK (f : KVs) (k : List Int) (v : Int) (j : List Int) : (gtK (puK f k v) j).getD 0 = if j = k then v else (gtK f j).getD 0 := by
  unfold puK
  split
  · rename_i ha
    induction f with
    | nil => simp at ha
    | cons kv f ih =>
      unfold gtK at *
      rw [List.map_cons, List.find?_cons, List.find?_cons]
      by_cases e : kv.1 = k
      · simp only [if_pos e]
        by_cases ej : j = k
        · subst ej; simp [e]
        · have ne : ¬ kv.1 = j := fun z => ej (by rw [← z, e])
          simp only [decide_eq_false ne, if_neg ej]
          by_cases hb : (f.any fun kv => decide (kv.1 = k)) = true
          · rw [ih hb, if_neg ej]
          · have idm : (f.map fun kv => if kv.1 = k then (kv.1, v) else kv) = f := by
              conv => rhs; rw [← List.map_id f]
              refine List.map_congr_left fun q hq => ?_
              have : ¬ q.1 = k := fun z => hb (List.any_eq_true.mpr ⟨q, hq, decide_eq_true z⟩)
              rw [if_neg this]; rfl
            rw [idm]
      · simp only [if_neg e]
        have hb : (f.any fun kv => decide (kv.1 = k)) = true := by
          rw [List.any_cons, decide_eq_false e] at ha
          simpa using ha
        by_cases ek : kv.1 = j
        · have : ¬ j = k := fun z => e (by rw [ek, z])
          simp [ek, this]
        · simp only [decide_eq_false ek]
          exact ih hb
  · rename_i ha
    unfold gtK
    rw [List.find?_append]
    by_cases ej : j = k
    · subst ej
      have : f.find? (fun kv => decide (kv.1 = j)) = none := by
        rw [List.find?_eq_none]
        intro q hq z
        exact ha (List.any_eq_true.mpr ⟨q, hq, z⟩)
      simp [this]
    · have : ¬ k = j := fun z => ej z.symm
      simp [this, ej]
end KT

set_option linter.all false
set_option maxRecDepth 100000
set_option maxHeartbeats 4000000
namespace KT
open PySem PySem.Spec PyProof.Rows L2

theorem mul64 {x y : Int} (h1 : -(2 ^ 64) < y) (h2 : y < 2 ^ 64) : mulOk x y = true := by
  unfold mulOk
  simp only [Bool.or_eq_true, Bool.and_eq_true, decide_eq_true_eq]
  exact .inl (.inr ⟨h1, h2⟩)
theorem mul64l {x y : Int} (h1 : -(2 ^ 64) < x) (h2 : x < 2 ^ 64) : mulOk x y = true := by
  unfold mulOk
  simp only [Bool.or_eq_true, Bool.and_eq_true, decide_eq_true_eq]
  exact .inl (.inl ⟨h1, h2⟩)
/-! ## draws -/
def drawI (c k b : Int) : Int :=
  let s := (c % 2147483629 + 1 + k * 1000003) % 2147483647
  let s := s * s % 2147483647 * 48271 % 2147483629
  let s := s * s % 2147483629 * 40692 % 2147483399
  s / 97 % b
theorem pos_lit {n : Int} (h : 0 < n) : 0 < n := h
theorem draw_ev (c k b : Int) (hb : 0 < b) : m_law_draw [.dat (.int c), .dat (.int k), .dat (.int b)] = .ret (.dat (.int (drawI c k b))) := by
  rw [m_law_draw_eq]
  unfold b_law_draw
  have sq : ∀ x : Int, 0 ≤ x → x < 2147483647 → mulOk x x = true := fun x h1 h2 => mul64 (by omega) (by omega)
  have b1 : ∀ x : Int, 0 ≤ x % 2147483647 ∧ x % 2147483647 < 2147483647 := fun x => by omega
  have b2 : ∀ x : Int, 0 ≤ x % 2147483629 ∧ x % 2147483629 < 2147483647 := fun x => by omega
  have q1 : ∀ x : Int, mulOk (x % 2147483647) (x % 2147483647) = true := fun x => sq _ (b1 x).1 (b1 x).2
  have q2 : ∀ x : Int, mulOk (x % 2147483629) (x % 2147483629) = true := fun x => sq _ (b2 x).1 (b2 x).2
  have q3 : ∀ x : Int, mulOk x 1000003 = true := fun x => mul64 (by decide) (by decide)
  have q4 : ∀ x : Int, mulOk x 48271 = true := fun x => mul64 (by decide) (by decide)
  have q5 : ∀ x : Int, mulOk x 40692 = true := fun x => mul64 (by decide) (by decide)
  simp [kMod_i, kMul_i, kFdiv_l, q1, q2, q3, q4, q5, hb, drawI]
theorem draw_rng (c k b : Int) (hb : 0 < b) : 0 ≤ drawI c k b ∧ drawI c k b < b := ⟨Int.emod_nonneg _ (by omega), Int.emod_lt_of_pos _ hb⟩
/-! ## the script -/
def stirF (c f k : Int) : Int := f * 1000000000 + ((c * k + 7919) % 2147483647 * ((c * k + 7919) % 2147483647) % 2147483647 * 40692 % 2147483399) / 7
def stirI (c : Int) : Int := stirF c (stirF c (stirF c (stirF c 0 48271) 69621) 39373) 44488
theorem stirF_pos (c f k : Int) (h : 0 ≤ f) : 0 ≤ stirF c f k := by
  have : 0 ≤ ((c * k + 7919) % 2147483647 * ((c * k + 7919) % 2147483647) % 2147483647 * 40692 % 2147483399) / 7 := by omega
  unfold stirF
  omega
theorem stirF_lt (c f k : Int) : stirF c f k < f * 1000000000 + 1000000000 := by
  have : ((c * k + 7919) % 2147483647 * ((c * k + 7919) % 2147483647) % 2147483647 * 40692 % 2147483399) / 7 < 1000000000 := by omega
  unfold stirF
  omega
theorem stir_pos (c : Int) : 0 ≤ stirI c := stirF_pos _ _ _ (stirF_pos _ _ _ (stirF_pos _ _ _ (stirF_pos _ _ _ (by decide))))
theorem stir_lt (c : Int) : stirI c < 1000000000000000000000000000000000000 := by
  unfold stirI
  have a1 := stirF_lt c 0 48271
  have a2 := stirF_lt c (stirF c 0 48271) 69621
  have a3 := stirF_lt c (stirF c (stirF c 0 48271) 69621) 39373
  have a4 := stirF_lt c (stirF c (stirF c (stirF c 0 48271) 69621) 39373) 44488
  omega
theorem stir_ev (c : Int) : m_law_stir [.dat (.int c)] = .ret (.dat (.int (stirI c))) := by
  rw [m_law_stir_eq]
  unfold b_law_stir
  have sq : ∀ x : Int, 0 ≤ x → x < 2147483647 → mulOk x x = true := fun x h1 h2 => mul64 (by omega) (by omega)
  have q1 : ∀ x : Int, mulOk (x % 2147483647) (x % 2147483647) = true := fun x => sq _ (by omega) (by omega)
  have q4 : ∀ x y : Int, -(2 ^ 64) < y → y < 2 ^ 64 → mulOk x y = true := fun x y h1 h2 => mul64 h1 h2
  simp [kMod_i, kMul_i, kFdiv_l, q1, q4, loop_cons, stirI, stirF]
def cellI (ns : List Int) (k : Nat) : Int := stirI (ns.getD k 0)
theorem cell_ev (ns : List Int) (k : Nat) : m_law_cell [.scr (ns.map D.int), .dat (.int k)] = .ret (.dat (.int (cellI ns k))) := by
  rw [m_law_cell_eq]
  unfold b_law_cell
  by_cases h : k < ns.length
  · have e : ((k : Int) < (ns.length : Int)) := by omega
    simp [e, ix_nat, h, stir_ev, cellI]
  · have e : ¬ ((k : Int) < (ns.length : Int)) := by omega
    simp [e, h, stir_ev, cellI]
theorem cell_pos (ns : List Int) (k : Nat) : 0 ≤ cellI ns k := stir_pos _
/-! ## kinds -/
inductive Kd where
  | none
  | one
  | name (i : Int)
  | ei (a b : Kd)
  | bo (a b : Kd)
def Kd.d : Kd → D
  | .none => .tup [.str "none"]
  | .one => .tup [.str "one"]
  | .name i => .tup [.str "name", .int i]
  | .ei a b => .tup [.str "either", a.d, b.d]
  | .bo a b => .tup [.str "both", a.d, b.d]
def Kd.lv : Kd → Nat
  | .ei a b => a.lv + b.lv
  | .bo a b => a.lv + b.lv
  | _ => 1
/-- names from 0 to 3 -/
def Kd.ok : Kd → Prop
  | .name i => 0 ≤ i ∧ i < 4
  | .ei a b => a.ok ∧ b.ok
  | .bo a b => a.ok ∧ b.ok
  | _ => True
theorem Kd.lv_pos : ∀ k : Kd, 0 < k.lv
  | .none => by simp [Kd.lv]
  | .one => by simp [Kd.lv]
  | .name _ => by simp [Kd.lv]
  | .ei a b => by have := a.lv_pos; simp [Kd.lv]; omega
  | .bo a b => by have := a.lv_pos; simp [Kd.lv]; omega
def Kd.dep : Kd → Nat
  | .ei a b => max a.dep b.dep + 1
  | .bo a b => max a.dep b.dep + 1
  | _ => 1
theorem Kd.dep_lv : ∀ k : Kd, k.dep ≤ k.lv
  | .none => by simp [Kd.lv, Kd.dep]
  | .one => by simp [Kd.lv, Kd.dep]
  | .name _ => by simp [Kd.lv, Kd.dep]
  | .ei a b => by have := a.dep_lv; have := b.dep_lv; have := a.lv_pos; have := b.lv_pos; simp only [Kd.lv, Kd.dep]; omega
  | .bo a b => by have := a.dep_lv; have := b.dep_lv; have := a.lv_pos; have := b.lv_pos; simp only [Kd.lv, Kd.dep]; omega
theorem Kd.d_dep : ∀ k : Kd, k.d.dep ≤ k.dep
  | .none => by decide
  | .one => by decide
  | .name _ => by simp [Kd.d, D.dep, D.deps, Kd.dep]
  | .ei a b => by
    have h1 := a.d_dep; have h2 := b.d_dep
    simp only [Kd.d, D.dep, D.deps, Kd.dep, Nat.max_def]
    repeat' split
    all_goals omega
  | .bo a b => by
    have h1 := a.d_dep; have h2 := b.d_dep
    simp only [Kd.d, D.dep, D.deps, Kd.dep, Nat.max_def]
    repeat' split
    all_goals omega
/-- the law's kinds -/
theorem kind_ev : ∀ (n m : Nat), 1 ≤ m → m ≤ n → ∀ (c k : Int), ∃ q : Kd, q.lv = m ∧ q.ok ∧ m_law_kindN n [.dat (.int c), .dat (.int m), .dat (.int k)] = .ret (.dat q.d)
  | 0, m, h1, h2, _, _ => by omega
  | n + 1, m, h1, h2, c, k => by
    rw [m_law_kindN_eq]
    unfold b_law_kind
    have q5 : ∀ x : Int, mulOk 5 x = true := fun x => mul64l (by decide) (by decide)
    have q2 : ∀ x : Int, mulOk 2 x = true := fun x => mul64l (by decide) (by decide)
    by_cases hm : m < 2
    · have em : m = 1 := by omega
      subst em
      obtain ⟨r1, r2⟩ := draw_rng c (5 * k) 12 (by decide)
      by_cases e0 : drawI c (5 * k) 12 = 0
      · refine ⟨.none, rfl, trivial, ?_⟩
        simp [kMul_i, q5, draw_ev, e0, Kd.d]
      · by_cases e1 : drawI c (5 * k) 12 < 3
        · refine ⟨.one, rfl, trivial, ?_⟩
          simp [kMul_i, q5, draw_ev, e0, e1, Kd.d]
        · refine ⟨.name (drawI c (5 * k) 12 % 4), rfl, ⟨by omega, by omega⟩, ?_⟩
          simp [kMul_i, q5, draw_ev, e0, e1, Kd.d, kMod_i]
    · have hm' : ¬ ((m : Int) < 2) := by omega
      obtain ⟨r1, r2⟩ := draw_rng c (5 * k + 1) ((m : Int) - 1) (by omega)
      obtain ⟨l, hl⟩ : ∃ l : Nat, (l : Int) = 1 + drawI c (5 * k + 1) ((m : Int) - 1) := ⟨(1 + drawI c (5 * k + 1) ((m : Int) - 1)).toNat, by omega⟩
      obtain ⟨a, a1, a2, a3⟩ := kind_ev n l (by omega) (by omega) c (2 * k)
      obtain ⟨b, b1, b2, b3⟩ := kind_ev n (m - l) (by omega) (by omega) c (2 * k + 1)
      have em : ((m - l : Nat) : Int) = (m : Int) - (l : Int) := by omega
      rw [em] at b3
      obtain ⟨w1, w2⟩ := draw_rng c (5 * k + 2) 2 (by decide)
      have dv1 := draw_ev c (5 * k + 1) ((m : Int) - 1) (by omega)
      have dv2 := draw_ev c (5 * k + 2) 2 (by decide)
      rcases (show drawI c (5 * k + 2) 2 = 0 ∨ drawI c (5 * k + 2) 2 = 1 by omega) with w | w
      · refine ⟨.ei a b, by simp only [Kd.lv]; omega, ⟨a2, b2⟩, ?_⟩
        simp [kMul_i, q5, q2, dv1, dv2, hm', w, ← hl, a3, b3, Kd.d]
      · refine ⟨.bo a b, by simp only [Kd.lv]; omega, ⟨a2, b2⟩, ?_⟩
        simp [kMul_i, q5, q2, dv1, dv2, hm', w, ← hl, a3, b3, Kd.d]
end KT

set_option linter.all false
set_option maxRecDepth 100000
set_option maxHeartbeats 4000000
namespace KT
open PySem PySem.Spec PyProof.Rows L2

/-! ## plain data -/
mutual
/-- whole numbers, texts and tuples of such -/
def D.pl : D → Bool
  | .int _ => true
  | .str _ => true
  | .tup ds => D.pls ds
  | _ => false
def D.pls : List D → Bool
  | [] => true
  | d :: ds => D.pl d && D.pls ds
end
mutual
def D.nd : D → Nat
  | .tup ds => D.nds ds + 1
  | _ => 1
def D.nds : List D → Nat
  | [] => 0
  | d :: ds => D.nd d + D.nds ds
end
noncomputable instance instDecD : DecidableEq D := Classical.typeDecidableEq D
mutual
theorem D.deq_iff : ∀ a b : D, a.pl = true → b.pl = true → (D.deq a b = true ↔ a = b)
  | .non, b, h, _ => by cases h
  | .bl _, b, h, _ => by cases h
  | .int i, .int j, _, _ => by simp [D.deq]
  | .int i, .str j, _, _ => by simp [D.deq]
  | .int i, .tup j, _, _ => by simp [D.deq]
  | .int i, .non, _, h => by cases h
  | .int i, .bl _, _, h => by cases h
  | .str i, .int j, _, _ => by simp [D.deq]
  | .str i, .str j, _, _ => by simp [D.deq]
  | .str i, .tup j, _, _ => by simp [D.deq]
  | .str i, .non, _, h => by cases h
  | .str i, .bl _, _, h => by cases h
  | .tup i, .int j, _, _ => by simp [D.deq]
  | .tup i, .str j, _, _ => by simp [D.deq]
  | .tup i, .non, _, h => by cases h
  | .tup i, .bl _, _, h => by cases h
  | .tup xs, .tup ys, h, g => by
    simp only [D.deq, D.tup.injEq]
    exact D.deqs_iff xs ys h g
theorem D.deqs_iff : ∀ a b : List D, D.pls a = true → D.pls b = true → (D.deqs a b = true ↔ a = b)
  | [], [], _, _ => by simp [D.deqs]
  | [], _ :: _, _, _ => by simp [D.deqs]
  | _ :: _, [], _, _ => by simp [D.deqs]
  | x :: xs, y :: ys, h, g => by
    simp only [D.pls, Bool.and_eq_true] at h g
    simp only [D.deqs, Bool.and_eq_true, List.cons.injEq, D.deq_iff x y h.1 g.1, D.deqs_iff xs ys h.2 g.2]
end
theorem D.deq_eq {a b : D} (h : a.pl = true) (g : b.pl = true) : D.deq a b = decide (a = b) := by
  by_cases e : a = b
  · rw [decide_eq_true e]; exact (D.deq_iff a b h g).mpr e
  · rw [decide_eq_false e]
    cases q : D.deq a b with
    | false => rfl
    | true => exact absurd ((D.deq_iff a b h g).mp q) e
theorem D.deqs_eq {a b : List D} (h : D.pls a = true) (g : D.pls b = true) : D.deqs a b = decide (a = b) := by
  by_cases e : a = b
  · rw [decide_eq_true e]; exact (D.deqs_iff a b h g).mpr e
  · rw [decide_eq_false e]
    cases q : D.deqs a b with
    | false => rfl
    | true => exact absurd ((D.deqs_iff a b h g).mp q) e
theorem D.pls_ints (is : List Int) : D.pls (is.map D.int) = true := by
  induction is with
  | nil => rfl
  | cons i is ih => simp [D.pls, D.pl, ih]
theorem D.pls_append (a b : List D) : D.pls (a ++ b) = (D.pls a && D.pls b) := by
  induction a with
  | nil => simp [D.pls]
  | cons x a ih => simp [D.pls, ih, Bool.and_assoc]
theorem D.pls_all : ∀ a : List D, D.pls a = true ↔ ∀ x ∈ a, x.pl = true
  | [] => by simp [D.pls]
  | x :: a => by simp [D.pls, D.pls_all a]
theorem D.deps_le {n : Nat} : ∀ a : List D, (∀ x ∈ a, x.dep ≤ n) → D.deps a ≤ n
  | [], _ => by simp [D.deps]
  | x :: a, h => by
    have h1 := h x (by simp)
    have h2 := D.deps_le a fun y hy => h y (by simp [hy])
    simp only [D.deps, Nat.max_def]
    split <;> omega
theorem D.deps_ints (is : List Int) : D.deps (is.map D.int) = 0 := by
  induction is with
  | nil => rfl
  | cons i is ih => simp [D.deps, D.dep, ih]
theorem D.nds_append (a b : List D) : D.nds (a ++ b) = D.nds a + D.nds b := by
  induction a with
  | nil => simp [D.nds]
  | cons x a ih => simp [D.nds, ih, Nat.add_assoc]
theorem D.nds_len : ∀ a : List D, a.length ≤ D.nds a
  | [] => by simp
  | x :: a => by
    have h := D.nds_len a
    have : 1 ≤ x.nd := by cases x <;> simp [D.nd]
    simp only [List.length_cons, D.nds]
    omega
theorem Kd.pl : ∀ k : Kd, k.d.pl = true
  | .none => rfl
  | .one => rfl
  | .name _ => rfl
  | .ei a b => by simp [Kd.d, D.pl, D.pls, a.pl, b.pl]
  | .bo a b => by simp [Kd.d, D.pl, D.pls, a.pl, b.pl]
theorem Kd.nd2 : ∀ k : Kd, k.d.nd + 2 ≤ 5 * k.lv
  | .none => by decide
  | .one => by decide
  | .name _ => by simp [Kd.d, D.nd, D.nds, Kd.lv]
  | .ei a b => by
    have := a.nd2; have := b.nd2; have := a.lv_pos; have := b.lv_pos
    simp only [Kd.d, D.nd, D.nds, Kd.lv]; omega
  | .bo a b => by
    have := a.nd2; have := b.nd2; have := a.lv_pos; have := b.lv_pos
    simp only [Kd.d, D.nd, D.nds, Kd.lv]; omega
theorem Kd.nd (k : Kd) : k.d.nd ≤ 5 * k.lv := by have := k.nd2; omega
/-! ## _law_whole, _law_whole_thing, _law_same -/
theorem whole_i (i : Int) : m_law_whole [.dat (.int i)] = .ret (.dat (.bl true)) := by
  rw [m_law_whole_eq]; unfold b_law_whole; simp [isiT]
theorem whole_s (i : String) : m_law_whole [.dat (.str i)] = .ret (.dat (.bl false)) := by
  rw [m_law_whole_eq]; unfold b_law_whole; simp [isiT]
theorem kNe_lists (ds es : List D) (h : min (D.deps ds) (D.deps es) + 1 ≤ 190) : kNe (.bor ds) (.own es) = .ok (.dat (.bl (!D.deqs ds es))) := by
  simp [kNe, vEq, dpOf, seqOf]
  omega
theorem kEq_lists (ds es : List D) (h : min (D.deps ds) (D.deps es) + 1 ≤ 190) : kEq (.bor ds) (.own es) = .ok (.dat (.bl (D.deqs ds es))) := by
  simp [kEq, vEq, dpOf, seqOf]
  omega
@[simp] theorem kNe_nil (ds : List D) : kNe (.bor ds) (.own []) = .ok (.dat (.bl (decide (ds ≠ [])))) := by
  rw [kNe_lists _ _ (by simp [D.deps])]
  cases ds <;> simp [D.deqs]
theorem and_tt {a b : Bool} (h : (a && b) = true) : a = true ∧ b = true := by simpa using h
abbrev wtC : TF := cOf (eTwo kNe (eVar 1) (eLst aNil))
abbrev wtB (g : FF) : SF := sSeq (sPopTo 2 1) (sIf (cOf (eOne (kIsi "tuple") (eVar 2))) (sExt 1 (eVar 2)) (sIf (cAnd (cNot (cOf (eCall g (aCons (eVar 2) aNil)))) (cNot (cOf (eOne (kIsi "str") (eVar 2))))) (sRet (eC (.bl false))) sNext))
mutual
theorem wt_loop : ∀ (d : D) (f : Option DV) (W : List D) (x : Option DV) (n : Nat), d.pl = true → W.length + d.nd ≤ 16777216 → ∃ x', whileF wtC (wtB m_law_whole) (n + d.nd) [f, some (.own (W ++ [d])), x] = whileF wtC (wtB m_law_whole) n [f, some (.own W), x']
  | .non, _, _, _, _, h, _ => by cases h
  | .bl _, _, _, _, _, h, _ => by cases h
  | .int i, f, W, x, n, _, _ => ⟨some (.dat (.int i)), by simp [D.nd, while_s, isiT, whole_i]⟩
  | .str i, f, W, x, n, _, _ => ⟨some (.dat (.str i)), by simp [D.nd, while_s, isiT, whole_s]⟩
  | .tup ds, f, W, x, n, h, hl => by
    have hn := D.nds_len ds
    simp only [D.nd] at hl
    obtain ⟨x', e⟩ := wt_loops ds f W (some (.dat (.tup ds))) n h (by omega)
    refine ⟨x', ?_⟩
    have e2 : n + (D.nds ds + 1) = (n + D.nds ds) + 1 := by omega
    rw [D.nd, e2, ← e, while_s]
    have : W.length + ds.length ≤ 16777216 := by omega
    simp [isiT, this]
theorem wt_loops : ∀ (ds : List D) (f : Option DV) (W : List D) (x : Option DV) (n : Nat), D.pls ds = true → W.length + D.nds ds ≤ 16777216 → ∃ x', whileF wtC (wtB m_law_whole) (n + D.nds ds) [f, some (.own (W ++ ds)), x] = whileF wtC (wtB m_law_whole) n [f, some (.own W), x']
  | [], f, W, x, n, _, _ => ⟨x, by simp [D.nds]⟩
  | d :: ds, f, W, x, n, h, hl => by
    obtain ⟨h1, h2⟩ := and_tt (show (D.pl d && D.pls ds) = true from h)
    simp only [D.nds] at hl
    have hd : 1 ≤ d.nd := by cases d <;> simp [D.nd]
    obtain ⟨x1, e1⟩ := wt_loops ds f (W ++ [d]) x (n + d.nd) h2 (by simp only [List.length_append, List.length_singleton]; omega)
    obtain ⟨x2, e2⟩ := wt_loop d f W x1 n h1 (by omega)
    refine ⟨x2, ?_⟩
    rw [← e2, ← e1, D.nds, List.append_assoc]
    have : n + (d.nd + D.nds ds) = n + d.nd + D.nds ds := by omega
    rw [this]
    rfl
end
theorem whole_thing_ev (d : D) (h : d.pl = true) (hn : d.nd ≤ 900000) : m_law_whole_thing [.dat d] = .ret (.dat (.bl true)) := by
  rw [m_law_whole_thing_eq]
  unfold b_law_whole_thing
  obtain ⟨x', e⟩ := wt_loop d (some (.dat d)) [] none (1000000 - d.nd - 1 + 1) h (by simp; omega)
  have e1 : 1000000 - d.nd - 1 + 1 + d.nd = FUEL := by unfold FUEL; omega
  rw [e1] at e
  have e2 : whileF wtC (wtB m_law_whole) FUEL [some (.dat d), some (.own [d]), none] = .nx [some (.dat d), some (.own []), x'] := by
    rw [List.nil_append] at e
    rw [e, while_s]
    simp
  simp [sWhile, e2]
theorem same_ev (a b : D) (h : a.pl = true) (hn : a.nd ≤ 900000) (hb : b.pl = true) (hd : min a.dep b.dep ≤ 190) : m_law_same [.dat a, .dat b] = .ret (.dat (.bl (decide (a = b)))) := by
  rw [m_law_same_eq]
  unfold b_law_same
  simp [whole_thing_ev a h hn, kEq_dd a b hd, D.deq_eq h hb]
end KT

set_option linter.all false
set_option maxRecDepth 100000
set_option maxHeartbeats 4000000
namespace KT
open PySem PySem.Spec PyProof.Rows L2

/-! ## paths -/
def Kd.at : Kd → List Int → Option Kd
  | k, [] => some k
  | .ei a b, s :: p => if s = 0 then a.at p else if s = 1 then b.at p else Option.none
  | .bo a b, s :: p => if s = 0 then a.at p else if s = 1 then b.at p else Option.none
  | _, _ :: _ => Option.none
def pD (p : List Int) : D := .tup (p.map D.int)
theorem pD_pl (p : List Int) : (pD p).pl = true := by simp [pD, D.pl, D.pls_ints]
theorem pD_dep (p : List Int) : (pD p).dep = 1 := by simp [pD, D.dep, D.deps_ints]
theorem pD_inj {p q : List Int} (h : pD p = pD q) : p = q := by
  have h2 : p.map D.int = q.map D.int := by simpa [pD] using h
  exact (List.map_inj_right (fun a b e => by simpa using e)).mp h2
def Kd.pre : Kd → List Int → List (List Int)
  | .ei a b, p => p :: (a.pre (p ++ [0]) ++ b.pre (p ++ [1]))
  | .bo a b, p => p :: (a.pre (p ++ [0]) ++ b.pre (p ++ [1]))
  | _, p => [p]
def Kd.paths (k : Kd) : List (List Int) := k.pre []
theorem Kd.at_append : ∀ (p : List Int) (k q : Kd) (r : List Int), k.at p = some q → k.at (p ++ r) = q.at r
  | [], k, q, r, h => by
    have : k.at [] = some k := by cases k <;> rfl
    rw [this] at h; cases h; rfl
  | s :: p, k, q, r, h => by
    cases k with
    | ei a b =>
      simp only [Kd.at, List.cons_append] at h ⊢
      split at h
      · rename_i e; rw [if_pos e]; exact Kd.at_append p a q r h
      · rename_i e; rw [if_neg e]
        split at h
        · rename_i e2; rw [if_pos e2]; exact Kd.at_append p b q r h
        · cases h
    | bo a b =>
      simp only [Kd.at, List.cons_append] at h ⊢
      split at h
      · rename_i e; rw [if_pos e]; exact Kd.at_append p a q r h
      · rename_i e; rw [if_neg e]
        split at h
        · rename_i e2; rw [if_pos e2]; exact Kd.at_append p b q r h
        · cases h
    | none => cases h
    | one => cases h
    | name _ => cases h
theorem Kd.at_nil (k : Kd) : k.at [] = some k := by cases k <;> rfl
theorem Kd.mem_pre : ∀ (k : Kd) (p q : List Int), q ∈ k.pre p ↔ ∃ r, q = p ++ r ∧ (k.at r).isSome
  | .none, p, q => by
    simp only [Kd.pre, List.mem_singleton]
    refine ⟨fun h => ⟨[], by simpa using h, rfl⟩, fun ⟨r, h, e⟩ => ?_⟩
    cases r with
    | nil => simpa using h
    | cons _ _ => cases e
  | .one, p, q => by
    simp only [Kd.pre, List.mem_singleton]
    refine ⟨fun h => ⟨[], by simpa using h, rfl⟩, fun ⟨r, h, e⟩ => ?_⟩
    cases r with
    | nil => simpa using h
    | cons _ _ => cases e
  | .name _, p, q => by
    simp only [Kd.pre, List.mem_singleton]
    refine ⟨fun h => ⟨[], by simpa using h, rfl⟩, fun ⟨r, h, e⟩ => ?_⟩
    cases r with
    | nil => simpa using h
    | cons _ _ => cases e
  | .ei a b, p, q => by
    simp only [Kd.pre, List.mem_cons, List.mem_append, Kd.mem_pre a, Kd.mem_pre b]
    constructor
    · rintro (h | ⟨r, h, e⟩ | ⟨r, h, e⟩)
      · exact ⟨[], by simpa using h, rfl⟩
      · exact ⟨0 :: r, by simpa using h, by simpa [Kd.at] using e⟩
      · exact ⟨1 :: r, by simpa using h, by simpa [Kd.at] using e⟩
    · rintro ⟨r, h, e⟩
      cases r with
      | nil => exact .inl (by simpa using h)
      | cons s r =>
        simp only [Kd.at] at e
        split at e
        · rename_i z; subst z; exact .inr (.inl ⟨r, by simpa using h, e⟩)
        · split at e
          · rename_i z; subst z; exact .inr (.inr ⟨r, by simpa using h, e⟩)
          · cases e
  | .bo a b, p, q => by
    simp only [Kd.pre, List.mem_cons, List.mem_append, Kd.mem_pre a, Kd.mem_pre b]
    constructor
    · rintro (h | ⟨r, h, e⟩ | ⟨r, h, e⟩)
      · exact ⟨[], by simpa using h, rfl⟩
      · exact ⟨0 :: r, by simpa using h, by simpa [Kd.at] using e⟩
      · exact ⟨1 :: r, by simpa using h, by simpa [Kd.at] using e⟩
    · rintro ⟨r, h, e⟩
      cases r with
      | nil => exact .inl (by simpa using h)
      | cons s r =>
        simp only [Kd.at] at e
        split at e
        · rename_i z; subst z; exact .inr (.inl ⟨r, by simpa using h, e⟩)
        · split at e
          · rename_i z; subst z; exact .inr (.inr ⟨r, by simpa using h, e⟩)
          · cases e
theorem Kd.mem_paths (k : Kd) (q : List Int) : q ∈ k.paths ↔ (k.at q).isSome := by
  rw [Kd.paths, Kd.mem_pre]
  exact ⟨fun ⟨r, h, e⟩ => by simp at h; subst h; exact e, fun h => ⟨q, by simp, h⟩⟩
theorem Kd.pre_len : ∀ (k : Kd) (p : List Int), (k.pre p).length + 1 = 2 * k.lv
  | .none, p => rfl
  | .one, p => rfl
  | .name _, p => rfl
  | .ei a b, p => by
    have := a.pre_len (p ++ [0]); have := b.pre_len (p ++ [1])
    simp only [Kd.pre, List.length_cons, List.length_append, Kd.lv]; omega
  | .bo a b, p => by
    have := a.pre_len (p ++ [0]); have := b.pre_len (p ++ [1])
    simp only [Kd.pre, List.length_cons, List.length_append, Kd.lv]; omega
theorem Kd.at_dep : ∀ (p : List Int) (k q : Kd), k.at p = some q → p.length + q.dep ≤ k.dep
  | [], k, q, h => by rw [Kd.at_nil] at h; cases h; simp
  | s :: p, k, q, h => by
    cases k with
    | none => cases h
    | one => cases h
    | name _ => cases h
    | ei a b =>
      simp only [Kd.at] at h
      split at h
      · have := Kd.at_dep p a q h; simp only [List.length_cons, Kd.dep]; omega
      · split at h
        · have := Kd.at_dep p b q h; simp only [List.length_cons, Kd.dep]; omega
        · cases h
    | bo a b =>
      simp only [Kd.at] at h
      split at h
      · have := Kd.at_dep p a q h; simp only [List.length_cons, Kd.dep]; omega
      · split at h
        · have := Kd.at_dep p b q h; simp only [List.length_cons, Kd.dep]; omega
        · cases h
theorem Kd.at_lv : ∀ (p : List Int) (k q : Kd), k.at p = some q → q.lv ≤ k.lv
  | [], k, q, h => by rw [Kd.at_nil] at h; cases h; simp
  | s :: p, k, q, h => by
    cases k with
    | none => cases h
    | one => cases h
    | name _ => cases h
    | ei a b =>
      simp only [Kd.at] at h
      split at h
      · have := Kd.at_lv p a q h; simp only [Kd.lv]; omega
      · split at h
        · have := Kd.at_lv p b q h; simp only [Kd.lv]; omega
        · cases h
    | bo a b =>
      simp only [Kd.at] at h
      split at h
      · have := Kd.at_lv p a q h; simp only [Kd.lv]; omega
      · split at h
        · have := Kd.at_lv p b q h; simp only [Kd.lv]; omega
        · cases h
/-! ## _law_part -/
abbrev lpB : SF := sAsg 0 (eTwo kIx (eVar 0) (eTwo kAdd (eC (.int 1)) (eVar 2)))
theorem lp_loop : ∀ (p : List Int) (k q : Kd) (P x : Option DV), k.at p = some q → ∃ x', loop (bName 2) lpB (p.map D.int) [some (.dat k.d), P, x] = .nx [some (.dat q.d), P, x']
  | [], k, q, P, x, h => by rw [Kd.at_nil] at h; cases h; exact ⟨x, rfl⟩
  | s :: p, k, q, P, x, h => by
    cases k with
    | none => cases h
    | one => cases h
    | name _ => cases h
    | ei a b =>
      simp only [Kd.at] at h
      split at h
      · rename_i e; subst e
        obtain ⟨x', e⟩ := lp_loop p a q P (some (.dat (.int 0))) h
        exact ⟨x', by simp [loop_cons, Kd.d, e]⟩
      · split at h
        · rename_i e; subst e
          obtain ⟨x', e⟩ := lp_loop p b q P (some (.dat (.int 1))) h
          exact ⟨x', by simp [loop_cons, Kd.d, e]⟩
        · cases h
    | bo a b =>
      simp only [Kd.at] at h
      split at h
      · rename_i e; subst e
        obtain ⟨x', e⟩ := lp_loop p a q P (some (.dat (.int 0))) h
        exact ⟨x', by simp [loop_cons, Kd.d, e]⟩
      · split at h
        · rename_i e; subst e
          obtain ⟨x', e⟩ := lp_loop p b q P (some (.dat (.int 1))) h
          exact ⟨x', by simp [loop_cons, Kd.d, e]⟩
        · cases h
theorem lpart_ev {k q : Kd} {p : List Int} (h : k.at p = some q) : m_law_part [.dat k.d, .dat (pD p)] = .ret (.dat q.d) := by
  rw [m_law_part_eq]
  unfold b_law_part
  obtain ⟨x', e⟩ := lp_loop p k q (some (.dat (pD p))) none h
  simp only [pD] at e
  simp [pD, e]
/-! ## _law_paths -/
def Kd.arity : Kd → Nat
  | .none => 1
  | .one => 1
  | .name _ => 2
  | _ => 3
theorem Kd.d_len : ∀ k : Kd, ∃ ds, k.d = .tup ds ∧ ds.length = k.arity
  | .none => ⟨_, rfl, rfl⟩
  | .one => ⟨_, rfl, rfl⟩
  | .name _ => ⟨_, rfl, rfl⟩
  | .ei _ _ => ⟨_, rfl, rfl⟩
  | .bo _ _ => ⟨_, rfl, rfl⟩
abbrev psC : TF := cOf (eTwo kNe (eVar 2) (eLst aNil))
abbrev psB (g : FF) : SF := sSeq (sPopTo 3 2) (sSeq (sApp 1 (eVar 3)) (sIf (cOf (eTwo kEq (eCB kLen (aCons (eCall g (aCons (eVar 0) (aCons (eVar 3) aNil))) aNil)) (eC (.int 3)))) (sExt 2 (eLst (aCons (eTwo kAdd (eVar 3) (eTup (aCons (eC (.int 1)) aNil))) (aCons (eTwo kAdd (eVar 3) (eTup (aCons (eC (.int 0)) aNil))) aNil)))) sNext))
theorem pD_snoc (p : List Int) (s : Int) : D.tup (p.map D.int ++ [D.int s]) = pD (p ++ [s]) := by simp [pD]
theorem ps_loop (K : Kd) : ∀ (t : Kd) (p : List Int) (F W : List D) (x : Option DV) (n : Nat), K.at p = some t → F.length + (t.pre p).length < 16000000 → W.length + 2 * t.lv < 16000000 → p.length + t.lv < 16000000 →
    ∃ x', whileF psC (psB m_law_part) (n + (t.pre p).length) [some (.dat K.d), some (.own F), some (.own (W ++ [pD p])), x] = whileF psC (psB m_law_part) n [some (.dat K.d), some (.own (F ++ (t.pre p).map pD)), some (.own W), x'] := by
  have leaf : ∀ (t : Kd) (p : List Int) (F W : List D) (x : Option DV) (n : Nat), t.arity ≠ 3 → t.pre p = [p] → K.at p = some t → F.length + (t.pre p).length < 16000000 →
      ∃ x', whileF psC (psB m_law_part) (n + (t.pre p).length) [some (.dat K.d), some (.own F), some (.own (W ++ [pD p])), x] = whileF psC (psB m_law_part) n [some (.dat K.d), some (.own (F ++ (t.pre p).map pD)), some (.own W), x'] := by
    intro t p F W x n ha hp h hF
    obtain ⟨ds, e1, e2⟩ := t.d_len
    have hl := lpart_ev h
    rw [e1] at hl
    rw [hp] at hF ⊢
    simp only [List.length_singleton] at hF
    have hF2 : F.length < 16777216 := by omega
    have h3 : ¬ ((ds.length : Int) = 3) := by rw [e2]; omega
    exact ⟨some (.dat (pD p)), by simp [while_s, hl, hF2, h3]⟩
  have node : ∀ (t a b : Kd), t.arity = 3 → (∀ p, t.pre p = p :: (a.pre (p ++ [0]) ++ b.pre (p ++ [1]))) → t.lv = a.lv + b.lv → (∀ s r, t.at (s :: r) = if s = 0 then a.at r else if s = 1 then b.at r else Option.none) →
      (∀ (p : List Int) (F W : List D) (x : Option DV) (n : Nat), K.at p = some a → F.length + (a.pre p).length < 16000000 → W.length + 2 * a.lv < 16000000 → p.length + a.lv < 16000000 →
        ∃ x', whileF psC (psB m_law_part) (n + (a.pre p).length) [some (.dat K.d), some (.own F), some (.own (W ++ [pD p])), x] = whileF psC (psB m_law_part) n [some (.dat K.d), some (.own (F ++ (a.pre p).map pD)), some (.own W), x']) →
      (∀ (p : List Int) (F W : List D) (x : Option DV) (n : Nat), K.at p = some b → F.length + (b.pre p).length < 16000000 → W.length + 2 * b.lv < 16000000 → p.length + b.lv < 16000000 →
        ∃ x', whileF psC (psB m_law_part) (n + (b.pre p).length) [some (.dat K.d), some (.own F), some (.own (W ++ [pD p])), x] = whileF psC (psB m_law_part) n [some (.dat K.d), some (.own (F ++ (b.pre p).map pD)), some (.own W), x']) →
      ∀ (p : List Int) (F W : List D) (x : Option DV) (n : Nat), K.at p = some t → F.length + (t.pre p).length < 16000000 → W.length + 2 * t.lv < 16000000 → p.length + t.lv < 16000000 →
        ∃ x', whileF psC (psB m_law_part) (n + (t.pre p).length) [some (.dat K.d), some (.own F), some (.own (W ++ [pD p])), x] = whileF psC (psB m_law_part) n [some (.dat K.d), some (.own (F ++ (t.pre p).map pD)), some (.own W), x'] := by
    intro t a b ha hp hv hat iha ihb p F W x n h hF hW hL
    obtain ⟨ds, e1, e2⟩ := t.d_len
    have hl := lpart_ev h
    rw [e1] at hl
    rw [hp] at hF ⊢
    have pa := a.pre_len (p ++ [0])
    have pb := b.pre_len (p ++ [1])
    have la := a.lv_pos
    have lb := b.lv_pos
    simp only [List.length_cons, List.length_append] at hF
    have hF2 : F.length < 16777216 := by omega
    have hW2 : W.length + 2 ≤ 16777216 := by omega
    have h3 : ((ds.length : Int) = 3) := by rw [e2, ha]; rfl
    have h4 : p.length + 1 ≤ 16777216 := by omega
    have at0 : K.at (p ++ [0]) = some a := by rw [Kd.at_append p K t [0] h, hat]; simp [Kd.at_nil]
    have at1 : K.at (p ++ [1]) = some b := by rw [Kd.at_append p K t [1] h, hat]; simp [Kd.at_nil]
    obtain ⟨x1, E1⟩ := iha (p ++ [0]) (F ++ [pD p]) (W ++ [pD (p ++ [1])]) (some (.dat (pD p))) (n + (b.pre (p ++ [1])).length) at0 (by simp only [List.length_append, List.length_singleton]; omega) (by simp only [List.length_append, List.length_singleton]; omega) (by simp only [List.length_append, List.length_singleton]; omega)
    obtain ⟨x2, E2⟩ := ihb (p ++ [1]) (F ++ [pD p] ++ (a.pre (p ++ [0])).map pD) W x1 n at1 (by simp only [List.length_append, List.length_singleton, List.length_map]; omega) (by omega) (by simp only [List.length_append, List.length_singleton]; omega)
    refine ⟨x2, ?_⟩
    have en : n + (p :: (a.pre (p ++ [0]) ++ b.pre (p ++ [1]))).length = (n + (b.pre (p ++ [1])).length + (a.pre (p ++ [0])).length) + 1 := by simp only [List.length_cons, List.length_append]; omega
    have eF : F ++ (p :: (a.pre (p ++ [0]) ++ b.pre (p ++ [1]))).map pD = F ++ [pD p] ++ (a.pre (p ++ [0])).map pD ++ (b.pre (p ++ [1])).map pD := by simp
    rw [en, eF, ← E2, ← E1, while_s]
    have pe : ∀ q : List Int, pD q = .tup (q.map D.int) := fun _ => rfl
    have hl' : m_law_part [.dat K.d, .dat (.tup (p.map D.int))] = .ret (.dat (.tup ds)) := hl
    simp [hl', hF2, hW2, h3, h4, pe]
  intro t
  induction t with
  | none => intro p F W x n h hF _ _; exact leaf .none p F W x n (by decide) rfl h hF
  | one => intro p F W x n h hF _ _; exact leaf .one p F W x n (by decide) rfl h hF
  | name i => intro p F W x n h hF _ _; exact leaf (.name i) p F W x n (by simp [Kd.arity]) rfl h hF
  | ei a b iha ihb => exact node (.ei a b) a b rfl (fun _ => rfl) rfl (fun _ _ => rfl) iha ihb
  | bo a b iha ihb => exact node (.bo a b) a b rfl (fun _ => rfl) rfl (fun _ _ => rfl) iha ihb
theorem paths_ev (k : Kd) (h : k.lv ≤ 100000) : m_law_paths [.dat k.d] = .ret (.own (k.paths.map pD)) := by
  rw [m_law_paths_eq]
  unfold b_law_paths
  have hp := k.pre_len []
  obtain ⟨x', e⟩ := ps_loop k k [] [] [] none (1000000 - (k.pre []).length - 1 + 1) (Kd.at_nil k) (by simp; omega) (by simp; omega) (by simp; omega)
  have e1 : 1000000 - (k.pre []).length - 1 + 1 + (k.pre []).length = FUEL := by unfold FUEL; omega
  rw [e1] at e
  have e2 : whileF psC (psB m_law_part) FUEL [some (.dat k.d), some (.own []), some (.own [.tup []]), none] = .nx [some (.dat k.d), some (.own (k.paths.map pD)), some (.own []), x'] := by
    rw [List.nil_append] at e
    have e3 : pD [] = .tup [] := rfl
    rw [e3] at e
    rw [e, while_s]
    simp [Kd.paths]
  simp [sWhile, e2]
end KT

set_option linter.all false
set_option maxRecDepth 100000
set_option maxHeartbeats 4000000
namespace KT
open PySem PySem.Spec PyProof.Rows L2

/-! ## sizes -/
structure SzOk (sz : List Int) (M : Int) : Prop where
  len : sz.length = 4
  rng : ∀ s ∈ sz, 0 ≤ s ∧ s ≤ M
theorem SzOk.up {sz : List Int} {M N : Int} (h : SzOk sz M) (e : M ≤ N) : SzOk sz N := ⟨h.len, fun s hs => ⟨(h.rng s hs).1, by have := (h.rng s hs).2; omega⟩⟩
def sizesI (c t : Int) : List Int := [drawI c 900 (t + 1), drawI c 901 (t + 1), drawI c 902 (t + 1), drawI c 903 (t + 1)]
theorem sizesI_ok (c t : Int) (h : 0 ≤ t) : SzOk (sizesI c t) t := ⟨rfl, fun s hs => by
  simp only [sizesI, List.mem_cons, List.not_mem_nil, or_false] at hs
  have r := fun k => draw_rng c k (t + 1) (by omega)
  have r2 : ∀ k, 0 ≤ drawI c k (t + 1) ∧ drawI c k (t + 1) ≤ t := fun k => ⟨(r k).1, by have := (r k).2; omega⟩
  rcases hs with rfl | rfl | rfl | rfl
  · exact r2 _
  · exact r2 _
  · exact r2 _
  · exact r2 _⟩
theorem range4 : rangeD 0 4 = [.int 0, .int 1, .int 2, .int 3] := rfl
theorem sizes_ev (c t : Int) (h : 0 ≤ t) : m_law_sizes [.dat (.int c), .dat (.int t)] = .ret (.dat (.tup ((sizesI c t).map D.int))) := by
  rw [m_law_sizes_eq]
  unfold b_law_sizes
  have d := fun k => draw_ev c k (t + 1) (by omega)
  have e4 : (4 : Int).toNat = 4 := rfl
  simp [range4, comp_cons, d, sizesI]
/-! ## how many -/
def Kd.cnt : Kd → List Int → Int
  | .none, _ => 0
  | .one, _ => 1
  | .name i, sz => sz.getD i.toNat 0
  | .ei a b, sz => a.cnt sz + b.cnt sz
  | .bo a b, sz => a.cnt sz * b.cnt sz
theorem sz_at {sz : List Int} {M : Int} (h : SzOk sz M) {i : Int} (h0 : 0 ≤ i) (h4 : i < 4) : ixD (sz.map D.int) i = some (.int (sz.getD i.toNat 0)) := by
  have hl : i.toNat < sz.length := by rw [h.len]; omega
  rw [ix_get h0]
  rw [List.getElem?_map, List.getElem?_eq_getElem hl]
  simp [List.getD, hl]
theorem sz_rng {sz : List Int} {M : Int} (h : SzOk sz M) (hM : 0 ≤ M) (n : Nat) : 0 ≤ sz.getD n 0 ∧ sz.getD n 0 ≤ M := by
  by_cases hn : n < sz.length
  · have : sz.getD n 0 = sz[n] := by simp [List.getD, hn]
    rw [this]
    exact h.rng _ (List.getElem_mem hn)
  · have : sz.getD n 0 = 0 := by simp [List.getD, hn]
    rw [this]; exact ⟨by omega, hM⟩
theorem two_pow_add {a b : Nat} (x y : Int) (hx : x ≤ 2 ^ a) (hy : y ≤ 2 ^ b) (ha : 1 ≤ a) (hb : 1 ≤ b) : x + y ≤ 2 ^ (a + b) := by
  have h1 : (2 : Int) ≤ 2 ^ a := by
    obtain ⟨c, rfl⟩ : ∃ c, a = c + 1 := ⟨a - 1, by omega⟩
    have : (0 : Int) < 2 ^ c := Int.pow_pos (by decide)
    rw [Int.pow_succ]; omega
  have h2 : (2 : Int) ≤ 2 ^ b := by
    obtain ⟨c, rfl⟩ : ∃ c, b = c + 1 := ⟨b - 1, by omega⟩
    have : (0 : Int) < 2 ^ c := Int.pow_pos (by decide)
    rw [Int.pow_succ]; omega
  rw [Int.pow_add]
  generalize (2 : Int) ^ a = A at *
  generalize (2 : Int) ^ b = B at *
  have : A + B ≤ A * B := by
    have h3 : 0 ≤ (A - 2) * (B - 1) := Int.mul_nonneg (by omega) (by omega)
    have h4 : (A - 2) * (B - 1) = A * B - A - 2 * B + 2 := by
      rw [Int.sub_mul, Int.mul_sub, Int.mul_sub]; omega
    omega
  omega
theorem Kd.cnt_rng {sz : List Int} (h : SzOk sz (2 ^ 20)) : ∀ k : Kd, 0 ≤ k.cnt sz ∧ k.cnt sz ≤ 2 ^ (20 * k.lv)
  | .none => ⟨Int.le_refl _, Int.le_of_lt (Int.pow_pos (by decide))⟩
  | .one => ⟨show (0 : Int) ≤ 1 by decide, show (1 : Int) ≤ 2 ^ 20 by decide⟩
  | .name i => by
    have := sz_rng h (by decide) i.toNat
    exact ⟨this.1, this.2⟩
  | .ei a b => by
    have ha := a.cnt_rng h; have hb := b.cnt_rng h; have := a.lv_pos; have := b.lv_pos
    simp only [Kd.cnt, Kd.lv, Nat.mul_add]
    exact ⟨by omega, two_pow_add _ _ ha.2 hb.2 (by omega) (by omega)⟩
  | .bo a b => by
    have ha := a.cnt_rng h; have hb := b.cnt_rng h
    simp only [Kd.cnt, Kd.lv, Nat.mul_add]
    refine ⟨Int.mul_nonneg ha.1 hb.1, ?_⟩
    rw [Int.pow_add]
    exact Int.mul_le_mul ha.2 hb.2 hb.1 (Int.le_of_lt (Int.pow_pos (by decide)))
theorem big_ok {n : Nat} {x : Int} (h0 : 0 ≤ x) (h : x ≤ 2 ^ n) (hn : n ≤ 3999) : x.natAbs < 2 ^ 4000 := by
  have h1 : (2 : Int) ^ n ≤ 2 ^ 3999 := by
    obtain ⟨c, hc⟩ : ∃ c, 3999 = n + c := ⟨3999 - n, by omega⟩
    rw [hc, Int.pow_add]
    have a : (0 : Int) < 2 ^ n := Int.pow_pos (by decide)
    have b : (0 : Int) < 2 ^ c := Int.pow_pos (by decide)
    have := Int.mul_le_mul_of_nonneg_left (show (1 : Int) ≤ 2 ^ c by omega) (Int.le_of_lt a)
    omega
  have h2 : (2 : Int) ^ 3999 < 2 ^ 4000 := by decide +kernel
  have h3 : ((x.natAbs : Nat) : Int) = x := by omega
  have h4 : ((2 ^ 4000 : Nat) : Int) = 2 ^ 4000 := by norm_cast
  have : (x.natAbs : Int) < ((2 ^ 4000 : Nat) : Int) := by rw [h3, h4]; exact Int.lt_of_le_of_lt (Int.le_trans h h1) h2
  exact Int.ofNat_lt.mp this
theorem mulBig {x y : Int} {a b : Nat} (hx0 : 0 ≤ x) (hx : x ≤ 2 ^ a) (ha : a ≤ 3999) (hy0 : 0 ≤ y) (hy : y ≤ 2 ^ b) (hb : b ≤ 3999) : mulOk x y = true := by
  unfold mulOk
  simp only [Bool.or_eq_true, Bool.and_eq_true, decide_eq_true_eq]
  exact .inr ⟨big_ok hx0 hx ha, big_ok hy0 hy hb⟩
theorem count_ev {sz : List Int} (h : SzOk sz (2 ^ 20)) : ∀ (n : Nat) (k : Kd), k.dep ≤ n → k.ok → k.lv ≤ 100 → m_countN n [.dat k.d, .dat (.tup (sz.map D.int))] = .ret (.dat (.int (k.cnt sz)))
  | 0, k, hn, _, _ => by cases k <;> simp [Kd.dep] at hn
  | n + 1, .none, _, _, _ => by rw [m_countN_eq]; unfold b_count; simp [Kd.d, Kd.cnt]
  | n + 1, .one, _, _, _ => by rw [m_countN_eq]; unfold b_count; simp [Kd.d, Kd.cnt]
  | n + 1, .name i, _, hk, _ => by
    rw [m_countN_eq]; unfold b_count
    simp [Kd.d, Kd.cnt, sz_at h hk.1 hk.2]
  | n + 1, .ei a b, hn, hk, hl => by
    have := a.lv_pos; have := b.lv_pos
    simp only [Kd.dep, Kd.lv] at hn hl
    have ea := count_ev h n a (by omega) hk.1 (by omega)
    have eb := count_ev h n b (by omega) hk.2 (by omega)
    rw [m_countN_eq]; unfold b_count
    simp [Kd.d, Kd.cnt, ea, eb]
  | n + 1, .bo a b, hn, hk, hl => by
    have := a.lv_pos; have := b.lv_pos
    simp only [Kd.dep, Kd.lv] at hn hl
    have ea := count_ev h n a (by omega) hk.1 (by omega)
    have eb := count_ev h n b (by omega) hk.2 (by omega)
    have ra := a.cnt_rng h
    have rb := b.cnt_rng h
    have mm := mulBig ra.1 ra.2 (by omega) rb.1 rb.2 (by omega)
    rw [m_countN_eq]; unfold b_count
    simp [Kd.d, Kd.cnt, ea, eb, kMul_i, mm]
theorem lcount_ev {sz : List Int} (h : SzOk sz (2 ^ 20)) : ∀ (n : Nat) (k : Kd), k.dep ≤ n → k.ok → k.lv ≤ 100 → m_law_countN n [.dat k.d, .dat (.tup (sz.map D.int))] = .ret (.dat (.int (k.cnt sz)))
  | 0, k, hn, _, _ => by cases k <;> simp [Kd.dep] at hn
  | n + 1, .none, _, _, _ => by rw [m_law_countN_eq]; unfold b_law_count; simp [Kd.d, Kd.cnt]
  | n + 1, .one, _, _, _ => by rw [m_law_countN_eq]; unfold b_law_count; simp [Kd.d, Kd.cnt]
  | n + 1, .name i, _, hk, _ => by
    rw [m_law_countN_eq]; unfold b_law_count
    simp [Kd.d, Kd.cnt, sz_at h hk.1 hk.2]
  | n + 1, .ei a b, hn, hk, hl => by
    have := a.lv_pos; have := b.lv_pos
    simp only [Kd.dep, Kd.lv] at hn hl
    have ea := lcount_ev h n a (by omega) hk.1 (by omega)
    have eb := lcount_ev h n b (by omega) hk.2 (by omega)
    rw [m_law_countN_eq]; unfold b_law_count
    simp [Kd.d, Kd.cnt, ea, eb]
  | n + 1, .bo a b, hn, hk, hl => by
    have := a.lv_pos; have := b.lv_pos
    simp only [Kd.dep, Kd.lv] at hn hl
    have ea := lcount_ev h n a (by omega) hk.1 (by omega)
    have eb := lcount_ev h n b (by omega) hk.2 (by omega)
    have ra := a.cnt_rng h
    have rb := b.cnt_rng h
    have mm := mulBig ra.1 ra.2 (by omega) rb.1 rb.2 (by omega)
    rw [m_law_countN_eq]; unfold b_law_count
    simp [Kd.d, Kd.cnt, ea, eb, kMul_i, mm]
/-! ## part -/
theorem is_pair_ev (k : Kd) : m_is_pair [.dat k.d] = .ret (.dat (.bl (decide (k.arity = 3)))) := by
  rw [m_is_pair_eq]; unfold b_is_pair
  cases k <;> simp [Kd.d, Kd.arity]
@[simp] theorem notIn01 (s : Int) : kNotIn (.dat (.int s)) (.dat (.tup [.int 0, .int 1])) = .ok (.dat (.bl (!(decide (0 = s) || decide (1 = s))))) := by
  simp [kNotIn, vIn, D.deps, D.dep, D.deq, Bool.beq_eq_decide_eq]
abbrev ptB (g : FF) : SF := sSeq (sIf (cOr (cOf (eTwo kNotIn (eVar 2) (eTup (aCons (eC (.int 0)) (aCons (eC (.int 1)) aNil))))) (cNot (cOf (eCall g (aCons (eVar 0) aNil))))) (sRaise "NoTurning") sNext) (sAsg 0 (eTwo kIx (eVar 0) (eTwo kAdd (eC (.int 1)) (eVar 2))))
theorem pt_loop : ∀ (p : List Int) (k q : Kd) (P x : Option DV), k.at p = some q → ∃ x', loop (bName 2) (ptB m_is_pair) (p.map D.int) [some (.dat k.d), P, x] = .nx [some (.dat q.d), P, x']
  | [], k, q, P, x, h => by rw [Kd.at_nil] at h; cases h; exact ⟨x, rfl⟩
  | s :: p, k, q, P, x, h => by
    have ip := is_pair_ev k
    cases k with
    | none => cases h
    | one => cases h
    | name _ => cases h
    | ei a b =>
      simp only [Kd.at] at h
      simp only [Kd.d, Kd.arity] at ip
      split at h
      · rename_i e; subst e
        obtain ⟨x', e⟩ := pt_loop p a q P (some (.dat (.int 0))) h
        exact ⟨x', by simp [loop_cons, Kd.d, ip, e]⟩
      · split at h
        · rename_i e; subst e
          obtain ⟨x', e⟩ := pt_loop p b q P (some (.dat (.int 1))) h
          exact ⟨x', by simp [loop_cons, Kd.d, ip, e]⟩
        · cases h
    | bo a b =>
      simp only [Kd.at] at h
      simp only [Kd.d, Kd.arity] at ip
      split at h
      · rename_i e; subst e
        obtain ⟨x', e⟩ := pt_loop p a q P (some (.dat (.int 0))) h
        exact ⟨x', by simp [loop_cons, Kd.d, ip, e]⟩
      · split at h
        · rename_i e; subst e
          obtain ⟨x', e⟩ := pt_loop p b q P (some (.dat (.int 1))) h
          exact ⟨x', by simp [loop_cons, Kd.d, ip, e]⟩
        · cases h
theorem pt_loopX : ∀ (p : List Int) (k : Kd) (P x : Option DV), k.at p = Option.none → ∃ ρ, loop (bName 2) (ptB m_is_pair) (p.map D.int) [some (.dat k.d), P, x] = .exc "NoTurning" ρ
  | [], k, P, x, h => by rw [Kd.at_nil] at h; cases h
  | s :: p, k, P, x, h => by
    have ip := is_pair_ev k
    have leaf : k.arity ≠ 3 → ∃ ρ, loop (bName 2) (ptB m_is_pair) ((s :: p).map D.int) [some (.dat k.d), P, x] = .exc "NoTurning" ρ := fun ha => by
      rw [decide_eq_false ha] at ip
      refine ⟨[some (.dat k.d), P, some (.dat (.int s))], ?_⟩
      by_cases e0 : 0 = s
      · simp [loop_cons, ip, ← e0]
      · by_cases e1 : 1 = s
        · simp [loop_cons, ip, ← e1]
        · simp [loop_cons, ip, e0, e1]
    have node : ∀ (a b : Kd) (n : String), k.d = .tup [.str n, a.d, b.d] → k.arity = 3 → k.at (s :: p) = (if s = 0 then a.at p else if s = 1 then b.at p else Option.none) →
        (a.at p = Option.none → ∀ x, ∃ ρ, loop (bName 2) (ptB m_is_pair) (p.map D.int) [some (.dat a.d), P, x] = .exc "NoTurning" ρ) →
        (b.at p = Option.none → ∀ x, ∃ ρ, loop (bName 2) (ptB m_is_pair) (p.map D.int) [some (.dat b.d), P, x] = .exc "NoTurning" ρ) →
        ∃ ρ, loop (bName 2) (ptB m_is_pair) ((s :: p).map D.int) [some (.dat k.d), P, x] = .exc "NoTurning" ρ := fun a b n ed ha hat iha ihb => by
      rw [decide_eq_true ha, ed] at ip
      rw [h] at hat
      by_cases e0 : s = 0
      · subst e0
        obtain ⟨ρ, e⟩ := iha (by simpa using hat.symm) (some (.dat (.int 0)))
        exact ⟨ρ, by simp [loop_cons, ed, ip, e]⟩
      · by_cases e1 : s = 1
        · subst e1
          obtain ⟨ρ, e⟩ := ihb (by simpa using hat.symm) (some (.dat (.int 1)))
          exact ⟨ρ, by simp [loop_cons, ed, ip, e]⟩
        · have f0 : ¬ 0 = s := fun z => e0 z.symm
          have f1 : ¬ 1 = s := fun z => e1 z.symm
          exact ⟨[some (.dat k.d), P, some (.dat (.int s))], by simp [loop_cons, f0, f1]⟩
    cases k with
    | none => exact leaf (by decide)
    | one => exact leaf (by decide)
    | name _ => exact leaf (by simp [Kd.arity])
    | ei a b => exact node a b _ rfl rfl rfl (fun z x => pt_loopX p a P x z) (fun z x => pt_loopX p b P x z)
    | bo a b => exact node a b _ rfl rfl rfl (fun z x => pt_loopX p a P x z) (fun z x => pt_loopX p b P x z)
theorem part_ev {k q : Kd} {p : List Int} (h : k.at p = some q) : m_part [.dat k.d, .dat (pD p)] = .ret (.dat q.d) := by
  rw [m_part_eq]
  unfold b_part
  obtain ⟨x', e⟩ := pt_loop p k q (some (.dat (pD p))) none h
  simp only [pD] at e
  simp [pD, e]
theorem part_evX {k : Kd} {p : List Int} (h : k.at p = Option.none) : m_part [.dat k.d, .dat (pD p)] = .exc "NoTurning" := by
  rw [m_part_eq]
  unfold b_part
  obtain ⟨ρ, e⟩ := pt_loopX p k (some (.dat (pD p))) none h
  simp only [pD] at e
  simp [pD, e]
end KT

set_option linter.all false
set_option maxRecDepth 100000
set_option maxHeartbeats 4000000
namespace KT
open PySem PySem.Spec PyProof.Rows L2

theorem any_deq {x : D} (hx : x.pl = true) : ∀ {ds : List D}, D.pls ds = true → (ds.any fun z => D.deq z x) = decide (x ∈ ds)
  | [], _ => by simp
  | d :: ds, h => by
    obtain ⟨h1, h2⟩ := and_tt (show (D.pl d && D.pls ds) = true from h)
    rw [List.any_cons, any_deq hx h2, D.deq_eq h1 hx]
    by_cases e : d = x
    · simp [e]
    · have : ¬ x = d := fun z => e z.symm
      simp [e, this]
theorem vIn_bor {x : D} {ds : List D} (hx : x.pl = true) (h : D.pls ds = true) (hd : min (D.deps ds) x.dep ≤ 190) : vIn (.dat x) (.bor ds) = some (decide (x ∈ ds)) := by
  have e : vIn (.dat x) (.bor ds) = if min (D.deps ds) x.dep ≤ 190 then some (ds.any fun z => D.deq z x) else none := by cases x <;> rfl
  rw [e, if_pos hd, any_deq hx h]
theorem vIn_own {x : D} {ds : List D} (hx : x.pl = true) (h : D.pls ds = true) (hd : min (D.deps ds) x.dep ≤ 190) : vIn (.dat x) (.own ds) = some (decide (x ∈ ds)) := by
  have e : vIn (.dat x) (.own ds) = if min (D.deps ds) x.dep ≤ 190 then some (ds.any fun z => D.deq z x) else none := by cases x <;> rfl
  rw [e, if_pos hd, any_deq hx h]
theorem vIn_tup {x : D} {ds : List D} (hx : x.pl = true) (h : D.pls ds = true) (hd : min (D.deps ds) x.dep ≤ 190) : vIn (.dat x) (.dat (.tup ds)) = some (decide (x ∈ ds)) := by
  have e : vIn (.dat x) (.dat (.tup ds)) = if min (D.deps ds) x.dep ≤ 190 then some (ds.any fun z => D.deq z x) else none := by cases x <;> rfl
  rw [e, if_pos hd, any_deq hx h]
theorem mem_pD {p : List Int} {ps : List (List Int)} : pD p ∈ ps.map pD ↔ p ∈ ps := by
  constructor
  · intro h
    obtain ⟨q, hq, e⟩ := List.mem_map.mp h
    rw [← pD_inj e]; exact hq
  · exact fun h => List.mem_map.mpr ⟨p, h, rfl⟩
theorem pls_pD (ps : List (List Int)) : D.pls (ps.map pD) = true := (D.pls_all _).mpr fun x hx => by
  obtain ⟨q, _, rfl⟩ := List.mem_map.mp hx
  exact pD_pl q
theorem pD_min (p : List Int) (n : Nat) : min n (pD p).dep ≤ 190 := by rw [pD_dep]; omega
theorem notIn_pb (p : List Int) (ps : List (List Int)) : kNotIn (.dat (pD p)) (.bor (ps.map pD)) = .ok (.dat (.bl (decide (p ∉ ps)))) := by
  unfold kNotIn
  rw [vIn_bor (pD_pl p) (pls_pD ps) (pD_min p _)]
  by_cases h : p ∈ ps <;> simp [mem_pD, h]
theorem notIn_po (p : List Int) (ps : List (List Int)) : kNotIn (.dat (pD p)) (.own (ps.map pD)) = .ok (.dat (.bl (decide (p ∉ ps)))) := by
  unfold kNotIn
  rw [vIn_own (pD_pl p) (pls_pD ps) (pD_min p _)]
  by_cases h : p ∈ ps <;> simp [mem_pD, h]
/-- an index by a rest -/
theorem ix_mod {α : Type} (f : α → D) (l : List α) (c : Int) (hl : 0 < l.length) : ∃ a, a ∈ l ∧ ixD (l.map f) (c % (l.length : Int)) = some (f a) := by
  have h0 : 0 ≤ c % (l.length : Int) := Int.emod_nonneg _ (by omega)
  have h1 : c % (l.length : Int) < l.length := Int.emod_lt_of_pos _ (by omega)
  have h2 : (c % (l.length : Int)).toNat < l.length := by omega
  refine ⟨l[(c % (l.length : Int)).toNat], List.getElem_mem h2, ?_⟩
  rw [ix_get h0]
  rw [List.getElem?_map, List.getElem?_eq_getElem h2]; rfl
theorem Kd.paths_pos (k : Kd) : 0 < k.paths.length := by
  have := k.pre_len []; have := k.lv_pos
  unfold Kd.paths; omega
@[simp] theorem tup4 (a b c d : D) (x : Int) (h0 : 0 ≤ x) (h4 : x < 4) : ∃ y, y ∈ [a, b, c, d] ∧ ixD [a, b, c, d] x = some y := by
  rcases (show x = 0 ∨ x = 1 ∨ x = 2 ∨ x = 3 by omega) with rfl | rfl | rfl | rfl <;> simp [ixD]
theorem one_nat (x : Int) (n : Int) (hn : 0 < n) : ∃ m : Nat, (m : Int) = 1 + x % n ∧ 1 ≤ m ∧ (m : Int) ≤ n := by
  have h0 := Int.emod_nonneg x (show n ≠ 0 by omega)
  have h1 := Int.emod_lt_of_pos x hn
  exact ⟨(1 + x % n).toNat, by omega, by omega, by omega⟩
/-- a kind of the law's -/
theorem kindL (c x k : Int) (n : Int) (hn : 0 < n) (hn2 : n ≤ 15) : ∃ q : Kd, (q.lv : Int) ≤ n ∧ q.ok ∧ m_law_kind [.dat (.int c), .dat (.int (1 + x % n)), .dat (.int k)] = .ret (.dat q.d) := by
  obtain ⟨m, e, h1, h2⟩ := one_nat x n hn
  obtain ⟨q, a, b, d⟩ := kind_ev 40 m h1 (by omega) c k
  refine ⟨q, by omega, b, ?_⟩
  rw [← e]
  exact d
end KT

set_option linter.all false
set_option maxRecDepth 100000
set_option maxHeartbeats 4000000
namespace KT
open PySem PySem.Spec PyProof.Rows L2

/-! ## turnings -/
def Kd.here (k : Kd) (w : String) : Option Kd :=
  if w = "swap" then (match k with | .ei a b => some (.ei b a) | .bo a b => some (.bo b a) | _ => Option.none)
  else if w = "group" then (match k with | .ei (.ei a b) c => some (.ei a (.ei b c)) | .bo (.bo a b) c => some (.bo a (.bo b c)) | _ => Option.none)
  else if w = "spread" then (match k with | .bo a (.ei b c) => some (.ei (.bo a b) (.bo a c)) | _ => Option.none)
  else if w = "drop" then (match k with | .bo .none _ => some .none | .bo .one b => some b | .ei .none b => some b | _ => Option.none)
  else Option.none
def oD : Option Kd → D
  | some q => q.d
  | Option.none => .non
@[simp] theorem kIn_two (a b : String) : kIn (.dat (.tup [.str a, .str b])) (.dat (.tup [.tup [.str "both", .str "one"], .tup [.str "either", .str "none"]])) = .ok (.dat (.bl ((decide ("both" = a) && decide ("one" = b)) || (decide ("either" = a) && decide ("none" = b))))) := by
  simp [kIn, vIn, D.deps, D.dep, D.deq, D.deqs, Bool.beq_eq_decide_eq]
theorem here_ev (k : Kd) (w : String) : m_law_here [.dat k.d, .dat (.str w)] = .ret (.dat (oD (k.here w))) := by
  rw [m_law_here_eq]; unfold b_law_here
  by_cases w1 : w = "swap"
  · subst w1
    cases k <;> simp [Kd.d, Kd.here, oD]
  by_cases w2 : w = "group"
  · subst w2
    cases k with
    | ei a b => cases a <;> simp [Kd.d, Kd.here, oD]
    | bo a b => cases a <;> simp [Kd.d, Kd.here, oD]
    | _ => simp [Kd.d, Kd.here, oD]
  by_cases w3 : w = "spread"
  · subst w3
    cases k with
    | bo a b => cases b <;> simp [Kd.d, Kd.here, oD]
    | _ => simp [Kd.d, Kd.here, oD]
  by_cases w4 : w = "drop"
  · subst w4
    cases k with
    | ei a b => cases a <;> simp [Kd.d, Kd.here, oD]
    | bo a b => cases a <;> simp [Kd.d, Kd.here, oD]
    | _ => simp [Kd.d, Kd.here, oD]
  cases k <;> simp [Kd.d, Kd.here, oD, w1, w2, w3, w4]
@[simp] theorem need_t : m_need [.dat (.bl true)] = .ret (.dat .non) := by rw [m_need_eq]; unfold b_need; simp
@[simp] theorem need_f : m_need [.dat (.bl false)] = .exc "NoTurning" := by rw [m_need_eq]; unfold b_need; simp
def oR : Option Kd → FO
  | some q => .ret (.dat q.d)
  | Option.none => .exc "NoTurning"
theorem turned_here_ev (k : Kd) (w : String) : m_turned_here [.dat k.d, .dat (.str w)] = oR (k.here w) := by
  rw [m_turned_here_eq]; unfold b_turned_here
  have ip := is_pair_ev k
  cases k with
  | none =>
    simp only [Kd.d, Kd.arity] at ip
    have : Kd.here .none w = Option.none := by simp [Kd.here]
    rw [this]; simp [Kd.d, ip, oR]
  | one =>
    simp only [Kd.d, Kd.arity] at ip
    have : Kd.here .one w = Option.none := by simp [Kd.here]
    rw [this]; simp [Kd.d, ip, oR]
  | name i =>
    simp only [Kd.d, Kd.arity] at ip
    have : Kd.here (.name i) w = Option.none := by simp [Kd.here]
    rw [this]; simp [Kd.d, ip, oR]
  | ei a b =>
    simp only [Kd.d, Kd.arity] at ip
    by_cases w1 : w = "swap"
    · subst w1; simp [Kd.d, ip, Kd.here, oR]
    by_cases w2 : w = "group"
    · subst w2; cases a <;> simp_all [Kd.d, ip, Kd.here, oR]
    by_cases w3 : w = "spread"
    · subst w3; simp [Kd.d, ip, Kd.here, oR]
    by_cases w4 : w = "drop"
    · subst w4; cases a <;> simp_all [Kd.d, ip, Kd.here, oR]
    simp [Kd.d, ip, Kd.here, oR, w1, w2, w3, w4]
  | bo a b =>
    simp only [Kd.d, Kd.arity] at ip
    by_cases w1 : w = "swap"
    · subst w1; simp [Kd.d, ip, Kd.here, oR]
    by_cases w2 : w = "group"
    · subst w2; cases a <;> simp_all [Kd.d, ip, Kd.here, oR]
    by_cases w3 : w = "spread"
    · subst w3; cases b <;> simp_all [Kd.d, ip, Kd.here, oR]
    by_cases w4 : w = "drop"
    · subst w4; cases a <;> simp_all [Kd.d, ip, Kd.here, oR]
    simp [Kd.d, ip, Kd.here, oR, w1, w2, w3, w4]
/-! ### a part put in -/
def Kd.put : Kd → List Int → Kd → Kd
  | _, [], q => q
  | .ei a b, s :: p, q => if s = 0 then .ei (a.put p q) b else .ei a (b.put p q)
  | .bo a b, s :: p, q => if s = 0 then .bo (a.put p q) b else .bo a (b.put p q)
  | k, _ :: _, _ => k
theorem Kd.put_nil (k q : Kd) : k.put [] q = q := by cases k <;> rfl
@[simp] theorem cut1 (s : D) (p : List D) : cutA (s :: p) (some 1) none = p := by
  have e1 : HT.sIx (s :: p).length 0 (some 1) = 1 := by simp [HT.sIx]
  have e2 : HT.sIx (s :: p).length ((s :: p).length) none = (s :: p).length := rfl
  unfold cutA
  rw [e1, e2]
  simp
@[simp] theorem eq_unit (p : List D) : kEq (.dat (.tup p)) (.dat (.tup [])) = .ok (.dat (.bl (decide (p = [])))) := by
  rw [kEq_dd _ _ (by simp [D.dep, D.deps])]
  cases p <;> simp [D.deq, D.deqs]
theorem pD_cons (s : Int) (p : List Int) : pD (s :: p) = .tup (.int s :: p.map D.int) := rfl
theorem put_ev : ∀ (n : Nat) (p : List Int) (k t q : Kd), p.length < n → k.at p = some t → m_law_putN n [.dat k.d, .dat (pD p), .dat q.d] = .ret (.dat (k.put p q).d)
  | 0, p, k, t, q, hn, _ => by omega
  | n + 1, [], k, t, q, _, _ => by
    rw [m_law_putN_eq, Kd.put_nil]; unfold b_law_put
    simp [pD]
  | n + 1, s :: p, k, t, q, hn, h => by
    simp only [List.length_cons] at hn
    rw [m_law_putN_eq]; unfold b_law_put
    have hp : pD p = .tup (p.map D.int) := rfl
    cases k with
    | none => cases h
    | one => cases h
    | name _ => cases h
    | ei a b =>
      simp only [Kd.at] at h
      by_cases e0 : s = 0
      · rw [if_pos e0] at h
        have ih := put_ev n p a t q (by omega) h
        subst e0
        rw [hp] at ih
        simp [pD_cons, Kd.d, ih, Kd.put]
      · rw [if_neg e0] at h
        by_cases e1 : s = 1
        · rw [if_pos e1] at h
          have ih := put_ev n p b t q (by omega) h
          subst e1
          rw [hp] at ih
          simp [pD_cons, Kd.d, ih, Kd.put]
        · rw [if_neg e1] at h; cases h
    | bo a b =>
      simp only [Kd.at] at h
      by_cases e0 : s = 0
      · rw [if_pos e0] at h
        have ih := put_ev n p a t q (by omega) h
        subst e0
        rw [hp] at ih
        simp [pD_cons, Kd.d, ih, Kd.put]
      · rw [if_neg e0] at h
        by_cases e1 : s = 1
        · rw [if_pos e1] at h
          have ih := put_ev n p b t q (by omega) h
          subst e1
          rw [hp] at ih
          simp [pD_cons, Kd.d, ih, Kd.put]
        · rw [if_neg e1] at h; cases h
theorem with_ev : ∀ (n : Nat) (p : List Int) (k t q : Kd), p.length < n → k.at p = some t → m_with_partN n [.dat k.d, .dat (pD p), .dat q.d] = .ret (.dat (k.put p q).d)
  | 0, p, k, t, q, hn, _ => by omega
  | n + 1, [], k, t, q, _, _ => by
    rw [m_with_partN_eq, Kd.put_nil]; unfold b_with_part
    simp [pD]
  | n + 1, s :: p, k, t, q, hn, h => by
    simp only [List.length_cons] at hn
    rw [m_with_partN_eq]; unfold b_with_part
    have hp : pD p = .tup (p.map D.int) := rfl
    cases k with
    | none => cases h
    | one => cases h
    | name _ => cases h
    | ei a b =>
      simp only [Kd.at] at h
      by_cases e0 : s = 0
      · rw [if_pos e0] at h
        have ih := with_ev n p a t q (by omega) h
        subst e0
        rw [hp] at ih
        simp [pD_cons, Kd.d, ih, Kd.put]
      · rw [if_neg e0] at h
        by_cases e1 : s = 1
        · rw [if_pos e1] at h
          have ih := with_ev n p b t q (by omega) h
          subst e1
          rw [hp] at ih
          simp [pD_cons, Kd.d, ih, Kd.put]
        · rw [if_neg e1] at h; cases h
    | bo a b =>
      simp only [Kd.at] at h
      by_cases e0 : s = 0
      · rw [if_pos e0] at h
        have ih := with_ev n p a t q (by omega) h
        subst e0
        rw [hp] at ih
        simp [pD_cons, Kd.d, ih, Kd.put]
      · rw [if_neg e0] at h
        by_cases e1 : s = 1
        · rw [if_pos e1] at h
          have ih := with_ev n p b t q (by omega) h
          subst e1
          rw [hp] at ih
          simp [pD_cons, Kd.d, ih, Kd.put]
        · rw [if_neg e1] at h; cases h
/-- the kind turned by the word at the path -/
def Kd.turn (k : Kd) (w : String) (p : List Int) : Option Kd := match k.at p with
  | some t => (t.here w).map (k.put p)
  | Option.none => Option.none
theorem lturned_ev (k : Kd) (w : String) (p : List Int) (hl : k.lv ≤ 100000) (hd : k.dep < 40) : m_law_turned [.dat k.d, .dat (.str w), .dat (pD p)] = .ret (.dat (oD (k.turn w p))) := by
  rw [m_law_turned_eq]; unfold b_law_turned
  have e1 := paths_ev k hl
  cases e : k.at p with
  | none =>
    have nm : p ∉ k.paths := fun h => by rw [Kd.mem_paths, e] at h; cases h
    simp [e1, notIn_po, nm, Kd.turn, e, oD]
  | some t =>
    have nm : p ∈ k.paths := by rw [Kd.mem_paths, e]; rfl
    have e2 := lpart_ev e
    have e3 := here_ev t w
    have pd := Kd.at_dep p k t e
    cases e4 : t.here w with
    | none =>
      rw [e4] at e3
      simp only [oD] at e3
      simp [e1, notIn_po, nm, Kd.turn, e, oD, e2, e3, e4]
    | some q =>
      rw [e4] at e3
      simp only [oD] at e3
      have e5 : m_law_put _ = _ := put_ev 40 p k t q (by omega) e
      obtain ⟨ds, e6, _⟩ := q.d_len
      rw [e6] at e3 e5
      simp [e1, notIn_po, nm, Kd.turn, e, oD, e2, e3, e4, e5]
theorem turned_ev (k : Kd) (w : String) (p : List Int) (hd : k.dep < 40) : m_turned [.dat k.d, .dat (.tup [.str w, pD p])] = oR (k.turn w p) := by
  rw [m_turned_eq]; unfold b_turned
  cases e : k.at p with
  | none => simp [part_evX e, Kd.turn, e, oR]
  | some t =>
    have e3 := turned_here_ev t w
    have pd := Kd.at_dep p k t e
    cases e4 : t.here w with
    | none =>
      rw [e4] at e3
      simp only [oR] at e3
      simp [part_ev e, Kd.turn, e, oR, e3, e4]
    | some q =>
      rw [e4] at e3
      simp only [oR] at e3
      have e5 : m_with_part _ = _ := with_ev 40 p k t q (by omega) e
      simp [part_ev e, Kd.turn, e, oR, e3, e4, e5]
/-! ### what a turning keeps -/
theorem Kd.here_lv {k q : Kd} {w : String} (h : k.here w = some q) : q.lv ≤ 2 * k.lv ∧ q.dep ≤ k.dep + 1 := by
  unfold Kd.here at h
  have pos := Kd.lv_pos
  repeat' split at h
  all_goals first
    | (cases h; done)
    | (cases h; simp only [Kd.lv, Kd.dep]; omega)
    | skip
  all_goals (cases h; rename_i a; have := pos a; simp only [Kd.lv, Kd.dep]; omega)
theorem Kd.put_lv : ∀ (p : List Int) (k q : Kd), (k.put p q).lv ≤ k.lv + q.lv ∧ (k.put p q).dep ≤ k.dep + q.dep
  | [], k, q => by rw [Kd.put_nil]; omega
  | s :: p, k, q => by
    cases k with
    | none => simp only [Kd.put]; omega
    | one => simp only [Kd.put]; omega
    | name _ => simp only [Kd.put]; omega
    | ei a b =>
      have h1 := Kd.put_lv p a q; have h2 := Kd.put_lv p b q
      simp only [Kd.put]
      split <;> simp only [Kd.lv, Kd.dep] <;> omega
    | bo a b =>
      have h1 := Kd.put_lv p a q; have h2 := Kd.put_lv p b q
      simp only [Kd.put]
      split <;> simp only [Kd.lv, Kd.dep] <;> omega
theorem Kd.turn_lv {k r : Kd} {w : String} {p : List Int} (h : k.turn w p = some r) : r.lv ≤ 3 * k.lv ∧ r.dep ≤ 2 * k.dep + 1 := by
  unfold Kd.turn at h
  cases e : k.at p with
  | none => rw [e] at h; cases h
  | some t =>
    rw [e] at h
    simp only [Option.map_eq_some_iff] at h
    obtain ⟨q, hq, rfl⟩ := h
    have h1 := Kd.here_lv hq
    have h2 := Kd.at_lv p k t e
    have h3 := Kd.at_dep p k t e
    have h4 := Kd.put_lv p k q
    omega
/-! ### loops by an invariant -/
theorem loop_inv {b : BF} {F : SF} (P : Rho → Prop) : ∀ (ds : List D) (ρ : Rho), (∀ d ∈ ds, ∀ ρ, P ρ → ∃ ρ1 ρ2, b d ρ = some ρ1 ∧ F ρ1 = .nx ρ2 ∧ P ρ2) → P ρ → ∃ ρ', loop b F ds ρ = .nx ρ' ∧ P ρ'
  | [], ρ, _, h => ⟨ρ, rfl, h⟩
  | d :: ds, ρ, hs, h => by
    obtain ⟨ρ1, ρ2, e1, e2, h2⟩ := hs d (by simp) ρ h
    obtain ⟨ρ', e3, h3⟩ := loop_inv P ds ρ2 (fun x hx => hs x (by simp [hx])) h2
    exact ⟨ρ', by rw [loop_cons, e1]; simp only [e2]; exact e3, h3⟩
/-! ### all turnings -/
def tW : List String := ["swap", "group", "spread", "drop"]
def tD (t : String × List Int) : D := .tup [.str t.1, pD t.2]
def Kd.turns (k : Kd) : List (String × List Int) := k.paths.flatMap fun p => (tW.filter fun w => (k.turn w p).isSome).map fun w => (w, p)
theorem Kd.mem_turns {k : Kd} {w : String} {p : List Int} : (w, p) ∈ k.turns ↔ w ∈ tW ∧ (k.turn w p).isSome := by
  unfold Kd.turns
  simp only [List.mem_flatMap, List.mem_map, List.mem_filter, Prod.mk.injEq]
  constructor
  · rintro ⟨p', h1, w', ⟨h2, h3⟩, rfl, rfl⟩
    exact ⟨h2, h3⟩
  · rintro ⟨h1, h2⟩
    refine ⟨p, ?_, w, ⟨h1, h2⟩, rfl, rfl⟩
    rw [Kd.mem_paths]
    unfold Kd.turn at h2
    cases e : k.at p with
    | none => rw [e] at h2; cases h2
    | some _ => rfl
abbrev atI (g1 g2 : FF) : SF := sIf (cOf (eTwo kIsNot (eCall g1 (aCons (eCall g2 (aCons (eVar 0) (aCons (eVar 2) aNil))) (aCons (eVar 3) aNil))) (eC .non))) (sApp 1 (eTup (aCons (eVar 3) (aCons (eVar 2) aNil)))) sNext
theorem at_inner (k t : Kd) (p : List Int) (h : k.at p = some t) : ∀ (ws : List String) (F : List D) (x : Option DV), F.length + ws.length < 16000000 →
    ∃ x', loop (bName 3) (atI m_law_here m_law_part) (ws.map D.str) [some (.dat k.d), some (.own F), some (.dat (pD p)), x] = .nx [some (.dat k.d), some (.own (F ++ ((ws.filter fun w => (k.turn w p).isSome).map fun w => tD (w, p)))), some (.dat (pD p)), x']
  | [], F, x, _ => ⟨x, by simp⟩
  | w :: ws, F, x, hl => by
    simp only [List.length_cons] at hl
    have e1 := lpart_ev h
    have e2 := here_ev t w
    have et : k.turn w p = (t.here w).map (k.put p) := by unfold Kd.turn; rw [h]
    cases e3 : t.here w with
    | none =>
      rw [e3] at e2 et
      obtain ⟨x', e4⟩ := at_inner k t p h ws F (some (.dat (.str w))) (by omega)
      refine ⟨x', ?_⟩
      simp only [oD] at e2
      simp only [Option.map_none] at et
      simp [loop_cons, e1, e2, e4, et]
    | some q =>
      rw [e3] at e2 et
      obtain ⟨ds, e6, _⟩ := q.d_len
      simp only [oD] at e2
      rw [e6] at e2
      obtain ⟨x', e4⟩ := at_inner k t p h ws (F ++ [tD (w, p)]) (some (.dat (.str w))) (by simp only [List.length_append, List.length_singleton]; omega)
      refine ⟨x', ?_⟩
      have hF : F.length < 16777216 := by omega
      simp only [tD] at e4
      simp only [Option.map_some] at et
      simp [loop_cons, e1, e2, e4, et, hF, tD]
abbrev atO (g1 g2 : FF) : SF := sForE (eLst (aCons (eC (.str "swap")) (aCons (eC (.str "group")) (aCons (eC (.str "spread")) (aCons (eC (.str "drop")) aNil))))) (bName 3) (atI g1 g2)
theorem at_outer (k : Kd) : ∀ (ps : List (List Int)) (F : List D) (x y : Option DV), (∀ p ∈ ps, (k.at p).isSome) → F.length + 4 * ps.length < 15000000 →
    ∃ x' y', loop (bName 2) (atO m_law_here m_law_part) (ps.map pD) [some (.dat k.d), some (.own F), x, y] = .nx [some (.dat k.d), some (.own (F ++ (ps.flatMap fun p => (tW.filter fun w => (k.turn w p).isSome).map fun w => (w, p)).map tD)), x', y']
  | [], F, x, y, _, _ => ⟨x, y, by simp⟩
  | p :: ps, F, x, y, hp, hl => by
    simp only [List.length_cons] at hl
    obtain ⟨t, ht⟩ := Option.isSome_iff_exists.mp (hp p (by simp))
    obtain ⟨y1, e1⟩ := at_inner k t p ht tW F y (by simp only [tW, List.length_cons, List.length_nil]; omega)
    have hlen : ((tW.filter fun w => (k.turn w p).isSome).map fun w => tD (w, p)).length ≤ 4 := by
      rw [List.length_map]
      exact Nat.le_trans (List.length_filter_le _ _) (by decide)
    obtain ⟨x2, y2, e2⟩ := at_outer k ps (F ++ ((tW.filter fun w => (k.turn w p).isSome).map fun w => tD (w, p))) (some (.dat (pD p))) y1 (fun q hq => hp q (by simp [hq])) (by rw [List.length_append]; omega)
    refine ⟨x2, y2, ?_⟩
    have ew : tW.map D.str = [.str "swap", .str "group", .str "spread", .str "drop"] := rfl
    rw [ew] at e1
    rw [List.map_cons, loop_cons]
    simp [e1, e2, Function.comp_def]
theorem turns_ev (k : Kd) (h : k.lv ≤ 100000) : m_law_all_turnings [.dat k.d] = .ret (.own (k.turns.map tD)) := by
  rw [m_law_all_turnings_eq]; unfold b_law_all_turnings
  have hp := k.pre_len []
  obtain ⟨x, y, e⟩ := at_outer k k.paths [] none none (fun p hp => (k.mem_paths p).mp hp) (by unfold Kd.paths; simp; omega)
  simp [paths_ev k h, e, Kd.turns]
end KT

set_option linter.all false
set_option maxRecDepth 100000
set_option maxHeartbeats 4000000
namespace KT
open PySem PySem.Spec PyProof.Rows L2

/-! ## things -/
noncomputable def Kd.isT : Kd → List Int → D → Bool
  | .none, _, _ => false
  | .one, _, d => decide (d = .tup [])
  | .name i, sz, .int n => decide (0 ≤ n) && decide (n < sz.getD i.toNat 0)
  | .name _, _, _ => false
  | .bo a b, sz, .tup [x, y] => a.isT sz x && b.isT sz y
  | .bo _ _, _, _ => false
  | .ei a b, sz, .tup [x, y] => if x = .str "left" then a.isT sz y else if x = .str "right" then b.isT sz y else false
  | .ei _ _, _, _ => false
noncomputable def Kd.num : Kd → List Int → D → Int
  | .bo a b, sz, .tup [x, y] => a.num sz x * b.cnt sz + b.num sz y
  | .ei a b, sz, .tup [x, y] => if x = .str "left" then a.num sz y else a.cnt sz + b.num sz y
  | .name _, _, .int n => n
  | _, _, _ => 0
theorem eq_str {x : D} (hx : x.pl = true) (s : String) : kEq (.dat x) (.dat (.str s)) = .ok (.dat (.bl (decide (x = .str s)))) := by
  rw [kEq_dd _ _ (by simp [D.dep]), D.deq_eq hx rfl]
theorem eq_un {x : D} (hx : x.pl = true) : kEq (.dat x) (.dat (.tup [])) = .ok (.dat (.bl (decide (x = .tup [])))) := by
  rw [kEq_dd _ _ (by simp [D.dep, D.deps]; omega), D.deq_eq hx rfl]
theorem notIn_lr {x : D} (hx : x.pl = true) : kNotIn (.dat x) (.dat (.tup [.str "left", .str "right"])) = .ok (.dat (.bl (!(decide (x = .str "left") || decide (x = .str "right"))))) := by
  unfold kNotIn
  rw [vIn_tup hx (by rfl) (by simp [D.deps, D.dep])]
  simp
theorem pl2 {x y : D} (h : (D.tup [x, y]).pl = true) : x.pl = true ∧ y.pl = true := by
  have h : D.pls [x, y] = true := h
  simp only [D.pls, Bool.and_eq_true, Bool.and_true] at h
  exact h
theorem len_ne2 {ds : List D} (h : ∀ x y, ds ≠ [x, y]) : ¬ ((ds.length : Int) = 2) := by
  intro e
  have e : ds.length = 2 := by omega
  match ds, e with
  | [x, y], _ => exact h x y rfl
theorem two_or (ds : List D) : (∃ x y, ds = [x, y]) ∨ ∀ x y, ds ≠ [x, y] := by
  by_cases h : ∃ x y, ds = [x, y]
  · exact .inl h
  · exact .inr fun x y e => h ⟨x, y, e⟩
theorem isT_bo_no {a b : Kd} {sz : List Int} {ds : List D} (h : ∀ x y, ds ≠ [x, y]) : (Kd.bo a b).isT sz (.tup ds) = false := by
  match ds with
  | [] => rfl
  | [_] => rfl
  | [x, y] => exact absurd rfl (h x y)
  | _ :: _ :: _ :: _ => rfl
theorem isT_ei_no {a b : Kd} {sz : List Int} {ds : List D} (h : ∀ x y, ds ≠ [x, y]) : (Kd.ei a b).isT sz (.tup ds) = false := by
  match ds with
  | [] => rfl
  | [_] => rfl
  | [x, y] => exact absurd rfl (h x y)
  | _ :: _ :: _ :: _ => rfl
theorem is_thing_ev {sz : List Int} {M : Int} (h : SzOk sz M) : ∀ (n : Nat) (k : Kd) (d : D), k.dep ≤ n → k.ok → d.pl = true → m_is_thingN n [.dat k.d, .dat (.tup (sz.map D.int)), .dat d] = .ret (.dat (.bl (k.isT sz d)))
  | 0, k, d, hn, _, _ => by cases k <;> simp [Kd.dep] at hn
  | n + 1, .none, d, _, _, _ => by rw [m_is_thingN_eq]; unfold b_is_thing; simp [Kd.d, Kd.isT]
  | n + 1, .one, d, _, _, hp => by rw [m_is_thingN_eq]; unfold b_is_thing; simp [Kd.d, Kd.isT, eq_un hp]
  | n + 1, .name i, d, _, hk, hp => by
    rw [m_is_thingN_eq]; unfold b_is_thing
    cases d with
    | int m =>
      by_cases h0 : 0 ≤ m
      · simp [Kd.d, Kd.isT, isiT, sz_at h hk.1 hk.2, h0]
      · simp [Kd.d, Kd.isT, isiT, sz_at h hk.1 hk.2, h0]
    | str s => simp [Kd.d, Kd.isT, isiT]
    | tup ds => simp [Kd.d, Kd.isT, isiT]
    | non => cases hp
    | bl _ => cases hp
  | n + 1, .bo a b, d, hn, hk, hp => by
    simp only [Kd.dep] at hn
    have iha := fun x hx => is_thing_ev h n a x (by omega) hk.1 hx
    have ihb := fun x hx => is_thing_ev h n b x (by omega) hk.2 hx
    rw [m_is_thingN_eq]; unfold b_is_thing
    cases d with
    | int m => simp [Kd.d, Kd.isT, isiT]
    | str s => simp [Kd.d, Kd.isT, isiT]
    | non => cases hp
    | bl _ => cases hp
    | tup ds =>
      rcases two_or ds with ⟨x, y, rfl⟩ | hne
      · obtain ⟨px, py⟩ := pl2 hp
        have ia := iha x px
        have ib := ihb y py
        cases e : a.isT sz x <;> rw [e] at ia <;> simp [Kd.d, Kd.isT, isiT, ia, ib, e]
      · have := len_ne2 hne
        simp [Kd.d, isT_bo_no hne, isiT, this]
  | n + 1, .ei a b, d, hn, hk, hp => by
    simp only [Kd.dep] at hn
    have iha := fun x hx => is_thing_ev h n a x (by omega) hk.1 hx
    have ihb := fun x hx => is_thing_ev h n b x (by omega) hk.2 hx
    rw [m_is_thingN_eq]; unfold b_is_thing
    cases d with
    | int m => simp [Kd.d, Kd.isT, isiT]
    | str s => simp [Kd.d, Kd.isT, isiT]
    | non => cases hp
    | bl _ => cases hp
    | tup ds =>
      rcases two_or ds with ⟨x, y, rfl⟩ | hne
      · obtain ⟨px, py⟩ := pl2 hp
        have ia := iha y py
        have ib := ihb y py
        by_cases e1 : x = .str "left"
        · subst e1; simp [Kd.d, Kd.isT, isiT, ia]
        · by_cases e2 : x = .str "right"
          · subst e2; simp [Kd.d, Kd.isT, isiT, ib]
          · simp [Kd.d, Kd.isT, isiT, eq_str px, e1, e2]
      · have := len_ne2 hne
        simp [Kd.d, isT_ei_no hne, isiT, this]
theorem law_is_ev {sz : List Int} {M : Int} (h : SzOk sz M) : ∀ (n : Nat) (k : Kd) (d : D), k.dep ≤ n → k.ok → d.pl = true → m_law_isN n [.dat k.d, .dat (.tup (sz.map D.int)), .dat d] = .ret (.dat (.bl (k.isT sz d)))
  | 0, k, d, hn, _, _ => by cases k <;> simp [Kd.dep] at hn
  | n + 1, .none, d, _, _, _ => by rw [m_law_isN_eq]; unfold b_law_is; simp [Kd.d, Kd.isT]
  | n + 1, .one, d, _, _, hp => by rw [m_law_isN_eq]; unfold b_law_is; simp [Kd.d, Kd.isT, eq_un hp]
  | n + 1, .name i, d, _, hk, hp => by
    rw [m_law_isN_eq]; unfold b_law_is
    cases d with
    | int m =>
      by_cases h0 : 0 ≤ m
      · simp [Kd.d, Kd.isT, isiT, sz_at h hk.1 hk.2, h0]
      · simp [Kd.d, Kd.isT, isiT, sz_at h hk.1 hk.2, h0]
    | str s => simp [Kd.d, Kd.isT, isiT]
    | tup ds => simp [Kd.d, Kd.isT, isiT]
    | non => cases hp
    | bl _ => cases hp
  | n + 1, .bo a b, d, hn, hk, hp => by
    simp only [Kd.dep] at hn
    have iha := fun x hx => law_is_ev h n a x (by omega) hk.1 hx
    have ihb := fun x hx => law_is_ev h n b x (by omega) hk.2 hx
    rw [m_law_isN_eq]; unfold b_law_is
    cases d with
    | int m => simp [Kd.d, Kd.isT, isiT]
    | str s => simp [Kd.d, Kd.isT, isiT]
    | non => cases hp
    | bl _ => cases hp
    | tup ds =>
      rcases two_or ds with ⟨x, y, rfl⟩ | hne
      · obtain ⟨px, py⟩ := pl2 hp
        have ia := iha x px
        have ib := ihb y py
        cases e : a.isT sz x <;> rw [e] at ia <;> simp [Kd.d, Kd.isT, isiT, ia, ib, e]
      · have := len_ne2 hne
        simp [Kd.d, isT_bo_no hne, isiT, this]
  | n + 1, .ei a b, d, hn, hk, hp => by
    simp only [Kd.dep] at hn
    have iha := fun x hx => law_is_ev h n a x (by omega) hk.1 hx
    have ihb := fun x hx => law_is_ev h n b x (by omega) hk.2 hx
    rw [m_law_isN_eq]; unfold b_law_is
    cases d with
    | int m => simp [Kd.d, Kd.isT, isiT]
    | str s => simp [Kd.d, Kd.isT, isiT]
    | non => cases hp
    | bl _ => cases hp
    | tup ds =>
      rcases two_or ds with ⟨x, y, rfl⟩ | hne
      · obtain ⟨px, py⟩ := pl2 hp
        have ia := iha y py
        have ib := ihb y py
        by_cases e1 : x = .str "left"
        · subst e1; simp [Kd.d, Kd.isT, isiT, ia, notIn_lr px]
        · by_cases e2 : x = .str "right"
          · subst e2; simp [Kd.d, Kd.isT, isiT, ib, notIn_lr px]
          · simp [Kd.d, Kd.isT, isiT, notIn_lr px, e1, e2]
      · have := len_ne2 hne
        simp [Kd.d, isT_ei_no hne, isiT, this]
/-- a thing's number is below the count -/
theorem num_rng {sz : List Int} (h : SzOk sz (2 ^ 20)) : ∀ (k : Kd) (d : D), k.isT sz d = true → 0 ≤ k.num sz d ∧ k.num sz d < k.cnt sz
  | .none, d, e => by cases e
  | .one, d, e => by simp [Kd.num, Kd.cnt]
  | .name i, d, e => by
    cases d with
    | int m => simp only [Kd.isT, Bool.and_eq_true, decide_eq_true_eq] at e; exact e
    | _ => cases e
  | .bo a b, d, e => by
    cases d with
    | tup ds =>
      rcases two_or ds with ⟨x, y, rfl⟩ | hne
      · simp only [Kd.isT, Bool.and_eq_true] at e
        have h1 := num_rng h a x e.1
        have h2 := num_rng h b y e.2
        simp only [Kd.num, Kd.cnt]
        have h3 := Int.mul_nonneg h1.1 (show 0 ≤ b.cnt sz by omega)
        have h4 : (a.num sz x + 1) * b.cnt sz ≤ a.cnt sz * b.cnt sz := Int.mul_le_mul_of_nonneg_right (by omega) (by omega)
        rw [Int.add_mul, Int.one_mul] at h4
        omega
      · rw [isT_bo_no hne] at e; cases e
    | _ => cases e
  | .ei a b, d, e => by
    have ca := (a.cnt_rng h).1
    have cb := (b.cnt_rng h).1
    cases d with
    | tup ds =>
      rcases two_or ds with ⟨x, y, rfl⟩ | hne
      · simp only [Kd.isT] at e
        simp only [Kd.num, Kd.cnt]
        by_cases e1 : x = .str "left"
        · rw [if_pos e1] at e ⊢
          have h1 := num_rng h a y e; omega
        · rw [if_neg e1] at e ⊢
          by_cases e2 : x = .str "right"
          · rw [if_pos e2] at e
            have h1 := num_rng h b y e; omega
          · rw [if_neg e2] at e; cases e
      · rw [isT_ei_no hne] at e; cases e
    | _ => cases e
theorem lt_big {n : Nat} {x : Int} (h : x ≤ 2 ^ n) (hn : n ≤ 3999) : x < 2 ^ 4000 := by
  by_cases h0 : 0 ≤ x
  · have := big_ok h0 h hn
    have h4 : ((2 ^ 4000 : Nat) : Int) = 2 ^ 4000 := by norm_cast
    have h5 : ((x.natAbs : Nat) : Int) < ((2 ^ 4000 : Nat) : Int) := Int.ofNat_lt.mpr this
    rw [h4] at h5
    omega
  · have : (0 : Int) < 2 ^ 4000 := Int.pow_pos (by decide)
    omega
theorem place_ev {sz : List Int} (h : SzOk sz (2 ^ 20)) : ∀ (n : Nat) (k : Kd) (d : D), k.dep ≤ n → k.dep ≤ 40 → k.ok → k.lv ≤ 100 → d.pl = true → k.isT sz d = true → m_place_ofN n [.dat k.d, .dat (.tup (sz.map D.int)), .dat d] = .ret (.dat (.int (k.num sz d)))
  | 0, k, d, hn, _, _, _, _, _ => by cases k <;> simp [Kd.dep] at hn
  | n + 1, .none, d, _, _, _, _, _, e => by cases e
  | n + 1, .one, d, _, _, _, _, hp, _ => by rw [m_place_ofN_eq]; unfold b_place_of; simp [Kd.d, Kd.num]
  | n + 1, .name i, d, _, _, hk, _, hp, e => by
    rw [m_place_ofN_eq]; unfold b_place_of
    cases d with
    | int m => simp [Kd.d, Kd.num]
    | _ => cases e
  | n + 1, .bo a b, d, hn, hn2, hk, hl, hp, e => by
    have la := a.lv_pos; have lb := b.lv_pos
    simp only [Kd.dep, Kd.lv] at hn hn2 hl
    cases d with
    | tup ds =>
      rcases two_or ds with ⟨x, y, rfl⟩ | hne
      · obtain ⟨px, py⟩ := pl2 hp
        simp only [Kd.isT, Bool.and_eq_true] at e
        have ia := place_ev h n a x (by omega) (by omega) hk.1 (by omega) px e.1
        have ib := place_ev h n b y (by omega) (by omega) hk.2 (by omega) py e.2
        have ec : m_count _ = _ := count_ev h 40 b (by omega) hk.2 (by omega)
        have r1 := num_rng h a x e.1
        have ra := a.cnt_rng h
        have rb := b.cnt_rng h
        have mm := mulBig r1.1 (show a.num sz x ≤ 2 ^ (20 * a.lv) by omega) (by omega) rb.1 rb.2 (by omega)
        rw [m_place_ofN_eq]; unfold b_place_of
        simp [Kd.d, Kd.num, ia, ib, ec, kMul_i, mm]
      · rw [isT_bo_no hne] at e; cases e
    | _ => cases e
  | n + 1, .ei a b, d, hn, hn2, hk, hl, hp, e => by
    have la := a.lv_pos; have lb := b.lv_pos
    simp only [Kd.dep, Kd.lv] at hn hn2 hl
    cases d with
    | tup ds =>
      rcases two_or ds with ⟨x, y, rfl⟩ | hne
      · obtain ⟨px, py⟩ := pl2 hp
        simp only [Kd.isT] at e
        rw [m_place_ofN_eq]; unfold b_place_of
        by_cases e1 : x = .str "left"
        · rw [if_pos e1] at e
          have ia := place_ev h n a y (by omega) (by omega) hk.1 (by omega) py e
          subst e1
          simp [Kd.d, Kd.num, ia]
        · rw [if_neg e1] at e
          by_cases e2 : x = .str "right"
          · rw [if_pos e2] at e
            have ib := place_ev h n b y (by omega) (by omega) hk.2 (by omega) py e
            have ec : m_count _ = _ := count_ev h 40 a (by omega) hk.1 (by omega)
            subst e2
            simp [Kd.d, Kd.num, ib, ec]
          · rw [if_neg e2] at e; cases e
      · rw [isT_ei_no hne] at e; cases e
    | _ => cases e
theorem lnum_ev {sz : List Int} (h : SzOk sz (2 ^ 20)) : ∀ (n : Nat) (k : Kd) (d : D), k.dep ≤ n → k.dep ≤ 40 → k.ok → k.lv ≤ 100 → d.pl = true → k.isT sz d = true → m_law_numberN n [.dat k.d, .dat (.tup (sz.map D.int)), .dat d] = .ret (.dat (.int (k.num sz d)))
  | 0, k, d, hn, _, _, _, _, _ => by cases k <;> simp [Kd.dep] at hn
  | n + 1, .none, d, _, _, _, _, _, e => by cases e
  | n + 1, .one, d, _, _, _, _, hp, _ => by
    rw [m_law_numberN_eq]; unfold b_law_number
    cases d <;> first | (cases hp; done) | simp [Kd.d, Kd.num]
  | n + 1, .name i, d, _, _, hk, _, hp, e => by
    rw [m_law_numberN_eq]; unfold b_law_number
    cases d with
    | int m => simp [Kd.d, Kd.num]
    | _ => cases e
  | n + 1, .bo a b, d, hn, hn2, hk, hl, hp, e => by
    have la := a.lv_pos; have lb := b.lv_pos
    simp only [Kd.dep, Kd.lv] at hn hn2 hl
    cases d with
    | tup ds =>
      rcases two_or ds with ⟨x, y, rfl⟩ | hne
      · obtain ⟨px, py⟩ := pl2 hp
        simp only [Kd.isT, Bool.and_eq_true] at e
        have ia := lnum_ev h n a x (by omega) (by omega) hk.1 (by omega) px e.1
        have ib := lnum_ev h n b y (by omega) (by omega) hk.2 (by omega) py e.2
        have ec : m_law_count _ = _ := lcount_ev h 40 b (by omega) hk.2 (by omega)
        have r1 := num_rng h a x e.1
        have ra := a.cnt_rng h
        have rb := b.cnt_rng h
        have mm := mulBig r1.1 (show a.num sz x ≤ 2 ^ (20 * a.lv) by omega) (by omega) rb.1 rb.2 (by omega)
        rw [m_law_numberN_eq]; unfold b_law_number
        simp [Kd.d, Kd.num, ia, ib, ec, kMul_i, mm]
      · rw [isT_bo_no hne] at e; cases e
    | _ => cases e
  | n + 1, .ei a b, d, hn, hn2, hk, hl, hp, e => by
    have la := a.lv_pos; have lb := b.lv_pos
    simp only [Kd.dep, Kd.lv] at hn hn2 hl
    cases d with
    | tup ds =>
      rcases two_or ds with ⟨x, y, rfl⟩ | hne
      · obtain ⟨px, py⟩ := pl2 hp
        simp only [Kd.isT] at e
        rw [m_law_numberN_eq]; unfold b_law_number
        by_cases e1 : x = .str "left"
        · rw [if_pos e1] at e
          have ia := lnum_ev h n a y (by omega) (by omega) hk.1 (by omega) py e
          subst e1
          simp [Kd.d, Kd.num, ia]
        · rw [if_neg e1] at e
          by_cases e2 : x = .str "right"
          · rw [if_pos e2] at e
            have ib := lnum_ev h n b y (by omega) (by omega) hk.2 (by omega) py e
            have ec : m_law_count _ = _ := lcount_ev h 40 a (by omega) hk.1 (by omega)
            subst e2
            simp [Kd.d, Kd.num, ib, ec]
          · rw [if_neg e2] at e; cases e
      · rw [isT_ei_no hne] at e; cases e
    | _ => cases e
theorem number_ev {sz : List Int} (h : SzOk sz (2 ^ 20)) (k : Kd) (d : D) (hd : k.dep ≤ 40) (hk : k.ok) (hl : k.lv ≤ 100) (hp : d.pl = true) :
    m_number_of [.dat k.d, .dat (.tup (sz.map D.int)), .dat d] = if k.isT sz d = true then .ret (.dat (.int (k.num sz d))) else .exc "NoThing" := by
  rw [m_number_of_eq]; unfold b_number_of
  have e1 : m_is_thing _ = _ := is_thing_ev h 40 k d hd hk hp
  cases e : k.isT sz d with
  | true =>
    have e2 : m_place_of _ = _ := place_ev h 40 k d hd hd hk hl hp e
    rw [e] at e1
    simp [e1, e2]
  | false =>
    rw [e] at e1
    simp [e1]
/-! ## the thing of a number -/
def Kd.nth : Kd → List Int → Int → D
  | .none, _, _ => .tup []
  | .one, _, _ => .tup []
  | .name _, _, n => .int n
  | .bo a b, sz, n => .tup [a.nth sz (n / b.cnt sz), b.nth sz (n % b.cnt sz)]
  | .ei a b, sz, n => if n < a.cnt sz then .tup [.str "left", a.nth sz n] else .tup [.str "right", b.nth sz (n - a.cnt sz)]
theorem nth_pl (sz : List Int) : ∀ (k : Kd) (n : Int), (k.nth sz n).pl = true
  | .none, n => rfl
  | .one, n => rfl
  | .name _, n => rfl
  | .bo a b, n => by simp [Kd.nth, D.pl, D.pls, nth_pl sz a, nth_pl sz b]
  | .ei a b, n => by
    unfold Kd.nth
    split <;> simp [D.pl, D.pls, nth_pl sz a, nth_pl sz b]
theorem nth_nd (sz : List Int) : ∀ (k : Kd) (n : Int), (k.nth sz n).nd + 2 ≤ 4 * k.lv
  | .none, n => by simp [Kd.nth, D.nd, D.nds, Kd.lv]
  | .one, n => by simp [Kd.nth, D.nd, D.nds, Kd.lv]
  | .name _, n => by simp [Kd.nth, D.nd, Kd.lv]
  | .bo a b, n => by
    have h1 := nth_nd sz a (n / b.cnt sz); have h2 := nth_nd sz b (n % b.cnt sz)
    simp only [Kd.nth, D.nd, D.nds, Kd.lv]; omega
  | .ei a b, n => by
    have h1 := nth_nd sz a n; have h2 := nth_nd sz b (n - a.cnt sz)
    have h3 := a.lv_pos; have h4 := b.lv_pos
    unfold Kd.nth
    split <;> simp only [D.nd, D.nds, Kd.lv] <;> omega
theorem D.dep_nd : ∀ d : D, d.dep ≤ d.nd
  | .non => by simp [D.dep]
  | .bl _ => by simp [D.dep]
  | .int _ => by simp [D.dep]
  | .str _ => by simp [D.dep]
  | .tup ds => by
    have := D.deps_nds ds
    simp only [D.dep, D.nd]; omega
where D.deps_nds : ∀ ds : List D, D.deps ds ≤ D.nds ds
  | [] => by simp [D.deps]
  | d :: ds => by
    have h1 := D.dep_nd d; have h2 := D.deps_nds ds
    simp only [D.deps, D.nds, Nat.max_def]
    split <;> omega
theorem div_rng {n a b : Int} (h0 : 0 ≤ n) (h : n < a * b) (hb : 0 ≤ b) : 0 < b ∧ 0 ≤ n / b ∧ n / b < a ∧ 0 ≤ n % b ∧ n % b < b := by
  have hb1 : 0 < b := by
    rcases Int.lt_or_eq_of_le hb with h1 | h1
    · exact h1
    · rw [← h1, Int.mul_zero] at h; omega
  exact ⟨hb1, Int.ediv_nonneg h0 hb, Int.ediv_lt_of_lt_mul hb1 h, Int.emod_nonneg _ (by omega), Int.emod_lt_of_pos _ hb1⟩
theorem nth_isT {sz : List Int} (h : SzOk sz (2 ^ 20)) : ∀ (k : Kd) (n : Int), 0 ≤ n → n < k.cnt sz → k.isT sz (k.nth sz n) = true ∧ k.num sz (k.nth sz n) = n
  | .none, n, h0, h1 => by simp only [Kd.cnt] at h1; omega
  | .one, n, h0, h1 => by
    simp only [Kd.cnt] at h1
    refine ⟨by simp [Kd.isT, Kd.nth], ?_⟩
    simp only [Kd.num]; omega
  | .name i, n, h0, h1 => by
    simp only [Kd.cnt] at h1
    refine ⟨by simp only [Kd.isT, Kd.nth, Bool.and_eq_true, decide_eq_true_eq]; exact ⟨h0, h1⟩, by simp [Kd.num, Kd.nth]⟩
  | .bo a b, n, h0, h1 => by
    simp only [Kd.cnt] at h1
    obtain ⟨hb, r1, r2, r3, r4⟩ := div_rng h0 h1 (b.cnt_rng h).1
    have i1 := nth_isT h a _ r1 r2
    have i2 := nth_isT h b _ r3 r4
    refine ⟨by simp [Kd.isT, Kd.nth, i1.1, i2.1], ?_⟩
    simp only [Kd.nth, Kd.num, i1.2, i2.2]
    have := Int.mul_ediv_add_emod n (b.cnt sz)
    rw [Int.mul_comm] at this
    exact this
  | .ei a b, n, h0, h1 => by
    simp only [Kd.cnt] at h1
    by_cases hn : n < a.cnt sz
    · have i1 := nth_isT h a n h0 hn
      simp [Kd.isT, Kd.nth, Kd.num, hn, i1]
    · have i2 := nth_isT h b (n - a.cnt sz) (by omega) (by omega)
      simp [Kd.isT, Kd.nth, Kd.num, hn, i2]
      omega
theorem lat_ev {sz : List Int} (h : SzOk sz (2 ^ 20)) : ∀ (n : Nat) (k : Kd) (m : Int), k.dep ≤ n → k.dep ≤ 40 → k.ok → k.lv ≤ 100 → 0 ≤ m → m < k.cnt sz → m_law_atN n [.dat k.d, .dat (.tup (sz.map D.int)), .dat (.int m)] = .ret (.dat (k.nth sz m))
  | 0, k, d, hn, _, _, _, _, _ => by cases k <;> simp [Kd.dep] at hn
  | n + 1, .none, m, _, _, _, _, h0, h1 => by simp only [Kd.cnt] at h1; omega
  | n + 1, .one, m, _, _, _, _, _, _ => by rw [m_law_atN_eq]; unfold b_law_at; simp [Kd.d, Kd.nth]
  | n + 1, .name i, m, _, _, _, _, _, _ => by rw [m_law_atN_eq]; unfold b_law_at; simp [Kd.d, Kd.nth]
  | n + 1, .bo a b, m, hn, hn2, hk, hl, h0, h1 => by
    have la := a.lv_pos; have lb := b.lv_pos
    simp only [Kd.dep, Kd.lv, Kd.cnt] at hn hn2 hl h1
    have rb := b.cnt_rng h
    obtain ⟨hb, r1, r2, r3, r4⟩ := div_rng h0 h1 rb.1
    have ia := lat_ev h n a _ (by omega) (by omega) hk.1 (by omega) r1 r2
    have ib := lat_ev h n b _ (by omega) (by omega) hk.2 (by omega) r3 r4
    have ec : m_law_count _ = _ := lcount_ev h 40 b (by omega) hk.2 (by omega)
    have fd := kFdiv_i m (b.cnt sz) hb (lt_big rb.2 (by omega))
    have fm := kMod_i m (b.cnt sz) hb
    rw [m_law_atN_eq]; unfold b_law_at
    simp [Kd.d, Kd.nth, ia, ib, ec, fd, fm]
  | n + 1, .ei a b, m, hn, hn2, hk, hl, h0, h1 => by
    have la := a.lv_pos; have lb := b.lv_pos
    simp only [Kd.dep, Kd.lv, Kd.cnt] at hn hn2 hl h1
    have ec1 : m_law_count _ = _ := lcount_ev h 40 a (by omega) hk.1 (by omega)
    have ec2 : m_law_count _ = _ := lcount_ev h 40 b (by omega) hk.2 (by omega)
    rw [m_law_atN_eq]; unfold b_law_at
    by_cases hm : m < a.cnt sz
    · have ia := lat_ev h n a m (by omega) (by omega) hk.1 (by omega) h0 hm
      simp [Kd.d, Kd.nth, ia, ec1, ec2, hm]
    · have ib := lat_ev h n b (m - a.cnt sz) (by omega) (by omega) hk.2 (by omega) (by omega) (by omega)
      simp [Kd.d, Kd.nth, ib, ec1, ec2, hm]
/-! ## a while by a measure -/
theorem while_inv {c : TF} {F : SF} (P : Nat → Rho → Prop) (Q : Rho → Prop) (st : ∀ m ρ, P m ρ → (c ρ = .ok false ∧ Q ρ) ∨ (c ρ = .ok true ∧ ∃ ρ' m', F ρ = .nx ρ' ∧ m' < m ∧ P m' ρ')) :
    ∀ (n m : Nat) (ρ : Rho), P m ρ → m < n → ∃ ρ', whileF c F n ρ = .nx ρ' ∧ Q ρ'
  | 0, m, ρ, _, h => by omega
  | n + 1, m, ρ, p, h => by
    rcases st m ρ p with ⟨e, q⟩ | ⟨e, ρ', m', e2, hm, p'⟩
    · exact ⟨ρ, by rw [while_s, e], q⟩
    · obtain ⟨ρ2, e3, q⟩ := while_inv P Q st n m' ρ' p' (by omega)
      exact ⟨ρ2, by rw [while_s, e]; simp only [e2]; exact e3, q⟩
theorem comp_map {b : BF} {c : TF} {f : EF} {ρ : Rho} (g : D → D) : ∀ ds : List D, (∀ d ∈ ds, ∃ ρ1, b d ρ = some ρ1 ∧ c ρ1 = .ok true ∧ f ρ1 = .ok (.dat (g d))) → compF b c f ρ ds = some (ds.map g)
  | [], _ => rfl
  | d :: ds, h => by
    obtain ⟨ρ1, e1, e2, e3⟩ := h d (by simp)
    rw [comp_cons, e1]
    simp only [e2, e3, comp_map g ds (fun x hx => h x (by simp [hx]))]
    rfl
end KT

set_option linter.all false
set_option maxRecDepth 100000
set_option maxHeartbeats 4000000
namespace KT
open PySem PySem.Spec PyProof.Rows L2

/-! ## sizes_for -/
def putI (n x : Int) (kvs : KVs) : KVs := putL n x kvs (kvs.map (·.1)) []
def allZ0 (kvs : KVs) : Bool := (kvs.map (·.1)).all (zeroAt kvs)
structure KvOk (kvs : KVs) : Prop where
  len : kvs.length < 15000000
  row : ∀ k ∈ kvs.map (·.1), k.length ≤ 1000000
theorem KvOk.ev {kvs : KVs} (h : KvOk kvs) (n x : Int) (hx : 0 ≤ x ∧ x < 1000) : m_put_in [.bd kvs, .dat (.int n), .dat (.int x)] = .ret (.dict (putI n x kvs)) := put_in_ev kvs n x hx (fun k hk => ⟨gtK_mem kvs k hk, h.row k hk⟩) h.len
theorem KvOk.put {kvs : KVs} (h : KvOk kvs) (n x : Int) : KvOk (putI n x kvs) where
  len := by
    have h1 := putL_len n x kvs (kvs.map (·.1)) []
    have h2 := h.len
    simp only [List.length_nil, List.length_map] at h1
    unfold putI; omega
  row := fun k hk => by
    rcases putL_keys hk with z | ⟨j, hj, rfl⟩
    · cases z
    · exact Nat.le_trans (List.length_filter_le _ _) (h.row j hj)
abbrev zC : TF := cAnd (cOf (eTwo kLt (eVar 3) (eC (.int 20)))) (cOf (eCall m_all_even (aCons (eCall m_put_in (aCons (eVar 0) (aCons (eVar 2) (aCons (eVar 3) aNil)))) aNil)))
abbrev zF : SF := sAsg 3 (eTwo kAdd (eVar 3) (eC (.int 1)))
def IsC (C : DV) (kvs : KVs) : Prop := C = .bd kvs ∨ C = .dict kvs
theorem zC_ev {C : DV} {kvs : KVs} (hC : IsC C kvs) (h : KvOk kvs) (S : DV) (n x : Int) (hx : 0 ≤ x ∧ x ≤ 20) : zC [some C, some S, some (.dat (.int n)), some (.dat (.int x))] = .ok (decide (x < 20) && allZ0 (putI n x kvs)) := by
  have e1 := h.ev n x ⟨hx.1, by omega⟩
  have e2 := all_even_ev (putI n x kvs)
  by_cases hl : x < 20
  · rcases hC with rfl | rfl <;> simp [hl, e1, e2, allZ0]
  · rcases hC with rfl | rfl <;> simp [hl]
theorem size_ev {C : DV} {kvs : KVs} (hC : IsC C kvs) (h : KvOk kvs) (S : DV) (n : Int) : ∃ x : Int, (0 ≤ x ∧ x ≤ 20) ∧ (∀ y : Int, 0 ≤ y → y < x → allZ0 (putI n y kvs) = true) ∧ (x = 20 ∨ allZ0 (putI n x kvs) = false) ∧
    sWhile zC zF [some C, some S, some (.dat (.int n)), some (.dat (.int 0))] = .nx [some C, some S, some (.dat (.int n)), some (.dat (.int x))] := by
  let P : Nat → Rho → Prop := fun m ρ => ∃ x : Int, (0 ≤ x ∧ x ≤ 20) ∧ (∀ y : Int, 0 ≤ y → y < x → allZ0 (putI n y kvs) = true) ∧ m = (20 - x).toNat ∧ ρ = [some C, some S, some (.dat (.int n)), some (.dat (.int x))]
  let Q : Rho → Prop := fun ρ => ∃ x : Int, (0 ≤ x ∧ x ≤ 20) ∧ (∀ y : Int, 0 ≤ y → y < x → allZ0 (putI n y kvs) = true) ∧ (x = 20 ∨ allZ0 (putI n x kvs) = false) ∧ ρ = [some C, some S, some (.dat (.int n)), some (.dat (.int x))]
  have st : ∀ m ρ, P m ρ → (zC ρ = .ok false ∧ Q ρ) ∨ (zC ρ = .ok true ∧ ∃ ρ' m', zF ρ = .nx ρ' ∧ m' < m ∧ P m' ρ') := by
    rintro m ρ ⟨x, hx, hy, rfl, rfl⟩
    have ez := zC_ev hC h S n x hx
    by_cases hl : x < 20
    · cases hz : allZ0 (putI n x kvs) with
      | false =>
        rw [hz, Bool.and_false] at ez
        exact .inl ⟨ez, x, hx, hy, .inr hz, rfl⟩
      | true =>
        rw [hz, Bool.and_true, decide_eq_true hl] at ez
        refine .inr ⟨ez, [some C, some S, some (.dat (.int n)), some (.dat (.int (x + 1)))], (20 - (x + 1)).toNat, by simp, by omega, x + 1, ⟨by omega, by omega⟩, fun y h0 h1 => ?_, rfl, rfl⟩
        by_cases e : y = x
        · rw [e]; exact hz
        · exact hy y h0 (by omega)
    · rw [decide_eq_false hl, Bool.false_and] at ez
      exact .inl ⟨ez, x, hx, hy, .inl (by omega), rfl⟩
  obtain ⟨ρ', e, x, hx, hy, hz, rfl⟩ := while_inv P Q st FUEL 20 _ ⟨0, ⟨by decide, by decide⟩, fun y h0 h1 => by omega, rfl, rfl⟩ (by unfold FUEL; omega)
  exact ⟨x, hx, hy, hz, e⟩
/-- the sizes that sizes_for finds -/
inductive SzC : KVs → List Int → List Int → Prop where
  | nil (kvs : KVs) : SzC kvs [] []
  | cons {kvs : KVs} {n x : Int} {ns xs : List Int} : (0 ≤ x ∧ x ≤ 20) → (∀ y : Int, 0 ≤ y → y < x → allZ0 (putI n y kvs) = true) → (x = 20 ∨ allZ0 (putI n x kvs) = false) → SzC (putI n x kvs) ns xs → SzC kvs (n :: ns) (x :: xs)
abbrev sB (ga gp : FF) : SF := sSeq (sAsg 3 (eC (.int 0))) (sSeq (sWhile (cAnd (cOf (eTwo kLt (eVar 3) (eC (.int 20)))) (cOf (eCall ga (aCons (eCall gp (aCons (eVar 0) (aCons (eVar 2) (aCons (eVar 3) aNil)))) aNil)))) (sAsg 3 (eTwo kAdd (eVar 3) (eC (.int 1))))) (sSeq (sAsg 0 (eCall gp (aCons (eVar 0) (aCons (eVar 2) (aCons (eVar 3) aNil))))) (sApp 1 (eVar 3))))
theorem sz_step {C : DV} {kvs : KVs} (hC : IsC C kvs) (h : KvOk kvs) (S : List Int) (hS : S.length < 1000) (n : Int) (y3 : Option DV) : ∃ x : Int, (0 ≤ x ∧ x ≤ 20) ∧ (∀ y : Int, 0 ≤ y → y < x → allZ0 (putI n y kvs) = true) ∧ (x = 20 ∨ allZ0 (putI n x kvs) = false) ∧
    sB m_all_even m_put_in [some C, some (.own (S.map D.int)), some (.dat (.int n)), y3] = .nx [some (.dict (putI n x kvs)), some (.own ((S ++ [x]).map D.int)), some (.dat (.int n)), some (.dat (.int x))] := by
  obtain ⟨x, hx, hy, hz, e⟩ := size_ev hC h (.own (S.map D.int)) n
  refine ⟨x, hx, hy, hz, ?_⟩
  have a0 : sAsg 3 (eC (.int 0)) [some C, some (.own (S.map D.int)), some (.dat (.int n)), y3] = .nx [some C, some (.own (S.map D.int)), some (.dat (.int n)), some (.dat (.int 0))] := by simp
  have e1 := h.ev n x ⟨hx.1, by omega⟩
  have a2 : sAsg 0 (eCall m_put_in (aCons (eVar 0) (aCons (eVar 2) (aCons (eVar 3) aNil)))) [some C, some (.own (S.map D.int)), some (.dat (.int n)), some (.dat (.int x))] = .nx [some (.dict (putI n x kvs)), some (.own (S.map D.int)), some (.dat (.int n)), some (.dat (.int x))] := by
    rcases hC with rfl | rfl <;> simp [e1]
  have l1 : S.length < 16777216 := by omega
  unfold sB
  rw [sqY a0, sqY e, sqY a2]
  simp [l1]
theorem sz_loop : ∀ (ns : List Int) (C : DV) (kvs : KVs) (S : List Int) (y2 y3 : Option DV), IsC C kvs → KvOk kvs → S.length + ns.length < 1000 → ∃ (xs : List Int) (C' : DV) (z2 z3 : Option DV), xs.length = ns.length ∧ SzC kvs ns xs ∧
    loop (bName 2) (sB m_all_even m_put_in) (ns.map D.int) [some C, some (.own (S.map D.int)), y2, y3] = .nx [some C', some (.own ((S ++ xs).map D.int)), z2, z3]
  | [], C, kvs, S, y2, y3, _, _, _ => ⟨[], C, y2, y3, rfl, .nil _, by simp⟩
  | n :: ns, C, kvs, S, y2, y3, hC, h, hS => by
    simp only [List.length_cons] at hS
    obtain ⟨x, hx, hy, hz, e⟩ := sz_step hC h S (by omega) n y3
    obtain ⟨xs, C', z2, z3, hl, hc, e2⟩ := sz_loop ns (.dict (putI n x kvs)) (putI n x kvs) (S ++ [x]) (some (.dat (.int n))) (some (.dat (.int x))) (.inr rfl) (h.put n x) (by simp; omega)
    refine ⟨x :: xs, C', z2, z3, by simp [hl], .cons hx hy hz hc, ?_⟩
    rw [List.map_cons, loop_cons]
    simp only [bName_e, List.set_cons_succ, List.set_cons_zero, e]
    rw [e2, List.append_assoc]
    rfl
theorem sizes_for_ev (kvs : KVs) (h : KvOk kvs) : ∃ xs : List Int, xs.length = 4 ∧ SzC kvs [0, 1, 2, 3] xs ∧ m_sizes_for [.bd kvs] = .ret (.dat (.tup (xs.map D.int))) := by
  obtain ⟨xs, C', z2, z3, hl, hc, e⟩ := sz_loop [0, 1, 2, 3] (.bd kvs) kvs [] none none (.inl rfl) h (by simp)
  refine ⟨xs, hl, hc, ?_⟩
  rw [m_sizes_for_eq]; unfold b_sizes_for
  have a0 : sAsg 1 (eLst aNil) [some (.bd kvs), none, none, none] = .nx [some (.bd kvs), some (.own []), none, none] := by simp
  have a1 : sForR1 (eC (.int 4)) (bName 2) (sB m_all_even m_put_in) [some (.bd kvs), some (.own []), none, none] = .nx [some C', some (.own (xs.map D.int)), z2, z3] := by
    rw [z_forR1]
    have rg : rangeD 0 (4 : Int).toNat = ([0, 1, 2, 3] : List Int).map D.int := rfl
    simp only [z_c, rg]
    rw [if_pos ⟨by decide, by decide⟩]
    exact e
  rw [sqY a0, sqY a1]
  simp
end KT

set_option linter.all false
set_option maxRecDepth 100000
set_option maxHeartbeats 4000000
namespace KT
open PySem PySem.Spec PyProof.Rows L2

/-! ## at_number, thing_at -/
theorem atn_ev {sz : List Int} (h : SzOk sz (2 ^ 20)) : ∀ (n : Nat) (k : Kd) (m : Int), k.dep ≤ n → k.dep ≤ 40 → k.ok → k.lv ≤ 100 → 0 ≤ m → m < k.cnt sz → m_at_numberN n [.dat k.d, .dat (.tup (sz.map D.int)), .dat (.int m)] = .ret (.dat (k.nth sz m))
  | 0, k, d, hn, _, _, _, _, _ => by cases k <;> simp [Kd.dep] at hn
  | n + 1, .none, m, _, _, _, _, h0, h1 => by simp only [Kd.cnt] at h1; omega
  | n + 1, .one, m, _, _, _, _, _, _ => by rw [m_at_numberN_eq]; unfold b_at_number; simp [Kd.d, Kd.nth]
  | n + 1, .name i, m, _, _, _, _, _, _ => by rw [m_at_numberN_eq]; unfold b_at_number; simp [Kd.d, Kd.nth]
  | n + 1, .bo a b, m, hn, hn2, hk, hl, h0, h1 => by
    have la := a.lv_pos; have lb := b.lv_pos
    simp only [Kd.dep, Kd.lv, Kd.cnt] at hn hn2 hl h1
    have rb := b.cnt_rng h
    obtain ⟨hb, r1, r2, r3, r4⟩ := div_rng h0 h1 rb.1
    have ia := atn_ev h n a _ (by omega) (by omega) hk.1 (by omega) r1 r2
    have ib := atn_ev h n b _ (by omega) (by omega) hk.2 (by omega) r3 r4
    have ec : m_count _ = _ := count_ev h 40 b (by omega) hk.2 (by omega)
    have fd := kFdiv_i m (b.cnt sz) hb (lt_big rb.2 (by omega))
    have fm := kMod_i m (b.cnt sz) hb
    rw [m_at_numberN_eq]; unfold b_at_number
    simp [Kd.d, Kd.nth, ia, ib, ec, fd, fm]
  | n + 1, .ei a b, m, hn, hn2, hk, hl, h0, h1 => by
    have la := a.lv_pos; have lb := b.lv_pos
    simp only [Kd.dep, Kd.lv, Kd.cnt] at hn hn2 hl h1
    have ec1 : m_count _ = _ := count_ev h 40 a (by omega) hk.1 (by omega)
    rw [m_at_numberN_eq]; unfold b_at_number
    by_cases hm : m < a.cnt sz
    · have ia := atn_ev h n a m (by omega) (by omega) hk.1 (by omega) h0 hm
      simp [Kd.d, Kd.nth, ia, ec1, hm]
    · have ib := atn_ev h n b (m - a.cnt sz) (by omega) (by omega) hk.2 (by omega) (by omega) (by omega)
      simp [Kd.d, Kd.nth, ib, ec1, hm]
theorem thing_at_ev {sz : List Int} (h : SzOk sz (2 ^ 20)) (k : Kd) (m : Int) (hd : k.dep ≤ 40) (hk : k.ok) (hl : k.lv ≤ 100) :
    m_thing_at [.dat k.d, .dat (.tup (sz.map D.int)), .dat (.int m)] = if 0 ≤ m ∧ m < k.cnt sz then .ret (.dat (k.nth sz m)) else .exc "NoNumber" := by
  rw [m_thing_at_eq]; unfold b_thing_at
  have ec : m_count _ = _ := count_ev h 40 k hd hk hl
  by_cases h0 : m < 0
  · have : ¬ (0 ≤ m ∧ m < k.cnt sz) := by omega
    rw [if_neg this]
    simp [h0]
  · by_cases h1 : k.cnt sz ≤ m
    · have : ¬ (0 ≤ m ∧ m < k.cnt sz) := by omega
      rw [if_neg this]
      simp [h0, ec, h1]
    · have : 0 ≤ m ∧ m < k.cnt sz := by omega
      rw [if_pos this]
      have ea : m_at_number _ = _ := atn_ev h 40 k m hd hd hk hl this.1 this.2
      simp [h0, ec, h1, ea]
/-! ## all things -/
def Kd.things : Kd → List Int → List D
  | .none, _ => []
  | .one, _ => [.tup []]
  | .name i, sz => rangeD 0 (sz.getD i.toNat 0).toNat
  | .ei a b, sz => (a.things sz).map (fun x => D.tup [.str "left", x]) ++ (b.things sz).map fun x => D.tup [.str "right", x]
  | .bo a b, sz => (a.things sz).flatMap fun x => (b.things sz).map fun y => D.tup [x, y]
theorem flatMap_len {α β γ : Type} (R : List β) (f : α → β → γ) : ∀ L : List α, (L.flatMap fun x => R.map (f x)).length = L.length * R.length
  | [] => by simp
  | x :: L => by
    rw [List.flatMap_cons, List.length_append, flatMap_len R f L, List.length_map, List.length_cons, Nat.succ_mul]; omega
theorem flatMap_get {α β γ : Type} (R : List β) (f : α → β → γ) : ∀ (L : List α) (i : Nat), i < L.length * R.length → (L.flatMap fun x => R.map (f x))[i]? = (L[i / R.length]?).bind fun x => (R[i % R.length]?).map (f x)
  | [], i, h => by simp at h
  | x :: L, i, h => by
    have hr : 0 < R.length := by
      rcases Nat.eq_zero_or_pos R.length with e | e
      · rw [e, Nat.mul_zero] at h; omega
      · exact e
    rw [List.flatMap_cons]
    by_cases hi : i < R.length
    · rw [List.getElem?_append_left (by rw [List.length_map]; exact hi), Nat.div_eq_of_lt hi, Nat.mod_eq_of_lt hi, List.getElem?_map]
      rfl
    · obtain ⟨j, rfl⟩ : ∃ j, i = R.length + j := ⟨i - R.length, by omega⟩
      rw [List.getElem?_append_right (by rw [List.length_map]; omega), List.length_map, Nat.add_sub_cancel_left, Nat.add_div_left _ hr, Nat.add_mod_left]
      have hj : j < L.length * R.length := by
        rw [List.length_cons, Nat.succ_mul] at h; omega
      rw [flatMap_get R f L j hj]
      rfl
theorem things_len {sz : List Int} (h : SzOk sz (2 ^ 20)) : ∀ k : Kd, ((k.things sz).length : Int) = k.cnt sz
  | .none => rfl
  | .one => rfl
  | .name i => by
    have := (sz_rng h (by decide) i.toNat).1
    simp only [Kd.things, Kd.cnt, rangeD, List.length_map, List.length_range]; omega
  | .ei a b => by
    simp only [Kd.things, Kd.cnt, List.length_append, List.length_map, ← things_len h a, ← things_len h b]; omega
  | .bo a b => by
    simp only [Kd.things, Kd.cnt, ← things_len h a, ← things_len h b]
    rw [flatMap_len]; simp
theorem things_get {sz : List Int} (h : SzOk sz (2 ^ 20)) : ∀ (k : Kd) (i : Nat), (i : Int) < k.cnt sz → (k.things sz)[i]? = some (k.nth sz i)
  | .none, i, hi => by simp only [Kd.cnt] at hi; omega
  | .one, i, hi => by
    simp only [Kd.cnt] at hi
    have : i = 0 := by omega
    subst this; rfl
  | .name j, i, hi => by
    simp only [Kd.cnt] at hi
    simp only [Kd.things, rangeD, Kd.nth]
    rw [List.getElem?_map, List.getElem?_range (by omega)]
    simp
  | .ei a b, i, hi => by
    simp only [Kd.cnt] at hi
    have la := things_len h a
    simp only [Kd.things, Kd.nth]
    by_cases hc : (i : Int) < a.cnt sz
    · rw [if_pos hc, List.getElem?_append_left (by rw [List.length_map]; omega), List.getElem?_map, things_get h a i hc]; rfl
    · rw [if_neg hc, List.getElem?_append_right (by rw [List.length_map]; omega), List.length_map, List.getElem?_map, things_get h b _ (by omega)]
      have e : ((i - (a.things sz).length : Nat) : Int) = (i : Int) - a.cnt sz := by omega
      rw [e]; rfl
  | .bo a b, i, hi => by
    simp only [Kd.cnt] at hi
    have la := things_len h a
    have lb := things_len h b
    simp only [Kd.things, Kd.nth]
    have hlt : i < (a.things sz).length * (b.things sz).length := by
      have : (i : Int) < (((a.things sz).length * (b.things sz).length : Nat) : Int) := by rw [Int.natCast_mul, la, lb]; exact hi
      omega
    obtain ⟨hb, r1, r2, r3, r4⟩ := div_rng (by omega) hi (b.cnt_rng h).1
    rw [flatMap_get _ _ _ _ hlt]
    have e1 : ((i / (b.things sz).length : Nat) : Int) = (i : Int) / b.cnt sz := by rw [Int.natCast_ediv, lb]
    have e2 : ((i % (b.things sz).length : Nat) : Int) = (i : Int) % b.cnt sz := by rw [Int.natCast_emod, lb]
    rw [things_get h a _ (by rw [e1]; exact r2), things_get h b _ (by rw [e2]; exact r4), e1, e2]
    rfl
theorem Kd.cnt_rng4 {sz : List Int} (h : SzOk sz (2 ^ 2)) : ∀ k : Kd, 0 ≤ k.cnt sz ∧ k.cnt sz ≤ 2 ^ (2 * k.lv)
  | .none => ⟨Int.le_refl _, Int.le_of_lt (Int.pow_pos (by decide))⟩
  | .one => ⟨show (0 : Int) ≤ 1 by decide, show (1 : Int) ≤ 2 ^ 2 by decide⟩
  | .name i => by
    have := sz_rng h (by decide) i.toNat
    exact ⟨this.1, this.2⟩
  | .ei a b => by
    have ha := a.cnt_rng4 h; have hb := b.cnt_rng4 h; have := a.lv_pos; have := b.lv_pos
    simp only [Kd.cnt, Kd.lv, Nat.mul_add]
    exact ⟨by omega, two_pow_add _ _ ha.2 hb.2 (by omega) (by omega)⟩
  | .bo a b => by
    have ha := a.cnt_rng4 h; have hb := b.cnt_rng4 h
    simp only [Kd.cnt, Kd.lv, Nat.mul_add]
    refine ⟨Int.mul_nonneg ha.1 hb.1, ?_⟩
    rw [Int.pow_add]
    exact Int.mul_le_mul ha.2 hb.2 hb.1 (Int.le_of_lt (Int.pow_pos (by decide)))
theorem pow_le2 {n m : Nat} (h : n ≤ m) : (2 : Int) ^ n ≤ 2 ^ m := by
  obtain ⟨c, rfl⟩ : ∃ c, m = n + c := ⟨m - n, by omega⟩
  rw [Int.pow_add]
  have a : (0 : Int) < 2 ^ n := Int.pow_pos (by decide)
  have b : (0 : Int) < 2 ^ c := Int.pow_pos (by decide)
  have := Int.mul_le_mul_of_nonneg_left (show (1 : Int) ≤ 2 ^ c by omega) (Int.le_of_lt a)
  omega
theorem Kd.cnt_small {sz : List Int} (h : SzOk sz (2 ^ 2)) (k : Kd) (hl : k.lv ≤ 11) : k.cnt sz ≤ 4194304 := by
  have h1 := (k.cnt_rng4 h).2
  have h2 : (2 : Int) ^ (2 * k.lv) ≤ 2 ^ 22 := pow_le2 (by omega)
  have h3 : (2 : Int) ^ 22 = 4194304 := by decide
  omega
theorem comp_map' {j : Nat} {f : EF} {ρ : Rho} (g : D → D) (ds : List D) (h : ∀ d, f (ρ.set j (some (.dat d))) = .ok (.dat (g d))) : compF (bName j) cYes f ρ ds = some (ds.map g) :=
  comp_map g ds fun d _ => ⟨_, rfl, rfl, h d⟩
theorem th_loop (B : List D) (k s : Option DV) (A0 : List D) : ∀ (A : List D) (F : List D) (x y : Option DV), F.length + A.length * B.length ≤ 16000000 → B.length ≤ 16000000 →
    ∃ x', loop (bName 5) (sExt 4 (eComp (srcE (eVar 3)) 6 cYes (eTup (aCons (eVar 5) (aCons (eVar 6) aNil))))) A [k, s, some (.lent A0), some (.own B), some (.own F), x, y] = .nx [k, s, some (.lent A0), some (.own B), some (.own (F ++ A.flatMap fun x => B.map fun y => D.tup [x, y])), x', y]
  | [], F, x, y, _, _ => ⟨x, by simp⟩
  | a :: A, F, x, y, hl, hb => by
    rw [List.length_cons, Nat.succ_mul] at hl
    obtain ⟨x', e⟩ := th_loop B k s A0 A (F ++ B.map fun y => D.tup [a, y]) (some (.dat a)) y (by rw [List.length_append, List.length_map]; omega) hb
    refine ⟨x', ?_⟩
    have cm : compF (bName 6) cYes (eTup (aCons (eVar 5) (aCons (eVar 6) aNil))) [k, s, some (.lent A0), some (.own B), some (.own F), some (.dat a), y] B = some (B.map fun y => D.tup [a, y]) := comp_map' _ _ fun d => by simp
    have l1 : B.length ≤ 16777216 := by omega
    have l2 : F.length + B.length ≤ 16777216 := by omega
    rw [loop_cons]
    simp [cm, l1, l2, e]
theorem things_ev {sz : List Int} (h4 : SzOk sz (2 ^ 2)) (h : SzOk sz (2 ^ 20)) : ∀ (n : Nat) (k : Kd), k.dep ≤ n → k.ok → k.lv ≤ 11 → m_law_thingsN n [.dat k.d, .dat (.tup (sz.map D.int))] = .ret (.own (k.things sz))
  | 0, k, hn, _, _ => by cases k <;> simp [Kd.dep] at hn
  | n + 1, .none, _, _, _ => by
    rw [m_law_thingsN_eq]; unfold b_law_things
    simp [Kd.d, Kd.things, kMulL, seqOf]
  | n + 1, .one, _, _, _ => by
    rw [m_law_thingsN_eq]; unfold b_law_things
    simp [Kd.d, Kd.things, kMulL, seqOf]
  | n + 1, .name i, _, hk, hc => by
    rw [m_law_thingsN_eq]; unfold b_law_things
    have hc := Kd.cnt_small h4 (.name i) hc
    simp only [Kd.cnt] at hc
    have r := (sz_rng h (by decide) i.toNat).1
    have r2 : sz.getD i.toNat 0 ≤ 16777216 := by omega
    simp [Kd.d, Kd.things, sz_at h hk.1 hk.2, -List.getD_eq_getElem?_getD, r, r2]
  | n + 1, .ei a b, hn, hk, hc => by
    have pa := a.lv_pos; have pb := b.lv_pos
    simp only [Kd.dep, Kd.lv] at hn hc
    have sa := a.cnt_small h4 (by omega)
    have sb := b.cnt_small h4 (by omega)
    have sab := Kd.cnt_small h4 (.bo a b) (by simp only [Kd.lv]; omega)
    have sab2 := Kd.cnt_small h4 (.ei a b) (by simp only [Kd.lv]; omega)
    simp only [Kd.cnt] at sab sab2
    have ra := (a.cnt_rng h).1; have rb := (b.cnt_rng h).1
    have ia := things_ev h4 h n a (by omega) hk.1 (by omega)
    have ib := things_ev h4 h n b (by omega) hk.2 (by omega)
    have la := things_len h a; have lb := things_len h b
    have l1 : (a.things sz).length ≤ 16777216 := by omega
    have l2 : (b.things sz).length ≤ 16777216 := by omega
    have l3 : (a.things sz).length + (b.things sz).length ≤ 16777216 := by omega
    have c1 : ∀ ρ : Rho, ρ.length = 7 → compF (bName 5) cYes (eTup (aCons (eC (.str "left")) (aCons (eVar 5) aNil))) ρ (a.things sz) = some ((a.things sz).map fun x => D.tup [.str "left", x]) := fun ρ hρ => comp_map' _ _ fun d => by simp [hρ]
    have c2 : ∀ ρ : Rho, ρ.length = 7 → compF (bName 5) cYes (eTup (aCons (eC (.str "right")) (aCons (eVar 5) aNil))) ρ (b.things sz) = some ((b.things sz).map fun x => D.tup [.str "right", x]) := fun ρ hρ => comp_map' _ _ fun d => by simp [hρ]
    rw [m_law_thingsN_eq]; unfold b_law_things
    simp [Kd.d, Kd.things, ia, ib, c1, c2, l1, l2, l3]
  | n + 1, .bo a b, hn, hk, hc => by
    have pa := a.lv_pos; have pb := b.lv_pos
    simp only [Kd.dep, Kd.lv] at hn hc
    have sa := a.cnt_small h4 (by omega)
    have sb := b.cnt_small h4 (by omega)
    have sab := Kd.cnt_small h4 (.bo a b) (by simp only [Kd.lv]; omega)
    have sab2 := Kd.cnt_small h4 (.ei a b) (by simp only [Kd.lv]; omega)
    simp only [Kd.cnt] at sab sab2
    have ra := (a.cnt_rng h).1; have rb := (b.cnt_rng h).1
    have ia := things_ev h4 h n a (by omega) hk.1 (by omega)
    have ib := things_ev h4 h n b (by omega) hk.2 (by omega)
    have la := things_len h a; have lb := things_len h b
    have lab : (a.things sz).length * (b.things sz).length ≤ 16000000 := by
      have : (((a.things sz).length * (b.things sz).length : Nat) : Int) ≤ 4194304 := by rw [Int.natCast_mul, la, lb]; exact sab
      omega
    obtain ⟨x', e⟩ := th_loop (b.things sz) (some (.dat (Kd.bo a b).d)) (some (.dat (.tup (sz.map D.int)))) (a.things sz) (a.things sz) [] none none (by simp; exact lab) (by omega)
    rw [m_law_thingsN_eq]; unfold b_law_things
    simp only [Kd.d] at e ⊢
    simp [Kd.things, ia, ib, e]
end KT

set_option linter.all false
set_option maxRecDepth 100000
set_option maxHeartbeats 4000000
namespace KT
open PySem PySem.Spec PyProof.Rows L2

/-! ## things by their shape -/
theorem isT_bo {a b : Kd} {sz : List Int} {d : D} : (Kd.bo a b).isT sz d = true ↔ ∃ x y, d = .tup [x, y] ∧ a.isT sz x = true ∧ b.isT sz y = true := by
  constructor
  · intro h
    cases d with
    | tup ds =>
      rcases two_or ds with ⟨x, y, rfl⟩ | hne
      · simp only [Kd.isT, Bool.and_eq_true] at h
        exact ⟨x, y, rfl, h.1, h.2⟩
      · rw [isT_bo_no hne] at h; cases h
    | _ => cases h
  · rintro ⟨x, y, rfl, h1, h2⟩
    simp [Kd.isT, h1, h2]
theorem isT_ei {a b : Kd} {sz : List Int} {d : D} : (Kd.ei a b).isT sz d = true ↔ (∃ y, d = .tup [.str "left", y] ∧ a.isT sz y = true) ∨ ∃ y, d = .tup [.str "right", y] ∧ b.isT sz y = true := by
  constructor
  · intro h
    cases d with
    | tup ds =>
      rcases two_or ds with ⟨x, y, rfl⟩ | hne
      · simp only [Kd.isT] at h
        by_cases e1 : x = .str "left"
        · rw [if_pos e1] at h; exact .inl ⟨y, by rw [e1], h⟩
        · rw [if_neg e1] at h
          by_cases e2 : x = .str "right"
          · rw [if_pos e2] at h; exact .inr ⟨y, by rw [e2], h⟩
          · rw [if_neg e2] at h; cases h
      · rw [isT_ei_no hne] at h; cases h
    | _ => cases h
  · rintro (⟨y, rfl, h⟩ | ⟨y, rfl, h⟩) <;> simp [Kd.isT, h]
theorem isT_one {sz : List Int} {d : D} : Kd.one.isT sz d = true ↔ d = .tup [] := by simp [Kd.isT]
theorem isT_none {sz : List Int} {d : D} : Kd.none.isT sz d = true ↔ False := by simp [Kd.isT]
theorem isT_ok (sz : List Int) : ∀ (k : Kd) (d : D), k.isT sz d = true → d.pl = true ∧ d.nd + 2 ≤ 4 * k.lv
  | .none, d, h => by cases h
  | .one, d, h => by rw [isT_one.mp h]; exact ⟨rfl, by simp [D.nd, D.nds, Kd.lv]⟩
  | .name i, d, h => by
    cases d with
    | int m => exact ⟨rfl, by simp [D.nd, Kd.lv]⟩
    | _ => cases h
  | .bo a b, d, h => by
    obtain ⟨x, y, rfl, h1, h2⟩ := isT_bo.mp h
    have i1 := isT_ok sz a x h1; have i2 := isT_ok sz b y h2
    exact ⟨by simp [D.pl, D.pls, i1.1, i2.1], by simp only [D.nd, D.nds, Kd.lv]; omega⟩
  | .ei a b, d, h => by
    have := a.lv_pos; have := b.lv_pos
    rcases isT_ei.mp h with ⟨y, rfl, h1⟩ | ⟨y, rfl, h1⟩
    · have i1 := isT_ok sz a y h1
      exact ⟨by simp [D.pl, D.pls, i1.1], by simp only [D.nd, D.nds, Kd.lv]; omega⟩
    · have i1 := isT_ok sz b y h1
      exact ⟨by simp [D.pl, D.pls, i1.1], by simp only [D.nd, D.nds, Kd.lv]; omega⟩
theorem isT_tup {k : Kd} {sz : List Int} {d : D} (h : k.isT sz d = true) (ha : k.arity = 3) : ∃ x y, d = .tup [x, y] := by
  cases k with
  | bo a b => obtain ⟨x, y, e, _⟩ := isT_bo.mp h; exact ⟨x, y, e⟩
  | ei a b =>
    rcases isT_ei.mp h with ⟨y, e, _⟩ | ⟨y, e, _⟩
    · exact ⟨_, y, e⟩
    · exact ⟨_, y, e⟩
  | none => cases ha
  | one => cases ha
  | name _ => cases ha
/-! ## forth and back here -/
structure StepOk (k : Kd) (w : String) (t t' : D) : Prop where
  f : m_forth_here [.dat k.d, .dat (.str w), .dat t] = .ret (.dat t')
  l : m_law_forth_here [.dat k.d, .dat (.str w), .dat t] = .ret (.dat t')
  b : m_back_here [.dat k.d, .dat (.str w), .dat t'] = .ret (.dat t)
theorem other_l : m_other_side [.dat (.str "left")] = .ret (.dat (.str "right")) := by rw [m_other_side_eq]; unfold b_other_side; simp
theorem other_r : m_other_side [.dat (.str "right")] = .ret (.dat (.str "left")) := by rw [m_other_side_eq]; unfold b_other_side; simp
theorem fh_eq (k w t : DV) : m_forth_here [k, w, t] = fin (b_forth_here m_other_side [some k, some w, some t]) := rfl
theorem st_swap_bo (a b : Kd) (x y : D) : StepOk (.bo a b) "swap" (.tup [x, y]) (.tup [y, x]) where
  f := by rw [m_forth_here_eq]; unfold b_forth_here; simp [Kd.d]
  l := by rw [m_law_forth_here_eq]; unfold b_law_forth_here; simp [Kd.d]
  b := by
    have : m_forth_here [.dat (Kd.bo a b).d, .dat (.str "swap"), .dat (.tup [y, x])] = .ret (.dat (.tup [x, y])) := by rw [m_forth_here_eq]; unfold b_forth_here; simp [Kd.d]
    rw [m_back_here_eq]; unfold b_back_here; simp [this]
theorem st_swap_l (a b : Kd) (y : D) : StepOk (.ei a b) "swap" (.tup [.str "left", y]) (.tup [.str "right", y]) where
  f := by rw [m_forth_here_eq]; unfold b_forth_here; simp [Kd.d, other_l]
  l := by rw [m_law_forth_here_eq]; unfold b_law_forth_here; simp [Kd.d]
  b := by
    have : m_forth_here [.dat (Kd.ei a b).d, .dat (.str "swap"), .dat (.tup [.str "right", y])] = .ret (.dat (.tup [.str "left", y])) := by rw [m_forth_here_eq]; unfold b_forth_here; simp [Kd.d, other_r]
    rw [m_back_here_eq]; unfold b_back_here; simp [this]
theorem st_swap_r (a b : Kd) (y : D) : StepOk (.ei a b) "swap" (.tup [.str "right", y]) (.tup [.str "left", y]) where
  f := by rw [m_forth_here_eq]; unfold b_forth_here; simp [Kd.d, other_r]
  l := by rw [m_law_forth_here_eq]; unfold b_law_forth_here; simp [Kd.d]
  b := by
    have : m_forth_here [.dat (Kd.ei a b).d, .dat (.str "swap"), .dat (.tup [.str "left", y])] = .ret (.dat (.tup [.str "right", y])) := by rw [m_forth_here_eq]; unfold b_forth_here; simp [Kd.d, other_l]
    rw [m_back_here_eq]; unfold b_back_here; simp [this]
theorem st_group_bo (a b : Kd) (x y z : D) : StepOk (.bo a b) "group" (.tup [.tup [x, y], z]) (.tup [x, .tup [y, z]]) where
  f := by rw [m_forth_here_eq]; unfold b_forth_here; simp [Kd.d]
  l := by rw [m_law_forth_here_eq]; unfold b_law_forth_here; simp [Kd.d]
  b := by rw [m_back_here_eq]; unfold b_back_here; simp [Kd.d]
theorem st_group_r (a b : Kd) (y : D) (hy : y.pl = true) : StepOk (.ei a b) "group" (.tup [.str "right", y]) (.tup [.str "right", .tup [.str "right", y]]) where
  f := by rw [m_forth_here_eq]; unfold b_forth_here; simp [Kd.d]
  l := by rw [m_law_forth_here_eq]; unfold b_law_forth_here; simp [Kd.d]
  b := by rw [m_back_here_eq]; unfold b_back_here; simp [Kd.d]
theorem st_group_ll (a b : Kd) (y : D) : StepOk (.ei a b) "group" (.tup [.str "left", .tup [.str "left", y]]) (.tup [.str "left", y]) where
  f := by rw [m_forth_here_eq]; unfold b_forth_here; simp [Kd.d]
  l := by rw [m_law_forth_here_eq]; unfold b_law_forth_here; simp [Kd.d]
  b := by rw [m_back_here_eq]; unfold b_back_here; simp [Kd.d]
theorem st_group_lr (a b : Kd) (y : D) : StepOk (.ei a b) "group" (.tup [.str "left", .tup [.str "right", y]]) (.tup [.str "right", .tup [.str "left", y]]) where
  f := by rw [m_forth_here_eq]; unfold b_forth_here; simp [Kd.d]
  l := by rw [m_law_forth_here_eq]; unfold b_law_forth_here; simp [Kd.d]
  b := by rw [m_back_here_eq]; unfold b_back_here; simp [Kd.d]
theorem st_spread (a b : Kd) (x s y : D) : StepOk (.bo a b) "spread" (.tup [x, .tup [s, y]]) (.tup [s, .tup [x, y]]) where
  f := by rw [m_forth_here_eq]; unfold b_forth_here; simp [Kd.d]
  l := by rw [m_law_forth_here_eq]; unfold b_law_forth_here; simp [Kd.d]
  b := by rw [m_back_here_eq]; unfold b_back_here; simp [Kd.d]
theorem st_drop_bo (a b : Kd) (y : D) : StepOk (.bo a b) "drop" (.tup [.tup [], y]) y where
  f := by rw [m_forth_here_eq]; unfold b_forth_here; simp [Kd.d]
  l := by rw [m_law_forth_here_eq]; unfold b_law_forth_here; simp [Kd.d]
  b := by rw [m_back_here_eq]; unfold b_back_here; simp [Kd.d]
theorem st_drop_ei (a b : Kd) (y : D) : StepOk (.ei a b) "drop" (.tup [.str "right", y]) y where
  f := by rw [m_forth_here_eq]; unfold b_forth_here; simp [Kd.d]
  l := by rw [m_law_forth_here_eq]; unfold b_law_forth_here; simp [Kd.d]
  b := by rw [m_back_here_eq]; unfold b_back_here; simp [Kd.d]
/-- what a word at a kind is -/
theorem here_cases {k q : Kd} {w : String} (h : k.here w = some q) :
    (w = "swap" ∧ ((∃ a b, k = .ei a b ∧ q = .ei b a) ∨ ∃ a b, k = .bo a b ∧ q = .bo b a)) ∨
    (w = "group" ∧ ((∃ a b c, k = .ei (.ei a b) c ∧ q = .ei a (.ei b c)) ∨ ∃ a b c, k = .bo (.bo a b) c ∧ q = .bo a (.bo b c))) ∨
    (w = "spread" ∧ ∃ a b c, k = .bo a (.ei b c) ∧ q = .ei (.bo a b) (.bo a c)) ∨
    (w = "drop" ∧ ((∃ b, k = .bo .none b ∧ q = .none) ∨ (∃ b, k = .bo .one b ∧ q = b) ∨ ∃ b, k = .ei .none b ∧ q = b)) := by
  unfold Kd.here at h
  split at h
  · rename_i e
    refine .inl ⟨e, ?_⟩
    split at h
    · cases h; exact .inl ⟨_, _, rfl, rfl⟩
    · cases h; exact .inr ⟨_, _, rfl, rfl⟩
    · cases h
  · split at h
    · rename_i e
      refine .inr (.inl ⟨e, ?_⟩)
      split at h
      · cases h; exact .inl ⟨_, _, _, rfl, rfl⟩
      · cases h; exact .inr ⟨_, _, _, rfl, rfl⟩
      · cases h
    · split at h
      · rename_i e
        refine .inr (.inr (.inl ⟨e, ?_⟩))
        split at h
        · cases h; exact ⟨_, _, _, rfl, rfl⟩
        · cases h
      · split at h
        · rename_i e
          refine .inr (.inr (.inr ⟨e, ?_⟩))
          split at h
          · cases h; exact .inl ⟨_, rfl, rfl⟩
          · cases h; exact .inr (.inl ⟨_, rfl, rfl⟩)
          · cases h; exact .inr (.inr ⟨_, rfl, rfl⟩)
          · cases h
        · cases h
theorem here_fwd {k q : Kd} {w : String} {sz : List Int} {t : D} (h : k.here w = some q) (ht : k.isT sz t = true) : ∃ t', q.isT sz t' = true ∧ StepOk k w t t' := by
  rcases here_cases h with ⟨rfl, ⟨a, b, rfl, rfl⟩ | ⟨a, b, rfl, rfl⟩⟩ | ⟨rfl, ⟨a, b, c, rfl, rfl⟩ | ⟨a, b, c, rfl, rfl⟩⟩ | ⟨rfl, a, b, c, rfl, rfl⟩ | ⟨rfl, ⟨b, rfl, rfl⟩ | ⟨b, rfl, rfl⟩ | ⟨b, rfl, rfl⟩⟩
  · rcases isT_ei.mp ht with ⟨y, rfl, hy⟩ | ⟨y, rfl, hy⟩
    · exact ⟨_, isT_ei.mpr (.inr ⟨y, rfl, hy⟩), st_swap_l a b y⟩
    · exact ⟨_, isT_ei.mpr (.inl ⟨y, rfl, hy⟩), st_swap_r a b y⟩
  · obtain ⟨x, y, rfl, hx, hy⟩ := isT_bo.mp ht
    exact ⟨_, isT_bo.mpr ⟨y, x, rfl, hy, hx⟩, st_swap_bo a b x y⟩
  · rcases isT_ei.mp ht with ⟨y, rfl, hy⟩ | ⟨y, rfl, hy⟩
    · rcases isT_ei.mp hy with ⟨z, rfl, hz⟩ | ⟨z, rfl, hz⟩
      · exact ⟨_, isT_ei.mpr (.inl ⟨z, rfl, hz⟩), st_group_ll _ _ z⟩
      · exact ⟨_, isT_ei.mpr (.inr ⟨_, rfl, isT_ei.mpr (.inl ⟨z, rfl, hz⟩)⟩), st_group_lr _ _ z⟩
    · exact ⟨_, isT_ei.mpr (.inr ⟨_, rfl, isT_ei.mpr (.inr ⟨y, rfl, hy⟩)⟩), st_group_r _ _ y (isT_ok sz _ _ hy).1⟩
  · obtain ⟨x, z, rfl, hx, hz⟩ := isT_bo.mp ht
    obtain ⟨x, y, rfl, hx, hy⟩ := isT_bo.mp hx
    exact ⟨_, isT_bo.mpr ⟨x, _, rfl, hx, isT_bo.mpr ⟨y, z, rfl, hy, hz⟩⟩, st_group_bo _ _ x y z⟩
  · obtain ⟨x, z, rfl, hx, hz⟩ := isT_bo.mp ht
    rcases isT_ei.mp hz with ⟨y, rfl, hy⟩ | ⟨y, rfl, hy⟩
    · exact ⟨_, isT_ei.mpr (.inl ⟨_, rfl, isT_bo.mpr ⟨x, y, rfl, hx, hy⟩⟩), st_spread _ _ x _ y⟩
    · exact ⟨_, isT_ei.mpr (.inr ⟨_, rfl, isT_bo.mpr ⟨x, y, rfl, hx, hy⟩⟩), st_spread _ _ x _ y⟩
  · obtain ⟨x, z, rfl, hx, hz⟩ := isT_bo.mp ht
    exact (isT_none.mp hx).elim
  · obtain ⟨x, z, rfl, hx, hz⟩ := isT_bo.mp ht
    rw [isT_one.mp hx]
    exact ⟨z, hz, st_drop_bo _ _ z⟩
  · rcases isT_ei.mp ht with ⟨y, rfl, hy⟩ | ⟨y, rfl, hy⟩
    · exact (isT_none.mp hy).elim
    · exact ⟨y, hy, st_drop_ei _ _ y⟩
theorem here_bwd {k q : Kd} {w : String} {sz : List Int} {t' : D} (h : k.here w = some q) (ht : q.isT sz t' = true) : ∃ t, k.isT sz t = true ∧ StepOk k w t t' := by
  rcases here_cases h with ⟨rfl, ⟨a, b, rfl, rfl⟩ | ⟨a, b, rfl, rfl⟩⟩ | ⟨rfl, ⟨a, b, c, rfl, rfl⟩ | ⟨a, b, c, rfl, rfl⟩⟩ | ⟨rfl, a, b, c, rfl, rfl⟩ | ⟨rfl, ⟨b, rfl, rfl⟩ | ⟨b, rfl, rfl⟩ | ⟨b, rfl, rfl⟩⟩
  · rcases isT_ei.mp ht with ⟨y, rfl, hy⟩ | ⟨y, rfl, hy⟩
    · exact ⟨_, isT_ei.mpr (.inr ⟨y, rfl, hy⟩), st_swap_r a b y⟩
    · exact ⟨_, isT_ei.mpr (.inl ⟨y, rfl, hy⟩), st_swap_l a b y⟩
  · obtain ⟨x, y, rfl, hx, hy⟩ := isT_bo.mp ht
    exact ⟨_, isT_bo.mpr ⟨y, x, rfl, hy, hx⟩, st_swap_bo a b y x⟩
  · rcases isT_ei.mp ht with ⟨y, rfl, hy⟩ | ⟨y, rfl, hy⟩
    · exact ⟨_, isT_ei.mpr (.inl ⟨_, rfl, isT_ei.mpr (.inl ⟨y, rfl, hy⟩)⟩), st_group_ll _ _ y⟩
    · rcases isT_ei.mp hy with ⟨z, rfl, hz⟩ | ⟨z, rfl, hz⟩
      · exact ⟨_, isT_ei.mpr (.inl ⟨_, rfl, isT_ei.mpr (.inr ⟨z, rfl, hz⟩)⟩), st_group_lr _ _ z⟩
      · exact ⟨_, isT_ei.mpr (.inr ⟨z, rfl, hz⟩), st_group_r _ _ z (isT_ok sz _ _ hz).1⟩
  · obtain ⟨x, z, rfl, hx, hz⟩ := isT_bo.mp ht
    obtain ⟨y, z, rfl, hy, hz⟩ := isT_bo.mp hz
    exact ⟨_, isT_bo.mpr ⟨_, z, rfl, isT_bo.mpr ⟨x, y, rfl, hx, hy⟩, hz⟩, st_group_bo _ _ x y z⟩
  · rcases isT_ei.mp ht with ⟨y, rfl, hy⟩ | ⟨y, rfl, hy⟩
    · obtain ⟨x, z, rfl, hx, hz⟩ := isT_bo.mp hy
      exact ⟨_, isT_bo.mpr ⟨x, _, rfl, hx, isT_ei.mpr (.inl ⟨z, rfl, hz⟩)⟩, st_spread _ _ x _ z⟩
    · obtain ⟨x, z, rfl, hx, hz⟩ := isT_bo.mp hy
      exact ⟨_, isT_bo.mpr ⟨x, _, rfl, hx, isT_ei.mpr (.inr ⟨z, rfl, hz⟩)⟩, st_spread _ _ x _ z⟩
  · exact (isT_none.mp ht).elim
  · exact ⟨_, isT_bo.mpr ⟨_, t', rfl, isT_one.mpr rfl, ht⟩, st_drop_bo _ _ t'⟩
  · exact ⟨_, isT_ei.mpr (.inr ⟨t', rfl, ht⟩), st_drop_ei _ _ t'⟩
end KT

set_option linter.all false
set_option maxRecDepth 100000
set_option maxHeartbeats 4000000
namespace KT
open PySem PySem.Spec PyProof.Rows L2

/-! ## forth and back at a path -/
structure MoveN (n : Nat) (k : Kd) (w : String) (p : List Int) (t t' : D) : Prop where
  f : m_withinN n [.dat k.d, .dat (.tup (p.map D.int)), .dat (.str w), .dat t, .dat (.bl false)] = .ret (.dat t')
  l : m_law_forthN n [.dat k.d, .dat (.str w), .dat (.tup (p.map D.int)), .dat t] = .ret (.dat t')
  b : m_withinN n [.dat k.d, .dat (.tup (p.map D.int)), .dat (.str w), .dat t', .dat (.bl true)] = .ret (.dat t)
theorem mv_nil {n : Nat} {k : Kd} {w : String} {t t' : D} (h : StepOk k w t t') : MoveN (n + 1) k w [] t t' where
  f := by rw [m_withinN_eq]; unfold b_within; simp [h.f]
  l := by rw [m_law_forthN_eq]; unfold b_law_forth; simp [h.l]
  b := by rw [m_withinN_eq]; unfold b_within; simp [h.b]
theorem mv_ei_l {n : Nat} {a b : Kd} {w : String} {p : List Int} {y y' : D} (h : MoveN n a w p y y') : MoveN (n + 1) (.ei a b) w (0 :: p) (.tup [.str "left", y]) (.tup [.str "left", y']) where
  f := by rw [m_withinN_eq]; unfold b_within; simp [Kd.d, h.f]
  l := by rw [m_law_forthN_eq]; unfold b_law_forth; simp [Kd.d, h.l]
  b := by rw [m_withinN_eq]; unfold b_within; simp [Kd.d, h.b]
theorem mv_ei_lx {n : Nat} {a b : Kd} {w : String} {p : List Int} {y : D} : MoveN (n + 1) (.ei a b) w (0 :: p) (.tup [.str "right", y]) (.tup [.str "right", y]) where
  f := by rw [m_withinN_eq]; unfold b_within; simp [Kd.d]
  l := by rw [m_law_forthN_eq]; unfold b_law_forth; simp [Kd.d]
  b := by rw [m_withinN_eq]; unfold b_within; simp [Kd.d]
theorem mv_ei_r {n : Nat} {a b : Kd} {w : String} {p : List Int} {y y' : D} (h : MoveN n b w p y y') : MoveN (n + 1) (.ei a b) w (1 :: p) (.tup [.str "right", y]) (.tup [.str "right", y']) where
  f := by rw [m_withinN_eq]; unfold b_within; simp [Kd.d, h.f]
  l := by rw [m_law_forthN_eq]; unfold b_law_forth; simp [Kd.d, h.l]
  b := by rw [m_withinN_eq]; unfold b_within; simp [Kd.d, h.b]
theorem mv_ei_rx {n : Nat} {a b : Kd} {w : String} {p : List Int} {y : D} : MoveN (n + 1) (.ei a b) w (1 :: p) (.tup [.str "left", y]) (.tup [.str "left", y]) where
  f := by rw [m_withinN_eq]; unfold b_within; simp [Kd.d]
  l := by rw [m_law_forthN_eq]; unfold b_law_forth; simp [Kd.d]
  b := by rw [m_withinN_eq]; unfold b_within; simp [Kd.d]
theorem mv_bo_l {n : Nat} {a b : Kd} {w : String} {p : List Int} {x x' y : D} (h : MoveN n a w p x x') : MoveN (n + 1) (.bo a b) w (0 :: p) (.tup [x, y]) (.tup [x', y]) where
  f := by rw [m_withinN_eq]; unfold b_within; simp [Kd.d, h.f]
  l := by rw [m_law_forthN_eq]; unfold b_law_forth; simp [Kd.d, h.l]
  b := by rw [m_withinN_eq]; unfold b_within; simp [Kd.d, h.b]
theorem mv_bo_r {n : Nat} {a b : Kd} {w : String} {p : List Int} {x y y' : D} (h : MoveN n b w p y y') : MoveN (n + 1) (.bo a b) w (1 :: p) (.tup [x, y]) (.tup [x, y']) where
  f := by rw [m_withinN_eq]; unfold b_within; simp [Kd.d, h.f]
  l := by rw [m_law_forthN_eq]; unfold b_law_forth; simp [Kd.d, h.l]
  b := by rw [m_withinN_eq]; unfold b_within; simp [Kd.d, h.b]
theorem put_ei0 (a b q : Kd) (p : List Int) : (Kd.ei a b).put (0 :: p) q = .ei (a.put p q) b := by simp [Kd.put]
theorem put_ei1 (a b q : Kd) (p : List Int) : (Kd.ei a b).put (1 :: p) q = .ei a (b.put p q) := by simp [Kd.put]
theorem put_bo0 (a b q : Kd) (p : List Int) : (Kd.bo a b).put (0 :: p) q = .bo (a.put p q) b := by simp [Kd.put]
theorem put_bo1 (a b q : Kd) (p : List Int) : (Kd.bo a b).put (1 :: p) q = .bo a (b.put p q) := by simp [Kd.put]
theorem at_cases {k s : Kd} {i : Int} {p : List Int} (h : k.at (i :: p) = some s) : (i = 0 ∨ i = 1) ∧ ((∃ a b, k = .ei a b ∧ (if i = 0 then a.at p else b.at p) = some s) ∨ ∃ a b, k = .bo a b ∧ (if i = 0 then a.at p else b.at p) = some s) := by
  cases k with
  | none => cases h
  | one => cases h
  | name _ => cases h
  | ei a b =>
    simp only [Kd.at] at h
    by_cases e0 : i = 0
    · rw [if_pos e0] at h; exact ⟨.inl e0, .inl ⟨a, b, rfl, by rw [if_pos e0]; exact h⟩⟩
    · rw [if_neg e0] at h
      by_cases e1 : i = 1
      · rw [if_pos e1] at h; exact ⟨.inr e1, .inl ⟨a, b, rfl, by rw [if_neg e0]; exact h⟩⟩
      · rw [if_neg e1] at h; cases h
  | bo a b =>
    simp only [Kd.at] at h
    by_cases e0 : i = 0
    · rw [if_pos e0] at h; exact ⟨.inl e0, .inr ⟨a, b, rfl, by rw [if_pos e0]; exact h⟩⟩
    · rw [if_neg e0] at h
      by_cases e1 : i = 1
      · rw [if_pos e1] at h; exact ⟨.inr e1, .inr ⟨a, b, rfl, by rw [if_neg e0]; exact h⟩⟩
      · rw [if_neg e1] at h; cases h
theorem at_fwd {w : String} {sz : List Int} {s q : Kd} (hq : s.here w = some q) : ∀ (n : Nat) (p : List Int) (k : Kd) (t : D), p.length < n → k.at p = some s → k.isT sz t = true → ∃ t', (k.put p q).isT sz t' = true ∧ MoveN n k w p t t'
  | 0, p, k, t, hn, _, _ => by omega
  | n + 1, [], k, t, _, h, ht => by
    rw [Kd.at_nil] at h; cases h
    rw [Kd.put_nil]
    obtain ⟨t', h1, h2⟩ := here_fwd hq ht
    exact ⟨t', h1, mv_nil h2⟩
  | n + 1, i :: p, k, t, hn, h, ht => by
    simp only [List.length_cons] at hn
    obtain ⟨hi, ⟨a, b, rfl, hs⟩ | ⟨a, b, rfl, hs⟩⟩ := at_cases h
    · rcases hi with rfl | rfl
      · rw [if_pos rfl] at hs
        rw [put_ei0]
        rcases isT_ei.mp ht with ⟨y, rfl, hy⟩ | ⟨y, rfl, hy⟩
        · obtain ⟨y', h1, h2⟩ := at_fwd hq n p a y (by omega) hs hy
          exact ⟨_, isT_ei.mpr (.inl ⟨y', rfl, h1⟩), mv_ei_l h2⟩
        · exact ⟨_, isT_ei.mpr (.inr ⟨y, rfl, hy⟩), mv_ei_lx⟩
      · rw [if_neg (by decide)] at hs
        rw [put_ei1]
        rcases isT_ei.mp ht with ⟨y, rfl, hy⟩ | ⟨y, rfl, hy⟩
        · exact ⟨_, isT_ei.mpr (.inl ⟨y, rfl, hy⟩), mv_ei_rx⟩
        · obtain ⟨y', h1, h2⟩ := at_fwd hq n p b y (by omega) hs hy
          exact ⟨_, isT_ei.mpr (.inr ⟨y', rfl, h1⟩), mv_ei_r h2⟩
    · obtain ⟨x, y, rfl, hx, hy⟩ := isT_bo.mp ht
      rcases hi with rfl | rfl
      · rw [if_pos rfl] at hs
        rw [put_bo0]
        obtain ⟨x', h1, h2⟩ := at_fwd hq n p a x (by omega) hs hx
        exact ⟨_, isT_bo.mpr ⟨x', y, rfl, h1, hy⟩, mv_bo_l h2⟩
      · rw [if_neg (by decide)] at hs
        rw [put_bo1]
        obtain ⟨y', h1, h2⟩ := at_fwd hq n p b y (by omega) hs hy
        exact ⟨_, isT_bo.mpr ⟨x, y', rfl, hx, h1⟩, mv_bo_r h2⟩
theorem at_bwd {w : String} {sz : List Int} {s q : Kd} (hq : s.here w = some q) : ∀ (n : Nat) (p : List Int) (k : Kd) (t' : D), p.length < n → k.at p = some s → (k.put p q).isT sz t' = true → ∃ t, k.isT sz t = true ∧ MoveN n k w p t t'
  | 0, p, k, t, hn, _, _ => by omega
  | n + 1, [], k, t, _, h, ht => by
    rw [Kd.at_nil] at h; cases h
    rw [Kd.put_nil] at ht
    obtain ⟨t', h1, h2⟩ := here_bwd hq ht
    exact ⟨t', h1, mv_nil h2⟩
  | n + 1, i :: p, k, t, hn, h, ht => by
    simp only [List.length_cons] at hn
    obtain ⟨hi, ⟨a, b, rfl, hs⟩ | ⟨a, b, rfl, hs⟩⟩ := at_cases h
    · rcases hi with rfl | rfl
      · rw [if_pos rfl] at hs
        rw [put_ei0] at ht
        rcases isT_ei.mp ht with ⟨y, rfl, hy⟩ | ⟨y, rfl, hy⟩
        · obtain ⟨y', h1, h2⟩ := at_bwd hq n p a y (by omega) hs hy
          exact ⟨_, isT_ei.mpr (.inl ⟨y', rfl, h1⟩), mv_ei_l h2⟩
        · exact ⟨_, isT_ei.mpr (.inr ⟨y, rfl, hy⟩), mv_ei_lx⟩
      · rw [if_neg (by decide)] at hs
        rw [put_ei1] at ht
        rcases isT_ei.mp ht with ⟨y, rfl, hy⟩ | ⟨y, rfl, hy⟩
        · exact ⟨_, isT_ei.mpr (.inl ⟨y, rfl, hy⟩), mv_ei_rx⟩
        · obtain ⟨y', h1, h2⟩ := at_bwd hq n p b y (by omega) hs hy
          exact ⟨_, isT_ei.mpr (.inr ⟨y', rfl, h1⟩), mv_ei_r h2⟩
    · rcases hi with rfl | rfl
      · rw [if_pos rfl] at hs
        rw [put_bo0] at ht
        obtain ⟨x, y, rfl, hx, hy⟩ := isT_bo.mp ht
        obtain ⟨x', h1, h2⟩ := at_bwd hq n p a x (by omega) hs hx
        exact ⟨_, isT_bo.mpr ⟨x', y, rfl, h1, hy⟩, mv_bo_l h2⟩
      · rw [if_neg (by decide)] at hs
        rw [put_bo1] at ht
        obtain ⟨x, y, rfl, hx, hy⟩ := isT_bo.mp ht
        obtain ⟨y', h1, h2⟩ := at_bwd hq n p b y (by omega) hs hy
        exact ⟨_, isT_bo.mpr ⟨x, y', rfl, hx, h1⟩, mv_bo_r h2⟩
/-- a turning carries a thing forth and back -/
structure Turn (k : Kd) (w : String) (p : List Int) (t t' : D) : Prop where
  wf : m_within [.dat k.d, .dat (.tup (p.map D.int)), .dat (.str w), .dat t, .dat (.bl false)] = .ret (.dat t')
  wb : m_within [.dat k.d, .dat (.tup (p.map D.int)), .dat (.str w), .dat t', .dat (.bl true)] = .ret (.dat t)
  lf : m_law_forth [.dat k.d, .dat (.str w), .dat (.tup (p.map D.int)), .dat t] = .ret (.dat t')
  f : m_forth [.dat k.d, .dat (.tup [.str w, .tup (p.map D.int)]), .dat t] = .ret (.dat t')
  b : m_back [.dat k.d, .dat (.tup [.str w, .tup (p.map D.int)]), .dat t'] = .ret (.dat t)
theorem turn_of {k r : Kd} {w : String} {p : List Int} {t t' : D} (hd : k.dep < 40) (h : k.turn w p = some r) (m : MoveN 40 k w p t t') : Turn k w p t t' := by
  have e : m_turned [.dat k.d, .dat (.tup [.str w, .tup (p.map D.int)])] = _ := turned_ev k w p hd
  rw [h] at e
  simp only [oR] at e
  have mf : m_within _ = _ := m.f
  have mb : m_within _ = _ := m.b
  refine ⟨mf, mb, m.l, ?_, ?_⟩
  · rw [m_forth_eq]; unfold b_forth; simp [e, mf]
  · rw [m_back_eq]; unfold b_back; simp [e, mb]
theorem turn_cases {k r : Kd} {w : String} {p : List Int} (h : k.turn w p = some r) : ∃ s q, k.at p = some s ∧ s.here w = some q ∧ r = k.put p q := by
  unfold Kd.turn at h
  cases e : k.at p with
  | none => rw [e] at h; cases h
  | some s =>
    rw [e] at h
    simp only [Option.map_eq_some_iff] at h
    obtain ⟨q, hq, rfl⟩ := h
    exact ⟨s, q, rfl, hq, rfl⟩
theorem turn_fwd {k r : Kd} {w : String} {p : List Int} {t : D} {sz : List Int} (hd : k.dep < 40) (h : k.turn w p = some r) (ht : k.isT sz t = true) : ∃ t', r.isT sz t' = true ∧ Turn k w p t t' := by
  obtain ⟨s, q, h1, h2, rfl⟩ := turn_cases h
  have := Kd.at_dep p k s h1
  obtain ⟨t', h3, h4⟩ := at_fwd h2 40 p k t (by omega) h1 ht
  exact ⟨t', h3, turn_of hd h h4⟩
theorem turn_bwd {k r : Kd} {w : String} {p : List Int} {t' : D} {sz : List Int} (hd : k.dep < 40) (h : k.turn w p = some r) (ht : r.isT sz t' = true) : ∃ t, k.isT sz t = true ∧ Turn k w p t t' := by
  obtain ⟨s, q, h1, h2, rfl⟩ := turn_cases h
  have := Kd.at_dep p k s h1
  obtain ⟨t, h3, h4⟩ := at_bwd h2 40 p k t' (by omega) h1 ht
  exact ⟨t, h3, turn_of hd h h4⟩
theorem forth_no {k : Kd} {w : String} {p : List Int} (hd : k.dep < 40) (h : k.turn w p = Option.none) (t : D) : m_forth [.dat k.d, .dat (.tup [.str w, .tup (p.map D.int)]), .dat t] = .exc "NoTurning" := by
  have e : m_turned [.dat k.d, .dat (.tup [.str w, .tup (p.map D.int)])] = _ := turned_ev k w p hd
  rw [h] at e
  simp only [oR] at e
  rw [m_forth_eq]; unfold b_forth; simp [e]
theorem back_no {k : Kd} {w : String} {p : List Int} (hd : k.dep < 40) (h : k.turn w p = Option.none) (t : D) : m_back [.dat k.d, .dat (.tup [.str w, .tup (p.map D.int)]), .dat t] = .exc "NoTurning" := by
  have e : m_turned [.dat k.d, .dat (.tup [.str w, .tup (p.map D.int)])] = _ := turned_ev k w p hd
  rw [h] at e
  simp only [oR] at e
  rw [m_back_eq]; unfold b_back; simp [e]
/-! ## _law_thing -/
theorem lth_ev {sz : List Int} (h : SzOk sz (2 ^ 20)) : ∀ (n : Nat) (k : Kd) (m : Int), k.dep ≤ n → k.dep ≤ 40 → k.ok → k.lv ≤ 100 → 0 ≤ m → m < k.cnt sz → m_law_thingN n [.dat k.d, .dat (.tup (sz.map D.int)), .dat (.int m)] = .ret (.dat (k.nth sz m))
  | 0, k, d, hn, _, _, _, _, _ => by cases k <;> simp [Kd.dep] at hn
  | n + 1, .none, m, _, _, _, _, h0, h1 => by simp only [Kd.cnt] at h1; omega
  | n + 1, .one, m, _, _, _, _, _, _ => by rw [m_law_thingN_eq]; unfold b_law_thing; simp [Kd.d, Kd.nth]
  | n + 1, .name i, m, _, _, _, _, _, _ => by rw [m_law_thingN_eq]; unfold b_law_thing; simp [Kd.d, Kd.nth]
  | n + 1, .bo a b, m, hn, hn2, hk, hl, h0, h1 => by
    have la := a.lv_pos; have lb := b.lv_pos
    simp only [Kd.dep, Kd.lv, Kd.cnt] at hn hn2 hl h1
    have rb := b.cnt_rng h
    obtain ⟨hb, r1, r2, r3, r4⟩ := div_rng h0 h1 rb.1
    have ia := lth_ev h n a _ (by omega) (by omega) hk.1 (by omega) r1 r2
    have ib := lth_ev h n b _ (by omega) (by omega) hk.2 (by omega) r3 r4
    have ec : m_law_count _ = _ := lcount_ev h 40 b (by omega) hk.2 (by omega)
    have fd := kFdiv_i m (b.cnt sz) hb (lt_big rb.2 (by omega))
    have fm := kMod_i m (b.cnt sz) hb
    rw [m_law_thingN_eq]; unfold b_law_thing
    simp [Kd.d, Kd.nth, ia, ib, ec, fd, fm]
  | n + 1, .ei a b, m, hn, hn2, hk, hl, h0, h1 => by
    have la := a.lv_pos; have lb := b.lv_pos
    simp only [Kd.dep, Kd.lv, Kd.cnt] at hn hn2 hl h1
    have ec1 : m_law_count _ = _ := lcount_ev h 40 a (by omega) hk.1 (by omega)
    rw [m_law_thingN_eq]; unfold b_law_thing
    by_cases hm : m < a.cnt sz
    · have ia := lth_ev h n a m (by omega) (by omega) hk.1 (by omega) h0 hm
      simp [Kd.d, Kd.nth, ia, ec1, hm]
    · have ib := lth_ev h n b (m - a.cnt sz) (by omega) (by omega) hk.2 (by omega) (by omega) (by omega)
      simp [Kd.d, Kd.nth, ib, ec1, hm]
end KT

set_option linter.all false
set_option maxRecDepth 100000
set_option maxHeartbeats 4000000
namespace KT
open PySem PySem.Spec PyProof.Rows L2

/-! ## how turnings grow -/
theorem Kd.put_at : ∀ (p : List Int) (k t q : Kd), k.at p = some t → (k.put p q).lv + t.lv = k.lv + q.lv ∧ (k.put p q).dep ≤ max k.dep (p.length + q.dep)
  | [], k, t, q, h => by
    rw [Kd.at_nil] at h; cases h
    rw [Kd.put_nil]; simp only [List.length_nil]; omega
  | i :: p, k, t, q, h => by
    obtain ⟨hi, ⟨a, b, rfl, hs⟩ | ⟨a, b, rfl, hs⟩⟩ := at_cases h
    · rcases hi with rfl | rfl
      · rw [if_pos rfl] at hs
        have := Kd.put_at p a t q hs
        rw [put_ei0]; simp only [Kd.lv, Kd.dep, List.length_cons]; omega
      · rw [if_neg (by decide)] at hs
        have := Kd.put_at p b t q hs
        rw [put_ei1]; simp only [Kd.lv, Kd.dep, List.length_cons]; omega
    · rcases hi with rfl | rfl
      · rw [if_pos rfl] at hs
        have := Kd.put_at p a t q hs
        rw [put_bo0]; simp only [Kd.lv, Kd.dep, List.length_cons]; omega
      · rw [if_neg (by decide)] at hs
        have := Kd.put_at p b t q hs
        rw [put_bo1]; simp only [Kd.lv, Kd.dep, List.length_cons]; omega
theorem Kd.here_ok {k q : Kd} {w : String} (h : k.here w = some q) (hk : k.ok) : q.ok := by
  rcases here_cases h with ⟨rfl, ⟨a, b, rfl, rfl⟩ | ⟨a, b, rfl, rfl⟩⟩ | ⟨rfl, ⟨a, b, c, rfl, rfl⟩ | ⟨a, b, c, rfl, rfl⟩⟩ | ⟨rfl, a, b, c, rfl, rfl⟩ | ⟨rfl, ⟨b, rfl, rfl⟩ | ⟨b, rfl, rfl⟩ | ⟨b, rfl, rfl⟩⟩
  · exact ⟨hk.2, hk.1⟩
  · exact ⟨hk.2, hk.1⟩
  · exact ⟨hk.1.1, hk.1.2, hk.2⟩
  · exact ⟨hk.1.1, hk.1.2, hk.2⟩
  · exact ⟨⟨hk.1, hk.2.1⟩, hk.1, hk.2.2⟩
  · trivial
  · exact hk.2
  · exact hk.2
theorem Kd.turn_grow {k r : Kd} {w : String} {p : List Int} (h : k.turn w p = some r) : r.lv ≤ 2 * k.lv ∧ r.dep ≤ k.dep + 1 := by
  obtain ⟨s, q, h1, h2, rfl⟩ := turn_cases h
  have a := Kd.put_at p k s q h1
  have b := Kd.here_lv h2
  have c := Kd.at_dep p k s h1
  have d := Kd.at_lv p k s h1
  omega
/-! ## rows -/
theorem loop_app {b : BF} {F : SF} : ∀ (xs ys : List D) (ρ ρ' : Rho), loop b F xs ρ = .nx ρ' → loop b F (xs ++ ys) ρ = loop b F ys ρ'
  | [], ys, ρ, ρ', h => by cases h; rfl
  | x :: xs, ys, ρ, ρ', h => by
    rw [List.cons_append, loop_cons]
    rw [loop_cons] at h
    cases e : b x ρ with
    | none => rw [e] at h; cases h
    | some ρ1 =>
      rw [e] at h
      simp only at h ⊢
      cases e2 : F ρ1 with
      | nx ρ2 => rw [e2] at h; simp only at h ⊢; exact loop_app xs ys ρ2 ρ' h
      | ret _ _ => rw [e2] at h; cases h
      | exc _ _ => rw [e2] at h; cases h
      | no => rw [e2] at h; cases h
/-- a row of turnings from k to kl; pre: the kind ahead of each -/
inductive Ch (k : Kd) : List (String × List Int) → List Kd → Kd → Prop where
  | nil : Ch k [] [] k
  | snoc {row : List (String × List Int)} {pre : List Kd} {kl q : Kd} {w : String} {p : List Int} : Ch k row pre kl → kl.turn w p = some q → Ch k (row ++ [(w, p)]) (pre ++ [kl]) q
theorem Ch.len {k : Kd} {row : List (String × List Int)} {pre : List Kd} {kl : Kd} (h : Ch k row pre kl) : pre.length = row.length := by
  induction h with
  | nil => rfl
  | snoc _ _ ih => simp [ih]
theorem Ch.dep {k : Kd} {row : List (String × List Int)} {pre : List Kd} {kl : Kd} (h : Ch k row pre kl) : kl.dep ≤ k.dep + row.length ∧ ∀ q ∈ pre, q.dep ≤ k.dep + row.length := by
  induction h with
  | nil => simp
  | snoc _ ht ih =>
    have := Kd.turn_grow ht
    refine ⟨by simp only [List.length_append, List.length_singleton]; omega, fun q hq => ?_⟩
    simp only [List.length_append, List.length_singleton]
    rcases List.mem_append.mp hq with hq | hq
    · have := ih.2 q hq; omega
    · rw [List.mem_singleton.mp hq]; omega
theorem ix_last (ds : List D) (x : D) : ixD (ds ++ [x]) (-1) = some x := by
  unfold ixD
  have e : ((-1 : Int) + ((ds ++ [x]).length : Int)).toNat = ds.length := by simp only [List.length_append, List.length_singleton]; omega
  rw [if_neg (by decide), if_pos (by simp only [List.length_append, List.length_singleton]; omega), e]
  simp
def tDs (row : List (String × List Int)) : List D := row.map tD
def kDs (ks : List Kd) : List D := ks.map Kd.d
abbrev kaB (g : FF) : SF := sApp 2 (eCall g (aCons (eTwo kIx (eVar 2) (eOne kNeg (eC (.int 1)))) (aCons (eVar 3) aNil)))
theorem ka_loop {k : Kd} {row : List (String × List Int)} {pre : List Kd} {kl : Kd} (h : Ch k row pre kl) (hd : k.dep + row.length < 40) (K R x : Option DV) : ∃ x', loop (bName 3) (kaB m_turned) (tDs row) [K, R, some (.own [k.d]), x] = .nx [K, R, some (.own (kDs (pre ++ [kl]))), x'] := by
  induction h with
  | nil => exact ⟨x, rfl⟩
  | @snoc row pre kl q w p h ht ih =>
    simp only [List.length_append, List.length_singleton] at hd
    obtain ⟨x', e⟩ := ih (by omega)
    have hl := h.len
    have hdep := h.dep.1
    have tv := turned_ev kl w p (by omega)
    rw [ht] at tv
    simp only [oR] at tv
    refine ⟨some (.dat (tD (w, p))), ?_⟩
    have e2 : tDs (row ++ [(w, p)]) = tDs row ++ [tD (w, p)] := by simp [tDs]
    rw [e2, loop_app _ _ _ _ e, loop_cons]
    have lim : pre.length + 1 < 16777216 := by omega
    have il := ix_last (kDs pre) kl.d
    simp [kDs, tD] at il ⊢
    simp [il, tv, lim]
theorem ka_ev {k : Kd} {row : List (String × List Int)} {pre : List Kd} {kl : Kd} (h : Ch k row pre kl) (hd : k.dep + row.length < 40) : m_kinds_along [.dat k.d, .bor (tDs row)] = .ret (.own (kDs (pre ++ [kl]))) := by
  rw [m_kinds_along_eq]; unfold b_kinds_along
  obtain ⟨x', e⟩ := ka_loop h hd (some (.dat k.d)) (some (.bor (tDs row))) none
  simp [e]
theorem ka_no {k : Kd} {row : List (String × List Int)} {pre : List Kd} {kl : Kd} (h : Ch k row pre kl) (hd : k.dep + row.length < 40) {w : String} {p : List Int} (ht : kl.turn w p = Option.none) (rest : List D) : m_kinds_along [.dat k.d, .bor (tDs row ++ tD (w, p) :: rest)] = .exc "NoTurning" := by
  rw [m_kinds_along_eq]; unfold b_kinds_along
  obtain ⟨x', e⟩ := ka_loop h hd (some (.dat k.d)) (some (.bor (tDs row ++ tD (w, p) :: rest))) none
  have hdep := h.dep.1
  have tv := turned_ev kl w p (by omega)
  rw [ht] at tv
  simp only [oR] at tv
  have il := ix_last (kDs pre) kl.d
  have lim : pre.length + 1 < 16777216 := by have := h.len; omega
  have e2 : loop (bName 3) (kaB m_turned) (tDs row ++ tD (w, p) :: rest) [some (.dat k.d), some (.bor (tDs row ++ tD (w, p) :: rest)), some (.own [k.d]), none] = .exc "NoTurning" [some (.dat k.d), some (.bor (tDs row ++ tD (w, p) :: rest)), some (.own (kDs (pre ++ [kl]))), some (.dat (tD (w, p)))] := by
    rw [loop_app _ _ _ _ e, loop_cons]
    simp [kDs, tD] at il ⊢
    simp [il, tv, lim]
  simp [e2]
theorem gone_ev {k : Kd} {row : List (String × List Int)} {pre : List Kd} {kl : Kd} (h : Ch k row pre kl) (hd : k.dep + row.length < 40) : m_gone [.dat k.d, .bor (tDs row)] = .ret (.dat kl.d) := by
  rw [m_gone_eq]; unfold b_gone
  have il := ix_last (kDs pre) kl.d
  have e : kDs (pre ++ [kl]) = kDs pre ++ [kl.d] := by simp [kDs]
  simp [ka_ev h hd, e, il]
/-- and a thing carried by it -/
inductive ChT (k : Kd) (t : D) : List (String × List Int) → List Kd → Kd → D → Prop where
  | nil : ChT k t [] [] k t
  | snoc {row : List (String × List Int)} {pre : List Kd} {kl q : Kd} {w : String} {p : List Int} {t1 t2 : D} : ChT k t row pre kl t1 → kl.turn w p = some q → Turn kl w p t1 t2 → ChT k t (row ++ [(w, p)]) (pre ++ [kl]) q t2
theorem ChT.ch {k kl : Kd} {t t' : D} {row : List (String × List Int)} {pre : List Kd} (h : ChT k t row pre kl t') : Ch k row pre kl := by
  induction h with
  | nil => exact .nil
  | snoc _ ht _ ih => exact .snoc ih ht
theorem zip_snoc : ∀ (A B : List D) (a b : D), A.length = B.length → zipD (A ++ [a]) (B ++ [b]) = zipD A B ++ [.tup [a, b]]
  | [], [], a, b, _ => rfl
  | [], _ :: _, a, b, h => by cases h
  | _ :: _, [], a, b, h => by cases h
  | x :: A, y :: B, a, b, h => by
    simp only [List.cons_append, zipD]
    rw [zip_snoc A B a b (by simpa using h)]
theorem zip_cut : ∀ (A B C : List D), A.length = B.length → zipD (A ++ C) B = zipD A B
  | [], [], C, _ => by cases C <;> rfl
  | [], _ :: _, C, h => by cases h
  | _ :: _, [], C, h => by cases h
  | x :: A, y :: B, C, h => by
    simp only [List.cons_append, zipD]
    rw [zip_cut A B C (by simpa using h)]
abbrev caB (g : FF) : SF := sAsg 2 (eCall g (aCons (eVar 3) (aCons (eTwo kIx (eVar 4) (eC (.int 1))) (aCons (eTwo kIx (eVar 4) (eC (.int 0))) (aCons (eVar 2) (aCons (eC (.bl false)) aNil))))))
theorem ca_loop {k kl : Kd} {t t' : D} {row : List (String × List Int)} {pre : List Kd} (h : ChT k t row pre kl t') (K R x y : Option DV) :
    ∃ x' y', loop (bPair 3 4) (caB m_within) (zipD (kDs pre) (tDs row)) [K, R, some (.dat t), x, y] = .nx [K, R, some (.dat t'), x', y'] := by
  induction h with
  | nil => exact ⟨x, y, rfl⟩
  | @snoc row pre kl q w p t1 t2 h ht T ih =>
    obtain ⟨x', y', e⟩ := ih
    have hl := h.ch.len
    refine ⟨some (.dat kl.d), some (.dat (tD (w, p))), ?_⟩
    have e1 : kDs (pre ++ [kl]) = kDs pre ++ [kl.d] := by simp [kDs]
    have e2 : tDs (row ++ [(w, p)]) = tDs row ++ [tD (w, p)] := by simp [tDs]
    rw [e1, e2, zip_snoc _ _ _ _ (by simp [kDs, tDs, hl]), loop_app _ _ _ _ e, loop_cons]
    have hp : pD p = .tup (p.map D.int) := rfl
    simp [tD, hp, T.wf]
theorem carried_ev {k kl : Kd} {t t' : D} {row : List (String × List Int)} {pre : List Kd} (h : ChT k t row pre kl t') (hd : k.dep + row.length < 40) : m_carried [.dat k.d, .bor (tDs row), .dat t] = .ret (.dat t') := by
  rw [m_carried_eq]; unfold b_carried
  obtain ⟨x', y', e⟩ := ca_loop h (some (.dat k.d)) (some (.bor (tDs row))) none none
  have e1 : kDs (pre ++ [kl]) = kDs pre ++ [kl.d] := by simp [kDs]
  have e2 : zipD (kDs (pre ++ [kl])) (tDs row) = zipD (kDs pre) (tDs row) := by rw [e1, zip_cut _ _ _ (by simp [kDs, tDs, h.ch.len])]
  simp [ka_ev h.ch hd, e2, e]
theorem down_cons (n : Nat) : downD (n : Int) (n + 1) = .int n :: downD ((n : Int) - 1) n := by
  unfold downD
  rw [List.range_succ_eq_map, List.map_cons, List.map_map]
  simp
  intro a _
  omega
abbrev brB (g : FF) : SF := sAsg 2 (eCall g (aCons (eTwo kIx (eVar 3) (eVar 4)) (aCons (eTwo kIx (eTwo kIx (eVar 1) (eVar 4)) (eC (.int 1))) (aCons (eTwo kIx (eTwo kIx (eVar 1) (eVar 4)) (eC (.int 0))) (aCons (eVar 2) (aCons (eC (.bl true)) aNil))))))
theorem br_loop {k kl : Kd} {t t' : D} {row : List (String × List Int)} {pre : List Kd} (h : ChT k t row pre kl t') (K : Option DV) : ∀ (R : List (String × List Int)) (S : List Kd) (x : Option DV),
    ∃ x', loop (bName 4) (brB m_within) (downD ((row.length : Int) - 1) row.length) [K, some (.bor (tDs (row ++ R))), some (.dat t'), some (.own (kDs (pre ++ S))), x] = .nx [K, some (.bor (tDs (row ++ R))), some (.dat t), some (.own (kDs (pre ++ S))), x'] := by
  induction h with
  | nil => intro R S x; exact ⟨x, rfl⟩
  | @snoc row pre kl q w p t1 t2 h ht T ih =>
    intro R S x
    have hl := h.ch.len
    obtain ⟨x', e⟩ := ih ((w, p) :: R) (kl :: S) (some (.dat (.int row.length)))
    refine ⟨x', ?_⟩
    have e1 : row ++ [(w, p)] ++ R = row ++ (w, p) :: R := by simp
    have e2 : pre ++ [kl] ++ S = pre ++ kl :: S := by simp
    have e3 : (((row ++ [(w, p)]).length : Nat) : Int) - 1 = (row.length : Int) := by simp only [List.length_append, List.length_singleton]; omega
    have e4 : (row ++ [(w, p)]).length = row.length + 1 := by simp
    rw [e1, e2, e3, e4, down_cons, loop_cons]
    have i1 : ixD (tDs (row ++ (w, p) :: R)) (row.length : Int) = some (tD (w, p)) := by rw [ix_nat]; simp [tDs]
    have i2 : ixD (kDs (pre ++ kl :: S)) (row.length : Int) = some kl.d := by rw [ix_nat, ← hl]; simp [kDs]
    have hp : pD p = .tup (p.map D.int) := rfl
    simp [i1, i2, tD, hp, T.wb, e]
theorem brought_ev {k kl : Kd} {t t' : D} {row : List (String × List Int)} {pre : List Kd} (h : ChT k t row pre kl t') (hd : k.dep + row.length < 40) : m_brought [.dat k.d, .bor (tDs row), .dat t'] = .ret (.dat t) := by
  rw [m_brought_eq]; unfold b_brought
  obtain ⟨x', e⟩ := br_loop h (some (.dat k.d)) [] [kl] none
  rw [List.append_nil] at e
  have hl : (tDs row).length = row.length := by simp [tDs]
  have b1 : (row.length : Int) - 1 < 4611686018427387904 := by omega
  have b2 : -4611686018427387904 ≤ (row.length : Int) - 1 := by omega
  have e5 : ((row.length : Int) - 1 - -1).toNat = row.length := by omega
  have dn : sForDown (eTwo kSub (eCB kLen (aCons (eVar 1) aNil)) (eC (.int 1))) (eOne kNeg (eC (.int 1))) (eOne kNeg (eC (.int 1))) (bName 4) (brB m_within) [some (.dat k.d), some (.bor (tDs row)), some (.dat t'), some (.own (kDs (pre ++ [kl]))), none] = .nx [some (.dat k.d), some (.bor (tDs row)), some (.dat t), some (.own (kDs (pre ++ [kl]))), x'] := by
    unfold sForDown
    have f1 : eTwo kSub (eCB kLen (aCons (eVar 1) aNil)) (eC (.int 1)) [some (.dat k.d), some (.bor (tDs row)), some (.dat t'), some (.own (kDs (pre ++ [kl]))), none] = .ok (.dat (.int ((row.length : Int) - 1))) := by simp [hl]
    have f2 : eOne kNeg (eC (.int 1)) [some (.dat k.d), some (.bor (tDs row)), some (.dat t'), some (.own (kDs (pre ++ [kl]))), none] = .ok (.dat (.int (-1))) := by simp
    simp only [f1, f2]
    rw [if_pos ⟨trivial, by omega, by omega, by decide, by decide⟩, e5]
    exact e
  have a1 : sAsg 3 (eCall m_kinds_along (aCons (eVar 0) (aCons (eVar 1) aNil))) [some (.dat k.d), some (.bor (tDs row)), some (.dat t'), none, none] = .nx [some (.dat k.d), some (.bor (tDs row)), some (.dat t'), some (.own (kDs (pre ++ [kl]))), none] := by simp [ka_ev h.ch hd]
  rw [z_seq, a1]
  simp only
  rw [z_seq, dn]
  simp
theorem refused11_ev {k : Kd} {row : List (String × List Int)} {pre : List Kd} {kl : Kd} (h : Ch k row pre kl) (hd : k.dep + row.length < 40) {w : String} {p : List Int} (ht : kl.turn w p = Option.none) (rest : List D) (way : Int) (t : D) :
    m_law_refused_k11 [.dat (.int way), .dat k.d, .bor (tDs row ++ tD (w, p) :: rest), .dat t] = .ret (.dat (.bl true)) := by
  have e := ka_no h hd ht rest
  have e1 : m_gone [.dat k.d, .bor (tDs row ++ tD (w, p) :: rest)] = .exc "NoTurning" := by rw [m_gone_eq]; unfold b_gone; simp [e]
  have e2 : m_carried [.dat k.d, .bor (tDs row ++ tD (w, p) :: rest), .dat t] = .exc "NoTurning" := by rw [m_carried_eq]; unfold b_carried; simp [e]
  have e3 : m_brought [.dat k.d, .bor (tDs row ++ tD (w, p) :: rest), .dat t] = .exc "NoTurning" := by rw [m_brought_eq]; unfold b_brought; simp [e]
  rw [m_law_refused_k11_eq]; unfold b_law_refused_k11
  by_cases w0 : way = 0
  · simp [w0, e1]
  · by_cases w1 : way = 1
    · simp [w1, e2]
    · simp [w0, w1, e3]
theorem Ch.cut {k : Kd} {row : List (String × List Int)} {pre : List Kd} {kl : Kd} (h : Ch k row pre kl) : ∀ n : Nat, ∃ pre' kl', Ch k (row.take n) pre' kl' := by
  induction h with
  | nil => intro n; exact ⟨[], k, by simpa using .nil⟩
  | @snoc row pre kl q w p h ht ih =>
    intro n
    by_cases hn : n ≤ row.length
    · obtain ⟨a, b, c⟩ := ih n
      exact ⟨a, b, by rw [List.take_append_of_le_length hn]; exact c⟩
    · exact ⟨_, _, by rw [List.take_of_length_le (by simp; omega)]; exact .snoc h ht⟩
end KT

set_option linter.all false
set_option maxRecDepth 100000
set_option maxHeartbeats 4000000
namespace KT
/-! ## bundles -/
def bunS (A B : List (List Int)) : List (List Int) := isort lexLe (A.flatMap fun a => B.map fun b => isort ile (a ++ b))
def Kd.bun : Kd → List (List Int)
  | .none => []
  | .one => [[]]
  | .name i => [[i]]
  | .ei a b => isort lexLe (a.bun ++ b.bun)
  | .bo a b => bunS a.bun b.bun
theorem flatMap_cons_perm {α β : Type} (f : β → α) (g : β → List α) : ∀ L : List β, (L.flatMap fun b => f b :: g b).Perm (L.map f ++ L.flatMap g)
  | [] => .refl _
  | x :: L => by
    simp only [List.flatMap_cons, List.map_cons, List.cons_append]
    refine .cons _ ?_
    refine ((flatMap_cons_perm f g L).append_left _).trans ?_
    rw [← List.append_assoc, ← List.append_assoc]
    exact (List.perm_append_comm).append_right _
theorem flatMap_swap {α β γ : Type} (f : α → β → γ) (B : List β) : ∀ A : List α, (A.flatMap fun a => B.map fun b => f a b).Perm (B.flatMap fun b => A.map fun a => f a b)
  | [] => by simp
  | a :: A => by
    rw [List.flatMap_cons]
    simp only [List.map_cons]
    exact ((flatMap_swap f B A).append_left _).trans (flatMap_cons_perm (fun b => f a b) (fun b => A.map fun a => f a b) B).symm
theorem bunS_comm (A B : List (List Int)) : bunS A B = bunS B A := by
  unfold bunS
  refine isort_perm lex_ord ?_
  refine (flatMap_swap (fun a b => isort ile (a ++ b)) B A).trans ?_
  have : (fun (b : List Int) => A.map fun a => isort ile (a ++ b)) = fun b => A.map fun a => isort ile (b ++ a) := by
    funext b
    congr 1
    funext a
    exact isort_perm ile_ord List.perm_append_comm
  rw [this]
theorem bunS_cons (A : List (List Int)) (b : List Int) (B : List (List Int)) : bunS A (b :: B) = (bunS A [b]).foldr (ins lexLe) (bunS A B) := by
  unfold bunS
  rw [foldr_isort lex_ord]
  refine isort_perm lex_ord ?_
  simp only [List.map_cons, List.map_nil]
  refine (flatMap_cons_perm (fun a => isort ile (a ++ b)) (fun a => B.map fun b => isort ile (a ++ b)) A).trans ?_
  refine List.Perm.append_right _ ?_
  clear B
  induction A with
  | nil => exact .refl _
  | cons a A ih => exact .cons _ ih
theorem bunS_srt (A B : List (List Int)) : Srt lexLe (bunS A B) := srt_isort lex_ord _
theorem Kd.bun_srt : ∀ k : Kd, Srt lexLe k.bun
  | .none => .nil
  | .one => by simp [Kd.bun, Srt]
  | .name _ => by simp [Kd.bun, Srt]
  | .ei a b => srt_isort lex_ord _
  | .bo a b => bunS_srt _ _
theorem bunS_mem {A B : List (List Int)} {x : List Int} : x ∈ bunS A B ↔ ∃ a ∈ A, ∃ b ∈ B, x = isort ile (a ++ b) := by
  unfold bunS
  rw [isort_mem]
  simp only [List.mem_flatMap, List.mem_map]
  exact ⟨fun ⟨a, h1, b, h2, e⟩ => ⟨a, h1, b, h2, e.symm⟩, fun ⟨a, h1, b, h2, e⟩ => ⟨a, h1, b, h2, e.symm⟩⟩
theorem Kd.bun_each : ∀ (k : Kd) (x : List Int), x ∈ k.bun → Srt ile x
  | .none, x, h => by cases h
  | .one, x, h => by simp [Kd.bun] at h; subst h; exact .nil
  | .name _, x, h => by simp [Kd.bun] at h; subst h; simp [Srt]
  | .ei a b, x, h => by
    rw [Kd.bun, isort_mem, List.mem_append] at h
    exact h.elim (a.bun_each x) (b.bun_each x)
  | .bo a b, x, h => by
    rw [Kd.bun, bunS_mem] at h
    obtain ⟨_, _, _, _, rfl⟩ := h
    exact srt_isort ile_ord _
theorem bunS_len (A B : List (List Int)) : (bunS A B).length = A.length * B.length := by
  unfold bunS
  rw [isort_len]
  induction A with
  | nil => simp
  | cons a A ih => rw [List.flatMap_cons, List.length_append, ih, List.length_map, List.length_cons, Nat.succ_mul]; omega
/-! ## plain kinds -/
def bk : List Int → Kd
  | [] => .one
  | [i] => .name i
  | i :: j :: r => .bo (.name i) (bk (j :: r))
def pk : List (List Int) → Kd
  | [] => .none
  | [x] => bk x
  | x :: y :: r => .ei (bk x) (pk (y :: r))
theorem bk_bun : ∀ ns : List Int, (bk ns).bun = [isort ile ns]
  | [] => rfl
  | [i] => rfl
  | i :: j :: r => by
    show bunS [[i]] (bk (j :: r)).bun = _
    rw [bk_bun (j :: r)]
    simp only [bunS, List.flatMap_cons, List.flatMap_nil, List.map_cons, List.map_nil, List.append_nil]
    show [isort ile ([i] ++ isort ile (j :: r))] = _
    congr 1
    exact isort_perm ile_ord ((isort_self (j :: r)).append_left [i])
theorem pk_bun : ∀ rows : List (List Int), (∀ x ∈ rows, Srt ile x) → (pk rows).bun = isort lexLe rows
  | [], _ => rfl
  | [x], h => by
    show (bk x).bun = _
    rw [bk_bun, isort_srt ile_ord (h x (by simp))]; rfl
  | x :: y :: r, h => by
    show isort lexLe ((bk x).bun ++ (pk (y :: r)).bun) = _
    rw [bk_bun, pk_bun (y :: r) (fun z hz => h z (by simp [hz])), isort_srt ile_ord (h x (by simp))]
    exact isort_perm lex_ord ((isort_self (y :: r)).append_left [x])
/-! ## rows -/
abbrev Row := List (String × List Int)
def go : Kd → Row → Option Kd
  | k, [] => some k
  | k, t :: r => match k.turn t.1 t.2 with
    | some q => go q r
    | Option.none => Option.none
theorem go_app : ∀ (k : Kd) (r s : Row) (q : Kd), go k r = some q → go k (r ++ s) = go q s
  | k, [], s, q, h => by cases h; rfl
  | k, t :: r, s, q, h => by
    unfold go at h
    show (match k.turn t.1 t.2 with | some q => go q (r ++ s) | Option.none => Option.none) = _
    cases e : k.turn t.1 t.2 with
    | none => rw [e] at h; cases h
    | some k2 => rw [e] at h; exact go_app k2 r s q h
def sh (p : List Int) (r : Row) : Row := r.map fun t => (t.1, p ++ t.2)
theorem sh_app (p : List Int) (r s : Row) : sh p (r ++ s) = sh p r ++ sh p s := by simp [sh]
theorem sh_sh (p q : List Int) (r : Row) : sh p (sh q r) = sh (p ++ q) r := by simp [sh]
theorem sh_nil (r : Row) : sh [] r = r := by simp [sh]
theorem sh_len (p : List Int) (r : Row) : (sh p r).length = r.length := by simp [sh]
theorem Kd.put_at_self : ∀ (p : List Int) (k s q : Kd), k.at p = some s → (k.put p q).at p = some q
  | [], k, s, q, _ => by rw [Kd.put_nil, Kd.at_nil]
  | i :: p, k, s, q, h => by
    cases k with
    | none => cases h
    | one => cases h
    | name _ => cases h
    | ei a b =>
      simp only [Kd.at] at h
      simp only [Kd.put]
      by_cases e : i = 0
      · rw [if_pos e] at h ⊢; simp only [Kd.at]; rw [if_pos e]; exact Kd.put_at_self p a s q h
      · rw [if_neg e] at h ⊢
        by_cases e2 : i = 1
        · rw [if_pos e2] at h; simp only [Kd.at]; rw [if_neg e, if_pos e2]; exact Kd.put_at_self p b s q h
        · rw [if_neg e2] at h; cases h
    | bo a b =>
      simp only [Kd.at] at h
      simp only [Kd.put]
      by_cases e : i = 0
      · rw [if_pos e] at h ⊢; simp only [Kd.at]; rw [if_pos e]; exact Kd.put_at_self p a s q h
      · rw [if_neg e] at h ⊢
        by_cases e2 : i = 1
        · rw [if_pos e2] at h; simp only [Kd.at]; rw [if_neg e, if_pos e2]; exact Kd.put_at_self p b s q h
        · rw [if_neg e2] at h; cases h
theorem Kd.put_put : ∀ (p : List Int) (k s q t : Kd) (r : List Int), k.at p = some s → (k.put p q).put (p ++ r) t = k.put p (q.put r t)
  | [], k, s, q, t, r, _ => by rw [Kd.put_nil, Kd.put_nil]; rfl
  | i :: p, k, s, q, t, r, h => by
    cases k with
    | none => cases h
    | one => cases h
    | name _ => cases h
    | ei a b =>
      simp only [Kd.at] at h
      simp only [Kd.put, List.cons_append]
      by_cases e : i = 0
      · rw [if_pos e] at h; simp only [if_pos e, Kd.put]; rw [Kd.put_put p a s q t r h]
      · rw [if_neg e] at h
        by_cases e2 : i = 1
        · rw [if_pos e2] at h; simp only [if_neg e, Kd.put]; rw [Kd.put_put p b s q t r h]
        · rw [if_neg e2] at h; cases h
    | bo a b =>
      simp only [Kd.at] at h
      simp only [Kd.put, List.cons_append]
      by_cases e : i = 0
      · rw [if_pos e] at h; simp only [if_pos e, Kd.put]; rw [Kd.put_put p a s q t r h]
      · rw [if_neg e] at h
        by_cases e2 : i = 1
        · rw [if_pos e2] at h; simp only [if_neg e, Kd.put]; rw [Kd.put_put p b s q t r h]
        · rw [if_neg e2] at h; cases h
theorem Kd.put_self : ∀ (p : List Int) (k s : Kd), k.at p = some s → k.put p s = k
  | [], k, s, h => by rw [Kd.at_nil] at h; cases h; rw [Kd.put_nil]
  | i :: p, k, s, h => by
    cases k with
    | none => cases h
    | one => cases h
    | name _ => cases h
    | ei a b =>
      simp only [Kd.at] at h
      simp only [Kd.put]
      by_cases e : i = 0
      · rw [if_pos e] at h ⊢; rw [Kd.put_self p a s h]
      · rw [if_neg e] at h ⊢
        by_cases e2 : i = 1
        · rw [if_pos e2] at h; rw [Kd.put_self p b s h]
        · rw [if_neg e2] at h; cases h
    | bo a b =>
      simp only [Kd.at] at h
      simp only [Kd.put]
      by_cases e : i = 0
      · rw [if_pos e] at h ⊢; rw [Kd.put_self p a s h]
      · rw [if_neg e] at h ⊢
        by_cases e2 : i = 1
        · rw [if_pos e2] at h; rw [Kd.put_self p b s h]
        · rw [if_neg e2] at h; cases h
theorem go_sh {p : List Int} : ∀ (r : Row) (k s q : Kd), k.at p = some s → go s r = some q → go k (sh p r) = some (k.put p q)
  | [], k, s, q, h, e => by cases e; rw [Kd.put_self p k s h]; rfl
  | t :: r, k, s, q, h, e => by
    unfold go at e
    cases e1 : s.turn t.1 t.2 with
    | none => rw [e1] at e; cases e
    | some s1 =>
      rw [e1] at e
      have e2 : k.turn t.1 (p ++ t.2) = some (k.put p s1) := by
        unfold Kd.turn at e1 ⊢
        rw [Kd.at_append p k s t.2 h]
        cases e3 : s.at t.2 with
        | none => rw [e3] at e1; cases e1
        | some u =>
          rw [e3] at e1
          simp only [Option.map_eq_some_iff] at e1
          obtain ⟨v, e4, rfl⟩ := e1
          simp only [e4, Option.map_some]
          congr 1
          have := Kd.put_put p k s s v t.2 h
          rw [Kd.put_self p k s h] at this
          exact this
      show (match k.turn t.1 (p ++ t.2) with | some q => go q (sh p r) | Option.none => Option.none) = _
      rw [e2]
      simp only
      rw [go_sh r (k.put p s1) s1 q (Kd.put_at_self p k s s1 h) e]
      congr 1
      have := Kd.put_put p k s s1 q [] h
      rw [List.append_nil, Kd.put_nil] at this
      exact this
/-! ## chains -/
structure Op (op : Kd → Kd → Kd) (e : Kd) : Prop where
  swap : ∀ a b, (op a b).turn "swap" [] = some (op b a)
  group : ∀ a b c, (op (op a b) c).turn "group" [] = some (op a (op b c))
  drop : ∀ a, (op e a).turn "drop" [] = some a
  at0 : ∀ a b, (op a b).at [0] = some a
  at1 : ∀ a b, (op a b).at [1] = some b
  put0 : ∀ a b q, (op a b).put [0] q = op q b
  put1 : ∀ a b q, (op a b).put [1] q = op a q
theorem op_ei : Op .ei .none := ⟨fun _ _ => rfl, fun _ _ _ => rfl, fun a => by simp [Kd.turn, Kd.at, Kd.here, Kd.put_nil], fun a _ => by simp [Kd.at], fun a b => by simp [Kd.at], fun _ _ _ => by simp [Kd.put, Kd.put_nil], fun _ _ _ => by simp [Kd.put, Kd.put_nil]⟩
theorem op_bo : Op .bo .one := ⟨fun _ _ => rfl, fun _ _ _ => rfl, fun a => by simp [Kd.turn, Kd.at, Kd.here, Kd.put_nil], fun a _ => by simp [Kd.at], fun a b => by simp [Kd.at], fun _ _ _ => by simp [Kd.put, Kd.put_nil], fun _ _ _ => by simp [Kd.put, Kd.put_nil]⟩
def ch {α : Type} (op : Kd → Kd → Kd) (e : Kd) (it : α → Kd) : List α → Kd
  | [] => e
  | [x] => it x
  | x :: y :: r => op (it x) (ch op e it (y :: r))
theorem ch_cons {α : Type} {op : Kd → Kd → Kd} {e : Kd} {it : α → Kd} (x : α) {l : List α} (h : l ≠ []) : ch op e it (x :: l) = op (it x) (ch op e it l) := by
  cases l with
  | nil => exact absurd rfl h
  | cons y r => rfl
theorem bk_ch : ∀ ns : List Int, bk ns = ch .bo .one .name ns
  | [] => rfl
  | [i] => rfl
  | i :: j :: r => by show Kd.bo _ (bk (j :: r)) = _; rw [bk_ch (j :: r)]; rfl
theorem pk_ch : ∀ rows : List (List Int), pk rows = ch .ei .none bk rows
  | [] => rfl
  | [i] => rfl
  | i :: j :: r => by show Kd.ei _ (pk (j :: r)) = _; rw [pk_ch (j :: r)]; rfl
section
variable {α : Type} (le : α → α → Bool)
def rsift (x : α) : List α → Row
  | [] => []
  | [y] => if le x y then [] else [("swap", [])]
  | y :: z :: ys => if le x y then [] else ("swap", []) :: ("group", []) :: ("swap", [1]) :: sh [1] (rsift x (z :: ys))
def rmerge : List α → List α → Row
  | [], _ => [("drop", [])]
  | _ :: _, [] => [("swap", []), ("drop", [])]
  | [x], y :: ys => rsift le x (y :: ys)
  | x :: x' :: xs, y :: ys => ("group", []) :: (sh [1] (rmerge (x' :: xs) (y :: ys)) ++ rsift le x ((x' :: xs).foldr (ins le) (y :: ys)))
variable {op : Kd → Kd → Kd} {e : Kd} (P : Op op e) {it : α → Kd}
include P
theorem go_sub1 {a b b' : Kd} {r : Row} (h : go b r = some b') : go (op a b) (sh [1] r) = some (op a b') := by
  rw [go_sh r (op a b) b b' (P.at1 a b) h, P.put1]
theorem go_sub0 {a b a' : Kd} {r : Row} (h : go a r = some a') : go (op a b) (sh [0] r) = some (op a' b) := by
  rw [go_sh r (op a b) a a' (P.at0 a b) h, P.put0]
theorem go_swap {a b : Kd} {r : Row} : go (op a b) (("swap", []) :: r) = go (op b a) r := by
  show (match (op a b).turn "swap" [] with | some q => go q r | Option.none => Option.none) = _
  rw [P.swap]
theorem go_group {a b c : Kd} {r : Row} : go (op (op a b) c) (("group", []) :: r) = go (op a (op b c)) r := by
  show (match (op (op a b) c).turn "group" [] with | some q => go q r | Option.none => Option.none) = _
  rw [P.group]
theorem go_drop {a : Kd} {r : Row} : go (op e a) (("drop", []) :: r) = go a r := by
  show (match (op e a).turn "drop" [] with | some q => go q r | Option.none => Option.none) = _
  rw [P.drop]
theorem go_sift (x : α) : ∀ ys : List α, ys ≠ [] → go (op (it x) (ch op e it ys)) (rsift le x ys) = some (ch op e it (ins le x ys))
  | [], h => absurd rfl h
  | [y], _ => by
    unfold rsift ins
    split
    · rfl
    · rw [go_swap P]; rfl
  | y :: z :: ys, _ => by
    unfold rsift ins
    split
    · rfl
    · have ih := go_sift x (z :: ys) (by simp)
      rw [go_swap P]
      show go (op (op (it y) (ch op e it (z :: ys))) (it x)) _ = _
      rw [go_group P]
      have s1 : go (op (it y) (op (ch op e it (z :: ys)) (it x))) [("swap", [1])] = some (op (it y) (op (it x) (ch op e it (z :: ys)))) := go_sub1 P (r := [("swap", [])]) (by rw [go_swap P]; rfl)
      rw [show (("swap", [1]) :: sh [1] (rsift le x (z :: ys)) : Row) = [("swap", [1])] ++ sh [1] (rsift le x (z :: ys)) from rfl, go_app _ _ _ _ s1, go_sub1 P ih, ch_cons y (ins_ne x _)]
theorem go_merge (O : TOrd le) : ∀ xs ys : List α, Srt le xs → go (op (ch op e it xs) (ch op e it ys)) (rmerge le xs ys) = some (ch op e it (xs.foldr (ins le) ys))
  | [], ys, _ => by
    unfold rmerge
    show go (op e _) _ = _
    rw [go_drop P]; rfl
  | x :: xs, [], h => by
    unfold rmerge
    rw [go_swap P]
    show go (op e _) _ = _
    rw [go_drop P]
    show some _ = some (ch op e it (isort le (x :: xs)))
    rw [isort_srt O h]
  | [x], y :: ys, h => go_sift le P x (y :: ys) (by simp)
  | x :: x' :: xs, y :: ys, h => by
    have ih := go_merge O (x' :: xs) (y :: ys) (List.pairwise_cons.mp h).2
    unfold rmerge
    show go (op (op (it x) (ch op e it (x' :: xs))) _) _ = _
    rw [go_group P, go_app _ _ _ _ (go_sub1 P ih)]
    rw [go_sift le P x _ (by show ins le x' _ ≠ []; exact ins_ne _ _)]
    rfl
end
/-- both of two plain kinds -/
def rtimes : Nat → List (List Int) → List (List Int) → Row
  | 0, _, _ => []
  | _ + 1, [], _ => [("drop", [])]
  | _ + 1, _ :: _, [] => [("swap", []), ("drop", [])]
  | n + 1, a :: A, b :: b' :: B => ("spread", []) :: (sh [0] (rtimes n (a :: A) [b]) ++ (sh [1] (rtimes n (a :: A) (b' :: B)) ++ rmerge lexLe (bunS (a :: A) [b]) (bunS (a :: A) (b' :: B))))
  | n + 1, a :: a' :: A, [b] => ("swap", []) :: ("spread", []) :: (sh [0] (rtimes n [b] [a]) ++ (sh [1] (rtimes n [b] (a' :: A)) ++ rmerge lexLe (bunS [b] [a]) (bunS [b] (a' :: A))))
  | _ + 1, [a], [b] => rmerge ile a b
theorem go_spread {a b c : Kd} {r : Row} : go (.bo a (.ei b c)) (("spread", []) :: r) = go (.ei (.bo a b) (.bo a c)) r := by
  show (match (Kd.bo a (.ei b c)).turn "spread" [] with | some q => go q r | Option.none => Option.none) = _
  rfl
theorem go_times : ∀ (n : Nat) (A B : List (List Int)), A.length + B.length < n → (∀ x ∈ A, Srt ile x) → (∀ x ∈ B, Srt ile x) → go (.bo (pk A) (pk B)) (rtimes n A B) = some (pk (bunS A B))
  | 0, A, B, h, _, _ => by omega
  | n + 1, [], B, _, _, _ => by
    unfold rtimes
    show go (.bo .none _) _ = _
    show (match (Kd.bo .none (pk B)).turn "drop" [] with | some q => go q [] | Option.none => Option.none) = _
    rfl
  | n + 1, a :: A, [], _, _, _ => by
    unfold rtimes
    rw [go_swap op_bo]
    show (match (Kd.bo .none (pk (a :: A))).turn "drop" [] with | some q => go q [] | Option.none => Option.none) = _
    rw [bunS_comm]
    rfl
  | n + 1, a :: A, b :: b' :: B, h, hA, hB => by
    simp only [List.length_cons] at h
    have i1 := go_times n (a :: A) [b] (by simp only [List.length_cons, List.length_nil]; omega) hA (fun x hx => hB x (by simp at hx; simp [hx]))
    have i2 := go_times n (a :: A) (b' :: B) (by simp only [List.length_cons]; omega) hA (fun x hx => hB x (by simp at hx; simp [hx]))
    unfold rtimes
    show go (.bo _ (.ei (bk b) (pk (b' :: B)))) _ = _
    rw [go_spread]
    have e1 : pk [b] = bk b := rfl
    rw [e1] at i1
    rw [go_app _ _ _ _ (go_sub0 op_ei i1), go_app _ _ _ _ (go_sub1 op_ei i2), pk_ch, pk_ch (bunS _ (b' :: B)), go_merge lexLe op_ei lex_ord _ _ (bunS_srt _ _), pk_ch, ← bunS_cons]
  | n + 1, a :: a' :: A, [b], h, hA, hB => by
    simp only [List.length_cons] at h
    have i1 := go_times n [b] [a] (by simp only [List.length_cons, List.length_nil]; omega) hB (fun x hx => hA x (by simp at hx; simp [hx]))
    have i2 := go_times n [b] (a' :: A) (by simp only [List.length_cons, List.length_nil] at h ⊢; omega) hB (fun x hx => hA x (by simp at hx; simp [hx]))
    unfold rtimes
    rw [go_swap op_bo]
    show go (.bo _ (.ei (bk a) (pk (a' :: A)))) _ = _
    rw [go_spread]
    have e1 : pk [a] = bk a := rfl
    rw [e1] at i1
    rw [go_app _ _ _ _ (go_sub0 op_ei i1), go_app _ _ _ _ (go_sub1 op_ei i2), pk_ch, pk_ch (bunS _ (a' :: A)), go_merge lexLe op_ei lex_ord _ _ (bunS_srt _ _), bunS_comm (a :: a' :: A), pk_ch, ← bunS_cons]
  | n + 1, [a], [b], h, hA, hB => by
    unfold rtimes
    show go (.bo (bk a) (bk b)) _ = _
    rw [bk_ch, bk_ch b, go_merge ile op_bo ile_ord _ _ (hA a (by simp)), ← bk_ch]
    show _ = some (bk (isort ile (a ++ b)))
    rw [isort_app, isort_srt ile_ord (hB b (by simp))]
/-- the whole row -/
def rplain : Kd → Row
  | .ei a b => sh [0] (rplain a) ++ (sh [1] (rplain b) ++ rmerge lexLe a.bun b.bun)
  | .bo a b => sh [0] (rplain a) ++ (sh [1] (rplain b) ++ rtimes (a.bun.length + b.bun.length + 1) a.bun b.bun)
  | _ => []
theorem go_plain : ∀ k : Kd, go k (rplain k) = some (pk k.bun)
  | .none => rfl
  | .one => rfl
  | .name _ => rfl
  | .ei a b => by
    have ia := go_plain a; have ib := go_plain b
    unfold rplain
    rw [go_app _ _ _ _ (go_sub0 op_ei ia), go_app _ _ _ _ (go_sub1 op_ei ib), pk_ch, pk_ch b.bun, go_merge lexLe op_ei lex_ord _ _ a.bun_srt, ← pk_ch]
    show _ = some (pk (isort lexLe (a.bun ++ b.bun)))
    rw [isort_app, isort_srt lex_ord b.bun_srt]
  | .bo a b => by
    have ia := go_plain a; have ib := go_plain b
    unfold rplain
    rw [go_app _ _ _ _ (go_sub0 op_bo ia), go_app _ _ _ _ (go_sub1 op_bo ib), go_times _ _ _ (by omega) a.bun_each b.bun_each]
    rfl
end KT

set_option linter.all false
set_option maxRecDepth 100000
set_option maxHeartbeats 4000000
namespace KT
open PySem PySem.Spec PyProof.Rows L2

/-! ## bundles -/
theorem pow_sum {a b x y : Nat} (hx : x ≤ 2 ^ a) (hy : y ≤ 2 ^ b) (ha : 1 ≤ a) (hb : 1 ≤ b) : x + y ≤ 2 ^ (a + b) := by
  rw [Nat.pow_add]
  have h1 : 2 ^ 1 ≤ 2 ^ a := Nat.pow_le_pow_right (by decide) ha
  have h2 : 2 ^ 1 ≤ 2 ^ b := Nat.pow_le_pow_right (by decide) hb
  generalize 2 ^ a = A at *
  generalize 2 ^ b = B at *
  have : A + B ≤ A * B := by
    obtain ⟨c, rfl⟩ : ∃ c, A = c + 2 := ⟨A - 2, by omega⟩
    obtain ⟨d, rfl⟩ : ∃ d, B = d + 2 := ⟨B - 2, by omega⟩
    rw [Nat.add_mul, Nat.mul_add]
    have := Nat.zero_le (c * d)
    omega
  omega
theorem Kd.bun_len : ∀ k : Kd, k.bun.length ≤ 2 ^ k.lv
  | .none => by simp [Kd.bun]
  | .one => by simp [Kd.bun, Kd.lv]
  | .name _ => by simp [Kd.bun, Kd.lv]
  | .ei a b => by
    have ha := a.bun_len; have hb := b.bun_len
    simp only [Kd.bun, isort_len, List.length_append, Kd.lv]
    exact pow_sum ha hb a.lv_pos b.lv_pos
  | .bo a b => by
    have ha := a.bun_len; have hb := b.bun_len
    simp only [Kd.bun, bunS_len, Kd.lv]
    rw [Nat.pow_add]
    exact Nat.mul_le_mul ha hb
theorem Kd.bun_row : ∀ (k : Kd) (x : List Int), x ∈ k.bun → x.length ≤ k.lv
  | .none, x, h => by cases h
  | .one, x, h => by simp [Kd.bun] at h; subst h; simp
  | .name _, x, h => by simp [Kd.bun] at h; subst h; simp [Kd.lv]
  | .ei a b, x, h => by
    rw [Kd.bun, isort_mem, List.mem_append] at h
    simp only [Kd.lv]
    rcases h with h | h
    · have := a.bun_row x h; omega
    · have := b.bun_row x h; omega
  | .bo a b, x, h => by
    rw [Kd.bun, bunS_mem] at h
    obtain ⟨y, hy, z, hz, rfl⟩ := h
    have := a.bun_row y hy; have := b.bun_row z hz
    rw [isort_len, List.length_append]
    simp only [Kd.lv]; omega
/-- no list of bundles that is longer than N on the way -/
def Kd.fits (N : Nat) : Kd → Prop
  | .ei a b => a.fits N ∧ b.fits N ∧ a.bun.length + b.bun.length ≤ N
  | .bo a b => a.fits N ∧ b.fits N ∧ a.bun.length * b.bun.length ≤ N ∧ b.bun.length ≤ N
  | _ => True
theorem Kd.fits_lv : ∀ k : Kd, k.lv ≤ 20 → k.fits 4000000
  | .none, _ => trivial
  | .one, _ => trivial
  | .name _, _ => trivial
  | .ei a b, h => by
    have := a.lv_pos; have := b.lv_pos
    simp only [Kd.lv] at h
    refine ⟨a.fits_lv (by omega), b.fits_lv (by omega), ?_⟩
    have la := a.bun_len; have lb := b.bun_len
    have pa : 2 ^ a.lv ≤ 2 ^ 20 := Nat.pow_le_pow_right (by decide) (by omega)
    have pb : 2 ^ b.lv ≤ 2 ^ 20 := Nat.pow_le_pow_right (by decide) (by omega)
    omega
  | .bo a b, h => by
    have := a.lv_pos; have := b.lv_pos
    simp only [Kd.lv] at h
    have la := a.bun_len; have lb := b.bun_len
    have pb : 2 ^ b.lv ≤ 2 ^ 20 := Nat.pow_le_pow_right (by decide) (by omega)
    have pab : a.bun.length * b.bun.length ≤ 2 ^ 20 := by
      refine Nat.le_trans (Nat.mul_le_mul la lb) ?_
      rw [← Nat.pow_add]
      exact Nat.pow_le_pow_right (by decide) (by omega)
    exact ⟨a.fits_lv (by omega), b.fits_lv (by omega), by omega, by omega⟩
theorem bk_fits {N : Nat} (h : 1 ≤ N) : ∀ ns : List Int, (bk ns).fits N ∧ (bk ns).bun.length = 1 ∧ (bk ns).lv = max 1 ns.length
  | [] => ⟨trivial, rfl, rfl⟩
  | [i] => ⟨trivial, rfl, rfl⟩
  | i :: j :: r => by
    obtain ⟨h1, h2, h3⟩ := bk_fits h (j :: r)
    refine ⟨⟨trivial, h1, ?_, ?_⟩, ?_, ?_⟩
    · show 1 * (bk (j :: r)).bun.length ≤ N
      rw [h2]; omega
    · rw [h2]; omega
    · show (bunS [[i]] (bk (j :: r)).bun).length = 1
      rw [bunS_len, h2]; rfl
    · show 1 + (bk (j :: r)).lv = _
      rw [h3]; simp only [List.length_cons]; omega
theorem pk_fits {N M : Nat} : ∀ rows : List (List Int), rows.length ≤ N → (∀ r ∈ rows, r.length ≤ M) → (pk rows).fits N ∧ (pk rows).bun.length = rows.length ∧ (pk rows).lv ≤ 1 + rows.length * (M + 1)
  | [], _, _ => ⟨trivial, rfl, by simp [pk, Kd.lv]⟩
  | [x], h, hM => by
    simp only [List.length_cons, List.length_nil] at h
    obtain ⟨h1, h2, h3⟩ := bk_fits (N := N) (by omega) x
    have := hM x (by simp)
    refine ⟨h1, h2, ?_⟩
    show (bk x).lv ≤ _
    rw [h3]; simp; omega
  | x :: y :: r, h, hM => by
    simp only [List.length_cons] at h
    obtain ⟨h1, h2, h3⟩ := bk_fits (N := N) (by omega) x
    obtain ⟨g1, g2, g3⟩ := pk_fits (N := N) (M := M) (y :: r) (by simp; omega) (fun z hz => hM z (by simp at hz; simp [hz]))
    have hx := hM x (by simp)
    refine ⟨⟨h1, g1, ?_⟩, ?_, ?_⟩
    · rw [h2, g2]; simp; omega
    · show (isort lexLe ((bk x).bun ++ (pk (y :: r)).bun)).length = _
      rw [isort_len, List.length_append, h2, g2]; simp; omega
    · show (bk x).lv + (pk (y :: r)).lv ≤ _
      rw [h3]
      have : (x :: y :: r).length * (M + 1) = (y :: r).length * (M + 1) + (M + 1) := by simp only [List.length_cons]; rw [Nat.succ_mul]
      omega
theorem comp_rows {j : Nat} {f : EF} {ρ : Rho} (g : List Int → List Int) : ∀ B : List (List Int), (∀ b ∈ B, f (ρ.set j (some (.dat (rowD b)))) = .ok (.dat (rowD (g b)))) → compF (bName j) cYes f ρ (B.map rowD) = some ((B.map g).map rowD)
  | [], _ => rfl
  | b :: B, h => by
    rw [List.map_cons, comp_cons]
    simp only [bName_e, yes_e, h b (by simp), comp_rows g B (fun x hx => h x (by simp [hx]))]
    rfl
theorem row_add (a b : List Int) (h : a.length + b.length ≤ 16777216) : kAdd (.dat (rowD a)) (.dat (rowD b)) = .ok (.dat (rowD (a ++ b))) := by
  simp [rowD, h]
theorem row_sort (a : List Int) (h : a.length ≤ 16777216) : kSorted [.dat (rowD a)] = .ok (.own ((isort ile a).map D.int)) := kSorted_t a h
abbrev bdE : EF := eCB kTupOf (aCons (eCB kSorted (aCons (eTwo kAdd (eVar 4) (eVar 5)) aNil)) aNil)
theorem bdE_ev (ρ : Rho) (a b : List Int) (h4 : ρ[4]? = some (some (.dat (rowD a)))) (h5 : ρ[5]? = some (some (.dat (rowD b)))) (h : a.length + b.length ≤ 16777216) : bdE ρ = .ok (.dat (rowD (isort ile (a ++ b)))) := by
  have e1 := row_add a b h
  have e2 := row_sort (a ++ b) (by rw [List.length_append]; exact h)
  simp [h4, h5, e1, e2]
  all_goals rfl
abbrev bdB : SF := sExt 3 (eComp (srcE (eVar 2)) 5 cYes bdE)
theorem bd_loop (B : List (List Int)) (M : Nat) (hB : ∀ b ∈ B, b.length ≤ M) (K : Option DV) (A0 : List D) (y : Option DV) : ∀ (A F : List (List Int)) (x : Option DV), (∀ a ∈ A, a.length ≤ M) → F.length + A.length * B.length ≤ 16000000 → B.length ≤ 16000000 → M ≤ 1000000 →
    ∃ x', loop (bName 4) bdB (A.map rowD) [K, some (.lent A0), some (.own (B.map rowD)), some (.own (F.map rowD)), x, y] = .nx [K, some (.lent A0), some (.own (B.map rowD)), some (.own ((F ++ A.flatMap fun a => B.map fun b => isort ile (a ++ b)).map rowD)), x', y]
  | [], F, x, _, _, _, _ => ⟨x, by simp⟩
  | a :: A, F, x, hA, hl, hb, hM => by
    rw [List.length_cons, Nat.succ_mul] at hl
    obtain ⟨x', e⟩ := bd_loop B M hB K A0 y A (F ++ B.map fun b => isort ile (a ++ b)) (some (.dat (rowD a))) (fun z hz => hA z (by simp [hz])) (by rw [List.length_append, List.length_map]; omega) hb hM
    refine ⟨x', ?_⟩
    have cm : compF (bName 5) cYes bdE [K, some (.lent A0), some (.own (B.map rowD)), some (.own (F.map rowD)), some (.dat (rowD a)), y] (B.map rowD) = some ((B.map fun b => isort ile (a ++ b)).map rowD) := comp_rows _ B fun b hb => bdE_ev _ a b rfl rfl (by have := hA a (by simp); have := hB b hb; omega)
    have l1 : B.length ≤ 16777216 := by omega
    have l2 : F.length + B.length ≤ 16777216 := by omega
    rw [List.map_cons, loop_cons]
    have st : bdB [K, some (.lent A0), some (.own (B.map rowD)), some (.own (F.map rowD)), some (.dat (rowD a)), y] = .nx [K, some (.lent A0), some (.own (B.map rowD)), some (.own ((F ++ B.map fun b => isort ile (a ++ b)).map rowD)), some (.dat (rowD a)), y] := by
      simp only [z_ext, z_own, z_comp, z_srcE, z_var, List.getElem?_cons_succ, List.getElem?_cons_zero]
      simp [cm, l1, l2]
    simp only [bName_e, List.set_cons_succ, List.set_cons_zero, st, e]
    simp
theorem bundles_ev : ∀ (n : Nat) (k : Kd), k.dep ≤ n → k.lv ≤ 500000 → k.fits 4000000 → m_bundlesN n [.dat k.d] = .ret (.own (k.bun.map rowD))
  | 0, k, hn, _, _ => by cases k <;> simp [Kd.dep] at hn
  | n + 1, .none, _, _, _ => by rw [m_bundlesN_eq]; unfold b_bundles; simp [Kd.d, Kd.bun]
  | n + 1, .one, _, _, _ => by rw [m_bundlesN_eq]; unfold b_bundles; simp [Kd.d, Kd.bun, rowD]
  | n + 1, .name i, _, _, _ => by rw [m_bundlesN_eq]; unfold b_bundles; simp [Kd.d, Kd.bun, rowD]
  | n + 1, .ei a b, hn, hl, hf => by
    have := a.lv_pos; have := b.lv_pos
    simp only [Kd.dep, Kd.lv] at hn hl
    have ia := bundles_ev n a (by omega) (by omega) hf.1
    have ib := bundles_ev n b (by omega) (by omega) hf.2.1
    have l1 : a.bun.length + b.bun.length ≤ 16777216 := by have := hf.2.2; omega
    have sr := sortL_rows (a.bun ++ b.bun)
    rw [List.map_append] at sr
    rw [m_bundlesN_eq]; unfold b_bundles
    simp [Kd.d, Kd.bun, ia, ib, l1, sr]
  | n + 1, .bo a b, hn, hl, hf => by
    have := a.lv_pos; have := b.lv_pos
    simp only [Kd.dep, Kd.lv] at hn hl
    have ia := bundles_ev n a (by omega) (by omega) hf.1
    have ib := bundles_ev n b (by omega) (by omega) hf.2.1
    have pab := hf.2.2.1
    have pb := hf.2.2.2
    obtain ⟨x', e⟩ := bd_loop b.bun 500000 (fun z hz => by have := b.bun_row z hz; omega) (some (.dat (Kd.bo a b).d)) (a.bun.map rowD) none a.bun [] none (fun z hz => by have := a.bun_row z hz; omega) (by simp; omega) (by omega) (by decide)
    have sr := sortL_rows (a.bun.flatMap fun x => b.bun.map fun y => isort ile (x ++ y))
    rw [m_bundlesN_eq]; unfold b_bundles
    simp only [Kd.d, List.map_nil, List.nil_append] at e ⊢
    simp [ia, ib, e, sr, Kd.bun, bunS]
abbrev lbI : SF := sApp 3 bdE
theorem lb_inner (a : List Int) (M : Nat) (ha : a.length ≤ M) (K : Option DV) (A0 B0 : List D) : ∀ (B F : List (List Int)) (y : Option DV), (∀ b ∈ B, b.length ≤ M) → F.length + B.length ≤ 16000000 → M ≤ 1000000 →
    ∃ y', loop (bName 5) lbI (B.map rowD) [K, some (.lent A0), some (.lent B0), some (.own (F.map rowD)), some (.dat (rowD a)), y] = .nx [K, some (.lent A0), some (.lent B0), some (.own ((F ++ B.map fun b => isort ile (a ++ b)).map rowD)), some (.dat (rowD a)), y']
  | [], F, y, _, _, _ => ⟨y, by simp⟩
  | b :: B, F, y, hB, hl, hM => by
    simp only [List.length_cons] at hl
    obtain ⟨y', e⟩ := lb_inner a M ha K A0 B0 B (F ++ [isort ile (a ++ b)]) (some (.dat (rowD b))) (fun z hz => hB z (by simp [hz])) (by simp; omega) hM
    refine ⟨y', ?_⟩
    have ev := bdE_ev [K, some (.lent A0), some (.lent B0), some (.own (F.map rowD)), some (.dat (rowD a)), some (.dat (rowD b))] a b rfl rfl (by have := hB b (by simp); omega)
    have l1 : F.length < 16777216 := by omega
    rw [List.map_cons, loop_cons]
    have st : lbI [K, some (.lent A0), some (.lent B0), some (.own (F.map rowD)), some (.dat (rowD a)), some (.dat (rowD b))] = .nx [K, some (.lent A0), some (.lent B0), some (.own ((F ++ [isort ile (a ++ b)]).map rowD)), some (.dat (rowD a)), some (.dat (rowD b))] := by
      simp only [z_app, ev, z_own, List.getElem?_cons_succ, List.getElem?_cons_zero]
      simp [l1]
    simp only [bName_e, List.set_cons_succ, List.set_cons_zero, st, e]
    simp
theorem lb_loop (B : List (List Int)) (M : Nat) (hB : ∀ b ∈ B, b.length ≤ M) (K : Option DV) (A0 : List D) : ∀ (A F : List (List Int)) (x y : Option DV), (∀ a ∈ A, a.length ≤ M) → F.length + A.length * B.length ≤ 16000000 → B.length ≤ 16000000 → M ≤ 1000000 →
    ∃ x' y', loop (bName 4) (sForV 2 (bName 5) lbI) (A.map rowD) [K, some (.lent A0), some (.own (B.map rowD)), some (.own (F.map rowD)), x, y] = .nx [K, some (.lent A0), some (.own (B.map rowD)), some (.own ((F ++ A.flatMap fun a => B.map fun b => isort ile (a ++ b)).map rowD)), x', y']
  | [], F, x, y, _, _, _, _ => ⟨x, y, by simp⟩
  | a :: A, F, x, y, hA, hl, hb, hM => by
    rw [List.length_cons, Nat.succ_mul] at hl
    obtain ⟨y1, e1⟩ := lb_inner a M (hA a (by simp)) K A0 (B.map rowD) B F y hB (by omega) hM
    obtain ⟨x', y', e⟩ := lb_loop B M hB K A0 A (F ++ B.map fun b => isort ile (a ++ b)) (some (.dat (rowD a))) y1 (fun z hz => hA z (by simp [hz])) (by rw [List.length_append, List.length_map]; omega) hb hM
    refine ⟨x', y', ?_⟩
    rw [List.map_cons, loop_cons]
    simp [e1]
    simpa using e
theorem lbundles_ev : ∀ (n : Nat) (k : Kd), k.dep ≤ n → k.lv ≤ 500000 → k.fits 4000000 → m_law_bundlesN n [.dat k.d] = .ret (.own (k.bun.map rowD))
  | 0, k, hn, _, _ => by cases k <;> simp [Kd.dep] at hn
  | n + 1, .none, _, _, _ => by rw [m_law_bundlesN_eq]; unfold b_law_bundles; simp [Kd.d, Kd.bun, kMulL, seqOf]
  | n + 1, .one, _, _, _ => by rw [m_law_bundlesN_eq]; unfold b_law_bundles; simp [Kd.d, Kd.bun, rowD, kMulL, seqOf]
  | n + 1, .name i, _, _, _ => by rw [m_law_bundlesN_eq]; unfold b_law_bundles; simp [Kd.d, Kd.bun, rowD]
  | n + 1, .ei a b, hn, hl, hf => by
    have := a.lv_pos; have := b.lv_pos
    simp only [Kd.dep, Kd.lv] at hn hl
    have ia := lbundles_ev n a (by omega) (by omega) hf.1
    have ib := lbundles_ev n b (by omega) (by omega) hf.2.1
    have l1 : a.bun.length + b.bun.length ≤ 16777216 := by have := hf.2.2; omega
    have sr := sortL_rows (a.bun ++ b.bun)
    rw [List.map_append] at sr
    rw [m_law_bundlesN_eq]; unfold b_law_bundles
    simp [Kd.d, Kd.bun, ia, ib, l1, sr]
  | n + 1, .bo a b, hn, hl, hf => by
    have := a.lv_pos; have := b.lv_pos
    simp only [Kd.dep, Kd.lv] at hn hl
    have ia := lbundles_ev n a (by omega) (by omega) hf.1
    have ib := lbundles_ev n b (by omega) (by omega) hf.2.1
    have pab := hf.2.2.1
    have pb := hf.2.2.2
    obtain ⟨x', y', e⟩ := lb_loop b.bun 500000 (fun z hz => by have := b.bun_row z hz; omega) (some (.dat (Kd.bo a b).d)) (a.bun.map rowD) a.bun [] none none (fun z hz => by have := a.bun_row z hz; omega) (by simp; omega) (by omega) (by decide)
    have sr := sortL_rows (a.bun.flatMap fun x => b.bun.map fun y => isort ile (x ++ y))
    rw [m_law_bundlesN_eq]; unfold b_law_bundles
    simp only [Kd.d, List.map_nil, List.nil_append] at e ⊢
    simp [ia, ib, e, sr, Kd.bun, bunS]
theorem cnt_ones : ∀ k : Kd, k.ok → k.cnt [1, 1, 1, 1] = (k.bun.length : Int)
  | .none, _ => rfl
  | .one, _ => rfl
  | .name i, h => by
    rcases (show i = 0 ∨ i = 1 ∨ i = 2 ∨ i = 3 by have := h.1; have := h.2; omega) with rfl | rfl | rfl | rfl <;> rfl
  | .ei a b, h => by
    simp only [Kd.cnt, Kd.bun, isort_len, List.length_append, cnt_ones a h.1, cnt_ones b h.2]; omega
  | .bo a b, h => by
    simp only [Kd.cnt, Kd.bun, bunS_len, cnt_ones a h.1, cnt_ones b h.2, Int.natCast_mul]
theorem rowD_pl (r : List Int) : (rowD r).pl = true := by simp [rowD, D.pl, D.pls_ints]
theorem nds_ints (r : List Int) : D.nds (r.map D.int) = r.length := by
  induction r with
  | nil => rfl
  | cons x r ih => simp [D.nds, D.nd, ih]; omega
theorem rowD_nd (r : List Int) : (rowD r).nd = r.length + 1 := by simp [rowD, D.nd, nds_ints]
theorem rowD_dep (r : List Int) : (rowD r).dep = 1 := by simp [rowD, D.dep, D.deps_ints]
theorem rows_pl (rs : List (List Int)) : D.pls (rs.map rowD) = true := by
  rw [D.pls_all]
  intro x hx
  obtain ⟨r, _, rfl⟩ := List.mem_map.mp hx
  exact rowD_pl r
theorem rows_dep (rs : List (List Int)) : D.deps (rs.map rowD) ≤ 1 := D.deps_le _ fun x hx => by
  obtain ⟨r, _, rfl⟩ := List.mem_map.mp hx
  rw [rowD_dep]; omega
theorem whole_row (r : List Int) (h : r.length ≤ 1000) : m_law_whole_thing [.dat (rowD r)] = .ret (.dat (.bl true)) := whole_thing_ev _ (rowD_pl r) (by rw [rowD_nd]; omega)
theorem ne_rows (rs ss : List (List Int)) : kNe (.bor (rs.map rowD)) (.bor (ss.map rowD)) = .ok (.dat (.bl (!decide (rs.map rowD = ss.map rowD)))) := by
  have := rows_dep rs
  show (if min (D.deps (rs.map rowD) + 1) (D.deps (ss.map rowD) + 1) ≤ 190 then EO.ok (.dat (.bl (!D.deqs (rs.map rowD) (ss.map rowD)))) else .no) = _
  rw [if_pos (by omega), D.deqs_eq (rows_pl rs) (rows_pl ss)]
theorem eq_rows (rs ss : List (List Int)) : kEq (.own (rs.map rowD)) (.own (ss.map rowD)) = .ok (.dat (.bl (decide (rs.map rowD = ss.map rowD)))) := by
  have := rows_dep rs
  show (if min (D.deps (rs.map rowD) + 1) (D.deps (ss.map rowD) + 1) ≤ 190 then EO.ok (.dat (.bl (D.deqs (rs.map rowD) (ss.map rowD)))) else .no) = _
  rw [if_pos (by omega), D.deqs_eq (rows_pl rs) (rows_pl ss)]
theorem rowD_inj {a b : List Int} (h : rowD a = rowD b) : a = b := by
  have h2 : a.map D.int = b.map D.int := by simpa [rowD] using h
  exact (List.map_inj_right (fun x y e => by simpa using e)).mp h2
theorem rows_inj {a b : List (List Int)} (h : a.map rowD = b.map rowD) : a = b := (List.map_inj_right (fun x y e => rowD_inj e)).mp h
end KT

set_option linter.all false
set_option maxRecDepth 100000
set_option maxHeartbeats 4000000
namespace KT
open PySem PySem.Spec PyProof.Rows L2

/-! ## plain kinds -/
theorem bk_cons (i : Int) {r : List Int} (h : r ≠ []) : bk (i :: r) = .bo (.name i) (bk r) := by
  cases r with
  | nil => exact absurd rfl h
  | cons j r => rfl
theorem pk_cons (x : List Int) {r : List (List Int)} (h : r ≠ []) : pk (x :: r) = .ei (bk x) (pk r) := by
  cases r with
  | nil => exact absurd rfl h
  | cons j r => rfl
theorem pbundle_ev : ∀ (n : Nat) (r : List Int), r.length < n → m_plain_bundleN n [.dat (rowD r)] = .ret (.dat (bk r).d)
  | 0, r, h => by omega
  | n + 1, [], _ => by rw [m_plain_bundleN_eq]; unfold b_plain_bundle; simp [rowD, bk, Kd.d]
  | n + 1, [i], _ => by rw [m_plain_bundleN_eq]; unfold b_plain_bundle; simp [rowD, bk, Kd.d]
  | n + 1, i :: j :: r, h => by
    have ih := pbundle_ev n (j :: r) (by simp only [List.length_cons] at h ⊢; omega)
    have l1 : ¬ ((r.length : Int) + 1 + 1 = 1) := by omega
    rw [m_plain_bundleN_eq]; unfold b_plain_bundle
    simp only [rowD, List.map_cons] at ih ⊢
    simp [bk, Kd.d, ih, l1]
theorem plain_ev : ∀ (n : Nat) (rs : List (List Int)), rs.length < n → (∀ r ∈ rs, r.length < 40) → m_plain_ofN n [.bor (rs.map rowD)] = .ret (.dat (pk rs).d)
  | 0, r, h, _ => by omega
  | n + 1, [], _, _ => by rw [m_plain_ofN_eq]; unfold b_plain_of; simp [pk, Kd.d]
  | n + 1, [x], _, hr => by
    have e : m_plain_bundle _ = _ := pbundle_ev 40 x (hr x (by simp))
    rw [m_plain_ofN_eq]; unfold b_plain_of; simp [pk, e]
  | n + 1, x :: y :: r, h, hr => by
    have e : m_plain_bundle _ = _ := pbundle_ev 40 x (hr x (by simp))
    have ih := plain_ev n (y :: r) (by simp only [List.length_cons] at h ⊢; omega) (fun z hz => hr z (by simp at hz; simp [hz]))
    have l0 : ¬ ((r.length : Int) + 1 + 1 = 0) := by omega
    have l1 : ¬ ((r.length : Int) + 1 + 1 = 1) := by omega
    rw [m_plain_ofN_eq]; unfold b_plain_of
    simp only [List.map_cons] at ih ⊢
    simp [pk, Kd.d, e, ih, l0, l1]
/-! ### enumerate by steps -/
def enumF : Nat → List D → List D
  | _, [] => []
  | i, d :: ds => .tup [.int i, d] :: enumF (i + 1) ds
theorem enumF_get : ∀ (ds : List D) (i j : Nat), (enumF i ds)[j]? = (ds[j]?).map fun d => D.tup [.int ((i + j : Nat) : Int), d]
  | [], i, j => by simp [enumF]
  | d :: ds, i, 0 => by simp [enumF]
  | d :: ds, i, j + 1 => by
    show (enumF (i + 1) ds)[j]? = _
    rw [enumF_get ds (i + 1) j]
    have : i + 1 + j = i + (j + 1) := by omega
    rw [this]; rfl
theorem enumF_len : ∀ (ds : List D) (i : Nat), (enumF i ds).length = ds.length
  | [], _ => rfl
  | d :: ds, i => by simp [enumF, enumF_len ds]
theorem enumD_eq (ds : List D) : enumD ds = enumF 0 ds := by
  apply List.ext_getElem?
  intro j
  by_cases h : j < ds.length
  · rw [enumD_at (List.getElem?_eq_getElem h), enumF_get, List.getElem?_eq_getElem h]; simp
  · rw [List.getElem?_eq_none (by rw [enumD_len]; omega), List.getElem?_eq_none (by rw [enumF_len]; omega)]
/-! ### _law_plain -/
abbrev lpI : SF := sAsg 4 (eIf (cOf (eTwo kEq (eVar 5) (eC (.int 0)))) (eTup (aCons (eC (.str "name")) (aCons (eVar 6) aNil))) (eTup (aCons (eC (.str "both")) (aCons (eTup (aCons (eC (.str "name")) (aCons (eVar 6) aNil))) (aCons (eVar 4) aNil)))))
theorem lp_inner (a b c d : Option DV) : ∀ (L S : List Int) (x y : Option DV), ∃ x' y', loop (bPair 5 6) lpI (enumF S.length (L.map D.int)) [a, b, c, d, some (.dat (bk S).d), x, y] = .nx [a, b, c, d, some (.dat (bk (L.reverse ++ S)).d), x', y']
  | [], S, x, y => ⟨x, y, by simp [enumF]⟩
  | i :: L, S, x, y => by
    obtain ⟨x', y', e⟩ := lp_inner a b c d L (i :: S) (some (.dat (.int S.length))) (some (.dat (.int i)))
    refine ⟨x', y', ?_⟩
    rw [List.map_cons, enumF, loop_cons]
    have st : lpI [a, b, c, d, some (.dat (bk S).d), some (.dat (.int S.length)), some (.dat (.int i))] = .nx [a, b, c, d, some (.dat (bk (i :: S)).d), some (.dat (.int S.length)), some (.dat (.int i))] := by
      cases S with
      | nil => simp [bk, Kd.d]
      | cons j S =>
        have l0 : ¬ ((S.length : Int) + 1 = 0) := by omega
        simp [bk, Kd.d, l0]
    simp only [bPair_e, List.set_cons_succ, List.set_cons_zero, st]
    rw [List.length_cons] at e
    rw [e]
    simp
abbrev lpO : SF := sSeq (sAsg 4 (eTup (aCons (eC (.str "one")) aNil))) (sSeq (sForEnE (eLstRev (eVar 2)) (bPair 5 6) lpI) (sApp 1 (eVar 4)))
theorem lp_rows (a : Option DV) : ∀ (rs ks : List (List Int)) (b c d e f : Option DV), (∀ r ∈ rs, r.length ≤ 1000000) → ks.length + rs.length < 16000000 →
    ∃ b' c' d' e', loop (bName 2) lpO (rs.map rowD) [a, some (.own (ks.map fun r => (bk r).d)), b, f, c, d, e] = .nx [a, some (.own ((ks ++ rs).map fun r => (bk r).d)), b', f, c', d', e']
  | [], ks, b, c, d, e, f, _, _ => ⟨b, c, d, e, by simp⟩
  | r :: rs, ks, b, c, d, e, f, hr, hl => by
    simp only [List.length_cons] at hl
    have h1 := hr r (by simp)
    obtain ⟨x', y', e1⟩ := lp_inner a (some (.own (ks.map fun r => (bk r).d))) (some (.dat (rowD r))) f r.reverse [] d e
    obtain ⟨b', c', d', e', e2⟩ := lp_rows a rs (ks ++ [r]) (some (.dat (rowD r))) (some (.dat (bk r).d)) x' y' f (fun z hz => hr z (by simp [hz])) (by simp; omega)
    refine ⟨b', c', d', e', ?_⟩
    rw [List.map_cons, loop_cons]
    have e3 : bk [] = .one := rfl
    rw [e3] at e1
    simp only [Kd.d, List.length_nil, List.append_nil, List.reverse_reverse, List.map_reverse] at e1
    have l1 : r.length ≤ 16777216 := by omega
    have l2 : ks.length < 16777216 := by omega
    have st : lpO [a, some (.own (ks.map fun r => (bk r).d)), some (.dat (rowD r)), f, c, d, e] = .nx [a, some (.own ((ks ++ [r]).map fun r => (bk r).d)), some (.dat (rowD r)), f, some (.dat (bk r).d), x', y'] := by
      simp [rowD, enumD_eq, l1] at e1 ⊢
      simp [e1, l2]
    simp only [bName_e, List.set_cons_succ, List.set_cons_zero, st, e2]
    simp
abbrev lpF : SF := sAsg 3 (eIf (cOf (eTwo kEq (eVar 5) (eC (.int 0)))) (eVar 4) (eTup (aCons (eC (.str "either")) (aCons (eVar 4) (aCons (eVar 3) aNil)))))
theorem lp_fin (a b c d : Option DV) : ∀ (L S : List (List Int)) (x y : Option DV), ∃ x' y', loop (bPair 5 4) lpF (enumF S.length (L.map fun r => (bk r).d)) [a, b, c, some (.dat (pk S).d), x, y, d] = .nx [a, b, c, some (.dat (pk (L.reverse ++ S)).d), x', y', d]
  | [], S, x, y => ⟨x, y, by simp [enumF]⟩
  | i :: L, S, x, y => by
    obtain ⟨x', y', e⟩ := lp_fin a b c d L (i :: S) (some (.dat (bk i).d)) (some (.dat (.int S.length)))
    refine ⟨x', y', ?_⟩
    rw [List.map_cons, enumF, loop_cons]
    have st : lpF [a, b, c, some (.dat (pk S).d), some (.dat (bk i).d), some (.dat (.int S.length)), d] = .nx [a, b, c, some (.dat (pk (i :: S)).d), some (.dat (bk i).d), some (.dat (.int S.length)), d] := by
      cases S with
      | nil => simp [pk]
      | cons j S =>
        have l0 : ¬ ((S.length : Int) + 1 = 0) := by omega
        simp [pk, Kd.d, l0]
    simp only [bPair_e, List.set_cons_succ, List.set_cons_zero, st]
    rw [List.length_cons] at e
    rw [e]
    simp
theorem lplain_ev (rs : List (List Int)) (hl : rs.length < 1000000) (hr : ∀ r ∈ rs, r.length ≤ 1000000) : m_law_plain [.bor (rs.map rowD)] = .ret (.dat (pk rs).d) := by
  rw [m_law_plain_eq]; unfold b_law_plain
  obtain ⟨b', c', d', e', e1⟩ := lp_rows (some (.bor (rs.map rowD))) rs [] none none none none none hr (by simp; omega)
  obtain ⟨x', y', e2⟩ := lp_fin (some (.bor (rs.map rowD))) (some (.own (rs.map fun r => (bk r).d))) b' e' rs.reverse [] c' d'
  have e3 : pk [] = .none := rfl
  rw [e3] at e2
  simp only [Kd.d, List.length_nil, List.append_nil, List.reverse_reverse, List.map_reverse, List.nil_append, List.map_nil] at e1 e2
  have l1 : rs.length ≤ 16777216 := by omega
  simp [e1, enumD_eq, l1, e2]
end KT

set_option linter.all false
set_option maxRecDepth 100000
set_option maxHeartbeats 4000000
namespace KT
open PySem PySem.Spec PyProof.Rows L2

/-! ## class Path -/
theorem sqS {F G : SF} {ρ ρ' : Rho} (h : F ρ = .nx ρ') : sSeq F G ρ = G ρ' := by rw [z_seq, h]
theorem pturn_ev (k q : Kd) (w : String) (p : List Int) (row : List D) (h : k.here w = some q) (hl : row.length < 16777216) : m_Path_turn row [k.d, pD p, .str w] = .ret q.d (row ++ [tD (w, p)]) := by
  rw [m_Path_turn_eq]; unfold b_Path_turn
  have e := turned_here_ev k w
  rw [h] at e
  simp only [oR] at e
  simp [hl, e, tD]
theorem add_p (p : List Int) (s : Int) (h : p.length < 10000000) : kAdd (.dat (pD p)) (.dat (.tup [.int s])) = .ok (.dat (pD (p ++ [s]))) := by
  have l : p.length + 1 ≤ 16777216 := by omega
  simp [pD, l]
structure OpD {α : Type} (op : Kd → Kd → Kd) (e : Kd) (wd ew : String) (it : α → Kd) (le : α → α → Bool) (G : α → Prop) : Prop where
  d : ∀ a b, (op a b).d = .tup [.str wd, a.d, b.d]
  ed : e.d = .tup [.str ew]
  swap : ∀ a b, (op a b).here "swap" = some (op b a)
  group : ∀ a b c, (op (op a b) c).here "group" = some (op a (op b c))
  drop : ∀ a, (op e a).here "drop" = some a
  ne : wd ≠ ew
  hd : ∀ x, ∃ s, kIx (.dat (it x).d) (.dat (.int 0)) = .ok (.dat (.str s)) ∧ s ≠ wd ∧ s ≠ ew
  bu : ∀ x, G x → ∃ r, m_bundles [.dat (it x).d] = .ret (.own [rowD r])
  cmp : ∀ x y r s, G x → G y → m_bundles [.dat (it x).d] = .ret (.own [rowD r]) → m_bundles [.dat (it y).d] = .ret (.own [rowD s]) →
    kGtL (.bor [rowD r]) (.own [rowD s]) = .ok (.dat (.bl (!le x y))) ∧ kLeL (.bor [rowD r]) (.own [rowD s]) = .ok (.dat (.bl (le x y)))
section
variable {α : Type} {op : Kd → Kd → Kd} {e : Kd} {wd ew : String} {it : α → Kd} {le : α → α → Bool} {G : α → Prop} (P : OpD op e wd ew it le G)
include P
theorem swapE (a b : Kd) (p : List Int) (row : List D) (hl : row.length < 16777216) : m_Path_turn row [.tup [.str wd, a.d, b.d], pD p, .str "swap"] = .ret (.tup [.str wd, b.d, a.d]) (row ++ [tD ("swap", p)]) := by
  have := pturn_ev _ _ "swap" p row (P.swap a b) hl
  rwa [P.d, P.d] at this
theorem groupE (a b c : Kd) (p : List Int) (row : List D) (hl : row.length < 16777216) : m_Path_turn row [.tup [.str wd, .tup [.str wd, a.d, b.d], c.d], pD p, .str "group"] = .ret (.tup [.str wd, a.d, .tup [.str wd, b.d, c.d]]) (row ++ [tD ("group", p)]) := by
  have := pturn_ev _ _ "group" p row (P.group a b c) hl
  rwa [P.d, P.d, P.d, P.d] at this
theorem dropE (a : Kd) (p : List Int) (row : List D) (hl : row.length < 16777216) : m_Path_turn row [.tup [.str wd, .tup [.str ew], a.d], pD p, .str "drop"] = .ret a.d (row ++ [tD ("drop", p)]) := by
  have := pturn_ev _ _ "drop" p row (P.drop a) hl
  rwa [P.d, P.ed] at this
theorem sift_ev : ∀ (n : Nat) (ys : List α) (x : α) (p : List Int) (row : List D), ys ≠ [] → ys.length ≤ n → G x → (∀ y ∈ ys, G y) → row.length + 3 * ys.length + 3 ≤ 16000000 → p.length + ys.length < 1000000 →
    m_Path_siftN n row [.tup [.str wd, (it x).d, (ch op e it ys).d], pD p] = .ret (ch op e it (ins le x ys)).d (row ++ tDs (sh p (rsift le x ys)))
  | _, [], _, _, _, h, _, _, _, _, _ => absurd rfl h
  | 0, y :: ys, _, _, _, _, h, _, _, _, _ => by simp at h
  | n + 1, [y], x, p, row, _, _, gx, gy, hl, hp => by
    obtain ⟨sy, hy, hy1, hy2⟩ := P.hd y
    obtain ⟨rx, bx⟩ := P.bu x gx
    obtain ⟨ry, by'⟩ := P.bu y (gy y (by simp))
    obtain ⟨c1, c2⟩ := P.cmp x y rx ry gx (gy y (by simp)) bx by'
    have t1 := swapE P (it x) (it y) p row (by simp at hl; omega)
    rw [m_Path_siftN_eq]; unfold b_Path_sift
    by_cases hxy : le x y = true
    · have ei : ch op e it (ins le x [y]) = op (it x) (it y) := by unfold ins; rw [if_pos hxy]; rfl
      have er : rsift le x [y] = [] := by unfold rsift; rw [if_pos hxy]
      rw [ei, er, P.d]
      show finX (sSeq _ _ [_, some (.dat (.tup [.str wd, (it x).d, (it y).d])), _, _, _]) = _
      simp [hy, bx, by', c1, hy1, hxy, tDs, sh]
    · have ei : ch op e it (ins le x [y]) = op (it y) (it x) := by unfold ins; rw [if_neg hxy]; rfl
      have er : rsift le x [y] = [("swap", [])] := by unfold rsift; rw [if_neg hxy]
      rw [ei, er, P.d]
      show finX (sSeq _ _ [_, some (.dat (.tup [.str wd, (it x).d, (it y).d])), _, _, _]) = _
      simp [hy, bx, by', c1, hy1, hxy, t1, tDs, sh]
  | n + 1, y :: z :: ys, x, p, row, _, hn, gx, gy, hl, hp => by
    obtain ⟨rx, bx⟩ := P.bu x gx
    obtain ⟨ry, by'⟩ := P.bu y (gy y (by simp))
    obtain ⟨c1, c2⟩ := P.cmp x y rx ry gx (gy y (by simp)) bx by'
    simp only [List.length_cons] at hl hp hn
    have ed : (ch op e it (y :: z :: ys)).d = .tup [.str wd, (it y).d, (ch op e it (z :: ys)).d] := P.d _ _
    rw [m_Path_siftN_eq]; unfold b_Path_sift
    rw [ed]
    by_cases hxy : le x y = true
    · have ei : ch op e it (ins le x (y :: z :: ys)) = op (it x) (ch op e it (y :: z :: ys)) := by unfold ins; rw [if_pos hxy]; rfl
      have er : rsift le x (y :: z :: ys) = [] := by unfold rsift; rw [if_pos hxy]
      rw [ei, er, P.d, ed]
      simp [bx, by', c2, hxy, tDs, sh]
    · have ei : ch op e it (ins le x (y :: z :: ys)) = op (it y) (ch op e it (ins le x (z :: ys))) := by unfold ins; rw [if_neg hxy]; exact ch_cons y (ins_ne x _)
      have er : rsift le x (y :: z :: ys) = ("swap", []) :: ("group", []) :: ("swap", [1]) :: sh [1] (rsift le x (z :: ys)) := by rw [rsift]; rw [if_neg hxy]
      have t1 := swapE P (it x) (ch op e it (y :: z :: ys)) p row (by omega)
      rw [ed] at t1
      have t2 := groupE P (it y) (ch op e it (z :: ys)) (it x) p (row ++ [tD ("swap", p)]) (by simp; omega)
      have t3 := swapE P (ch op e it (z :: ys)) (it x) (p ++ [1]) (row ++ [tD ("swap", p), tD ("group", p)]) (by simp; omega)
      have ih := sift_ev n (z :: ys) x (p ++ [1]) (row ++ [tD ("swap", p), tD ("group", p), tD ("swap", p ++ [1])]) (by simp) (by simp only [List.length_cons]; omega) gx (fun w hw => gy w (List.mem_cons_of_mem _ hw)) (by simp; omega) (by simp; omega)
      have ap := add_p p 1 (by omega)
      rw [ei, er, P.d]
      simp only [List.append_assoc, List.cons_append, List.nil_append] at t2 t3 ih
      simp [bx, by', c2, hxy, t1, t2, t3, ih, ap]
      simp [tDs, sh, tD]

omit P in
theorem rsift_len (x : α) : ∀ ys : List α, (rsift le x ys).length ≤ 3 * ys.length
  | [] => by simp [rsift]
  | [y] => by unfold rsift; split <;> simp
  | y :: z :: ys => by
    have ih := rsift_len x (z :: ys)
    unfold rsift
    split
    · simp
    · simp only [List.length_cons, sh_len] at ih ⊢; omega
omit P in
theorem rmerge_len : ∀ xs ys : List α, xs.length + ys.length ≤ 39 → (rmerge le xs ys).length ≤ 125 * xs.length + 2
  | [], ys, _ => by simp [rmerge]
  | x :: xs, [], _ => by simp [rmerge]
  | [x], y :: ys, h => by
    have := rsift_len (le := le) x (y :: ys)
    unfold rmerge
    simp only [List.length_cons, List.length_nil] at h this ⊢; omega
  | x :: x' :: xs, y :: ys, h => by
    have ih := rmerge_len (x' :: xs) (y :: ys) (by simp only [List.length_cons] at h ⊢; omega)
    have h2 := rsift_len (le := le) x ((x' :: xs).foldr (ins le) (y :: ys))
    have h3 : ((x' :: xs).foldr (ins le) (y :: ys)).length = (x' :: xs).length + (y :: ys).length := by rw [(foldr_ins_perm (y :: ys) (x' :: xs)).length_eq, List.length_append]
    rw [h3] at h2
    unfold rmerge
    simp only [List.length_cons, List.length_append, sh_len] at h ih h2 ⊢; omega
theorem hd_ch (xs : List α) (h : xs ≠ []) : ∃ s, kIx (.dat (ch op e it xs).d) (.dat (.int 0)) = .ok (.dat (.str s)) ∧ s ≠ ew := by
  match xs, h with
  | [x], _ => obtain ⟨s, h1, _, h2⟩ := P.hd x; exact ⟨s, h1, h2⟩
  | x :: y :: r, _ =>
    refine ⟨wd, ?_, P.ne⟩
    show kIx (.dat (op _ _).d) _ = _
    rw [P.d]; simp
theorem merge_ev (O : TOrd le) : ∀ (n : Nat) (xs ys : List α) (p : List Int) (row : List D), xs.length < n → xs.length + ys.length ≤ 39 → Srt le xs → (∀ x ∈ xs, G x) → (∀ y ∈ ys, G y) → row.length + 125 * xs.length + 200 ≤ 16000000 → p.length + xs.length < 900000 →
    m_Path_mergeN n row [.tup [.str wd, (ch op e it xs).d, (ch op e it ys).d], pD p, .str ew] = .ret (ch op e it (xs.foldr (ins le) ys)).d (row ++ tDs (sh p (rmerge le xs ys)))
  | 0, xs, _, _, _, h, _, _, _, _, _, _ => by omega
  | n + 1, [], ys, p, row, _, _, _, _, _, hl, hp => by
    have t1 := dropE P (ch op e it ys) p row (by omega)
    have e0 : (ch op e it ([] : List α)).d = .tup [.str ew] := P.ed
    rw [m_Path_mergeN_eq]; unfold b_Path_merge
    rw [e0]
    simp [t1, tDs, sh, rmerge]
  | n + 1, x :: xs, [], p, row, _, _, hs, _, _, hl, hp => by
    obtain ⟨s, h1, h2⟩ := hd_ch P (x :: xs) (by simp)
    have e0 : (ch op e it ([] : List α)).d = .tup [.str ew] := P.ed
    have t1 := swapE P (ch op e it (x :: xs)) (ch op e it ([] : List α)) p row (by omega)
    have t2 := dropE P (ch op e it (x :: xs)) p (row ++ [tD ("swap", p)]) (by simp; omega)
    rw [e0] at t1
    have es : (x :: xs).foldr (ins le) [] = x :: xs := isort_srt O hs
    rw [m_Path_mergeN_eq]; unfold b_Path_merge
    rw [e0, es]
    simp only [List.append_assoc, List.cons_append, List.nil_append] at t2
    simp [t1, t2, h1, h2, tDs, sh, rmerge]
  | n + 1, [x], y :: ys, p, row, _, hn, _, gx, gy, hl, hp => by
    obtain ⟨s, h1, h2, h3⟩ := P.hd x
    obtain ⟨s', h4, h5⟩ := hd_ch P (y :: ys) (by simp)
    simp only [List.length_cons, List.length_nil] at hn hl hp
    have t1 : m_Path_sift _ _ = _ := sift_ev P 40 (y :: ys) x p row (by simp) (by simp only [List.length_cons]; omega) (gx x (by simp)) gy (by simp only [List.length_cons]; omega) (by simp only [List.length_cons]; omega)
    have e0 : (ch op e it [x]).d = (it x).d := rfl
    rw [m_Path_mergeN_eq]; unfold b_Path_merge
    rw [e0]
    simp [t1, h1, h2, h3, h4, h5, rmerge]
  | n + 1, x :: x' :: xs, y :: ys, p, row, h, hn, hs, gx, gy, hl, hp => by
    simp only [List.length_cons] at h hn hl hp
    obtain ⟨s', h4, h5⟩ := hd_ch P (y :: ys) (by simp)
    have e0 : (ch op e it (x :: x' :: xs)).d = .tup [.str wd, (it x).d, (ch op e it (x' :: xs)).d] := P.d _ _
    have t1 := groupE P (it x) (ch op e it (x' :: xs)) (ch op e it (y :: ys)) p row (by omega)
    have ih := merge_ev O n (x' :: xs) (y :: ys) (p ++ [1]) (row ++ [tD ("group", p)]) (by simp only [List.length_cons]; omega) (by simp only [List.length_cons]; omega) (List.pairwise_cons.mp hs).2 (fun w hw => gx w (List.mem_cons_of_mem _ hw)) gy (by simp only [List.length_append, List.length_cons, List.length_nil]; omega) (by simp only [List.length_append, List.length_cons, List.length_nil]; omega)
    have h3 : ((x' :: xs).foldr (ins le) (y :: ys)).length = (x' :: xs).length + (y :: ys).length := by rw [(foldr_ins_perm (y :: ys) (x' :: xs)).length_eq, List.length_append]
    have hr := rmerge_len (le := le) (x' :: xs) (y :: ys) (by simp only [List.length_cons]; omega)
    simp only [List.length_cons] at h3 hr
    have hne : (x' :: xs).foldr (ins le) (y :: ys) ≠ [] := by intro z; rw [z] at h3; simp at h3
    have hg : ∀ w ∈ (x' :: xs).foldr (ins le) (y :: ys), G w := fun w hw => by
      rcases List.mem_append.mp ((foldr_ins_perm (y :: ys) (x' :: xs)).mem_iff.mp hw) with q | q
      · exact gx w (List.mem_cons_of_mem _ q)
      · exact gy w q
    have ef : (x :: x' :: xs).foldr (ins le) (y :: ys) = ins le x ((x' :: xs).foldr (ins le) (y :: ys)) := rfl
    have er : rmerge le (x :: x' :: xs) (y :: ys) = ("group", []) :: (sh [1] (rmerge le (x' :: xs) (y :: ys)) ++ rsift le x ((x' :: xs).foldr (ins le) (y :: ys))) := by rw [rmerge]
    rw [ef, er]
    generalize (x' :: xs).foldr (ins le) (y :: ys) = F at *
    generalize rmerge le (x' :: xs) (y :: ys) = R at *
    have t2 : m_Path_sift _ _ = _ := sift_ev P 40 F x p (row ++ [tD ("group", p)] ++ tDs (sh (p ++ [1]) R)) hne (by omega) (gx x (by simp)) hg (by simp only [List.length_append, List.length_cons, List.length_nil, tDs, List.length_map, sh_len]; omega) (by omega)
    have ap := add_p p 1 (by omega)
    rw [m_Path_mergeN_eq]; unfold b_Path_merge
    rw [e0]
    have ne := P.ne
    simp only [List.append_assoc, List.cons_append, List.nil_append] at t2 ih
    simp [t1, t2, ih, h4, h5, ap, ne]
    simp [tDs, sh, tD]
end
/-! ## the two chains -/
theorem bk_dep : ∀ r : List Int, (bk r).dep ≤ r.length + 1
  | [] => by simp [bk, Kd.dep]
  | [i] => by simp [bk, Kd.dep]
  | i :: j :: r => by
    have := bk_dep (j :: r)
    show max 1 (bk (j :: r)).dep + 1 ≤ _
    simp only [List.length_cons] at this ⊢; omega
theorem bu_bk (x : List Int) (hs : Srt ile x) (hl : x.length ≤ 38) : m_bundles [.dat (bk x).d] = .ret (.own [rowD x]) := by
  obtain ⟨f1, _, f3⟩ := bk_fits (N := 4000000) (by decide) x
  have e : m_bundles _ = _ := bundles_ev 40 (bk x) (by have := bk_dep x; omega) (by rw [f3]; omega) f1
  rw [e, bk_bun, isort_srt ile_ord hs]
  rfl
theorem cmp_one (x y : List Int) : kGtL (.bor [rowD x]) (.own [rowD y]) = .ok (.dat (.bl (!lexLe x y))) ∧ kLeL (.bor [rowD x]) (.own [rowD y]) = .ok (.dat (.bl (lexLe x y))) := by
  have e : cmpL [rowD x] [rowD y] = some (lexLe x y) := by
    have h1 : intsOf [rowD x] = none := rfl
    have h2 := rowsOf_map [x]
    have h3 := rowsOf_map [y]
    simp only [List.map_cons, List.map_nil] at h2 h3
    unfold cmpL
    rw [h1, h2, h3]
    by_cases h : x = y
    · subst h
      simp [rowsLe, lex_ord.refl]
    · simp [rowsLe, h]
  constructor
  · show (match cmpL [rowD x] [rowD y] with | some r => EO.ok (.dat (.bl (!r))) | none => .no) = _
    rw [e]
  · show (match cmpL [rowD x] [rowD y] with | some r => EO.ok (.dat (.bl r)) | none => .no) = _
    rw [e]
theorem hd_bk (x : List Int) : ∃ s, kIx (.dat (bk x).d) (.dat (.int 0)) = .ok (.dat (.str s)) ∧ s ≠ "either" ∧ s ≠ "none" := by
  match x with
  | [] => exact ⟨"one", by simp [bk, Kd.d], by decide, by decide⟩
  | [i] => exact ⟨"name", by simp [bk, Kd.d], by decide, by decide⟩
  | i :: j :: r => exact ⟨"both", by simp [bk, Kd.d], by decide, by decide⟩
theorem own1_inj {r s : List Int} {q : FO} (h : q = .ret (.own [rowD r])) (g : q = .ret (.own [rowD s])) : r = s := by
  rw [h] at g
  injection g with g; injection g with g; injection g with g
  exact rowD_inj g
theorem opd_ei : OpD .ei .none "either" "none" bk lexLe (fun x => Srt ile x ∧ x.length ≤ 38) where
  d := fun _ _ => rfl
  ed := rfl
  swap := fun _ _ => rfl
  group := fun _ _ _ => rfl
  drop := fun a => by simp [Kd.here]
  ne := by decide
  hd := hd_bk
  bu := fun x g => ⟨x, bu_bk x g.1 g.2⟩
  cmp := fun x y r s gx gy bx by' => by
    rw [own1_inj bx (bu_bk x gx.1 gx.2), own1_inj by' (bu_bk y gy.1 gy.2)]
    exact cmp_one x y
theorem bu_name (i : Int) : m_bundles [.dat (Kd.name i).d] = .ret (.own [rowD [i]]) := bu_bk [i] (by simp [Srt]) (by simp)
theorem opd_bo : OpD .bo .one "both" "one" .name ile (fun _ => True) where
  d := fun _ _ => rfl
  ed := rfl
  swap := fun _ _ => rfl
  group := fun _ _ _ => rfl
  drop := fun a => by simp [Kd.here]
  ne := by decide
  hd := fun x => ⟨"name", by simp [Kd.d], by decide, by decide⟩
  bu := fun x _ => ⟨[x], bu_name x⟩
  cmp := fun x y r s _ _ bx by' => by
    rw [own1_inj bx (bu_name x), own1_inj by' (bu_name y)]
    have e : lexLe [x] [y] = ile x y := by
      by_cases h : x = y
      · subst h; simp [lexLe, ile]
      · simp [lexLe, ile, h]; omega
    rw [← e]
    exact cmp_one [x] [y]
end KT

set_option linter.all false
set_option maxRecDepth 100000
set_option maxHeartbeats 4000000
namespace KT
open PySem PySem.Spec PyProof.Rows L2

def Good7 (A : List (List Int)) : Prop := ∀ x ∈ A, Srt ile x ∧ x.length ≤ 7
theorem bunS_good {A B : List (List Int)} (hA : Good7 A) (hB : Good7 B) : ∀ x ∈ bunS A B, Srt ile x ∧ x.length ≤ 38 := fun x h => by
  obtain ⟨a, ha, b, hb, rfl⟩ := bunS_mem.mp h
  refine ⟨srt_isort ile_ord _, ?_⟩
  have := (hA a ha).2; have := (hB b hb).2
  rw [isort_len, List.length_append]; omega
theorem emerge_ev {L R : List (List Int)} (p : List Int) (row : List D) (hn : L.length + R.length ≤ 39) (hs : Srt lexLe L) (gL : ∀ x ∈ L, Srt ile x ∧ x.length ≤ 38) (gR : ∀ x ∈ R, Srt ile x ∧ x.length ≤ 38) (hl : row.length + 6000 ≤ 16000000) (hp : p.length < 800000) :
    m_Path_merge row [.tup [.str "either", (pk L).d, (pk R).d], pD p, .str "none"] = .ret (pk (L.foldr (ins lexLe) R)).d (row ++ tDs (sh p (rmerge lexLe L R))) := by
  have := merge_ev opd_ei lex_ord 40 L R p row (by omega) hn hs gL gR (by omega) (by omega)
  simp only [← pk_ch] at this
  exact this
theorem bmerge_ev {a b : List Int} (p : List Int) (row : List D) (hn : a.length + b.length ≤ 39) (ha : Srt ile a) (hb : Srt ile b) (hl : row.length + 6000 ≤ 16000000) (hp : p.length < 800000) :
    m_Path_merge row [.tup [.str "both", (bk a).d, (bk b).d], pD p, .str "one"] = .ret (bk (isort ile (a ++ b))).d (row ++ tDs (sh p (rmerge ile a b))) := by
  have := merge_ev opd_bo ile_ord 40 a b p row (by omega) hn ha (fun _ _ => trivial) (fun _ _ => trivial) (by omega) (by omega)
  simp only [← bk_ch] at this
  rw [isort_app, isort_srt ile_ord hb]
  exact this
theorem tDs_app (a b : Row) : tDs (a ++ b) = tDs a ++ tDs b := by simp [tDs]
theorem tDs_cons (t : String × List Int) (b : Row) : tDs (t :: b) = tD t :: tDs b := rfl
theorem tDs_len (a : Row) : (tDs a).length = a.length := by simp [tDs]
theorem sh_cons (p : List Int) (t : String × List Int) (b : Row) : sh p (t :: b) = (t.1, p ++ t.2) :: sh p b := rfl
theorem share_ev (f : Nat) (C X Y : Kd) (L R : List (List Int)) (r1 r2 : Row) (p : List Int) (row : List D)
    (h1 : m_Path_timesN f (row ++ [tD ("spread", p)]) [.tup [.str "both", C.d, X.d], pD (p ++ [0])] = .ret (pk L).d (row ++ [tD ("spread", p)] ++ tDs (sh (p ++ [0]) r1)))
    (h2 : m_Path_timesN f (row ++ [tD ("spread", p)] ++ tDs (sh (p ++ [0]) r1)) [.tup [.str "both", C.d, Y.d], pD (p ++ [1])] = .ret (pk R).d (row ++ [tD ("spread", p)] ++ tDs (sh (p ++ [0]) r1) ++ tDs (sh (p ++ [1]) r2)))
    (hn : L.length + R.length ≤ 39) (hs : Srt lexLe L) (gL : ∀ x ∈ L, Srt ile x ∧ x.length ≤ 38) (gR : ∀ x ∈ R, Srt ile x ∧ x.length ≤ 38) (hl : row.length + 1 + r1.length + r2.length + 6000 ≤ 16000000) (hp : p.length < 800000) :
    m_Path_shareN (f + 1) row [.tup [.str "both", C.d, .tup [.str "either", X.d, Y.d]], pD p] = .ret (pk (L.foldr (ins lexLe) R)).d (row ++ tDs (sh p (("spread", []) :: (sh [0] r1 ++ (sh [1] r2 ++ rmerge lexLe L R))))) := by
  have t0 : m_Path_turn row [.tup [.str "both", C.d, .tup [.str "either", X.d, Y.d]], pD p, .str "spread"] = .ret (.tup [.str "either", .tup [.str "both", C.d, X.d], .tup [.str "both", C.d, Y.d]]) (row ++ [tD ("spread", p)]) := pturn_ev (.bo C (.ei X Y)) (.ei (.bo C X) (.bo C Y)) "spread" p row rfl (by omega)
  have mg := emerge_ev (L := L) (R := R) p (row ++ [tD ("spread", p)] ++ tDs (sh (p ++ [0]) r1) ++ tDs (sh (p ++ [1]) r2)) hn hs gL gR (by simp only [List.length_append, List.length_cons, List.length_nil, tDs_len, sh_len]; omega) hp
  have a0 := add_p p 0 (by omega)
  have a1 := add_p p 1 (by omega)
  rw [m_Path_shareN_eq]; unfold b_Path_share
  generalize hR1 : row ++ [tD ("spread", p)] = row1 at *
  generalize hR2 : row1 ++ tDs (sh (p ++ [0]) r1) = row2 at *
  generalize hR3 : row2 ++ tDs (sh (p ++ [1]) r2) = row3 at *
  simp [t0, a0, a1, h1, h2, mg]
  rw [← hR3, ← hR2, ← hR1]
  simp [tDs_app, tDs_cons, sh_cons, sh_app, sh_sh]
theorem hd_pk (a : List Int) (A : List (List Int)) : ∃ s, kIx (.dat (pk (a :: A)).d) (.dat (.int 0)) = .ok (.dat (.str s)) ∧ s ≠ "none" := by
  match A with
  | [] => obtain ⟨s, h, _, g⟩ := hd_bk a; exact ⟨s, h, g⟩
  | b :: A => exact ⟨"either", by show kIx (.dat (.tup _)) _ = _; simp, by decide⟩
theorem g7 {A : List (List Int)} {a : List Int} (h : Good7 A) (m : a ∈ A) : Good7 [a] := fun x hx => by simp at hx; subst hx; exact h _ m
theorem g7t {A : List (List Int)} {a : List Int} (h : Good7 (a :: A)) : Good7 A := fun x hx => h x (List.mem_cons_of_mem _ hx)
theorem times_ev : ∀ (n f : Nat) (A B : List (List Int)) (p : List Int) (row : List D), A.length + B.length < n → 2 * n ≤ f → Good7 A → Good7 B → A.length * B.length ≤ 39 → row.length + (rtimes n A B).length + 7000 ≤ 16000000 → p.length + n < 800000 →
    m_Path_timesN f row [.tup [.str "both", (pk A).d, (pk B).d], pD p] = .ret (pk (bunS A B)).d (row ++ tDs (sh p (rtimes n A B)))
  | 0, _, A, B, _, _, h, _, _, _, _, _, _ => by omega
  | n + 1, 0, A, B, _, _, _, h, _, _, _, _, _ => by omega
  | n + 1, 1, A, B, _, _, _, h, _, _, _, _, _ => by omega
  | n + 1, f + 2, [], B, p, row, _, _, _, _, _, hl, hp => by
    have e0 : (pk []).d = .tup [.str "none"] := rfl
    have t1 : m_Path_turn row [.tup [.str "both", .tup [.str "none"], (pk B).d], pD p, .str "drop"] = .ret (.tup [.str "none"]) (row ++ [tD ("drop", p)]) := pturn_ev (.bo .none (pk B)) .none "drop" p row (by simp [Kd.here]) (by omega)
    have eb : bunS [] B = [] := rfl
    rw [m_Path_timesN_eq]; unfold b_Path_times
    rw [e0, eb, e0]
    simp [t1, rtimes, tDs, sh]
  | n + 1, f + 2, a :: A, [], p, row, _, _, _, _, _, hl, hp => by
    have e0 : (pk []).d = .tup [.str "none"] := rfl
    obtain ⟨s, h1, h2⟩ := hd_pk a A
    have t1 : m_Path_turn row [.tup [.str "both", (pk (a :: A)).d, .tup [.str "none"]], pD p, .str "swap"] = .ret (.tup [.str "both", .tup [.str "none"], (pk (a :: A)).d]) (row ++ [tD ("swap", p)]) := pturn_ev (.bo (pk (a :: A)) .none) (.bo .none (pk (a :: A))) "swap" p row rfl (by omega)
    have t2 : m_Path_turn (row ++ [tD ("swap", p)]) [.tup [.str "both", .tup [.str "none"], (pk (a :: A)).d], pD p, .str "drop"] = .ret (.tup [.str "none"]) (row ++ [tD ("swap", p)] ++ [tD ("drop", p)]) := pturn_ev (.bo .none (pk (a :: A))) .none "drop" p _ (by simp [Kd.here]) (by simp; omega)
    have eb : bunS (a :: A) [] = [] := by rw [bunS_comm]; rfl
    simp only [List.append_assoc, List.cons_append, List.nil_append] at t2
    rw [m_Path_timesN_eq]; unfold b_Path_times
    rw [e0, eb, e0]
    simp [t1, t2, h1, h2, rtimes, tDs, sh]
  | n + 1, f + 2, a :: A, b :: b' :: B, p, row, h, hf, gA, gB, hm, hl, hp => by
    have er : rtimes (n + 1) (a :: A) (b :: b' :: B) = ("spread", []) :: (sh [0] (rtimes n (a :: A) [b]) ++ (sh [1] (rtimes n (a :: A) (b' :: B)) ++ rmerge lexLe (bunS (a :: A) [b]) (bunS (a :: A) (b' :: B)))) := by rw [rtimes]
    have eb : bunS (a :: A) (b :: b' :: B) = (bunS (a :: A) [b]).foldr (ins lexLe) (bunS (a :: A) (b' :: B)) := bunS_cons _ _ _
    rw [er] at hl ⊢
    rw [eb]
    simp only [List.length_cons, List.length_append, sh_len] at h hl
    have hm2 : (a :: A).length * (b' :: B).length ≤ 39 ∧ (a :: A).length * [b].length ≤ 39 ∧ (bunS (a :: A) [b]).length + (bunS (a :: A) (b' :: B)).length ≤ 39 := by
      rw [bunS_len, bunS_len]
      simp only [List.length_cons, List.length_nil, Nat.mul_add] at hm ⊢
      omega
    have i1 := times_ev n f (a :: A) [b] (p ++ [0]) (row ++ [tD ("spread", p)]) (by simp only [List.length_cons, List.length_nil]; omega) (by omega) gA (g7 gB (by simp)) hm2.2.1 (by simp only [List.length_append, List.length_cons, List.length_nil]; omega) (by simp only [List.length_append, List.length_cons, List.length_nil]; omega)
    have i2 := times_ev n f (a :: A) (b' :: B) (p ++ [1]) (row ++ [tD ("spread", p)] ++ tDs (sh (p ++ [0]) (rtimes n (a :: A) [b]))) (by simp only [List.length_cons]; omega) (by omega) gA (g7t gB) hm2.1 (by simp only [List.length_append, List.length_cons, List.length_nil, tDs_len, sh_len]; omega) (by simp only [List.length_append, List.length_cons, List.length_nil]; omega)
    have sv := share_ev f (pk (a :: A)) (bk b) (pk (b' :: B)) _ _ _ _ p row i1 i2 hm2.2.2 (bunS_srt _ _) (bunS_good gA (g7 gB (by simp))) (bunS_good gA (g7t gB)) (by omega) (by omega)
    obtain ⟨s, h1, h2⟩ := hd_pk a A
    have e0 : (pk (b :: b' :: B)).d = .tup [.str "either", (bk b).d, (pk (b' :: B)).d] := rfl
    rw [m_Path_timesN_eq]; unfold b_Path_times
    rw [e0]
    simp [h1, h2, sv]
  | n + 1, f + 2, a :: a' :: A, [b], p, row, h, hf, gA, gB, hm, hl, hp => by
    have er : rtimes (n + 1) (a :: a' :: A) [b] = ("swap", []) :: ("spread", []) :: (sh [0] (rtimes n [b] [a]) ++ (sh [1] (rtimes n [b] (a' :: A)) ++ rmerge lexLe (bunS [b] [a]) (bunS [b] (a' :: A)))) := by rw [rtimes]
    have eb : bunS (a :: a' :: A) [b] = (bunS [b] [a]).foldr (ins lexLe) (bunS [b] (a' :: A)) := by rw [bunS_comm, bunS_cons]
    rw [er] at hl ⊢
    rw [eb]
    simp only [List.length_cons, List.length_append, List.length_nil, sh_len] at h hl
    have hm2 : [b].length * (a' :: A).length ≤ 39 ∧ [b].length * [a].length ≤ 39 ∧ (bunS [b] [a]).length + (bunS [b] (a' :: A)).length ≤ 39 := by
      rw [bunS_len, bunS_len]
      simp only [List.length_cons, List.length_nil] at hm ⊢
      omega
    have i1 := times_ev n f [b] [a] (p ++ [0]) (row ++ [tD ("swap", p)] ++ [tD ("spread", p)]) (by simp only [List.length_cons, List.length_nil]; omega) (by omega) gB (g7 gA (by simp)) hm2.2.1 (by simp only [List.length_append, List.length_cons, List.length_nil]; omega) (by simp only [List.length_append, List.length_cons, List.length_nil]; omega)
    have i2 := times_ev n f [b] (a' :: A) (p ++ [1]) (row ++ [tD ("swap", p)] ++ [tD ("spread", p)] ++ tDs (sh (p ++ [0]) (rtimes n [b] [a]))) (by simp only [List.length_cons, List.length_nil]; omega) (by omega) gB (g7t gA) hm2.1 (by simp only [List.length_append, List.length_cons, List.length_nil, tDs_len, sh_len]; omega) (by simp only [List.length_append, List.length_cons, List.length_nil]; omega)
    have sv := share_ev f (pk [b]) (bk a) (pk (a' :: A)) _ _ _ _ p (row ++ [tD ("swap", p)]) i1 i2 hm2.2.2 (bunS_srt _ _) (bunS_good gB (g7 gA (by simp))) (bunS_good gB (g7t gA)) (by simp only [List.length_append, List.length_cons, List.length_nil]; omega) (by omega)
    obtain ⟨s, h1, h2, h3⟩ := hd_bk b
    have e0 : (pk (a :: a' :: A)).d = .tup [.str "either", (bk a).d, (pk (a' :: A)).d] := rfl
    have e1 : pk [b] = bk b := rfl
    have t1 : m_Path_turn row [.tup [.str "both", .tup [.str "either", (bk a).d, (pk (a' :: A)).d], (bk b).d], pD p, .str "swap"] = .ret (.tup [.str "both", (bk b).d, .tup [.str "either", (bk a).d, (pk (a' :: A)).d]]) (row ++ [tD ("swap", p)]) := pturn_ev (.bo (pk (a :: a' :: A)) (bk b)) (.bo (bk b) (pk (a :: a' :: A))) "swap" p row rfl (by omega)
    rw [m_Path_timesN_eq]; unfold b_Path_times
    rw [e1] at sv ⊢
    rw [e0]
    simp [h1, h2, h3, t1, sv]
    simp [sh_cons, tDs_cons]
  | n + 1, f + 2, [a], [b], p, row, h, hf, gA, gB, hm, hl, hp => by
    obtain ⟨s, h1, h2, h3⟩ := hd_bk a
    obtain ⟨s', h4, h5, h6⟩ := hd_bk b
    have ga := gA a (by simp); have gb := gB b (by simp)
    have mg := bmerge_ev (a := a) (b := b) p row (by omega) ga.1 gb.1 (by omega) (by omega)
    have eb : bunS [a] [b] = [isort ile (a ++ b)] := rfl
    have er : rtimes (n + 1) [a] [b] = rmerge ile a b := by rw [rtimes]
    have e1 : ∀ x, pk [x] = bk x := fun _ => rfl
    rw [m_Path_timesN_eq]; unfold b_Path_times
    rw [eb, er, e1, e1, e1]
    simp [h1, h2, h3, h4, h5, h6, mg]
/-! ## the whole row -/
def Kd.thin (N M : Nat) : Kd → Prop
  | .ei a b => a.thin N M ∧ b.thin N M ∧ a.bun.length + b.bun.length ≤ N ∧ (∀ x ∈ a.bun, x.length ≤ M) ∧ (∀ x ∈ b.bun, x.length ≤ M)
  | .bo a b => a.thin N M ∧ b.thin N M ∧ a.bun.length * b.bun.length ≤ N ∧ a.bun.length + b.bun.length ≤ N + 1 ∧ (∀ x ∈ a.bun, x.length ≤ M) ∧ (∀ x ∈ b.bun, x.length ≤ M)
  | _ => True
theorem Kd.bun_good {k : Kd} (h : ∀ x ∈ k.bun, x.length ≤ 7) : Good7 k.bun := fun x hx => ⟨k.bun_each x hx, h x hx⟩
theorem plainer_ev : ∀ (n : Nat) (k : Kd) (p : List Int) (row : List D), k.dep ≤ n → k.thin 12 7 → row.length + (rplain k).length + 7000 ≤ 16000000 → p.length + n < 700000 →
    m_Path_plainerN n row [k.d, pD p] = .ret (pk k.bun).d (row ++ tDs (sh p (rplain k)))
  | 0, k, _, _, h, _, _, _ => by cases k <;> simp [Kd.dep] at h
  | n + 1, .none, p, row, _, _, _, _ => by rw [m_Path_plainerN_eq]; unfold b_Path_plainer; simp [Kd.d, rplain, tDs, sh, Kd.bun, pk]
  | n + 1, .one, p, row, _, _, _, _ => by rw [m_Path_plainerN_eq]; unfold b_Path_plainer; simp [Kd.d, rplain, tDs, sh, Kd.bun, pk, bk]
  | n + 1, .name i, p, row, _, _, _, _ => by rw [m_Path_plainerN_eq]; unfold b_Path_plainer; simp [Kd.d, rplain, tDs, sh, Kd.bun, pk, bk]
  | n + 1, .ei a b, p, row, hn, ht, hl, hp => by
    simp only [Kd.dep] at hn
    have er : rplain (.ei a b) = sh [0] (rplain a) ++ (sh [1] (rplain b) ++ rmerge lexLe a.bun b.bun) := by rw [rplain]
    rw [er] at hl ⊢
    simp only [List.length_append, sh_len] at hl
    have ia := plainer_ev n a (p ++ [0]) row (by omega) ht.1 (by omega) (by simp only [List.length_append, List.length_cons, List.length_nil]; omega)
    have ib := plainer_ev n b (p ++ [1]) (row ++ tDs (sh (p ++ [0]) (rplain a))) (by omega) ht.2.1 (by simp only [List.length_append, tDs_len, sh_len]; omega) (by simp only [List.length_append, List.length_cons, List.length_nil]; omega)
    have mg := emerge_ev (L := a.bun) (R := b.bun) p (row ++ tDs (sh (p ++ [0]) (rplain a)) ++ tDs (sh (p ++ [1]) (rplain b))) (by have := ht.2.2.1; omega) a.bun_srt (fun x hx => ⟨a.bun_each x hx, by have := ht.2.2.2.1 x hx; omega⟩) (fun x hx => ⟨b.bun_each x hx, by have := ht.2.2.2.2 x hx; omega⟩) (by simp only [List.length_append, tDs_len, sh_len]; omega) (by omega)
    have a0 := add_p p 0 (by omega)
    have a1 := add_p p 1 (by omega)
    have eb : (Kd.ei a b).bun = a.bun.foldr (ins lexLe) b.bun := by
      show isort lexLe (a.bun ++ b.bun) = _
      rw [isort_app, isort_srt lex_ord b.bun_srt]
    rw [m_Path_plainerN_eq]; unfold b_Path_plainer
    rw [eb]
    generalize hR2 : row ++ tDs (sh (p ++ [0]) (rplain a)) = row2 at *
    generalize hR3 : row2 ++ tDs (sh (p ++ [1]) (rplain b)) = row3 at *
    simp [Kd.d, a0, a1, ia, ib, mg]
    rw [← hR3, ← hR2]
    simp [tDs_app, sh_app, sh_sh]
  | n + 1, .bo a b, p, row, hn, ht, hl, hp => by
    simp only [Kd.dep] at hn
    have er : rplain (.bo a b) = sh [0] (rplain a) ++ (sh [1] (rplain b) ++ rtimes (a.bun.length + b.bun.length + 1) a.bun b.bun) := by rw [rplain]
    rw [er] at hl ⊢
    simp only [List.length_append, sh_len] at hl
    have h5 := ht.2.2.1; have h6 := ht.2.2.2.1
    have ia := plainer_ev n a (p ++ [0]) row (by omega) ht.1 (by omega) (by simp only [List.length_append, List.length_cons, List.length_nil]; omega)
    have ib := plainer_ev n b (p ++ [1]) (row ++ tDs (sh (p ++ [0]) (rplain a))) (by omega) ht.2.1 (by simp only [List.length_append, tDs_len, sh_len]; omega) (by simp only [List.length_append, List.length_cons, List.length_nil]; omega)
    have tm : m_Path_times _ _ = _ := times_ev (a.bun.length + b.bun.length + 1) 40 a.bun b.bun p (row ++ tDs (sh (p ++ [0]) (rplain a)) ++ tDs (sh (p ++ [1]) (rplain b))) (by omega) (by omega) (Kd.bun_good ht.2.2.2.2.1) (Kd.bun_good ht.2.2.2.2.2) (by omega) (by simp only [List.length_append, tDs_len, sh_len]; omega) (by omega)
    have a0 := add_p p 0 (by omega)
    have a1 := add_p p 1 (by omega)
    have eb : (Kd.bo a b).bun = bunS a.bun b.bun := rfl
    rw [m_Path_plainerN_eq]; unfold b_Path_plainer
    rw [eb]
    generalize hR2 : row ++ tDs (sh (p ++ [0]) (rplain a)) = row2 at *
    generalize hR3 : row2 ++ tDs (sh (p ++ [1]) (rplain b)) = row3 at *
    simp [Kd.d, a0, a1, ia, ib, tm]
    rw [← hR3, ← hR2]
    simp [tDs_app, sh_app, sh_sh]
theorem rtp_ev (k : Kd) (hd : k.dep ≤ 40) (ht : k.thin 12 7) (hl : (rplain k).length ≤ 15000000) : m_row_to_plain [.dat k.d] = .ret (.own (tDs (rplain k))) := by
  have e : m_Path_plainer _ _ = _ := plainer_ev 40 k [] [] hd ht (by simp; omega) (by simp)
  rw [m_row_to_plain_eq]; unfold b_row_to_plain
  have e2 : pD [] = .tup [] := rfl
  rw [e2, sh_nil, List.nil_append] at e
  simp [e]
end KT

set_option linter.all false
set_option maxRecDepth 100000
set_option maxHeartbeats 4000000
namespace KT
open PySem PySem.Spec PyProof.Rows L2

/-! ## lengths -/
section
variable {α : Type} (le : α → α → Bool)
theorem rsift_path (x : α) : ∀ ys : List α, ∀ t ∈ rsift le x ys, t.2.length ≤ ys.length
  | [], t, h => by cases h
  | [y], t, h => by
    unfold rsift at h
    split at h
    · cases h
    · simp at h; subst h; simp
  | y :: z :: ys, t, h => by
    have ih := rsift_path x (z :: ys)
    unfold rsift at h
    split at h
    · cases h
    · simp only [List.mem_cons, sh, List.mem_map] at h
      rcases h with rfl | rfl | rfl | ⟨u, hu, rfl⟩
      · simp
      · simp
      · simp
      · have := ih u hu
        simp at this ⊢; omega
theorem rmerge_path : ∀ xs ys : List α, ∀ t ∈ rmerge le xs ys, t.2.length ≤ xs.length + ys.length
  | [], ys, t, h => by simp [rmerge] at h; subst h; simp
  | x :: xs, [], t, h => by
    simp [rmerge] at h
    rcases h with rfl | rfl <;> simp
  | [x], y :: ys, t, h => by
    unfold rmerge at h
    have := rsift_path le x (y :: ys) t h
    simp at this ⊢; omega
  | x :: x' :: xs, y :: ys, t, h => by
    have ih := rmerge_path (x' :: xs) (y :: ys)
    have h3 : ((x' :: xs).foldr (ins le) (y :: ys)).length = (x' :: xs).length + (y :: ys).length := by rw [(foldr_ins_perm (y :: ys) (x' :: xs)).length_eq, List.length_append]
    unfold rmerge at h
    rw [List.mem_cons, List.mem_append] at h
    rcases h with rfl | h | h
    · simp
    · obtain ⟨u, hu, rfl⟩ := List.mem_map.mp h
      have := ih u hu
      simp at this ⊢; omega
    · have := rsift_path le x _ t h
      rw [h3] at this
      simp at this ⊢; omega
end
theorem rtimes_path : ∀ (n : Nat) (A B : List (List Int)), Good7 A → Good7 B → A.length * B.length ≤ 12 → ∀ t ∈ rtimes n A B, t.2.length ≤ A.length + B.length + 14
  | 0, A, B, _, _, _, t, h => by simp [rtimes] at h
  | n + 1, [], B, _, _, _, t, h => by simp [rtimes] at h; subst h; simp
  | n + 1, a :: A, [], _, _, _, t, h => by
    simp [rtimes] at h
    rcases h with rfl | rfl <;> simp
  | n + 1, a :: A, b :: b' :: B, gA, gB, hm, t, h => by
    have hm2 : (a :: A).length * (b' :: B).length ≤ 12 ∧ (a :: A).length * [b].length ≤ 12 ∧ (bunS (a :: A) [b]).length + (bunS (a :: A) (b' :: B)).length ≤ 12 := by
      rw [bunS_len, bunS_len]
      simp only [List.length_cons, List.length_nil, Nat.mul_add] at hm ⊢
      omega
    have i1 := rtimes_path n (a :: A) [b] gA (g7 gB (by simp)) hm2.2.1
    have i2 := rtimes_path n (a :: A) (b' :: B) gA (g7t gB) hm2.1
    unfold rtimes at h
    rw [List.mem_cons, List.mem_append, List.mem_append] at h
    rcases h with rfl | h | h | h
    · simp
    · obtain ⟨u, hu, rfl⟩ := List.mem_map.mp h
      have := i1 u hu
      simp at this ⊢; omega
    · obtain ⟨u, hu, rfl⟩ := List.mem_map.mp h
      have := i2 u hu
      simp at this ⊢; omega
    · have := rmerge_path lexLe _ _ t h
      have := hm2.2.2
      simp at this ⊢; omega
  | n + 1, a :: a' :: A, [b], gA, gB, hm, t, h => by
    have hm2 : [b].length * (a' :: A).length ≤ 12 ∧ [b].length * [a].length ≤ 12 ∧ (bunS [b] [a]).length + (bunS [b] (a' :: A)).length ≤ 12 := by
      rw [bunS_len, bunS_len]
      simp only [List.length_cons, List.length_nil] at hm ⊢
      omega
    have i1 := rtimes_path n [b] [a] gB (g7 gA (by simp)) hm2.2.1
    have i2 := rtimes_path n [b] (a' :: A) gB (g7t gA) hm2.1
    unfold rtimes at h
    rw [List.mem_cons, List.mem_cons, List.mem_append, List.mem_append] at h
    rcases h with rfl | rfl | h | h | h
    · simp
    · simp
    · obtain ⟨u, hu, rfl⟩ := List.mem_map.mp h
      have := i1 u hu
      simp at this ⊢; omega
    · obtain ⟨u, hu, rfl⟩ := List.mem_map.mp h
      have := i2 u hu
      simp at this ⊢; omega
    · have := rmerge_path lexLe _ _ t h
      have := hm2.2.2
      simp at this ⊢; omega
  | n + 1, [a], [b], gA, gB, hm, t, h => by
    unfold rtimes at h
    have := rmerge_path ile a b t h
    have := (gA a (by simp)).2; have := (gB b (by simp)).2
    simp; omega
theorem rtimes_len : ∀ (n : Nat) (A B : List (List Int)), Good7 A → Good7 B → A.length * B.length ≤ 12 → (rtimes n A B).length ≤ 2 ∨ (rtimes n A B).length + 2000 ≤ 4000 * (A.length * B.length)
  | 0, A, B, _, _, _ => by simp [rtimes]
  | n + 1, [], B, _, _, _ => by simp [rtimes]
  | n + 1, a :: A, [], _, _, _ => by simp [rtimes]
  | n + 1, a :: A, b :: b' :: B, gA, gB, hm => by
    have hm2 : (a :: A).length * (b' :: B).length ≤ 12 ∧ (a :: A).length * [b].length ≤ 12 ∧ (bunS (a :: A) [b]).length + (bunS (a :: A) (b' :: B)).length ≤ 12 := by
      rw [bunS_len, bunS_len]
      simp only [List.length_cons, List.length_nil, Nat.mul_add] at hm ⊢
      omega
    have i1 := rtimes_len n (a :: A) [b] gA (g7 gB (by simp)) hm2.2.1
    have i2 := rtimes_len n (a :: A) (b' :: B) gA (g7t gB) hm2.1
    have rm := rmerge_len (le := lexLe) (bunS (a :: A) [b]) (bunS (a :: A) (b' :: B)) (by omega)
    have h3 := hm2.2.2
    right
    unfold rtimes
    have e : (a :: A).length * (b :: b' :: B).length = (a :: A).length * [b].length + (a :: A).length * (b' :: B).length := by
      simp only [List.length_cons, List.length_nil, Nat.mul_add]; omega
    have p1 : 1 ≤ (a :: A).length * [b].length := by simp
    have p2 : 1 ≤ (a :: A).length * (b' :: B).length := Nat.mul_pos (by simp) (by simp)
    rw [e]
    simp only [List.length_cons (a := ("spread", ([] : List Int))), List.length_append, sh_len]
    omega
  | n + 1, a :: a' :: A, [b], gA, gB, hm => by
    have hm2 : [b].length * (a' :: A).length ≤ 12 ∧ [b].length * [a].length ≤ 12 ∧ (bunS [b] [a]).length + (bunS [b] (a' :: A)).length ≤ 12 := by
      rw [bunS_len, bunS_len]
      simp only [List.length_cons, List.length_nil] at hm ⊢
      omega
    have i1 := rtimes_len n [b] [a] gB (g7 gA (by simp)) hm2.2.1
    have i2 := rtimes_len n [b] (a' :: A) gB (g7t gA) hm2.1
    have rm := rmerge_len (le := lexLe) (bunS [b] [a]) (bunS [b] (a' :: A)) (by omega)
    have h3 := hm2.2.2
    right
    unfold rtimes
    simp only [List.length_cons, List.length_nil, List.length_append, sh_len] at *
    omega
  | n + 1, [a], [b], gA, gB, hm => by
    have ga := (gA a (by simp)).2; have gb := (gB b (by simp)).2
    have rm := rmerge_len (le := ile) a b (by omega)
    right
    unfold rtimes
    simp; omega
def Kd.two (Q : Nat) : Kd → Prop
  | .ei a b => a.two Q ∧ b.two Q ∧ a.bun.length + b.bun.length ≤ Q
  | .bo a b => a.two Q ∧ b.two Q ∧ a.bun.length + b.bun.length + 14 ≤ Q
  | _ => True
theorem rplain_path {Q : Nat} : ∀ k : Kd, k.thin 12 7 → k.two Q → ∀ t ∈ rplain k, t.2.length ≤ k.dep + Q
  | .none, _, _, t, h => by simp [rplain] at h
  | .one, _, _, t, h => by simp [rplain] at h
  | .name _, _, _, t, h => by simp [rplain] at h
  | .ei a b, ht, h2, t, h => by
    have ia := rplain_path a ht.1 h2.1; have ib := rplain_path b ht.2.1 h2.2.1
    unfold rplain at h
    rw [List.mem_append, List.mem_append] at h
    simp only [Kd.dep]
    rcases h with h | h | h
    · obtain ⟨u, hu, rfl⟩ := List.mem_map.mp h
      have := ia u hu
      simp; omega
    · obtain ⟨u, hu, rfl⟩ := List.mem_map.mp h
      have := ib u hu
      simp; omega
    · have := rmerge_path lexLe _ _ t h
      have := h2.2.2
      omega
  | .bo a b, ht, h2, t, h => by
    have ia := rplain_path a ht.1 h2.1; have ib := rplain_path b ht.2.1 h2.2.1
    unfold rplain at h
    rw [List.mem_append, List.mem_append] at h
    simp only [Kd.dep]
    rcases h with h | h | h
    · obtain ⟨u, hu, rfl⟩ := List.mem_map.mp h
      have := ia u hu
      simp; omega
    · obtain ⟨u, hu, rfl⟩ := List.mem_map.mp h
      have := ib u hu
      simp; omega
    · have := rtimes_path _ _ _ (Kd.bun_good ht.2.2.2.2.1) (Kd.bun_good ht.2.2.2.2.2) ht.2.2.1 t h
      have := h2.2.2
      omega
theorem rplain_len : ∀ k : Kd, k.thin 12 7 → (rplain k).length + 48002 ≤ 48002 * k.lv
  | .none, _ => by simp [rplain, Kd.lv]
  | .one, _ => by simp [rplain, Kd.lv]
  | .name _, _ => by simp [rplain, Kd.lv]
  | .ei a b, ht => by
    have ia := rplain_len a ht.1; have ib := rplain_len b ht.2.1
    have h3 := ht.2.2.1
    have rm := rmerge_len (le := lexLe) a.bun b.bun (by omega)
    unfold rplain
    simp only [List.length_append, sh_len, Kd.lv]
    omega
  | .bo a b, ht => by
    have ia := rplain_len a ht.1; have ib := rplain_len b ht.2.1
    have h3 := ht.2.2.1
    have rm := rtimes_len (a.bun.length + b.bun.length + 1) a.bun b.bun (Kd.bun_good ht.2.2.2.2.1) (Kd.bun_good ht.2.2.2.2.2) ht.2.2.1
    unfold rplain
    simp only [List.length_append, sh_len, Kd.lv]
    omega
/-! ## the kinds that the law draws -/
def fB (l : Nat) : Nat := [0, 1, 2, 3, 4, 6, 9, 12].getD l 0
theorem fB_ok : ∀ a b : Fin 8, 1 ≤ a.val → 1 ≤ b.val → a.val + b.val ≤ 7 → fB a.val + fB b.val ≤ fB (a.val + b.val) ∧ fB a.val * fB b.val ≤ fB (a.val + b.val) := by decide
theorem fB_le : ∀ a : Fin 8, fB a.val ≤ 12 := by decide
theorem fB_pair {a b : Nat} (ha : 1 ≤ a) (hb : 1 ≤ b) (h : a + b ≤ 7) : fB a + fB b ≤ fB (a + b) ∧ fB a * fB b ≤ fB (a + b) ∧ fB (a + b) ≤ 12 :=
  ⟨(fB_ok ⟨a, by omega⟩ ⟨b, by omega⟩ ha hb h).1, (fB_ok ⟨a, by omega⟩ ⟨b, by omega⟩ ha hb h).2, fB_le ⟨a + b, by omega⟩⟩
theorem bun_fB : ∀ k : Kd, k.lv ≤ 7 → k.bun.length ≤ fB k.lv
  | .none, _ => by simp [Kd.bun]
  | .one, _ => by simp [Kd.bun, Kd.lv, fB]
  | .name _, _ => by simp [Kd.bun, Kd.lv, fB]
  | .ei a b, h => by
    simp only [Kd.lv] at h
    have pa := a.lv_pos; have pb := b.lv_pos
    have ia := bun_fB a (by omega); have ib := bun_fB b (by omega)
    have := (fB_pair pa pb h).1
    simp only [Kd.bun, isort_len, List.length_append, Kd.lv]; omega
  | .bo a b, h => by
    simp only [Kd.lv] at h
    have pa := a.lv_pos; have pb := b.lv_pos
    have ia := bun_fB a (by omega); have ib := bun_fB b (by omega)
    have := (fB_pair pa pb h).2.1
    have := Nat.mul_le_mul ia ib
    simp only [Kd.bun, bunS_len, Kd.lv]; omega
theorem small_ok : ∀ k : Kd, k.lv ≤ 7 → k.thin 12 7 ∧ k.two 27
  | .none, _ => ⟨trivial, trivial⟩
  | .one, _ => ⟨trivial, trivial⟩
  | .name _, _ => ⟨trivial, trivial⟩
  | .ei a b, h => by
    simp only [Kd.lv] at h
    have pa := a.lv_pos; have pb := b.lv_pos
    obtain ⟨t1, u1⟩ := small_ok a (by omega)
    obtain ⟨t2, u2⟩ := small_ok b (by omega)
    have ia := bun_fB a (by omega); have ib := bun_fB b (by omega)
    have f := fB_pair pa pb h
    exact ⟨⟨t1, t2, by omega, fun x hx => by have := a.bun_row x hx; omega, fun x hx => by have := b.bun_row x hx; omega⟩, u1, u2, by omega⟩
  | .bo a b, h => by
    simp only [Kd.lv] at h
    have pa := a.lv_pos; have pb := b.lv_pos
    obtain ⟨t1, u1⟩ := small_ok a (by omega)
    obtain ⟨t2, u2⟩ := small_ok b (by omega)
    have ia := bun_fB a (by omega); have ib := bun_fB b (by omega)
    have f := fB_pair pa pb h
    have := Nat.mul_le_mul ia ib
    exact ⟨⟨t1, t2, by omega, by omega, fun x hx => by have := a.bun_row x hx; omega, fun x hx => by have := b.bun_row x hx; omega⟩, u1, u2, by omega⟩
theorem bk_ok : ∀ r : List Int, r.length ≤ 7 → (bk r).thin 12 7 ∧ (bk r).two 16
  | [], _ => ⟨trivial, trivial⟩
  | [i], _ => ⟨trivial, trivial⟩
  | i :: j :: r, h => by
    simp only [List.length_cons] at h
    obtain ⟨t1, u1⟩ := bk_ok (j :: r) (by simp; omega)
    have e : (bk (j :: r)).bun = [isort ile (j :: r)] := bk_bun _
    have e1 : (Kd.name i).bun = [[i]] := rfl
    refine ⟨⟨trivial, t1, ?_, ?_, ?_, ?_⟩, trivial, u1, ?_⟩
    · rw [e, e1]; simp
    · rw [e, e1]; simp
    · rw [e1]; intro x hx; simp at hx; subst hx; simp
    · rw [e]; intro x hx; simp at hx; subst hx; rw [isort_len]; simp; omega
    · rw [e, e1]; simp
theorem pk_ok : ∀ rows : List (List Int), rows.length ≤ 12 → Good7 rows → (pk rows).thin 12 7 ∧ (pk rows).two 16 ∧ (pk rows).dep ≤ rows.length + 8
  | [], _, _ => ⟨trivial, trivial, by simp [pk, Kd.dep]⟩
  | [x], _, h => by
    have hx := (h x (by simp)).2
    obtain ⟨t1, u1⟩ := bk_ok x hx
    refine ⟨t1, u1, ?_⟩
    have := bk_dep x
    show (bk x).dep ≤ _
    simp; omega
  | x :: y :: r, hl, h => by
    simp only [List.length_cons] at hl
    have hx := h x (by simp)
    obtain ⟨t1, u1⟩ := bk_ok x hx.2
    obtain ⟨t2, u2, d2⟩ := pk_ok (y :: r) (by simp; omega) (g7t h)
    have e : (bk x).bun = [x] := by rw [bk_bun, isort_srt ile_ord hx.1]
    have e2 : (pk (y :: r)).bun = isort lexLe (y :: r) := pk_bun _ fun z hz => (g7t h z hz).1
    refine ⟨⟨t1, t2, ?_, ?_, ?_⟩, ⟨u1, u2, ?_⟩, ?_⟩
    · rw [e, e2, isort_len]; simp; omega
    · rw [e]; intro z hz; simp at hz; subst hz; exact hx.2
    · rw [e2]; intro z hz; exact (g7t h z (isort_mem.mp hz)).2
    · rw [e, e2, isort_len]; simp; omega
    · have := bk_dep x
      show max (bk x).dep (pk (y :: r)).dep + 1 ≤ _
      simp only [List.length_cons] at d2 ⊢; omega
/-! ## gone -/
abbrev g10I : SF := sSeq (sIf (cOr (cOf (eTwo kNotIn (eVar 4) (eTup (aCons (eC (.int 0)) (aCons (eC (.int 1)) aNil))))) (cOf (eTwo kLt (eCB kLen (aCons (eVar 3) aNil)) (eC (.int 3))))) (sRet (eC .non)) sNext) (sAsg 3 (eTwo kIx (eVar 3) (eTwo kAdd (eC (.int 1)) (eVar 4))))
theorem g10_in (a b c m : Option DV) : ∀ (p : List Int) (k t : Kd) (x : Option DV), k.at p = some t → ∃ x', loop (bName 4) g10I (p.map D.int) [a, b, c, some (.dat k.d), x, m] = .nx [a, b, c, some (.dat t.d), x', m]
  | [], k, t, x, h => by rw [Kd.at_nil] at h; cases h; exact ⟨x, rfl⟩
  | s :: p, k, t, x, h => by
    have st : ∃ q : Kd, q.at p = some t ∧ g10I [a, b, c, some (.dat k.d), some (.dat (.int s)), m] = .nx [a, b, c, some (.dat q.d), some (.dat (.int s)), m] := by
      cases k with
      | none => cases h
      | one => cases h
      | name _ => cases h
      | ei u v =>
        simp only [Kd.at] at h
        by_cases e0 : s = 0
        · rw [if_pos e0] at h; subst e0; exact ⟨u, h, by simp [Kd.d]⟩
        · rw [if_neg e0] at h
          by_cases e1 : s = 1
          · rw [if_pos e1] at h; subst e1; exact ⟨v, h, by simp [Kd.d]⟩
          · rw [if_neg e1] at h; cases h
      | bo u v =>
        simp only [Kd.at] at h
        by_cases e0 : s = 0
        · rw [if_pos e0] at h; subst e0; exact ⟨u, h, by simp [Kd.d]⟩
        · rw [if_neg e0] at h
          by_cases e1 : s = 1
          · rw [if_pos e1] at h; subst e1; exact ⟨v, h, by simp [Kd.d]⟩
          · rw [if_neg e1] at h; cases h
    obtain ⟨q, hq, e⟩ := st
    obtain ⟨x', e2⟩ := g10_in a b c m p q t (some (.dat (.int s))) hq
    refine ⟨x', ?_⟩
    rw [List.map_cons, loop_cons]
    simp only [bName_e, List.set_cons_succ, List.set_cons_zero, e, e2]
theorem tD_whole (w : String) (p : List Int) (h : p.length < 1000) : m_law_whole_thing [.dat (tD (w, p))] = .ret (.dat (.bl true)) :=
  whole_thing_ev _ (by simp [tD, D.pl, D.pls, pD_pl]) (by simp [tD, D.nd, D.nds, pD, nds_ints]; omega)
abbrev g10B (gw gh gp : FF) : SF := sSeq (sIf (cOr (cNot (cOf (eOne (kIsi "tuple") (eVar 2)))) (cOr (cOf (eTwo kNe (eCB kLen (aCons (eVar 2) aNil)) (eC (.int 2)))) (cNot (cOf (eOne (kIsi "tuple") (eTwo kIx (eVar 2) (eC (.int 1)))))))) (sRet (eC .non)) sNext) (sSeq (sIf (cNot (cOf (eCall gw (aCons (eVar 2) aNil)))) (sRet (eC .non)) sNext) (sSeq (sAsg 3 (eVar 0)) (sSeq (sForE (eTwo kIx (eVar 2) (eC (.int 1))) (bName 4) g10I) (sSeq (sAsg 5 (eCall gh (aCons (eVar 3) (aCons (eTwo kIx (eVar 2) (eC (.int 0))) aNil)))) (sSeq (sIf (cOf (eTwo kIs (eVar 5) (eC .non))) (sRet (eC .non)) sNext) (sAsg 0 (eCall gp (aCons (eVar 0) (aCons (eTwo kIx (eVar 2) (eC (.int 1))) (aCons (eVar 5) aNil))))))))))
theorem g10_loop (b : Option DV) : ∀ (r : Row) (k q : Kd) (x y z m : Option DV), go k r = some q → (∀ t ∈ r, t.2.length < 40) → ∃ x' y' z' m', loop (bName 2) (g10B m_law_whole_thing m_law_here m_law_put) (tDs r) [some (.dat k.d), b, x, y, z, m] = .nx [some (.dat q.d), b, x', y', z', m']
  | [], k, q, x, y, z, m, h, _ => by cases h; exact ⟨x, y, z, m, rfl⟩
  | (w, p) :: r, k, q, x, y, z, m, h, hp => by
    unfold go at h
    cases e1 : k.turn w p with
    | none => simp only [e1] at h; cases h
    | some k1 =>
      simp only [e1] at h
      have hp1 := hp (w, p) (by simp)
      have hs : ∃ t u, k.at p = some t ∧ t.here w = some u ∧ k1 = k.put p u := by
        unfold Kd.turn at e1
        cases e2 : k.at p with
        | none => rw [e2] at e1; cases e1
        | some t =>
          rw [e2] at e1
          obtain ⟨u, h1, h2⟩ := Option.map_eq_some_iff.mp e1
          exact ⟨t, u, rfl, h1, h2.symm⟩
      obtain ⟨t, u, h1, h2, rfl⟩ := hs
      obtain ⟨z1, ei⟩ := g10_in (some (.dat k.d)) b (some (.dat (tD (w, p)))) m p k t z h1
      have eh := here_ev t w
      rw [h2] at eh
      simp only [oD] at eh
      have ep : m_law_put _ = _ := put_ev 40 p k t u hp1 h1
      have ew := tD_whole w p (by simp only at hp1; omega)
      obtain ⟨us, eu, _⟩ := u.d_len
      obtain ⟨x', y', z', m', e⟩ := g10_loop b r (k.put p u) q (some (.dat (tD (w, p)))) (some (.dat t.d)) z1 (some (.dat u.d)) h (fun t ht => hp t (List.mem_cons_of_mem _ ht))
      refine ⟨x', y', z', m', ?_⟩
      rw [tDs_cons, loop_cons]
      have st : g10B m_law_whole_thing m_law_here m_law_put [some (.dat k.d), b, some (.dat (tD (w, p))), y, z, m] = .nx [some (.dat (k.put p u).d), b, some (.dat (tD (w, p))), some (.dat t.d), z1, some (.dat u.d)] := by
        have et : tD (w, p) = .tup [.str w, .tup (p.map D.int)] := rfl
        have ep2 : pD p = .tup (p.map D.int) := rfl
        rw [et] at ei ew ⊢
        rw [ep2, eu] at ep
        rw [eu] at eh ⊢
        simp [isiT, ew, ei, eh, ep]
      simp only [bName_e, List.set_cons_succ, List.set_cons_zero, st, e]
theorem gone10_ev {k q : Kd} {r : Row} (h : go k r = some q) (hp : ∀ t ∈ r, t.2.length < 40) : m_law_gone_k10 [.dat k.d, .bor (tDs r)] = .ret (.dat q.d) := by
  rw [m_law_gone_k10_eq]; unfold b_law_gone_k10
  obtain ⟨x', y', z', m', e⟩ := g10_loop (some (.bor (tDs r))) r k q none none none none h hp
  simp [isiT, e]
theorem kNe_kk (a b : Kd) (h : a.dep ≤ 180) : kNe (.dat a.d) (.dat b.d) = .ok (.dat (.bl (!decide (a.d = b.d)))) := by
  rw [kNe_dd _ _ (by have := a.d_dep; omega), D.deq_eq a.pl b.pl]
theorem kEq_kk (a b : Kd) (h : a.dep ≤ 180) : kEq (.dat a.d) (.dat b.d) = .ok (.dat (.bl (decide (a.d = b.d)))) := by
  rw [kEq_dd _ _ (by have := a.d_dep; omega), D.deq_eq a.pl b.pl]
theorem law10 (ns : List Int) : m_law_k10 [.scr (ns.map D.int)] = .ret (.dat (.bl true)) := by
  rw [m_law_k10_eq]
  unfold b_law_k10
  have c0 : m_law_cell [.scr (ns.map D.int), .dat (.int 0)] = .ret (.dat (.int (cellI ns 0))) := cell_ev ns 0
  have c1 : m_law_cell [.scr (ns.map D.int), .dat (.int 1)] = .ret (.dat (.int (cellI ns 1))) := cell_ev ns 1
  obtain ⟨k, kl, kok, ek⟩ := kindL (cellI ns 0) (cellI ns 1) 1 7 (by decide) (by decide)
  generalize cellI ns 0 = u at c0 ek
  generalize cellI ns 1 = v at c1 ek
  have hd := k.dep_lv
  obtain ⟨t1, u1⟩ := small_ok k (by omega)
  have bl : k.bun.length ≤ 12 := by
    have h1 := bun_fB k (by omega)
    have h2 := fB_le ⟨k.lv, by omega⟩
    simp only at h2; omega
  have g7k : Good7 k.bun := fun x hx => ⟨k.bun_each x hx, by have := k.bun_row x hx; omega⟩
  obtain ⟨t2, u2, d2⟩ := pk_ok k.bun bl g7k
  have e2 : m_law_bundles _ = _ := lbundles_ev 40 k (by omega) (by omega) (k.fits_lv (by omega))
  have e3 := lplain_ev k.bun (by omega) (fun r hr => by have := (g7k r hr).2; omega)
  have l1 := rplain_len k t1
  have r1 := rtp_ev k (by omega) t1 (by omega)
  have p1 := rplain_path k t1 u1
  have o1 := gone10_ev (go_plain k) (fun t ht => by have := p1 t ht; omega)
  obtain ⟨_, _, lv2⟩ := pk_fits (N := 12) (M := 7) k.bun bl (fun r hr => (g7k r hr).2)
  have l2 := rplain_len (pk k.bun) t2
  have r2 := rtp_ev (pk k.bun) (by omega) t2 (by omega)
  have p2 := rplain_path (pk k.bun) t2 u2
  have o2 := gone10_ev (go_plain (pk k.bun)) (fun t ht => by have := p2 t ht; omega)
  rw [pk_bun k.bun (fun x hx => k.bun_each x hx), isort_srt lex_ord k.bun_srt] at o2
  have ne := kNe_kk (pk k.bun) (pk k.bun) (by omega)
  have eq := kEq_kk (pk k.bun) (pk k.bun) (by omega)
  rw [decide_eq_true rfl] at ne eq
  have rg : rangeD 0 2 = [.int 0, .int 1] := rfl
  have ll : (tDs (rplain k)).length < 16777216 := by rw [tDs_len]; omega
  generalize tDs (rplain k) = R at *
  generalize tDs (rplain (pk k.bun)) = S at *
  obtain ⟨ds, e4⟩ := (show ∃ ds, (pk k.bun).d = .tup ds by obtain ⟨ds, h, _⟩ := (pk k.bun).d_len; exact ⟨ds, h⟩)
  obtain ⟨es, e5⟩ := (show ∃ ds, k.d = .tup ds by obtain ⟨ds, h, _⟩ := k.d_len; exact ⟨ds, h⟩)
  rw [e4] at e3 o1 r2 o2 ne eq
  rw [e5] at ek e2 r1 o1
  simp [c0, c1, ek, e2, e3, r1, o1, r2, o2, ne, eq, kMod_i, rg, loop_cons, ll]
end KT

set_option linter.all false
set_option maxRecDepth 100000
set_option maxHeartbeats 4000000
namespace KT
open PySem PySem.Spec PyProof.Rows L2

/-! ## keys -/
mutual
theorem nk_inj : ∀ a b : D, a.pl = true → b.pl = true → nk a = nk b → a = b
  | .non, b, h, _, _ => by simp [D.pl] at h
  | .bl _, b, h, _, _ => by simp [D.pl] at h
  | .int i, b, _, hb, e => by
    cases b with
    | int j => simp only [nk] at e; injection e with e; rw [e]
    | non => simp [D.pl] at hb
    | bl _ => simp [D.pl] at hb
    | str _ => simp [nk] at e
    | tup _ => simp [nk] at e
  | .str s, b, _, hb, e => by
    cases b with
    | str t => simp only [nk] at e; injection e with e; rw [str_inj e]
    | non => simp [D.pl] at hb
    | bl _ => simp [D.pl] at hb
    | int _ => simp [nk] at e
    | tup _ => simp [nk] at e
  | .tup xs, b, ha, hb, e => by
    cases b with
    | tup ys => simp only [nk] at e; injection e with e; rw [nks_inj xs ys (by simpa [D.pl] using ha) (by simpa [D.pl] using hb) e]
    | non => simp [D.pl] at hb
    | bl _ => simp [D.pl] at hb
    | int _ => simp [nk] at e
    | str _ => simp [nk] at e
theorem nks_inj : ∀ a b : List D, D.pls a = true → D.pls b = true → nks a = nks b → a = b
  | [], [], _, _, _ => rfl
  | [], _ :: _, _, _, e => by simp [nks] at e
  | _ :: _, [], _, _, e => by simp [nks] at e
  | x :: xs, y :: ys, ha, hb, e => by
    simp only [D.pls, Bool.and_eq_true] at ha hb
    simp only [nks] at e
    injection e with e1 e2
    rw [nk_inj x y ha.1 hb.1 e1, nks_inj xs ys ha.2 hb.2 e2]
end
mutual
theorem nk_depth : ∀ a : D, (nk a).depth = a.dep
  | .non => rfl
  | .bl _ => rfl
  | .int _ => rfl
  | .str _ => rfl
  | .tup xs => by simp only [nk, NestedKey.depth, D.dep, nks_depth xs]
theorem nks_depth : ∀ a : List D, NestedKey.depthAll (nks a) = D.deps a
  | [] => rfl
  | x :: xs => by simp only [nks, NestedKey.depthAll, D.deps, nk_depth x, nks_depth xs]
end
theorem nk_mem {d : D} {ks : List D} (hd : d.pl = true) (hk : ∀ x ∈ ks, x.pl = true) : nk d ∈ ks.map nk ↔ d ∈ ks := by
  rw [List.mem_map]
  constructor
  · rintro ⟨x, hx, e⟩
    rw [← nk_inj x d (hk x hx) hd e]; exact hx
  · exact fun h => ⟨d, h, rfl⟩
/-! ## things -/
theorem nmax_le {a b c : Nat} (h : a ≤ c) (g : b ≤ c) : Nat.max a b ≤ c := Nat.max_le.mpr ⟨h, g⟩
theorem isT_dep (sz : List Int) : ∀ (k : Kd) (d : D), k.isT sz d = true → d.dep ≤ k.dep
  | .none, d, h => by simp [Kd.isT] at h
  | .one, d, h => by rw [isT_one.mp h]; simp [D.dep, D.deps, Kd.dep]
  | .name i, d, h => by
    cases d <;> simp [Kd.isT] at h
    simp [D.dep]
  | .ei a b, d, h => by
    simp only [Kd.dep]
    rcases isT_ei.mp h with ⟨y, rfl, hy⟩ | ⟨y, rfl, hy⟩
    · have := isT_dep sz a y hy
      simp only [D.dep, D.deps]
      exact Nat.succ_le_succ (nmax_le (Nat.zero_le _) (nmax_le (by omega) (Nat.zero_le _)))
    · have := isT_dep sz b y hy
      simp only [D.dep, D.deps]
      exact Nat.succ_le_succ (nmax_le (Nat.zero_le _) (nmax_le (by omega) (Nat.zero_le _)))
  | .bo a b, d, h => by
    simp only [Kd.dep]
    obtain ⟨x, y, rfl, hx, hy⟩ := isT_bo.mp h
    have := isT_dep sz a x hx; have := isT_dep sz b y hy
    simp only [D.dep, D.deps]
    exact Nat.succ_le_succ (nmax_le (by omega) (nmax_le (by omega) (Nat.zero_le _)))
theorem mem_things {sz : List Int} : ∀ (k : Kd) (d : D), d ∈ k.things sz ↔ k.isT sz d = true
  | .none, d => by simp [Kd.things, Kd.isT]
  | .one, d => by simp [Kd.things, Kd.isT]
  | .name i, d => by
    simp only [Kd.things, rangeD, List.mem_map, List.mem_range]
    constructor
    · rintro ⟨j, hj, rfl⟩
      simp only [Kd.isT, Bool.and_eq_true, decide_eq_true_eq]; omega
    · intro h
      cases d <;> simp [Kd.isT] at h
      rename_i n
      exact ⟨n.toNat, by simp; omega, by congr 1; omega⟩
  | .ei a b, d => by
    simp only [Kd.things, List.mem_append, List.mem_map, isT_ei, mem_things a, mem_things b]
    constructor
    · rintro (⟨y, h, rfl⟩ | ⟨y, h, rfl⟩)
      · exact .inl ⟨y, rfl, h⟩
      · exact .inr ⟨y, rfl, h⟩
    · rintro (⟨y, rfl, h⟩ | ⟨y, rfl, h⟩)
      · exact .inl ⟨y, h, rfl⟩
      · exact .inr ⟨y, h, rfl⟩
  | .bo a b, d => by
    simp only [Kd.things, List.mem_flatMap, List.mem_map, isT_bo]
    constructor
    · rintro ⟨x, hx, y, hy, rfl⟩
      exact ⟨x, y, rfl, (mem_things a x).mp hx, (mem_things b y).mp hy⟩
    · rintro ⟨x, y, rfl, hx, hy⟩
      exact ⟨x, (mem_things a x).mpr hx, y, (mem_things b y).mpr hy, rfl⟩
theorem things_nodup {sz : List Int} (h : SzOk sz (2 ^ 20)) (k : Kd) : (k.things sz).Nodup := by
  have e : (k.things sz).map (k.num sz) = (List.range (k.things sz).length).map fun (i : Nat) => (i : Int) := by
    apply List.ext_getElem?
    intro i
    rw [List.getElem?_map, List.getElem?_map]
    by_cases hi : i < (k.things sz).length
    · have hc : (i : Int) < k.cnt sz := by rw [← things_len h k]; omega
      rw [things_get h k i hc, List.getElem?_range hi]
      simp only [Option.map_some]
      rw [(nth_isT h k i (by omega) hc).2]
    · rw [List.getElem?_eq_none (by omega), List.getElem?_eq_none (by simp; omega)]; rfl
  have nd : ((k.things sz).map (k.num sz)).Nodup := by
    rw [e]
    rw [List.Nodup, List.pairwise_map]
    exact List.nodup_range.imp fun hne z => hne (by omega)
  rw [List.Nodup, List.pairwise_map] at nd
  exact nd.imp fun hne z => hne (by rw [z])
/-- keys that a thing's kind gives -/
theorem okM_isT {sz : List Int} {r : Kd} {d : D} {ks : List D} (hd : r.isT sz d = true) (hk : ∀ x ∈ ks, r.isT sz x = true) (h8 : r.dep ≤ 8) : okM ks d = true := by
  have hdep := isT_dep sz r d hd
  have tup : ∀ x : D, (∀ i, r ≠ .name i) → r.isT sz x = true → ∃ ds, x = .tup ds := by
    intro x hr hx
    cases r with
    | none => simp [Kd.isT] at hx
    | one => exact ⟨_, isT_one.mp hx⟩
    | name i => exact absurd rfl (hr i)
    | ei a b => rcases isT_ei.mp hx with ⟨y, rfl, _⟩ | ⟨y, rfl, _⟩ <;> exact ⟨_, rfl⟩
    | bo a b => obtain ⟨y, z, rfl, _⟩ := isT_bo.mp hx; exact ⟨_, rfl⟩
  by_cases hr : ∃ i, r = .name i
  · obtain ⟨i, rfl⟩ := hr
    have int : ∀ x : D, (Kd.name i).isT sz x = true → ∃ n, x = .int n := by
      intro x hx
      cases x <;> simp [Kd.isT] at hx
      exact ⟨_, rfl⟩
    obtain ⟨n, rfl⟩ := int d hd
    show ks.all isIntD = true
    rw [List.all_eq_true]
    intro x hx
    obtain ⟨m, rfl⟩ := int x (hk x hx)
    rfl
  · have hr : ∀ i, r ≠ .name i := fun i z => hr ⟨i, z⟩
    obtain ⟨ds, rfl⟩ := tup d hr hd
    show (ks.all isTupD && decide ((nk (.tup ds)).depth ≤ 8)) = true
    rw [Bool.and_eq_true, List.all_eq_true, decide_eq_true_eq, nk_depth]
    refine ⟨fun x hx => ?_, by omega⟩
    obtain ⟨es, rfl⟩ := tup x hr (hk x hx)
    rfl
/-! ## a turning keeps -/
theorem Kd.here_cnt {k q : Kd} {w : String} (h : k.here w = some q) (sz : List Int) : q.cnt sz = k.cnt sz := by
  rcases here_cases h with ⟨_, ⟨a, b, rfl, rfl⟩ | ⟨a, b, rfl, rfl⟩⟩ | ⟨_, ⟨a, b, c, rfl, rfl⟩ | ⟨a, b, c, rfl, rfl⟩⟩ | ⟨_, a, b, c, rfl, rfl⟩ | ⟨_, ⟨b, rfl, rfl⟩ | ⟨b, rfl, rfl⟩ | ⟨b, rfl, rfl⟩⟩
  all_goals simp only [Kd.cnt]
  · omega
  · exact Int.mul_comm _ _
  · omega
  · exact (Int.mul_assoc _ _ _).symm
  · exact (Int.mul_add _ _ _).symm
  · simp
  · simp
  · simp
theorem Kd.put_cnt (sz : List Int) : ∀ (p : List Int) (k s q : Kd), k.at p = some s → q.cnt sz = s.cnt sz → (k.put p q).cnt sz = k.cnt sz
  | [], k, s, q, h, e => by rw [Kd.at_nil] at h; cases h; rw [Kd.put_nil]; exact e
  | i :: p, k, s, q, h, e => by
    obtain ⟨hi, ⟨a, b, rfl, h2⟩ | ⟨a, b, rfl, h2⟩⟩ := at_cases h
    · rcases hi with rfl | rfl
      · simp only [if_true] at h2
        rw [put_ei0]; simp only [Kd.cnt, Kd.put_cnt sz p a s q h2 e]
      · rw [if_neg (by decide)] at h2
        rw [put_ei1]; simp only [Kd.cnt, Kd.put_cnt sz p b s q h2 e]
    · rcases hi with rfl | rfl
      · simp only [if_true] at h2
        rw [put_bo0]; simp only [Kd.cnt, Kd.put_cnt sz p a s q h2 e]
      · rw [if_neg (by decide)] at h2
        rw [put_bo1]; simp only [Kd.cnt, Kd.put_cnt sz p b s q h2 e]
theorem Kd.turn_cnt {k r : Kd} {w : String} {p : List Int} (h : k.turn w p = some r) (sz : List Int) : r.cnt sz = k.cnt sz := by
  obtain ⟨s, q, h1, h2, rfl⟩ := turn_cases h
  exact Kd.put_cnt sz p k s q h1 (Kd.here_cnt h2 sz)
theorem Kd.put_ok : ∀ (p : List Int) (k s q : Kd), k.at p = some s → k.ok → (s.ok → q.ok) → (k.put p q).ok
  | [], k, s, q, h, hk, e => by rw [Kd.at_nil] at h; cases h; rw [Kd.put_nil]; exact e hk
  | i :: p, k, s, q, h, hk, e => by
    obtain ⟨hi, ⟨a, b, rfl, h2⟩ | ⟨a, b, rfl, h2⟩⟩ := at_cases h
    · rcases hi with rfl | rfl
      · simp only [if_true] at h2
        rw [put_ei0]; exact ⟨Kd.put_ok p a s q h2 hk.1 e, hk.2⟩
      · rw [if_neg (by decide)] at h2
        rw [put_ei1]; exact ⟨hk.1, Kd.put_ok p b s q h2 hk.2 e⟩
    · rcases hi with rfl | rfl
      · simp only [if_true] at h2
        rw [put_bo0]; exact ⟨Kd.put_ok p a s q h2 hk.1 e, hk.2⟩
      · rw [if_neg (by decide)] at h2
        rw [put_bo1]; exact ⟨hk.1, Kd.put_ok p b s q h2 hk.2 e⟩
theorem Kd.turn_ok {k r : Kd} {w : String} {p : List Int} (h : k.turn w p = some r) (hk : k.ok) : r.ok := by
  obtain ⟨s, q, h1, h2, rfl⟩ := turn_cases h
  exact Kd.put_ok p k s q h1 hk (Kd.here_ok h2)
theorem cut_take {α : Type} (cs : List α) (i : Int) (h : 0 ≤ i) : cutA cs none (some i) = cs.take i.toNat := by
  unfold cutA
  have e1 : HT.sIx cs.length 0 none = 0 := rfl
  have e2 : HT.sIx cs.length cs.length (some i) = min i.toNat cs.length := by simp [HT.sIx]; omega
  rw [e1, e2]
  simp
end KT

set_option linter.all false
set_option maxRecDepth 100000
set_option maxHeartbeats 4000000
namespace KT
open PySem PySem.Spec PyProof.Rows L2

/-! ## the fully distributed kind: bundles, leaves, degree; a leaf counts one -/
def Kd.mB : Kd → Nat
  | .ei a b => a.mB + b.mB
  | .bo a b => a.mB * b.mB
  | _ => 1
def Kd.mL : Kd → Nat
  | .ei a b => a.mL + b.mL
  | .bo a b => a.mL * b.mB + b.mL * a.mB
  | _ => 1
def Kd.mG : Kd → Nat
  | .ei a b => max a.mG b.mG
  | .bo a b => a.mG + b.mG
  | _ => 1
theorem Kd.mB_pos : ∀ k : Kd, 1 ≤ k.mB
  | .none => Nat.le_refl _
  | .one => Nat.le_refl _
  | .name _ => Nat.le_refl _
  | .ei a b => by have := a.mB_pos; simp only [Kd.mB]; omega
  | .bo a b => Nat.mul_le_mul a.mB_pos b.mB_pos
theorem Kd.mL_pos : ∀ k : Kd, 1 ≤ k.mL
  | .none => Nat.le_refl _
  | .one => Nat.le_refl _
  | .name _ => Nat.le_refl _
  | .ei a b => by have := a.mL_pos; simp only [Kd.mL]; omega
  | .bo a b => by have := Nat.mul_le_mul a.mL_pos b.mB_pos; simp only [Kd.mL]; omega
theorem Kd.mG_pos : ∀ k : Kd, 1 ≤ k.mG
  | .none => Nat.le_refl _
  | .one => Nat.le_refl _
  | .name _ => Nat.le_refl _
  | .ei a b => by have := a.mG_pos; simp only [Kd.mG]; omega
  | .bo a b => by have := a.mG_pos; simp only [Kd.mG]; omega
theorem Kd.lv_mL : ∀ k : Kd, k.lv ≤ k.mL
  | .none => Nat.le_refl _
  | .one => Nat.le_refl _
  | .name _ => Nat.le_refl _
  | .ei a b => by have := a.lv_mL; have := b.lv_mL; simp only [Kd.lv, Kd.mL]; omega
  | .bo a b => by
    have := a.lv_mL; have := b.lv_mL
    have := Nat.mul_le_mul (Nat.le_refl a.mL) b.mB_pos
    have := Nat.mul_le_mul (Nat.le_refl b.mL) a.mB_pos
    simp only [Kd.lv, Kd.mL]; omega
theorem Kd.bun_mB : ∀ k : Kd, k.bun.length ≤ k.mB
  | .none => by simp [Kd.bun]
  | .one => by simp [Kd.bun, Kd.mB]
  | .name _ => by simp [Kd.bun, Kd.mB]
  | .ei a b => by have := a.bun_mB; have := b.bun_mB; simp only [Kd.bun, isort_len, List.length_append, Kd.mB]; omega
  | .bo a b => by simp only [Kd.bun, bunS_len, Kd.mB]; exact Nat.mul_le_mul a.bun_mB b.bun_mB
theorem Kd.bun_mG : ∀ (k : Kd) (x : List Int), x ∈ k.bun → x.length ≤ k.mG
  | .none, x, h => by cases h
  | .one, x, h => by simp [Kd.bun] at h; subst h; simp
  | .name _, x, h => by simp [Kd.bun] at h; subst h; simp [Kd.mG]
  | .ei a b, x, h => by
    rw [Kd.bun, isort_mem, List.mem_append] at h
    simp only [Kd.mG]
    rcases h with h | h
    · have := a.bun_mG x h; omega
    · have := b.bun_mG x h; omega
  | .bo a b, x, h => by
    rw [Kd.bun, bunS_mem] at h
    obtain ⟨y, hy, z, hz, rfl⟩ := h
    have := a.bun_mG y hy; have := b.bun_mG z hz
    rw [isort_len, List.length_append]
    simp only [Kd.mG]; omega
structure LeK (q k : Kd) : Prop where
  B : q.mB ≤ k.mB
  L : q.mL ≤ k.mL
  G : q.mG ≤ k.mG
theorem Kd.here_le {k q : Kd} {w : String} (h : k.here w = some q) : LeK q k := by
  rcases here_cases h with ⟨_, ⟨a, b, rfl, rfl⟩ | ⟨a, b, rfl, rfl⟩⟩ | ⟨_, ⟨a, b, c, rfl, rfl⟩ | ⟨a, b, c, rfl, rfl⟩⟩ | ⟨_, a, b, c, rfl, rfl⟩ | ⟨_, ⟨b, rfl, rfl⟩ | ⟨b, rfl, rfl⟩ | ⟨b, rfl, rfl⟩⟩
  · constructor <;> simp only [Kd.mB, Kd.mL, Kd.mG] <;> omega
  · refine ⟨?_, ?_, ?_⟩ <;> simp only [Kd.mB, Kd.mL, Kd.mG]
    · rw [Nat.mul_comm]; exact Nat.le_refl _
    · omega
    · omega
  · constructor <;> simp only [Kd.mB, Kd.mL, Kd.mG] <;> omega
  · refine ⟨?_, ?_, ?_⟩ <;> simp only [Kd.mB, Kd.mL, Kd.mG]
    · rw [Nat.mul_assoc]; exact Nat.le_refl _
    · have e1 : (b.mL * c.mB + c.mL * b.mB) * a.mB = b.mL * c.mB * a.mB + c.mL * b.mB * a.mB := Nat.add_mul _ _ _
      have e2 : (a.mL * b.mB + b.mL * a.mB) * c.mB = a.mL * b.mB * c.mB + b.mL * a.mB * c.mB := Nat.add_mul _ _ _
      have e3 : a.mL * b.mB * c.mB = a.mL * (b.mB * c.mB) := Nat.mul_assoc _ _ _
      have e4 : b.mL * a.mB * c.mB = b.mL * c.mB * a.mB := Nat.mul_right_comm _ _ _
      have e5 : c.mL * (a.mB * b.mB) = c.mL * b.mB * a.mB := by rw [Nat.mul_comm a.mB, Nat.mul_assoc]
      omega
    · omega
  · refine ⟨?_, ?_, ?_⟩ <;> simp only [Kd.mB, Kd.mL, Kd.mG]
    · rw [Nat.mul_add]; exact Nat.le_refl _
    · simp only [Nat.add_mul, Nat.mul_add]; omega
    · omega
  · rename_i b; have := b.mB_pos; have := b.mG_pos
    refine ⟨?_, ?_, ?_⟩ <;> simp only [Kd.mB, Kd.mL, Kd.mG] <;> omega
  · have := q.mB_pos; have := q.mG_pos
    refine ⟨?_, ?_, ?_⟩ <;> simp only [Kd.mB, Kd.mL, Kd.mG] <;> omega
  · refine ⟨?_, ?_, ?_⟩ <;> simp only [Kd.mB, Kd.mL, Kd.mG] <;> omega
theorem le_bo {a b a' b' : Kd} (h : LeK a' a) (g : LeK b' b) : LeK (.bo a' b') (.bo a b) := by
  refine ⟨Nat.mul_le_mul h.B g.B, ?_, ?_⟩
  · have := Nat.mul_le_mul h.L g.B; have := Nat.mul_le_mul g.L h.B
    simp only [Kd.mL]; omega
  · have := h.G; have := g.G
    simp only [Kd.mG]; omega
theorem le_ei {a b a' b' : Kd} (h : LeK a' a) (g : LeK b' b) : LeK (.ei a' b') (.ei a b) := by
  have := h.B; have := g.B; have := h.L; have := g.L; have := h.G; have := g.G
  constructor <;> simp only [Kd.mB, Kd.mL, Kd.mG] <;> omega
theorem LeK.rfl' (k : Kd) : LeK k k := ⟨Nat.le_refl _, Nat.le_refl _, Nat.le_refl _⟩
theorem LeK.trans {a b c : Kd} (h : LeK a b) (g : LeK b c) : LeK a c := ⟨Nat.le_trans h.B g.B, Nat.le_trans h.L g.L, Nat.le_trans h.G g.G⟩
theorem Kd.put_le : ∀ (p : List Int) (k s q : Kd), k.at p = some s → LeK q s → LeK (k.put p q) k
  | [], k, s, q, h, e => by rw [Kd.at_nil] at h; cases h; rw [Kd.put_nil]; exact e
  | i :: p, k, s, q, h, e => by
    obtain ⟨hi, ⟨a, b, rfl, h2⟩ | ⟨a, b, rfl, h2⟩⟩ := at_cases h
    · rcases hi with rfl | rfl
      · simp only [if_true] at h2
        rw [put_ei0]; exact le_ei (Kd.put_le p a s q h2 e) (.rfl' _)
      · rw [if_neg (by decide)] at h2
        rw [put_ei1]; exact le_ei (.rfl' _) (Kd.put_le p b s q h2 e)
    · rcases hi with rfl | rfl
      · simp only [if_true] at h2
        rw [put_bo0]; exact le_bo (Kd.put_le p a s q h2 e) (.rfl' _)
      · rw [if_neg (by decide)] at h2
        rw [put_bo1]; exact le_bo (.rfl' _) (Kd.put_le p b s q h2 e)
theorem Kd.turn_le {k r : Kd} {w : String} {p : List Int} (h : k.turn w p = some r) : LeK r k := by
  obtain ⟨s, q, h1, h2, rfl⟩ := turn_cases h
  exact Kd.put_le p k s q h1 (Kd.here_le h2)
theorem thin_of : ∀ k : Kd, k.mB ≤ 12 → k.mG ≤ 7 → k.thin 12 7
  | .none, _, _ => trivial
  | .one, _, _ => trivial
  | .name _, _, _ => trivial
  | .ei a b, h, g => by
    simp only [Kd.mB, Kd.mG] at h g
    have := a.bun_mB; have := b.bun_mB
    exact ⟨thin_of a (by omega) (by omega), thin_of b (by omega) (by omega), by omega, fun x hx => by have := a.bun_mG x hx; omega, fun x hx => by have := b.bun_mG x hx; omega⟩
  | .bo a b, h, g => by
    simp only [Kd.mB, Kd.mG] at h g
    have h1 := a.bun_mB; have h2 := b.bun_mB; have p1 := a.mB_pos; have p2 := b.mB_pos
    have ma := Nat.mul_le_mul (Nat.le_refl a.mB) p2
    have mb := Nat.mul_le_mul p1 (Nat.le_refl b.mB)
    have mm := Nat.mul_le_mul h1 h2
    have sum : a.mB + b.mB ≤ a.mB * b.mB + 1 := by
      obtain ⟨x, hx⟩ : ∃ x, a.mB = x + 1 := ⟨a.mB - 1, by omega⟩
      obtain ⟨y, hy⟩ : ∃ y, b.mB = y + 1 := ⟨b.mB - 1, by omega⟩
      rw [hx, hy, Nat.add_mul, Nat.mul_add]
      have := Nat.zero_le (x * y)
      omega
    exact ⟨thin_of a (by omega) (by omega), thin_of b (by omega) (by omega), by omega, by omega, fun x hx => by have := a.bun_mG x hx; omega, fun x hx => by have := b.bun_mG x hx; omega⟩
def gL (l : Nat) : Nat := [0, 1, 2, 4, 8, 14].getD l 0
theorem gL_ok : ∀ a b : Fin 6, 1 ≤ a.val → 1 ≤ b.val → a.val + b.val ≤ 5 → gL a.val + gL b.val ≤ gL (a.val + b.val) ∧ gL a.val * fB b.val + gL b.val * fB a.val ≤ gL (a.val + b.val) ∧ fB a.val + fB b.val ≤ fB (a.val + b.val) ∧ fB a.val * fB b.val ≤ fB (a.val + b.val) := by decide
theorem first_le : ∀ k : Kd, k.lv ≤ 5 → k.mB ≤ fB k.lv ∧ k.mL ≤ gL k.lv ∧ k.mG ≤ k.lv
  | .none, _ => by decide
  | .one, _ => by decide
  | .name _, _ => by simp [Kd.mB, Kd.mL, Kd.mG, Kd.lv, fB, gL]
  | .ei a b, h => by
    simp only [Kd.lv] at h
    have pa := a.lv_pos; have pb := b.lv_pos
    obtain ⟨a1, a2, a3⟩ := first_le a (by omega)
    obtain ⟨b1, b2, b3⟩ := first_le b (by omega)
    have t := gL_ok ⟨a.lv, by omega⟩ ⟨b.lv, by omega⟩ pa pb h
    simp only at t
    simp only [Kd.mB, Kd.mL, Kd.mG, Kd.lv]; omega
  | .bo a b, h => by
    simp only [Kd.lv] at h
    have pa := a.lv_pos; have pb := b.lv_pos
    obtain ⟨a1, a2, a3⟩ := first_le a (by omega)
    obtain ⟨b1, b2, b3⟩ := first_le b (by omega)
    have t := gL_ok ⟨a.lv, by omega⟩ ⟨b.lv, by omega⟩ pa pb h
    simp only at t
    have m1 := Nat.mul_le_mul a1 b1
    have m2 := Nat.mul_le_mul a2 b1
    have m3 := Nat.mul_le_mul b2 a1
    simp only [Kd.mB, Kd.mL, Kd.mG, Kd.lv]; omega
/-! ## rows carried -/
theorem Turn.f_eq {k : Kd} {w : String} {p : List Int} {t a b : D} (h : Turn k w p t a) (g : Turn k w p t b) : a = b := by
  have := h.f.symm.trans g.f
  injection this with e; injection e
theorem Turn.b_eq {k : Kd} {w : String} {p : List Int} {s t a : D} (h : Turn k w p s a) (g : Turn k w p t a) : s = t := by
  have := h.b.symm.trans g.b
  injection this with e; injection e
inductive RowT : Kd → D → Row → Kd → D → Prop where
  | nil (k : Kd) (t : D) : RowT k t [] k t
  | cons {k k1 q : Kd} {w : String} {p : List Int} {t t1 t' : D} {r : Row} : k.turn w p = some k1 → Turn k w p t t1 → RowT k1 t1 r q t' → RowT k t ((w, p) :: r) q t'
theorem dep_mL {k : Kd} (h : k.mL ≤ 39) : k.dep < 40 := by have := k.dep_lv; have := k.lv_mL; omega
theorem row_fwd {sz : List Int} : ∀ (r : Row) (k q : Kd) (t : D), go k r = some q → k.mL ≤ 39 → k.isT sz t = true → ∃ t', RowT k t r q t' ∧ q.isT sz t' = true
  | [], k, q, t, h, _, ht => by cases h; exact ⟨t, .nil k t, ht⟩
  | (w, p) :: r, k, q, t, h, hm, ht => by
    unfold go at h
    cases e : k.turn w p with
    | none => simp only [e] at h; cases h
    | some k1 =>
      simp only [e] at h
      obtain ⟨t1, h1, T⟩ := turn_fwd (dep_mL hm) e ht
      obtain ⟨t', R, h2⟩ := row_fwd r k1 q t1 h (Nat.le_trans (Kd.turn_le e).L hm) h1
      exact ⟨t', .cons e T R, h2⟩
theorem row_bwd {sz : List Int} : ∀ (r : Row) (k q : Kd) (t' : D), go k r = some q → k.mL ≤ 39 → q.isT sz t' = true → ∃ t, RowT k t r q t' ∧ k.isT sz t = true
  | [], k, q, t, h, _, ht => by cases h; exact ⟨t, .nil k t, ht⟩
  | (w, p) :: r, k, q, t', h, hm, ht => by
    unfold go at h
    cases e : k.turn w p with
    | none => simp only [e] at h; cases h
    | some k1 =>
      simp only [e] at h
      obtain ⟨t1, R, h1⟩ := row_bwd r k1 q t' h (Nat.le_trans (Kd.turn_le e).L hm) ht
      obtain ⟨t, h2, T⟩ := turn_bwd (dep_mL hm) e h1
      exact ⟨t, .cons e T R, h2⟩
theorem go_cnt (sz : List Int) : ∀ (r : Row) (k q : Kd), go k r = some q → q.cnt sz = k.cnt sz
  | [], k, q, h => by cases h; rfl
  | (w, p) :: r, k, q, h => by
    unfold go at h
    cases e : k.turn w p with
    | none => simp only [e] at h; cases h
    | some k1 =>
      simp only [e] at h
      rw [go_cnt sz r k1 q h, Kd.turn_cnt e sz]
theorem RowT.det {k q q' : Kd} {t a b : D} {r : Row} (h : RowT k t r q a) (g : RowT k t r q' b) : a = b := by
  induction h generalizing b with
  | nil => cases g; rfl
  | cons e T _ ih =>
    cases g with
    | cons e2 T2 g2 =>
      have := e.symm.trans e2
      cases this
      have := T.f_eq T2
      subst this
      exact ih g2
theorem RowT.inj {k q q' : Kd} {s t a : D} {r : Row} (h : RowT k s r q a) (g : RowT k t r q' a) : s = t := by
  induction h generalizing t with
  | nil => cases g; rfl
  | cons e T _ ih =>
    cases g with
    | cons e2 T2 g2 =>
      have := e.symm.trans e2
      cases this
      have := ih g2
      subst this
      exact T.b_eq T2
theorem RowT.ch {k q : Kd} {t t' : D} {r : Row} (h : RowT k t r q t') : ∀ {k0 : Kd} {t0 : D} {r1 : Row} {pre : List Kd}, k.mL ≤ 39 → (∀ x ∈ pre, x.dep < 40) → ChT k0 t0 r1 pre k t → ∃ pre', ChT k0 t0 (r1 ++ r) pre' q t' ∧ (∀ x ∈ pre', x.dep < 40) := by
  induction h with
  | nil => intro k0 t0 r1 pre _ hp c; exact ⟨pre, by rw [List.append_nil]; exact c, hp⟩
  | @cons k k1 q w p t t1 t' r e T _ ih =>
    intro k0 t0 r1 pre hm hp c
    obtain ⟨pre', c', hp'⟩ := ih (Nat.le_trans (Kd.turn_le e).L hm) (fun x hx => by
      rcases List.mem_append.mp hx with hx | hx
      · exact hp x hx
      · rw [List.mem_singleton.mp hx]; exact dep_mL hm) (ChT.snoc c e T)
    exact ⟨pre', by rw [List.append_assoc] at c'; exact c', hp'⟩
theorem ka_loop40 {k : Kd} {row : List (String × List Int)} {pre : List Kd} {kl : Kd} (h : Ch k row pre kl) (hd : ∀ x ∈ pre, x.dep < 40) (hl : row.length < 16000000) (K R x : Option DV) : ∃ x', loop (bName 3) (kaB m_turned) (tDs row) [K, R, some (.own [k.d]), x] = .nx [K, R, some (.own (kDs (pre ++ [kl]))), x'] := by
  induction h with
  | nil => exact ⟨x, rfl⟩
  | @snoc row pre kl q w p h ht ih =>
    simp only [List.length_append, List.length_singleton] at hl
    obtain ⟨x', e⟩ := ih (fun x hx => hd x (List.mem_append_left _ hx)) (by omega)
    have hlen := h.len
    have tv := turned_ev kl w p (hd kl (by simp))
    rw [ht] at tv
    simp only [oR] at tv
    refine ⟨some (.dat (tD (w, p))), ?_⟩
    have e2 : tDs (row ++ [(w, p)]) = tDs row ++ [tD (w, p)] := by simp [tDs]
    rw [e2, loop_app _ _ _ _ e, loop_cons]
    have lim : pre.length + 1 < 16777216 := by omega
    have il := ix_last (kDs pre) kl.d
    simp [kDs, tD] at il ⊢
    simp [il, tv, lim]
theorem ka_ev40 {k : Kd} {row : List (String × List Int)} {pre : List Kd} {kl : Kd} (h : Ch k row pre kl) (hd : ∀ x ∈ pre, x.dep < 40) (hl : row.length < 16000000) : m_kinds_along [.dat k.d, .bor (tDs row)] = .ret (.own (kDs (pre ++ [kl]))) := by
  rw [m_kinds_along_eq]; unfold b_kinds_along
  obtain ⟨x', e⟩ := ka_loop40 h hd hl (some (.dat k.d)) (some (.bor (tDs row))) none
  simp [e]
theorem carried40 {k kl : Kd} {t t' : D} {row : List (String × List Int)} {pre : List Kd} (h : ChT k t row pre kl t') (hd : ∀ x ∈ pre, x.dep < 40) (hl : row.length < 16000000) : m_carried [.dat k.d, .bor (tDs row), .dat t] = .ret (.dat t') := by
  rw [m_carried_eq]; unfold b_carried
  obtain ⟨x', y', e⟩ := ca_loop h (some (.dat k.d)) (some (.bor (tDs row))) none none
  have e1 : kDs (pre ++ [kl]) = kDs pre ++ [kl.d] := by simp [kDs]
  have e2 : zipD (kDs (pre ++ [kl])) (tDs row) = zipD (kDs pre) (tDs row) := by rw [e1, zip_cut _ _ _ (by simp [kDs, tDs, h.ch.len])]
  simp [ka_ev40 h.ch hd hl, e2, e]
theorem brought40 {k kl : Kd} {t t' : D} {row : List (String × List Int)} {pre : List Kd} (h : ChT k t row pre kl t') (hd : ∀ x ∈ pre, x.dep < 40) (hl0 : row.length < 16000000) : m_brought [.dat k.d, .bor (tDs row), .dat t'] = .ret (.dat t) := by
  rw [m_brought_eq]; unfold b_brought
  obtain ⟨x', e⟩ := br_loop h (some (.dat k.d)) [] [kl] none
  rw [List.append_nil] at e
  have hl : (tDs row).length = row.length := by simp [tDs]
  have b1 : (row.length : Int) - 1 < 4611686018427387904 := by omega
  have b2 : -4611686018427387904 ≤ (row.length : Int) - 1 := by omega
  have e5 : ((row.length : Int) - 1 - -1).toNat = row.length := by omega
  have dn : sForDown (eTwo kSub (eCB kLen (aCons (eVar 1) aNil)) (eC (.int 1))) (eOne kNeg (eC (.int 1))) (eOne kNeg (eC (.int 1))) (bName 4) (brB m_within) [some (.dat k.d), some (.bor (tDs row)), some (.dat t'), some (.own (kDs (pre ++ [kl]))), none] = .nx [some (.dat k.d), some (.bor (tDs row)), some (.dat t), some (.own (kDs (pre ++ [kl]))), x'] := by
    unfold sForDown
    have f1 : eTwo kSub (eCB kLen (aCons (eVar 1) aNil)) (eC (.int 1)) [some (.dat k.d), some (.bor (tDs row)), some (.dat t'), some (.own (kDs (pre ++ [kl]))), none] = .ok (.dat (.int ((row.length : Int) - 1))) := by simp [hl]
    have f2 : eOne kNeg (eC (.int 1)) [some (.dat k.d), some (.bor (tDs row)), some (.dat t'), some (.own (kDs (pre ++ [kl]))), none] = .ok (.dat (.int (-1))) := by simp
    simp only [f1, f2]
    rw [if_pos ⟨trivial, by omega, by omega, by decide, by decide⟩, e5]
    exact e
  have a1 : sAsg 3 (eCall m_kinds_along (aCons (eVar 0) (aCons (eVar 1) aNil))) [some (.dat k.d), some (.bor (tDs row)), some (.dat t'), none, none] = .nx [some (.dat k.d), some (.bor (tDs row)), some (.dat t'), some (.own (kDs (pre ++ [kl]))), none] := by simp [ka_ev40 h.ch hd hl0]
  rw [z_seq, a1]
  simp only
  rw [z_seq, dn]
  simp
/-- sent along two rows to one plain kind -/
theorem sent_ev {one other : Kd} {t t' u : D} {q q' : Kd} (h1 : one.mB ≤ 12 ∧ one.mG ≤ 7 ∧ one.mL ≤ 20) (h2 : other.mB ≤ 12 ∧ other.mG ≤ 7 ∧ other.mL ≤ 20) (hb : one.bun = other.bun) (R1 : RowT one t (rplain one) q u) (R2 : RowT other t' (rplain other) q' u) : m_sent [.dat one.d, .dat other.d, .dat t] = .ret (.dat t') := by
  have l1 := one.lv_mL; have l2 := other.lv_mL; have d1 := one.dep_lv; have d2 := other.dep_lv
  have t1 := thin_of one h1.1 h1.2.1
  have t2 := thin_of other h2.1 h2.2.1
  have e1 : m_bundles _ = _ := bundles_ev 40 one (by omega) (by omega) (one.fits_lv (by omega))
  have e2 : m_bundles _ = _ := bundles_ev 40 other (by omega) (by omega) (other.fits_lv (by omega))
  have n1 := rplain_len one t1
  have n2 := rplain_len other t2
  have p1 := rtp_ev one (by omega) t1 (by omega)
  have p2 := rtp_ev other (by omega) t2 (by omega)
  obtain ⟨pre1, c1, q1⟩ := R1.ch (pre := []) (by omega) (fun x hx => by cases hx) (ChT.nil)
  obtain ⟨pre2, c2, q2⟩ := R2.ch (pre := []) (by omega) (fun x hx => by cases hx) (ChT.nil)
  rw [List.nil_append] at c1 c2
  have v1 := carried40 c1 q1 (by omega)
  have v2 := brought40 c2 q2 (by omega)
  have ne : kNe (.own (one.bun.map rowD)) (.own (other.bun.map rowD)) = .ok (.dat (.bl false)) := by
    have := ne_rows one.bun other.bun
    rw [hb, decide_eq_true rfl] at this
    rw [hb]
    exact this
  rw [m_sent_eq]; unfold b_sent
  simp [e1, e2, ne, p1, p2, v1, v2]
theorem unlike_ev {one other : Kd} (t : D) (h1 : one.mL ≤ 20) (h2 : other.mL ≤ 20) (hb : one.bun ≠ other.bun) : m_sent [.dat one.d, .dat other.d, .dat t] = .exc "Unlike" := by
  have l1 := one.lv_mL; have l2 := other.lv_mL; have d1 := one.dep_lv; have d2 := other.dep_lv
  have e1 : m_bundles _ = _ := bundles_ev 40 one (by omega) (by omega) (one.fits_lv (by omega))
  have e2 : m_bundles _ = _ := bundles_ev 40 other (by omega) (by omega) (other.fits_lv (by omega))
  have ne : kNe (.own (one.bun.map rowD)) (.own (other.bun.map rowD)) = .ok (.dat (.bl true)) := by
    have := ne_rows one.bun other.bun
    rw [decide_eq_false (fun z => hb (rows_inj z))] at this
    exact this
  rw [m_sent_eq]; unfold b_sent
  simp [e1, e2, ne]
end KT

set_option linter.all false
set_option maxRecDepth 100000
set_option maxHeartbeats 4000000
namespace KT
open PySem PySem.Spec PyProof.Rows L2

/-! ## judged -/
def cntL (d : Int) : List (List Int) → KVs → KVs
  | [], f => f
  | k :: ks, f => cntL d ks (puK f k ((gtK f k).getD 0 + d))
theorem cntL_len (d : Int) : ∀ (ks : List (List Int)) (f : KVs), (cntL d ks f).length ≤ f.length + ks.length
  | [], f => by simp [cntL]
  | k :: ks, f => by
    have h1 := cntL_len d ks (puK f k ((gtK f k).getD 0 + d))
    have h2 := puK_len f k ((gtK f k).getD 0 + d)
    simp only [cntL, List.length_cons]; omega
theorem cntL_keys {d : Int} : ∀ {ks : List (List Int)} {f : KVs} {j : List Int}, j ∈ (cntL d ks f).map (·.1) → j ∈ f.map (·.1) ∨ j ∈ ks
  | [], f, j, h => .inl h
  | k :: ks, f, j, h => by
    rcases cntL_keys (ks := ks) h with h | h
    · rcases puK_keys h with h | h
      · exact .inl h
      · exact .inr (by simp [h])
    · exact .inr (by simp [h])
theorem cnt_loopA (a b c d : Option DV) (ha : NoD a) (hb : NoD b) (hc : NoD c) (hd : NoD d) : ∀ (ks : List (List Int)) (f : KVs) (y : Option DV), f.length + ks.length < 16000000 → ∃ z, loop (bName 5) (sPutD 4 (eVar 5) (eTwo kAdd (eDGet2 4 (eVar 5) (eC (.int 0))) (eC (.int 1)))) (ks.map rowD) [a, b, c, d, some (.dict f), y] = .nx [a, b, c, d, some (.dict (cntL 1 ks f)), z]
  | [], f, y, _ => ⟨y, rfl⟩
  | k :: ks, f, y, hl => by
    simp only [List.length_cons] at hl
    have pl := puK_len f k ((gtK f k).getD 0 + 1)
    obtain ⟨z, e⟩ := cnt_loopA a b c d ha hb hc hd ks (puK f k ((gtK f k).getD 0 + 1)) (some (.dat (rowD k))) (by omega)
    refine ⟨z, ?_⟩
    rw [List.map_cons, loop_cons]
    have lim : f.length < 16777216 := by omega
    have oM : onlyM [a, b, c, d, some (.dict f), some (.dat (rowD k))] 4 = true := by
      have zd : ∀ d, isDic (.dat d) = false := fun _ => rfl
      unfold onlyM
      rw [List.all_eq_true]
      intro s hs
      simp only [List.set_cons_succ, List.set_cons_zero, List.mem_cons, List.not_mem_nil, or_false] at hs
      rcases hs with rfl | rfl | rfl | rfl | rfl | rfl
      · cases s with
        | none => rfl
        | some q => simp [ha q rfl]
      · cases s with
        | none => rfl
        | some q => simp [hb q rfl]
      · cases s with
        | none => rfl
        | some q => simp [hc q rfl]
      · cases s with
        | none => rfl
        | some q => simp [hd q rfl]
      · rfl
      · rfl
    have st : sPutD 4 (eVar 5) (eTwo kAdd (eDGet2 4 (eVar 5) (eC (.int 0))) (eC (.int 1))) [a, b, c, d, some (.dict f), some (.dat (rowD k))] = .nx [a, b, c, d, some (.dict (puK f k ((gtK f k).getD 0 + 1))), some (.dat (rowD k))] := by
      simp [lim, oM]
    simp only [bName_e, List.set_cons_succ, List.set_cons_zero, st]
    exact e
theorem cnt_loopB (a b c d : Option DV) (ha : NoD a) (hb : NoD b) (hc : NoD c) (hd : NoD d) : ∀ (ks : List (List Int)) (f : KVs) (y : Option DV), f.length + ks.length < 16000000 → ∃ z, loop (bName 5) (sPutD 4 (eVar 5) (eTwo kSub (eDGet2 4 (eVar 5) (eC (.int 0))) (eC (.int 1)))) (ks.map rowD) [a, b, c, d, some (.dict f), y] = .nx [a, b, c, d, some (.dict (cntL (-1) ks f)), z]
  | [], f, y, _ => ⟨y, rfl⟩
  | k :: ks, f, y, hl => by
    simp only [List.length_cons] at hl
    have pl := puK_len f k ((gtK f k).getD 0 + -1)
    obtain ⟨z, e⟩ := cnt_loopB a b c d ha hb hc hd ks (puK f k ((gtK f k).getD 0 + -1)) (some (.dat (rowD k))) (by omega)
    refine ⟨z, ?_⟩
    rw [List.map_cons, loop_cons]
    have lim : f.length < 16777216 := by omega
    have oM : onlyM [a, b, c, d, some (.dict f), some (.dat (rowD k))] 4 = true := by
      unfold onlyM
      rw [List.all_eq_true]
      intro s hs
      simp only [List.set_cons_succ, List.set_cons_zero, List.mem_cons, List.not_mem_nil, or_false] at hs
      rcases hs with rfl | rfl | rfl | rfl | rfl | rfl
      · cases s with
        | none => rfl
        | some q => simp [ha q rfl]
      · cases s with
        | none => rfl
        | some q => simp [hb q rfl]
      · cases s with
        | none => rfl
        | some q => simp [hc q rfl]
      · cases s with
        | none => rfl
        | some q => simp [hd q rfl]
      · rfl
      · rfl
    have st : sPutD 4 (eVar 5) (eTwo kSub (eDGet2 4 (eVar 5) (eC (.int 0))) (eC (.int 1))) [a, b, c, d, some (.dict f), some (.dat (rowD k))] = .nx [a, b, c, d, some (.dict (puK f k ((gtK f k).getD 0 + -1))), some (.dat (rowD k))] := by
      simp [lim, oM]
      rw [Int.sub_eq_add_neg]
    simp only [bName_e, List.set_cons_succ, List.set_cons_zero, st]
    exact e
end KT
namespace KT
open PySem PySem.Spec PyProof.Rows L2
theorem eq_rowsB (rs ss : List (List Int)) : kEq (.bor (rs.map rowD)) (.bor (ss.map rowD)) = .ok (.dat (.bl (decide (rs.map rowD = ss.map rowD)))) := by
  have := rows_dep rs
  show (if min (D.deps (rs.map rowD) + 1) (D.deps (ss.map rowD) + 1) ≤ 190 then EO.ok (.dat (.bl (D.deqs (rs.map rowD) (ss.map rowD)))) else .no) = _
  rw [if_pos (by omega), D.deqs_eq (rows_pl rs) (rows_pl ss)]
structure JOk (k : Kd) : Prop where
  thin : k.thin 12 7
  lv : k.lv ≤ 20
theorem judged_same {one other : Kd} (h1 : JOk one) (h2 : JOk other) (hb : one.bun = other.bun) : m_judged [.dat one.d, .dat other.d] = .ret (.two "same" (tDs (rplain one)) (tDs (rplain other))) := by
  have l1 := h1.lv; have l2 := h2.lv; have d1 := one.dep_lv; have d2 := other.dep_lv
  have e1 : m_bundles _ = _ := bundles_ev 40 one (by omega) (by omega) (one.fits_lv (by omega))
  have e2 : m_bundles _ = _ := bundles_ev 40 other (by omega) (by omega) (other.fits_lv (by omega))
  have n1 := rplain_len one h1.thin
  have n2 := rplain_len other h2.thin
  have p1 := rtp_ev one (by omega) h1.thin (by omega)
  have p2 := rtp_ev other (by omega) h2.thin (by omega)
  have eq := eq_rowsB one.bun other.bun
  rw [hb, decide_eq_true rfl] at eq
  rw [hb] at e1
  rw [m_judged_eq]; unfold b_judged
  simp [e1, e2, eq, p1, p2]
/-- the counts that judged makes -/
def difK (A B : List (List Int)) : KVs := cntL (-1) B (cntL 1 A [])
theorem judged_unlike {one other : Kd} (h1 : JOk one) (h2 : JOk other) (hb : one.bun ≠ other.bun) (hl : one.bun.length ≤ 1000000 ∧ other.bun.length ≤ 1000000) : ∃ xs : List Int, xs.length = 4 ∧ SzC (difK one.bun other.bun) [0, 1, 2, 3] xs ∧ m_judged [.dat one.d, .dat other.d] = .ret (.dat (.tup [.str "unlike", .tup (xs.map D.int)])) := by
  have l1 := h1.lv; have l2 := h2.lv; have d1 := one.dep_lv; have d2 := other.dep_lv
  have e1 : m_bundles _ = _ := bundles_ev 40 one (by omega) (by omega) (one.fits_lv (by omega))
  have e2 : m_bundles _ = _ := bundles_ev 40 other (by omega) (by omega) (other.fits_lv (by omega))
  have eq := eq_rowsB one.bun other.bun
  rw [decide_eq_false (fun z => hb (rows_inj z))] at eq
  have c1 := cntL_len 1 one.bun []
  have c2 := cntL_len (-1) other.bun (cntL 1 one.bun [])
  simp only [List.length_nil] at c1
  have kv : KvOk (difK one.bun other.bun) := by
    refine ⟨by unfold difK; omega, fun k hk => ?_⟩
    rcases cntL_keys hk with h | h
    · rcases cntL_keys h with h | h
      · cases h
      · have := one.bun_row k h; omega
    · have := other.bun_row k h; omega
  obtain ⟨xs, hx, hc, es⟩ := sizes_for_ev _ kv
  refine ⟨xs, hx, hc, ?_⟩
  rw [m_judged_eq]; unfold b_judged
  have nd : ∀ d, NoD (some (.dat d)) := fun d s z => by cases z; rfl
  have no : ∀ d, NoD (some (.own d)) := fun d s z => by cases z; rfl
  have nl : ∀ d, NoD (some (.lent d)) := fun d s z => by cases z; rfl
  obtain ⟨z1, g1⟩ := cnt_loopA (some (.dat one.d)) (some (.dat other.d)) (some (.lent (one.bun.map rowD))) (some (.own (other.bun.map rowD))) (nd _) (nd _) (nl _) (no _) one.bun [] none (by simp; omega)
  obtain ⟨z2, g2⟩ := cnt_loopB (some (.dat one.d)) (some (.dat other.d)) (some (.own (one.bun.map rowD))) (some (.lent (other.bun.map rowD))) (nd _) (nd _) (no _) (nl _) other.bun (cntL 1 one.bun []) z1 (by omega)
  have a1 : sAsg 2 (eCall m_bundles (aCons (eVar 0) aNil)) [some (.dat one.d), some (.dat other.d), none, none, none, none] = .nx [some (.dat one.d), some (.dat other.d), some (.own (one.bun.map rowD)), none, none, none] := by simp [e1]
  have a2 : sAsg 3 (eCall m_bundles (aCons (eVar 1) aNil)) [some (.dat one.d), some (.dat other.d), some (.own (one.bun.map rowD)), none, none, none] = .nx [some (.dat one.d), some (.dat other.d), some (.own (one.bun.map rowD)), some (.own (other.bun.map rowD)), none, none] := by simp [e2]
  have a3 : sIf (cOf (eTwo kEq (eVar 2) (eVar 3))) (sRet (eMkTwo "same" (eCall m_row_to_plain (aCons (eVar 0) aNil)) (eCall m_row_to_plain (aCons (eVar 1) aNil)))) sNext [some (.dat one.d), some (.dat other.d), some (.own (one.bun.map rowD)), some (.own (other.bun.map rowD)), none, none] = .nx [some (.dat one.d), some (.dat other.d), some (.own (one.bun.map rowD)), some (.own (other.bun.map rowD)), none, none] := by simp [eq]
  have a4 : sNewD 4 [some (.dat one.d), some (.dat other.d), some (.own (one.bun.map rowD)), some (.own (other.bun.map rowD)), none, none] = .nx [some (.dat one.d), some (.dat other.d), some (.own (one.bun.map rowD)), some (.own (other.bun.map rowD)), some (.dict []), none] := rfl
  have a5 : sForV 2 (bName 5) (sPutD 4 (eVar 5) (eTwo kAdd (eDGet2 4 (eVar 5) (eC (.int 0))) (eC (.int 1)))) [some (.dat one.d), some (.dat other.d), some (.own (one.bun.map rowD)), some (.own (other.bun.map rowD)), some (.dict []), none] = .nx [some (.dat one.d), some (.dat other.d), some (.own (one.bun.map rowD)), some (.own (other.bun.map rowD)), some (.dict (cntL 1 one.bun [])), z1] := by
    rw [z_forV]
    simp only [List.getElem?_cons_succ, List.getElem?_cons_zero, List.set_cons_succ, List.set_cons_zero, g1]
    simp
  have a6 : sForV 3 (bName 5) (sPutD 4 (eVar 5) (eTwo kSub (eDGet2 4 (eVar 5) (eC (.int 0))) (eC (.int 1)))) [some (.dat one.d), some (.dat other.d), some (.own (one.bun.map rowD)), some (.own (other.bun.map rowD)), some (.dict (cntL 1 one.bun [])), z1] = .nx [some (.dat one.d), some (.dat other.d), some (.own (one.bun.map rowD)), some (.own (other.bun.map rowD)), some (.dict (difK one.bun other.bun)), z2] := by
    rw [z_forV]
    simp only [List.getElem?_cons_succ, List.getElem?_cons_zero, List.set_cons_succ, List.set_cons_zero, g2]
    simp [difK]
  rw [sqY a1, sqY a2, sqY a3, sqY a4, sqY a5, sqY a6]
  simp [es]
end KT

set_option linter.all false
set_option maxRecDepth 100000
set_option maxHeartbeats 4000000
namespace KT
open PySem PySem.Spec PyProof.Rows L2

theorem sq13 {F G : SF} {ρ ρ' : Rho} (h : F ρ = .nx ρ') : sSeq F G ρ = G ρ' := by rw [z_seq, h]
/-! ## kinds drawn -/
abbrev bO (ga gp gc gt : FF) : SF := sSeq (sAsg 4 (eCall ga (aCons (eVar 2) aNil))) (sIf (cAnd (cOf (eTwo kNe (eVar 4) (eLst aNil))) (cOf (eTwo kLt (eCB kLen (aCons (eCall gp (aCons (eVar 2) aNil)) aNil)) (eC (.int 14))))) (sSeq (sAsgT (bPair 5 6) (eTwo kIx (eVar 4) (eTwo kMod (eCall gc (aCons (eVar 0) (aCons (eTwo kAdd (eTwo kAdd (eVar 1) (eC (.int 1))) (eVar 3)) aNil))) (eCB kLen (aCons (eVar 4) aNil))))) (sAsg 2 (eCall gt (aCons (eVar 2) (aCons (eVar 5) (aCons (eVar 6) aNil)))))) sNext)
theorem stepO (ns : List Int) (F i : Nat) (q : Kd) (hq : q.ok) (hl : q.mL ≤ 20) (x4 x5 x6 : Option DV) : ∃ (r : Kd) (y4 y5 y6 : Option DV), r.ok ∧ LeK r q ∧ bO m_law_all_turnings m_law_paths m_law_cell m_law_turned [some (.scr (ns.map D.int)), some (.dat (.int (F : Int))), some (.dat q.d), some (.dat (.int (i : Int))), x4, x5, x6] = .nx [some (.scr (ns.map D.int)), some (.dat (.int (F : Int))), some (.dat r.d), some (.dat (.int (i : Int))), y4, y5, y6] := by
  have l1 := q.lv_mL; have d1 := q.dep_lv
  have e1 := turns_ev q (by omega)
  have e2 := paths_ev q (by omega)
  have c1 : m_law_cell [.scr (ns.map D.int), .dat (.int ((F : Int) + 1 + (i : Int)))] = .ret (.dat (.int (cellI ns (F + 1 + i)))) := by
    have := cell_ev ns (F + 1 + i)
    have e : ((F + 1 + i : Nat) : Int) = (F : Int) + 1 + (i : Int) := by omega
    rw [e] at this; exact this
  generalize cellI ns (F + 1 + i) = c at c1
  have a1 : sAsg 4 (eCall m_law_all_turnings (aCons (eVar 2) aNil)) [some (.scr (ns.map D.int)), some (.dat (.int (F : Int))), some (.dat q.d), some (.dat (.int (i : Int))), x4, x5, x6] = .nx [some (.scr (ns.map D.int)), some (.dat (.int (F : Int))), some (.dat q.d), some (.dat (.int (i : Int))), some (.own (q.turns.map tD)), x5, x6] := by simp [e1]
  have kn : ∀ ds : List D, kNe (.bor ds) (.own []) = .ok (.dat (.bl (!D.deqs ds []))) := fun ds => kNe_lists ds [] (by simp [D.deps])
  by_cases hs : q.turns = []
  · refine ⟨q, some (.own (q.turns.map tD)), x5, x6, hq, .rfl' _, ?_⟩
    unfold bO
    rw [sq13 a1, hs]
    simp [kn, D.deqs]
  · have tl : 0 < q.turns.length := List.length_pos_iff.mpr hs
    have nd : D.deqs (q.turns.map tD) [] = false := by
      cases ht : q.turns with
      | nil => exact absurd ht hs
      | cons a b => rfl
    by_cases h14 : q.paths.length < 14
    · obtain ⟨⟨w, p⟩, hwp, ewp⟩ := ix_mod tD q.turns c tl
      obtain ⟨_, hsm⟩ := Kd.mem_turns.mp hwp
      obtain ⟨r, hr⟩ := Option.isSome_iff_exists.mp hsm
      have et : m_law_turned [.dat q.d, .dat (.str w), .dat (pD p)] = _ := lturned_ev q w p (by omega) (by omega)
      rw [hr] at et
      simp only [oD] at et
      obtain ⟨ds, er, _⟩ := r.d_len
      have em := kMod_i c (q.turns.length : Int) (by omega)
      refine ⟨r, some (.own (q.turns.map tD)), some (.dat (.str w)), some (.dat (pD p)), Kd.turn_ok hr hq, Kd.turn_le hr, ?_⟩
      unfold bO
      rw [sq13 a1]
      rw [er] at et ⊢
      have h14' : (q.paths.length : Int) < 14 := by omega
      simp only [tD] at ewp
      simp [kn, nd, e2, h14', c1, em, ewp, tD, et]
    · refine ⟨q, some (.own (q.turns.map tD)), x5, x6, hq, .rfl' _, ?_⟩
      unfold bO
      rw [sq13 a1]
      have h14' : ¬ (q.paths.length : Int) < 14 := by omega
      simp [kn, nd, e2, h14']
theorem loopO (ns : List Int) (F : Nat) (k : Kd) (hl : k.mL ≤ 20) : ∀ (is : List Nat) (q : Kd) (x3 x4 x5 x6 : Option DV), q.ok → LeK q k → ∃ (r : Kd) (y3 y4 y5 y6 : Option DV), r.ok ∧ LeK r k ∧ loop (bName 3) (bO m_law_all_turnings m_law_paths m_law_cell m_law_turned) (is.map fun (i : Nat) => D.int (i : Int)) [some (.scr (ns.map D.int)), some (.dat (.int (F : Int))), some (.dat q.d), x3, x4, x5, x6] = .nx [some (.scr (ns.map D.int)), some (.dat (.int (F : Int))), some (.dat r.d), y3, y4, y5, y6]
  | [], q, x3, x4, x5, x6, h, g => ⟨q, x3, x4, x5, x6, h, g, rfl⟩
  | i :: is, q, x3, x4, x5, x6, h, g => by
    obtain ⟨r, y4, y5, y6, h1, g1, e1⟩ := stepO ns F i q h (Nat.le_trans g.L hl) x4 x5 x6
    obtain ⟨r', z3, z4, z5, z6, h2, g2, e2⟩ := loopO ns F k hl is r (some (.dat (.int (i : Int)))) y4 y5 y6 h1 (g1.trans g)
    refine ⟨r', z3, z4, z5, z6, h2, g2, ?_⟩
    rw [List.map_cons, loop_cons]
    simp only [bName_e, List.set_cons_succ, List.set_cons_zero, e1, e2]
theorem other_ev (ns : List Int) (F : Nat) (k : Kd) (hk : k.ok) (hl : k.mL ≤ 20) : ∃ q : Kd, q.ok ∧ LeK q k ∧ m_law_other [.scr (ns.map D.int), .dat (.int (F : Int)), .dat k.d] = .ret (.dat q.d) := by
  rw [m_law_other_eq]; unfold b_law_other
  have c1 : m_law_cell [.scr (ns.map D.int), .dat (.int (F : Int))] = .ret (.dat (.int (cellI ns F))) := cell_ev ns F
  have p1 := cell_pos ns F
  generalize cellI ns F = c at c1 p1
  obtain ⟨q, y3, y4, y5, y6, h, g, e⟩ := loopO ns F k hl (List.range (c % 9).toNat) k none none none none hk (.rfl' _)
  refine ⟨q, h, g, ?_⟩
  have rg : rangeD 0 (c % 9).toNat = (List.range (c % 9).toNat).map fun (i : Nat) => D.int (i : Int) := by
    unfold rangeD; simp
  have r1 : -4611686018427387904 ≤ c % 9 := by omega
  have r2 : c % 9 < 4611686018427387904 := by omega
  rw [← rg] at e
  simp [c1, kMod_i, r1, r2, e]
theorem leafed_ev : ∀ (n : Nat) (k : Kd), k.dep ≤ n → k.ok → ∀ c x : Int, ∃ q : Kd, q.ok ∧ q.mB = k.mB ∧ q.mL = k.mL ∧ q.mG = k.mG ∧ m_law_leafedN n [.dat k.d, .dat (.int c), .dat (.int x)] = .ret (.dat q.d)
  | 0, k, hn, _, _, _ => by cases k <;> simp [Kd.dep] at hn
  | n + 1, k, hn, hk, c, x => by
    have q2 : ∀ x : Int, mulOk 2 x = true := fun x => mul64l (by decide) (by decide)
    have d0 := draw_ev c x 6 (by decide)
    have d1 := draw_ev c (x + 1) 4 (by decide)
    have d2 := draw_ev c (x + 2) 2 (by decide)
    obtain ⟨r1, r2⟩ := draw_rng c (x + 1) 4 (by decide)
    obtain ⟨s1, s2⟩ := draw_rng c (x + 2) 2 (by decide)
    have leaf : ∀ k : Kd, k.arity < 3 → k.ok → k.mB = 1 ∧ k.mL = 1 ∧ k.mG = 1 → ∃ q : Kd, q.ok ∧ q.mB = k.mB ∧ q.mL = k.mL ∧ q.mG = k.mG ∧ m_law_leafedN (n + 1) [.dat k.d, .dat (.int c), .dat (.int x)] = .ret (.dat q.d) := by
      intro k ha hk hm
      obtain ⟨ds, ed, el⟩ := k.d_len
      have hl : ((ds.length : Nat) : Int) < 3 := by omega
      rw [m_law_leafedN_eq]; unfold b_law_leafed
      by_cases h0 : drawI c x 6 = 0
      · rcases (show drawI c (x + 2) 2 = 0 ∨ drawI c (x + 2) 2 = 1 by omega) with h1 | h1
        · refine ⟨.one, trivial, hm.1.symm, hm.2.1.symm, hm.2.2.symm, ?_⟩
          rw [ed]
          simp [hl, d0, d1, d2, h0, h1, Kd.d]
        · refine ⟨.name (drawI c (x + 1) 4), ⟨r1, r2⟩, hm.1.symm, hm.2.1.symm, hm.2.2.symm, ?_⟩
          rw [ed]
          simp [hl, d0, d1, d2, h0, h1, Kd.d]
      · refine ⟨k, hk, rfl, rfl, rfl, ?_⟩
        rw [ed]
        simp [hl, d0, h0]
    cases k with
    | none => exact leaf _ (by simp [Kd.arity]) hk ⟨rfl, rfl, rfl⟩
    | one => exact leaf _ (by simp [Kd.arity]) hk ⟨rfl, rfl, rfl⟩
    | name i => exact leaf _ (by simp [Kd.arity]) hk ⟨rfl, rfl, rfl⟩
    | ei a b =>
      simp only [Kd.dep] at hn
      obtain ⟨a', a1, a2, a3, a4, ea⟩ := leafed_ev n a (by omega) hk.1 c (2 * x)
      obtain ⟨b', b1, b2, b3, b4, eb⟩ := leafed_ev n b (by omega) hk.2 c (2 * x + 1)
      refine ⟨.ei a' b', ⟨a1, b1⟩, by simp [Kd.mB, a2, b2], by simp [Kd.mL, a3, b3], by simp [Kd.mG, a4, b4], ?_⟩
      rw [m_law_leafedN_eq]; unfold b_law_leafed
      simp [Kd.d, kMul_i, q2, ea, eb]
    | bo a b =>
      simp only [Kd.dep] at hn
      obtain ⟨a', a1, a2, a3, a4, ea⟩ := leafed_ev n a (by omega) hk.1 c (2 * x)
      obtain ⟨b', b1, b2, b3, b4, eb⟩ := leafed_ev n b (by omega) hk.2 c (2 * x + 1)
      refine ⟨.bo a' b', ⟨a1, b1⟩, by simp [Kd.mB, a2, b2], by simp [Kd.mL, a2, a3, b2, b3], by simp [Kd.mG, a4, b4], ?_⟩
      rw [m_law_leafedN_eq]; unfold b_law_leafed
      simp [Kd.d, kMul_i, q2, ea, eb]
/-! ## the loop -/
structure Pair13 (one other : Kd) : Prop where
  h1 : one.mB ≤ 12 ∧ one.mG ≤ 7 ∧ one.mL ≤ 8
  h2 : other.mB ≤ 12 ∧ other.mG ≤ 7 ∧ other.mL ≤ 8
  bun : one.bun = other.bun
def Sent (one other : Kd) (t x : D) : Prop := ∃ u, RowT one t (rplain one) (pk one.bun) u ∧ RowT other x (rplain other) (pk one.bun) u
structure Met13 (one other : Kd) (sz : List Int) (done ks : List D) : Prop where
  len : ks.length = done.length
  isT : ∀ x ∈ ks, other.isT sz x = true
  from' : ∀ x ∈ ks, ∃ t ∈ done, Sent one other t x
noncomputable abbrev a13 (wo : World) : SF := sSeq (sAsg 8 (eCall m_sent (aCons (eVar 1) (aCons (eVar 2) (aCons (eVar 7) aNil))))) (sSeq (sIf (cOr (cOf (eTwo kNotIn (eVar 8) (eVar 5))) (cOr (cInM wo false 6 (eVar 8)) (cOf (eTwo kNe (eCall m_sent (aCons (eVar 2) (aCons (eVar 1) (aCons (eVar 8) aNil)))) (eVar 7))))) (sRet (eC (.bl false))) sNext) (sPutM wo 6 8))
def notM13 (d : DV) : Bool := !isDic d
theorem ne_self {t : D} (h : t.pl = true) (hd : t.dep ≤ 180) : kNe (.dat t) (.dat t) = .ok (.dat (.bl false)) := by
  rw [kNe_dd _ _ (by omega), D.deq_eq h h, decide_eq_true rfl]; rfl
theorem notIn_mem {x : D} {ds : List D} (hx : x.pl = true) (h : ∀ d ∈ ds, d.pl = true) (hd : x.dep ≤ 190) (m : x ∈ ds) : kNotIn (.dat x) (.bor ds) = .ok (.dat (.bl false)) := by
  unfold kNotIn
  rw [vIn_bor hx ((D.pls_all _).mpr h) (by omega), decide_eq_true m]
  rfl
theorem loopS (wo : World) {one other : Kd} (P : Pair13 one other) {sz : List Int} (s0 s3 s4 : DV) (n0 : notM13 s0 = true) (n3 : notM13 s3 = true) (n4 : notM13 s4 = true) : ∀ (ts done ks : List D) (x7 x8 : Option DV), (done ++ ts).Nodup → (∀ t ∈ ts, one.isT sz t = true) → (done ++ ts).length < 16000000 → Met13 one other sz done ks → (∀ s, x8 = some s → notM13 s = true) →
    ∃ ks' x7' x8', Met13 one other sz (done ++ ts) ks' ∧ loop (bName 7) (a13 wo) ts [some s0, some (.dat one.d), some (.dat other.d), some s3, some s4, some (.own (other.things sz)), some (.bdict wo ks), x7, x8] = .nx [some s0, some (.dat one.d), some (.dat other.d), some s3, some s4, some (.own (other.things sz)), some (.bdict wo ks'), x7', x8']
  | [], done, ks, x7, x8, _, _, _, m, _ => ⟨ks, x7, x8, by rw [List.append_nil]; exact m, rfl⟩
  | t :: ts, done, ks, x7, x8, nd, ht, hl, m, h8 => by
    have tt := ht t (by simp)
    have go1 := go_plain one
    have go2 := go_plain other
    rw [← P.bun] at go2
    have l1 := one.lv_mL; have l2 := other.lv_mL; have d1 := one.dep_lv; have d2 := other.dep_lv
    have hm1 := P.h1.2.2; have hm2 := P.h2.2.2
    obtain ⟨u, R1, hu⟩ := row_fwd (rplain one) one _ t go1 (by omega) tt
    obtain ⟨t', R2, ht'⟩ := row_bwd (rplain other) other _ u go2 (by omega) hu
    have b1 : one.mB ≤ 12 ∧ one.mG ≤ 7 ∧ one.mL ≤ 20 := ⟨P.h1.1, P.h1.2.1, by omega⟩
    have b2 : other.mB ≤ 12 ∧ other.mG ≤ 7 ∧ other.mL ≤ 20 := ⟨P.h2.1, P.h2.2.1, by omega⟩
    have v1 := sent_ev b1 b2 P.bun R1 R2
    have v2 := sent_ev b2 b1 P.bun.symm R2 R1
    obtain ⟨tp, _⟩ := isT_ok sz one t tt
    obtain ⟨tp', _⟩ := isT_ok sz other t' ht'
    have hdt := isT_dep sz one t tt
    have hdt' := isT_dep sz other t' ht'
    have ok := okM_isT ht' m.isT (by omega : other.dep ≤ 8)
    have gm := notIn_mem (ds := other.things sz) tp' (fun d hd => (isT_ok sz other d ((mem_things other d).mp hd)).1) (by omega) ((mem_things other t').mpr ht')
    have nm : nk t' ∉ ks.map nk := by
      rw [nk_mem tp' (fun x hx => (isT_ok sz other x (m.isT x hx)).1)]
      intro hx
      obtain ⟨s, hs, u', S1, S2⟩ := m.from' t' hx
      have := S2.det R2
      subst this
      have := S1.inj R1
      subst this
      rw [List.nodup_append] at nd
      exact nd.2.2 s hs s (by simp) rfl
    have m2 : Met13 one other sz (done ++ [t]) (ks ++ [t']) := by
      refine ⟨by simp [m.len], fun x hx => ?_, fun x hx => ?_⟩
      · rcases List.mem_append.mp hx with h | h
        · exact m.isT x h
        · simp at h; subst h; exact ht'
      · rcases List.mem_append.mp hx with h | h
        · obtain ⟨s, h1, h2⟩ := m.from' x h
          exact ⟨s, List.mem_append_left _ h1, h2⟩
        · simp at h; subst h; exact ⟨t, by simp, u, R1, R2⟩
    have e1 : done ++ t :: ts = done ++ [t] ++ ts := by simp
    obtain ⟨ks', x7', x8', m', e⟩ := loopS wo P s0 s3 s4 n0 n3 n4 ts (done ++ [t]) (ks ++ [t']) (some (.dat t)) (some (.dat t')) (by rw [← e1]; exact nd) (fun s hs => ht s (by simp [hs])) (by rw [← e1]; exact hl) m2 (fun s z => by cases z; rfl)
    refine ⟨ks', x7', x8', by rw [e1]; exact m', ?_⟩
    rw [loop_cons]
    have lk : ks.length < 16777216 := by rw [m.len]; simp at hl; omega
    have s1 : sAsg 8 (eCall m_sent (aCons (eVar 1) (aCons (eVar 2) (aCons (eVar 7) aNil)))) [some s0, some (.dat one.d), some (.dat other.d), some s3, some s4, some (.own (other.things sz)), some (.bdict wo ks), some (.dat t), x8] = .nx [some s0, some (.dat one.d), some (.dat other.d), some s3, some s4, some (.own (other.things sz)), some (.bdict wo ks), some (.dat t), some (.dat t')] := by
      simp [v1]
    have s2 : sIf (cOr (cOf (eTwo kNotIn (eVar 8) (eVar 5))) (cOr (cInM wo false 6 (eVar 8)) (cOf (eTwo kNe (eCall m_sent (aCons (eVar 2) (aCons (eVar 1) (aCons (eVar 8) aNil)))) (eVar 7))))) (sRet (eC (.bl false))) sNext [some s0, some (.dat one.d), some (.dat other.d), some s3, some s4, some (.own (other.things sz)), some (.bdict wo ks), some (.dat t), some (.dat t')] = .nx [some s0, some (.dat one.d), some (.dat other.d), some s3, some s4, some (.own (other.things sz)), some (.bdict wo ks), some (.dat t), some (.dat t')] := by
      have c := cInM_ev wo 6 (eVar 8) [some s0, some (.dat one.d), some (.dat other.d), some s3, some s4, some (.own (other.things sz)), some (.bdict wo ks), some (.dat t), some (.dat t')] ks t' false rfl rfl ok
      rw [decide_eq_false nm] at c
      have ns := ne_self tp (by omega)
      simp [gm, c, v2, ns]
    have s3' : sPutM wo 6 8 [some s0, some (.dat one.d), some (.dat other.d), some s3, some s4, some (.own (other.things sz)), some (.bdict wo ks), some (.dat t), some (.dat t')] = .nx [some s0, some (.dat one.d), some (.dat other.d), some s3, some s4, some (.own (other.things sz)), some (.bdict wo (ks ++ [t'])), some (.dat t), some (.dat t')] := by
      refine sPutM_ev wo 6 8 _ ks t' rfl rfl ok nm lk ?_
      have z : ∀ {s : DV}, notM13 s = true → isDic s = false := fun {s} h => by simpa [notM13] using h
      simp [onlyM, show ∀ d, isDic (.dat d) = false from fun _ => rfl, show ∀ d, isDic (.own d) = false from fun _ => rfl, z n0, z n3, z n4]
    simp only [bName_e, List.set_cons_succ, List.set_cons_zero]
    have st : a13 wo [some s0, some (.dat one.d), some (.dat other.d), some s3, some s4, some (.own (other.things sz)), some (.bdict wo ks), some (.dat t), x8] = _ := (sq13 s1).trans ((sq13 s2).trans s3')
    rw [st]
    exact e
theorem refused13_ev {one other : Kd} (t : D) (h1 : one.mL ≤ 20) (h2 : other.mL ≤ 20) (hb : one.bun ≠ other.bun) : m_law_refused_k13 [.dat one.d, .dat other.d, .dat t] = .ret (.dat (.bl true)) := by
  rw [m_law_refused_k13_eq]; unfold b_law_refused_k13
  simp [unlike_ev t h1 h2 hb]
theorem gL4 : ∀ a : Fin 5, gL a.val ≤ 8 ∧ fB a.val ≤ 12 := by decide
theorem law13 (wo : World) (ns : List Int) : m_law_k13 wo [.scr (ns.map D.int)] = .ret (.dat (.bl true)) := by
  rw [m_law_k13_eq]
  unfold b_law_k13
  have c0 : m_law_cell [.scr (ns.map D.int), .dat (.int 0)] = .ret (.dat (.int (cellI ns 0))) := cell_ev ns 0
  have c1 : m_law_cell [.scr (ns.map D.int), .dat (.int 1)] = .ret (.dat (.int (cellI ns 1))) := cell_ev ns 1
  have c12 : m_law_cell [.scr (ns.map D.int), .dat (.int 12)] = .ret (.dat (.int (cellI ns 12))) := cell_ev ns 12
  have c13 : m_law_cell [.scr (ns.map D.int), .dat (.int 13)] = .ret (.dat (.int (cellI ns 13))) := cell_ev ns 13
  obtain ⟨one, kl, kok, ek⟩ := kindL (cellI ns 0) (cellI ns 1) 1 4 (by decide) (by decide)
  have p1 := cell_pos ns 1
  generalize cellI ns 0 = u at c0 ek
  generalize cellI ns 1 = v at c1 ek p1
  generalize cellI ns 12 = f at c12
  generalize cellI ns 13 = g at c13
  obtain ⟨f1, f2, f3⟩ := first_le one (by omega)
  have f4 := gL4 ⟨one.lv, by omega⟩
  simp only at f4
  obtain ⟨o1, ok1, le1, eo⟩ := other_ev ns 2 one kok (by omega)
  have eo : m_law_other [.scr (ns.map D.int), .dat (.int 2), .dat one.d] = .ret (.dat o1.d) := eo
  have A1 : sAsg 1 (eCall m_law_kind (aCons (eCall m_law_cell (aCons (eVar 0) (aCons (eC (.int 0)) aNil))) (aCons (eTwo kAdd (eC (.int 1)) (eTwo kMod (eCall m_law_cell (aCons (eVar 0) (aCons (eC (.int 1)) aNil))) (eC (.int 4)))) (aCons (eC (.int 1)) aNil)))) [some (.scr (ns.map D.int)), none, none, none, none, none, none, none, none] = .nx [some (.scr (ns.map D.int)), some (.dat one.d), none, none, none, none, none, none, none] := by simp [c0, c1, kMod_i, ek]
  have A2 : sAsg 2 (eCall m_law_other (aCons (eVar 0) (aCons (eC (.int 2)) (aCons (eVar 1) aNil)))) [some (.scr (ns.map D.int)), some (.dat one.d), none, none, none, none, none, none, none] = .nx [some (.scr (ns.map D.int)), some (.dat one.d), some (.dat o1.d), none, none, none, none, none, none] := by simp [eo]
  obtain ⟨other, ook, ob, A3⟩ : ∃ other : Kd, other.ok ∧ (other.mB ≤ one.mB ∧ other.mL ≤ one.mL ∧ other.mG ≤ one.mG) ∧ sIf (cOf (eTwo kEq (eTwo kMod (eTwo kFdiv (eCall m_law_cell (aCons (eVar 0) (aCons (eC (.int 1)) aNil))) (eC (.int 4))) (eC (.int 3))) (eC (.int 1)))) (sAsg 2 (eCall m_law_leafed (aCons (eVar 2) (aCons (eCall m_law_cell (aCons (eVar 0) (aCons (eC (.int 12)) aNil))) (aCons (eC (.int 1)) aNil))))) sNext [some (.scr (ns.map D.int)), some (.dat one.d), some (.dat o1.d), none, none, none, none, none, none] = .nx [some (.scr (ns.map D.int)), some (.dat one.d), some (.dat other.d), none, none, none, none, none, none] := by
    by_cases h : v / 4 % 3 = 1
    · have l := o1.lv_mL; have d := o1.dep_lv; have := le1.L
      obtain ⟨q, qok, q1, q2, q3, eq⟩ := leafed_ev 40 o1 (by omega) ok1 f 1
      have eq : m_law_leafed _ = _ := eq
      exact ⟨q, qok, ⟨by rw [q1]; exact le1.B, by rw [q2]; exact le1.L, by rw [q3]; exact le1.G⟩, by simp [c1, c12, kMod_i, kFdiv_l, h, eq]⟩
    · exact ⟨o1, ok1, ⟨le1.B, le1.L, le1.G⟩, by simp [c1, kMod_i, kFdiv_l, h]⟩
  have es3 := sizes_ev g 3 (by decide)
  have es1 := sizes_ev g 1 (by decide)
  have so3 : SzOk (sizesI g 3) 3 := sizesI_ok _ _ (by decide)
  have so1 : SzOk (sizesI g 1) 1 := sizesI_ok _ _ (by decide)
  generalize sizesI g 3 = s3 at es3 so3
  generalize sizesI g 1 = s1 at es1 so1
  have l1 := one.lv_mL; have d1 := one.dep_lv
  have l2 := other.lv_mL; have d2 := other.dep_lv
  have ec : m_law_count _ = _ := lcount_ev (so3.up (show (3 : Int) ≤ 2 ^ 20 by decide)) 40 one (by omega) kok (by omega)
  have A4 : sAsg 3 (eCall m_law_sizes (aCons (eCall m_law_cell (aCons (eVar 0) (aCons (eC (.int 13)) aNil))) (aCons (eC (.int 3)) aNil))) [some (.scr (ns.map D.int)), some (.dat one.d), some (.dat other.d), none, none, none, none, none, none] = .nx [some (.scr (ns.map D.int)), some (.dat one.d), some (.dat other.d), some (.dat (.tup (s3.map D.int))), none, none, none, none, none] := by simp [c13, es3]
  obtain ⟨sz, so, A5⟩ : ∃ sz : List Int, SzOk sz 3 ∧ sIf (cOf (eTwo kGt (eCall m_law_count (aCons (eVar 1) (aCons (eVar 3) aNil))) (eC (.int 10)))) (sAsg 3 (eCall m_law_sizes (aCons (eCall m_law_cell (aCons (eVar 0) (aCons (eC (.int 13)) aNil))) (aCons (eC (.int 1)) aNil)))) sNext [some (.scr (ns.map D.int)), some (.dat one.d), some (.dat other.d), some (.dat (.tup (s3.map D.int))), none, none, none, none, none] = .nx [some (.scr (ns.map D.int)), some (.dat one.d), some (.dat other.d), some (.dat (.tup (sz.map D.int))), none, none, none, none, none] := by
    by_cases h : 10 < one.cnt s3
    · exact ⟨s1, so1.up (by decide), by simp [ec, h, c13, es1]⟩
    · exact ⟨s3, so3, by simp [ec, h]⟩
  have so4 : SzOk sz (2 ^ 2) := so.up (by decide)
  have so20 : SzOk sz (2 ^ 20) := so.up (by decide)
  have et : m_law_things _ = _ := things_ev so4 so20 40 one (by omega) kok (by omega)
  have et2 : m_law_things _ = _ := things_ev so4 so20 40 other (by omega) ook (by omega)
  have A6 : sAsg 4 (eSl (eCall m_law_things (aCons (eVar 1) (aCons (eVar 3) aNil))) oNone (oSome (eC (.int 10)))) [some (.scr (ns.map D.int)), some (.dat one.d), some (.dat other.d), some (.dat (.tup (sz.map D.int))), none, none, none, none, none] = .nx [some (.scr (ns.map D.int)), some (.dat one.d), some (.dat other.d), some (.dat (.tup (sz.map D.int))), some (.own ((one.things sz).take 10)), none, none, none, none] := by
    have ct := cut_take (one.things sz) 10 (by decide)
    have ct : cutA (one.things sz) none (some 10) = (one.things sz).take 10 := ct
    simp [et, ct]
  rw [sq13 A1, sq13 A2, sq13 A3, sq13 A4, sq13 A5, sq13 A6]
  have e1 : m_law_bundles _ = _ := lbundles_ev 40 one (by omega) (by omega) (one.fits_lv (by omega))
  have e2 : m_law_bundles _ = _ := lbundles_ev 40 other (by omega) (by omega) (other.fits_lv (by omega))
  have ne : kNe (.own (one.bun.map rowD)) (.own (other.bun.map rowD)) = .ok (.dat (.bl (!decide (one.bun.map rowD = other.bun.map rowD)))) := ne_rows one.bun other.bun
  have nd : ((one.things sz).take 10).Nodup := (things_nodup so20 one).sublist (List.take_sublist _ _)
  have tT : ∀ t ∈ (one.things sz).take 10, one.isT sz t = true := fun t ht => (mem_things one t).mp (List.mem_of_mem_take ht)
  have tl : ((one.things sz).take 10).length ≤ 10 := by rw [List.length_take]; omega
  have lo := things_len so20 one
  have lt := things_len so20 other
  by_cases hb : one.bun = other.bun
  · rw [hb, decide_eq_true rfl] at ne
    rw [hb] at e1
    have B1 : sIf (cOf (eTwo kNe (eCall m_law_bundles (aCons (eVar 1) aNil)) (eCall m_law_bundles (aCons (eVar 2) aNil)))) (sRet (eOr (eTwo kEq (eVar 4) (eLst aNil)) (eCall m_law_refused_k13 (aCons (eVar 1) (aCons (eVar 2) (aCons (eTwo kIx (eVar 4) (eC (.int 0))) aNil)))))) sNext [some (.scr (ns.map D.int)), some (.dat one.d), some (.dat other.d), some (.dat (.tup (sz.map D.int))), some (.own ((one.things sz).take 10)), none, none, none, none] = .nx [some (.scr (ns.map D.int)), some (.dat one.d), some (.dat other.d), some (.dat (.tup (sz.map D.int))), some (.own ((one.things sz).take 10)), none, none, none, none] := by
      simp [e1, e2, ne]
    have B2 : sAsg 5 (eCall m_law_things (aCons (eVar 2) (aCons (eVar 3) aNil))) [some (.scr (ns.map D.int)), some (.dat one.d), some (.dat other.d), some (.dat (.tup (sz.map D.int))), some (.own ((one.things sz).take 10)), none, none, none, none] = .nx [some (.scr (ns.map D.int)), some (.dat one.d), some (.dat other.d), some (.dat (.tup (sz.map D.int))), some (.own ((one.things sz).take 10)), some (.own (other.things sz)), none, none, none] := by simp [et2]
    have B3 : sNewM wo 6 [some (.scr (ns.map D.int)), some (.dat one.d), some (.dat other.d), some (.dat (.tup (sz.map D.int))), some (.own ((one.things sz).take 10)), some (.own (other.things sz)), none, none, none] = .nx [some (.scr (ns.map D.int)), some (.dat one.d), some (.dat other.d), some (.dat (.tup (sz.map D.int))), some (.own ((one.things sz).take 10)), some (.own (other.things sz)), some (.bdict wo []), none, none] := rfl
    obtain ⟨ks, x7, x8, m, e⟩ := loopS wo (one := one) (other := other) ⟨⟨by omega, by omega, by omega⟩, ⟨by omega, by omega, by omega⟩, hb⟩ (sz := sz) (.scr (ns.map D.int)) (.dat (.tup (sz.map D.int))) (.lent ((one.things sz).take 10)) rfl rfl rfl ((one.things sz).take 10) [] [] none none (by simpa using nd) tT (by simp only [List.nil_append]; omega) ⟨rfl, fun x hx => by (cases hx), fun x hx => by (cases hx)⟩ (fun s z => by cases z)
    rw [List.nil_append] at m
    have B4 : sForV 4 (bName 7) (a13 wo) [some (.scr (ns.map D.int)), some (.dat one.d), some (.dat other.d), some (.dat (.tup (sz.map D.int))), some (.own ((one.things sz).take 10)), some (.own (other.things sz)), some (.bdict wo []), none, none] = .nx [some (.scr (ns.map D.int)), some (.dat one.d), some (.dat other.d), some (.dat (.tup (sz.map D.int))), some (.own ((one.things sz).take 10)), some (.own (other.things sz)), some (.bdict wo ks), x7, x8] := by
      rw [z_forV]
      simp only [List.getElem?_cons_succ, List.getElem?_cons_zero, List.set_cons_succ, List.set_cons_zero, e]
      simp
    rw [sq13 B1, sq13 B2, sq13 B3, sq13 B4]
    have cnt : one.cnt sz = other.cnt sz := by
      have g1 := go_cnt sz _ _ _ (go_plain one)
      have g2 := go_cnt sz _ _ _ (go_plain other)
      rw [hb] at g1
      omega
    have ml := m.len
    have lm := eLenM_ev wo 6 [some (.scr (ns.map D.int)), some (.dat one.d), some (.dat other.d), some (.dat (.tup (sz.map D.int))), some (.own ((one.things sz).take 10)), some (.own (other.things sz)), some (.bdict wo ks), x7, x8] ks rfl (by omega)
    by_cases h10 : ((one.things sz).take 10).length = 10
    · have h10' : (((one.things sz).take 10).length : Int) = 10 := by omega
      generalize (one.things sz).take 10 = T at *
      simp [h10']
    · have h10' : ¬ (((one.things sz).take 10).length : Int) = 10 := by omega
      have hk : (ks.length : Int) = ((other.things sz).length : Int) := by
        rw [List.length_take] at ml h10
        omega
      generalize (one.things sz).take 10 = T at *
      simp [h10', lm, hk]
  · rw [decide_eq_false (fun z => hb (rows_inj z))] at ne
    have rf := fun t => refused13_ev t (by omega : one.mL ≤ 20) (by omega : other.mL ≤ 20) hb
    have ke : ∀ ds : List D, kEq (.bor ds) (.own []) = .ok (.dat (.bl (D.deqs ds []))) := fun ds => kEq_lists ds [] (by simp [D.deps])
    generalize (one.things sz).take 10 = T at *
    cases T with
    | nil => simp [e1, e2, ne, ke, D.deqs]
    | cons t T => simp [e1, e2, ne, ke, D.deqs, rf]
end KT

set_option linter.all false
set_option maxRecDepth 100000
set_option maxHeartbeats 4000000
namespace KT
/-! ## values of formal sums -/
def pdS (s : Int → Int) : List Int → Int
  | [] => 1
  | i :: k => s i * pdS s k
def smS (s : Int → Int) : FS → Int
  | [] => 0
  | (k, v) :: F => v * pdS s k + smS s F
def upS (s : Int → Int) (n x : Int) : Int → Int := fun i => if i = n then x else s i
theorem pdS_perm (s : Int → Int) {a b : List Int} (h : a.Perm b) : pdS s a = pdS s b := by
  induction h with
  | nil => rfl
  | cons x _ ih => simp only [pdS, ih]
  | swap x y l => simp only [pdS]; rw [Int.mul_left_comm]
  | trans _ _ h1 h2 => rw [h1, h2]
theorem pdS_app (s : Int → Int) (b : List Int) : ∀ a : List Int, pdS s (a ++ b) = pdS s a * pdS s b
  | [] => by simp [pdS]
  | i :: a => by simp only [List.cons_append, pdS, pdS_app s b a, Int.mul_assoc]
theorem pdS_wo (s : Int → Int) (n x : Int) : ∀ k : List Int, pdS (upS s n x) k = pdS s (wo n k) * x ^ ct n k
  | [] => by simp [pdS, wo, ct]
  | i :: k => by
    have ih := pdS_wo s n x k
    by_cases h : i = n
    · subst h
      rw [wo_eq, ct_eq, Int.pow_succ]
      simp only [pdS, ih, upS, if_true]
      rw [Int.mul_left_comm, Int.mul_comm x]
    · rw [wo_ne h, ct_ne h]
      simp only [pdS, ih, upS, if_neg h, Int.mul_assoc]
theorem smS_sbs (s : Int → Int) (n x : Int) : ∀ F : FS, smS s (sbs n x F) = smS (upS s n x) F
  | [] => rfl
  | (k, v) :: F => by
    have ih := smS_sbs s n x F
    show v * x ^ ct n k * pdS s (wo n k) + smS s (sbs n x F) = v * pdS (upS s n x) k + smS (upS s n x) F
    rw [ih, pdS_wo, Int.mul_assoc, Int.mul_comm (x ^ ct n k)]
theorem smS_nil (s : Int → Int) : ∀ F : FS, (∀ kv ∈ F, kv.1 = []) → smS s F = cf F []
  | [], _ => rfl
  | (k, v) :: F, h => by
    have h1 : k = [] := h (k, v) (by simp)
    subst h1
    simp only [smS, cf, pdS, if_true, smS_nil s F fun kv hk => h kv (by simp [hk])]
    omega
def KeyOk (N : Nat) (m : Int) (k : List Int) : Prop := Srt ile k ∧ k.length ≤ N ∧ ∀ i ∈ k, m ≤ i ∧ i < 4
theorem ct_le (n : Int) (k : List Int) : ct n k ≤ k.length := List.length_filter_le _ _
theorem wo_ok {N : Nat} {n : Int} {k : List Int} (h : KeyOk N n k) : KeyOk N (n + 1) (wo n k) := by
  refine ⟨h.1.sublist List.filter_sublist, Nat.le_trans (List.length_filter_le _ _) h.2.1, fun i hi => ?_⟩
  unfold wo at hi
  rw [List.mem_filter] at hi
  have := h.2.2 i hi.1
  have h2 : i ≠ n := by simpa using hi.2
  omega
theorem sbs_ok {N : Nat} {n x : Int} {F : FS} (h : ∀ kv ∈ F, KeyOk N n kv.1) : ∀ kv ∈ sbs n x F, KeyOk N (n + 1) kv.1 := by
  intro kv hk
  obtain ⟨q, hq, rfl⟩ := List.mem_map.mp hk
  exact wo_ok (h q hq)
theorem four_nil {N : Nat} {k : List Int} (h : KeyOk N 4 k) : k = [] := by
  cases k with
  | nil => rfl
  | cons i k => have := h.2.2 i (by simp); omega
/-- a sum that is not zero has sizes where its value is not zero -/
theorem sum_ne {N : Nat} {F : FS} (h : ∀ kv ∈ F, KeyOk N 0 kv.1) {k0 : List Int} (h0 : KeyOk N 0 k0) (hk : cf F k0 ≠ 0) {xs : List Int} (hx : xs.length = N + 1) (hn : xs.Nodup) (s : Int → Int) :
    ∃ a ∈ xs, ∃ b ∈ xs, ∃ c ∈ xs, ∃ d ∈ xs, smS (upS (upS (upS (upS s 3 d) 2 c) 1 b) 0 a) F ≠ 0 := by
  have cl : ∀ {n : Int} {F : FS}, (∀ kv ∈ F, KeyOk N n kv.1) → ∀ kv ∈ F, ct n kv.1 ≤ N ∧ Srt ile kv.1 := fun h kv hk => ⟨Nat.le_trans (ct_le _ _) (h kv hk).2.1, (h kv hk).1⟩
  obtain ⟨a, ha, k1⟩ := sbs_ne (cl h) h0.1 hk hx hn
  have o1 := sbs_ok (x := a) h
  obtain ⟨b, hb, k2⟩ := sbs_ne (n := 1) (cl o1) (wo_ok h0).1 k1 hx hn
  have o2 := sbs_ok (x := b) o1
  obtain ⟨c, hc, k3⟩ := sbs_ne (n := 2) (cl o2) (wo_ok (wo_ok h0)).1 k2 hx hn
  have o3 := sbs_ok (x := c) o2
  obtain ⟨d, hd, k4⟩ := sbs_ne (n := 3) (cl o3) (wo_ok (wo_ok (wo_ok h0))).1 k3 hx hn
  have o4 := sbs_ok (x := d) o3
  have z : wo 3 (wo 2 (wo 1 (wo 0 k0))) = [] := four_nil (N := N) (wo_ok (wo_ok (wo_ok (wo_ok h0))))
  have k4 : cf (sbs 3 d (sbs 2 c (sbs 1 b (sbs 0 a F)))) (wo 3 (wo 2 (wo 1 (wo 0 k0)))) ≠ 0 := k4
  rw [z] at k4
  refine ⟨a, ha, b, hb, c, hc, d, hd, ?_⟩
  rw [← smS_sbs, ← smS_sbs, ← smS_sbs, ← smS_sbs]
  have e : smS s (sbs 3 d (sbs 2 c (sbs 1 b (sbs 0 a F)))) = cf (sbs 3 d (sbs 2 c (sbs 1 b (sbs 0 a F)))) [] := smS_nil _ _ fun kv hkv => four_nil (N := N) (o4 kv hkv)
  rw [e]
  exact k4
/-! ## bundles as sums -/
def smB (s : Int → Int) : List (List Int) → Int
  | [] => 0
  | k :: A => pdS s k + smB s A
theorem smB_perm (s : Int → Int) {A B : List (List Int)} (h : A.Perm B) : smB s A = smB s B := by
  induction h with
  | nil => rfl
  | cons x _ ih => simp only [smB, ih]
  | swap x y l => simp only [smB]; omega
  | trans _ _ h1 h2 => rw [h1, h2]
theorem smB_app (s : Int → Int) (B : List (List Int)) : ∀ A : List (List Int), smB s (A ++ B) = smB s A + smB s B
  | [] => by simp [smB]
  | k :: A => by simp only [List.cons_append, smB, smB_app s B A]; omega
theorem smB_row (s : Int → Int) (a : List Int) : ∀ B : List (List Int), smB s (B.map fun b => isort ile (a ++ b)) = pdS s a * smB s B
  | [] => by simp [smB]
  | b :: B => by
    simp only [List.map_cons, smB, smB_row s a B, Int.mul_add]
    rw [pdS_perm s (isort_self (a ++ b)), pdS_app]
theorem smB_mul (s : Int → Int) (A B : List (List Int)) : smB s (bunS A B) = smB s A * smB s B := by
  unfold bunS
  rw [smB_perm s (isort_self _)]
  induction A with
  | nil => simp [smB]
  | cons a A ih => rw [List.flatMap_cons, smB_app, ih, smB_row]; simp only [smB, Int.add_mul]
theorem smB_add (s : Int → Int) (A B : List (List Int)) : smB s (isort lexLe (A ++ B)) = smB s A + smB s B := by
  rw [smB_perm s (isort_self _), smB_app]
def szF (sz : List Int) : Int → Int := fun i => sz.getD i.toNat 0
theorem cnt_smB (sz : List Int) : ∀ k : Kd, k.cnt sz = smB (szF sz) k.bun
  | .none => rfl
  | .one => by simp [Kd.cnt, Kd.bun, smB, pdS]
  | .name i => by simp [Kd.cnt, Kd.bun, smB, pdS, szF]
  | .ei a b => by simp only [Kd.cnt, Kd.bun, smB_add, cnt_smB sz a, cnt_smB sz b]
  | .bo a b => by simp only [Kd.cnt, Kd.bun, smB_mul, cnt_smB sz a, cnt_smB sz b]
theorem pdS_pos {s : Int → Int} (h : ∀ i, 1 ≤ s i) : ∀ k : List Int, 1 ≤ pdS s k
  | [] => Int.le_refl _
  | i :: k => by
    have h1 := h i; have h2 := pdS_pos h k
    have := Int.mul_le_mul h1 h2 (by decide) (by omega)
    simpa [pdS] using this
theorem smB_pos {s : Int → Int} (h : ∀ i, 1 ≤ s i) : ∀ A : List (List Int), A ≠ [] → 1 ≤ smB s A
  | [], z => absurd rfl z
  | [k], _ => by have := pdS_pos h k; simp only [smB]; omega
  | k :: b :: A, _ => by
    have := pdS_pos h k; have := smB_pos h (b :: A) (by simp)
    simp only [smB] at this ⊢; omega
/-- left's bundles less right's -/
def dif (A B : List (List Int)) : FS := A.map (fun k => (k, 1)) ++ B.map fun k => (k, -1)
theorem cf_app (q : List Int) (G : FS) : ∀ F : FS, cf (F ++ G) q = cf F q + cf G q
  | [] => by simp [cf]
  | (k, v) :: F => by simp only [List.cons_append, cf, cf_app q G F]; omega
theorem cf_const (q : List Int) (v : Int) : ∀ A : List (List Int), cf (A.map fun k => (k, v)) q = v * (A.count q : Int)
  | [] => by simp [cf]
  | k :: A => by
    simp only [List.map_cons, cf, cf_const q v A, List.count_cons]
    by_cases h : k = q
    · subst h; simp [Int.mul_add]; omega
    · simp [h]
theorem smS_app (s : Int → Int) (G : FS) : ∀ F : FS, smS s (F ++ G) = smS s F + smS s G
  | [] => by simp [smS]
  | (k, v) :: F => by simp only [List.cons_append, smS, smS_app s G F]; omega
theorem smS_const (s : Int → Int) (v : Int) : ∀ A : List (List Int), smS s (A.map fun k => (k, v)) = v * smB s A
  | [] => by simp [smS, smB]
  | k :: A => by simp only [List.map_cons, smS, smB, smS_const s v A, Int.mul_add]
theorem dif_sm (s : Int → Int) (A B : List (List Int)) : smS s (dif A B) = smB s A - smB s B := by
  unfold dif
  rw [smS_app, smS_const, smS_const]; omega
theorem dif_cf (q : List Int) (A B : List (List Int)) : cf (dif A B) q = (A.count q : Int) - (B.count q : Int) := by
  unfold dif
  rw [cf_app, cf_const, cf_const]; omega
theorem dif_ne {A B : List (List Int)} (hA : Srt lexLe A) (hB : Srt lexLe B) (h : A ≠ B) : ∃ q, (q ∈ A ∨ q ∈ B) ∧ cf (dif A B) q ≠ 0 := by
  refine Classical.byContradiction fun hc => h ?_
  refine srt_eq lex_ord ?_ hA hB
  rw [List.perm_iff_count]
  intro q
  refine Classical.byContradiction fun hz => hc ⟨q, ?_, ?_⟩
  · by_cases m : q ∈ A
    · exact .inl m
    · by_cases m2 : q ∈ B
      · exact .inr m2
      · exact absurd (by rw [List.count_eq_zero_of_not_mem m, List.count_eq_zero_of_not_mem m2]) hz
  · rw [dif_cf]; omega
/-- one product, one factor: the other factor -/
theorem bunS_cancel {A B C : List (List Int)} {N : Nat} (hA : Srt lexLe A) (hB : Srt lexLe B) (kA : ∀ k ∈ A, KeyOk N 0 k) (kB : ∀ k ∈ B, KeyOk N 0 k) (hC : C ≠ []) (h : bunS C A = bunS B C) : A = B := by
  refine Classical.byContradiction fun hne => ?_
  obtain ⟨q, hq, hz⟩ := dif_ne hA hB hne
  have kD : ∀ kv ∈ dif A B, KeyOk N 0 kv.1 := fun kv hkv => by
    unfold dif at hkv
    rcases List.mem_append.mp hkv with m | m
    · obtain ⟨k, hk, rfl⟩ := List.mem_map.mp m; exact kA k hk
    · obtain ⟨k, hk, rfl⟩ := List.mem_map.mp m; exact kB k hk
  have kq : KeyOk N 0 q := hq.elim (kA q) (kB q)
  obtain ⟨a, ha, b, hb, c, hc, d, hd, ne⟩ := sum_ne kD kq hz (xs := (List.range (N + 1)).map fun (i : Nat) => (i : Int) + 1) (by simp) (by
    rw [List.Nodup, List.pairwise_map]
    exact List.nodup_range.imp fun hne z => hne (by omega)) (fun _ => 1)
  have pos : ∀ x ∈ (List.range (N + 1)).map fun (i : Nat) => (i : Int) + 1, 1 ≤ x := fun x hx => by
    obtain ⟨i, _, rfl⟩ := List.mem_map.mp hx; omega
  generalize hs : upS (upS (upS (upS (fun _ => 1) 3 d) 2 c) 1 b) 0 a = s at ne
  have sp : ∀ i, 1 ≤ s i := fun i => by
    have := pos a ha; have := pos b hb; have := pos c hc; have := pos d hd
    rw [← hs]
    show 1 ≤ (if i = 0 then a else if i = 1 then b else if i = 2 then c else if i = 3 then d else 1)
    split
    · omega
    · split
      · omega
      · split
        · omega
        · split <;> omega
  have e := congrArg (smB s) h
  rw [smB_mul, smB_mul, Int.mul_comm (smB s B)] at e
  have cp := smB_pos sp C hC
  have := Int.eq_of_mul_eq_mul_left (show smB s C ≠ 0 by omega) e
  rw [dif_sm] at ne
  omega
theorem bunA_cancel {A B C : List (List Int)} (hA : Srt lexLe A) (hB : Srt lexLe B) (h : isort lexLe (A ++ C) = isort lexLe (C ++ B)) : A = B := by
  refine srt_eq lex_ord ?_ hA hB
  have p : (A ++ C).Perm (C ++ B) := (isort_self _).symm.trans (by rw [h]; exact isort_self _)
  have p2 : (C ++ A).Perm (C ++ B) := List.perm_append_comm.trans p
  exact (List.perm_append_left_iff C).mp p2
end KT

set_option linter.all false
set_option maxRecDepth 100000
set_option maxHeartbeats 4000000
namespace KT
open PySem PySem.Spec PyProof.Rows L2

theorem bun_rng : ∀ k : Kd, k.ok → ∀ x ∈ k.bun, ∀ i ∈ x, 0 ≤ i ∧ i < 4
  | .none, _, x, h, _, _ => by cases h
  | .one, _, x, h, i, hi => by simp [Kd.bun] at h; subst h; cases hi
  | .name n, hk, x, h, i, hi => by simp [Kd.bun] at h; subst h; simp at hi; subst hi; exact hk
  | .ei a b, hk, x, h, i, hi => by
    rw [Kd.bun, isort_mem, List.mem_append] at h
    exact h.elim (fun h => bun_rng a hk.1 x h i hi) (fun h => bun_rng b hk.2 x h i hi)
  | .bo a b, hk, x, h, i, hi => by
    rw [Kd.bun, bunS_mem] at h
    obtain ⟨y, hy, z, hz, rfl⟩ := h
    rw [isort_mem, List.mem_append] at hi
    exact hi.elim (fun h => bun_rng a hk.1 y hy i h) (fun h => bun_rng b hk.2 z hz i h)
theorem bun_key {k : Kd} (hk : k.ok) (hG : k.mG ≤ 7) : ∀ x ∈ k.bun, KeyOk 7 0 x := fun x hx => ⟨k.bun_each x hx, by have := k.bun_mG x hx; omega, fun i hi => bun_rng k hk x hx i hi⟩
def jw (a b : Kd) : String := if a.bun = b.bun then "same" else "unlike"
theorem judged_word {a b : Kd} (h1 : JOk a) (h2 : JOk b) (hl : a.bun.length ≤ 1000000 ∧ b.bun.length ≤ 1000000) : ∃ r, m_judged [.dat a.d, .dat b.d] = .ret r ∧ kIxT r (.dat (.int 0)) = .ok (.dat (.str (jw a b))) := by
  unfold jw
  by_cases h : a.bun = b.bun
  · rw [if_pos h]
    exact ⟨_, judged_same h1 h2 h, rfl⟩
  · rw [if_neg h]
    obtain ⟨xs, _, _, e⟩ := judged_unlike h1 h2 h hl
    exact ⟨_, e, by simp⟩
theorem jok_of {k : Kd} (hB : k.mB ≤ 12) (hG : k.mG ≤ 7) (hL : k.lv ≤ 20) : JOk k := ⟨thin_of k hB hG, hL⟩
theorem law14 (ns : List Int) : m_law_k14 [.scr (ns.map D.int)] = .ret (.dat (.bl true)) := by
  rw [m_law_k14_eq]
  unfold b_law_k14
  have c0 : m_law_cell [.scr (ns.map D.int), .dat (.int 0)] = .ret (.dat (.int (cellI ns 0))) := cell_ev ns 0
  have c1 : m_law_cell [.scr (ns.map D.int), .dat (.int 1)] = .ret (.dat (.int (cellI ns 1))) := cell_ev ns 1
  have c12 : m_law_cell [.scr (ns.map D.int), .dat (.int 12)] = .ret (.dat (.int (cellI ns 12))) := cell_ev ns 12
  have c13 : m_law_cell [.scr (ns.map D.int), .dat (.int 13)] = .ret (.dat (.int (cellI ns 13))) := cell_ev ns 13
  have c14 : m_law_cell [.scr (ns.map D.int), .dat (.int 14)] = .ret (.dat (.int (cellI ns 14))) := cell_ev ns 14
  obtain ⟨one, kl, kok, ek⟩ := kindL (cellI ns 0) (cellI ns 1) 1 4 (by decide) (by decide)
  obtain ⟨third, tl, tok, et⟩ := kindL (cellI ns 13) (cellI ns 14) 1 2 (by decide) (by decide)
  have p1 := cell_pos ns 1
  generalize cellI ns 0 = u at c0 ek
  generalize cellI ns 1 = v at c1 ek p1
  generalize cellI ns 12 = f at c12
  generalize cellI ns 13 = g at c13 et
  generalize cellI ns 14 = h at c14 et
  obtain ⟨f1, f2, f3⟩ := first_le one (by omega)
  have f4 := gL4 ⟨one.lv, by omega⟩
  simp only at f4
  have fb : ∀ a : Fin 5, fB a.val ≤ 4 := by decide
  have f5 := fb ⟨one.lv, by omega⟩
  simp only at f5
  obtain ⟨t1, t2, t3⟩ := first_le third (by omega)
  have fb2 : ∀ a : Fin 3, fB a.val ≤ 2 := by decide
  have t5 := fb2 ⟨third.lv, by omega⟩
  simp only at t5
  obtain ⟨o1, ok1, le1, eo⟩ := other_ev ns 2 one kok (by omega)
  have eo : m_law_other [.scr (ns.map D.int), .dat (.int 2), .dat one.d] = .ret (.dat o1.d) := eo
  have A1 : sAsg 1 (eCall m_law_kind (aCons (eCall m_law_cell (aCons (eVar 0) (aCons (eC (.int 0)) aNil))) (aCons (eTwo kAdd (eC (.int 1)) (eTwo kMod (eCall m_law_cell (aCons (eVar 0) (aCons (eC (.int 1)) aNil))) (eC (.int 4)))) (aCons (eC (.int 1)) aNil)))) [some (.scr (ns.map D.int)), none, none, none, none] = .nx [some (.scr (ns.map D.int)), some (.dat one.d), none, none, none] := by simp [c0, c1, kMod_i, ek]
  have A2 : sAsg 2 (eCall m_law_other (aCons (eVar 0) (aCons (eC (.int 2)) (aCons (eVar 1) aNil)))) [some (.scr (ns.map D.int)), some (.dat one.d), none, none, none] = .nx [some (.scr (ns.map D.int)), some (.dat one.d), some (.dat o1.d), none, none] := by simp [eo]
  obtain ⟨other, ook, ob, A3⟩ : ∃ other : Kd, other.ok ∧ (other.mB ≤ one.mB ∧ other.mL ≤ one.mL ∧ other.mG ≤ one.mG) ∧ sIf (cOf (eTwo kGt (eTwo kMod (eTwo kFdiv (eCall m_law_cell (aCons (eVar 0) (aCons (eC (.int 1)) aNil))) (eC (.int 4))) (eC (.int 3))) (eC (.int 0)))) (sAsg 2 (eCall m_law_leafed (aCons (eVar 2) (aCons (eCall m_law_cell (aCons (eVar 0) (aCons (eC (.int 12)) aNil))) (aCons (eC (.int 1)) aNil))))) sNext [some (.scr (ns.map D.int)), some (.dat one.d), some (.dat o1.d), none, none] = .nx [some (.scr (ns.map D.int)), some (.dat one.d), some (.dat other.d), none, none] := by
    by_cases h : 0 < v / 4 % 3
    · have l := o1.lv_mL; have d := o1.dep_lv; have := le1.L
      obtain ⟨q, qok, q1, q2, q3, eq⟩ := leafed_ev 40 o1 (by omega) ok1 f 1
      have eq : m_law_leafed _ = _ := eq
      exact ⟨q, qok, ⟨by rw [q1]; exact le1.B, by rw [q2]; exact le1.L, by rw [q3]; exact le1.G⟩, by simp [c1, c12, kMod_i, kFdiv_l, h, eq]⟩
    · exact ⟨o1, ok1, ⟨le1.B, le1.L, le1.G⟩, by simp [c1, kMod_i, kFdiv_l, h]⟩
  have A4 : sAsg 3 (eCall m_law_kind (aCons (eCall m_law_cell (aCons (eVar 0) (aCons (eC (.int 13)) aNil))) (aCons (eTwo kAdd (eC (.int 1)) (eTwo kMod (eCall m_law_cell (aCons (eVar 0) (aCons (eC (.int 14)) aNil))) (eC (.int 2)))) (aCons (eC (.int 1)) aNil)))) [some (.scr (ns.map D.int)), some (.dat one.d), some (.dat other.d), none, none] = .nx [some (.scr (ns.map D.int)), some (.dat one.d), some (.dat other.d), some (.dat third.d), none] := by simp [c13, c14, kMod_i, et]
  rw [sqY A1, sqY A2, sqY A3, sqY A4]
  have l1 := one.lv_mL; have l2 := other.lv_mL
  have b1 := one.bun_mB; have b2 := other.bun_mB; have b3 := third.bun_mB
  have m1 : third.mB * one.mB ≤ 2 * 4 := Nat.mul_le_mul (by omega) (by omega)
  have m2 : other.mB * third.mB ≤ 4 * 2 := Nat.mul_le_mul (by omega) (by omega)
  have j1 : JOk one := jok_of (by omega) (by omega) (by omega)
  have j2 : JOk other := jok_of (by omega) (by omega) (by omega)
  have j3 : JOk (.ei one third) := jok_of (by simp only [Kd.mB]; omega) (by simp only [Kd.mG]; omega) (by simp only [Kd.lv]; omega)
  have j4 : JOk (.ei third other) := jok_of (by simp only [Kd.mB]; omega) (by simp only [Kd.mG]; omega) (by simp only [Kd.lv]; omega)
  have j5 : JOk (.bo third one) := jok_of (by simp only [Kd.mB]; omega) (by simp only [Kd.mG]; omega) (by simp only [Kd.lv]; omega)
  have j6 : JOk (.bo other third) := jok_of (by simp only [Kd.mB]; omega) (by simp only [Kd.mG]; omega) (by simp only [Kd.lv]; omega)
  have j7 : JOk (.ei one other) := jok_of (by simp only [Kd.mB]; omega) (by simp only [Kd.mG]; omega) (by simp only [Kd.lv]; omega)
  have j8 : JOk (.ei other one) := jok_of (by simp only [Kd.mB]; omega) (by simp only [Kd.mG]; omega) (by simp only [Kd.lv]; omega)
  have len : ∀ k : Kd, k.mB ≤ 12 → k.bun.length ≤ 1000000 := fun k hk => by have := k.bun_mB; omega
  obtain ⟨r1, w1, x1⟩ := judged_word j1 j2 ⟨len _ (by omega), len _ (by omega)⟩
  obtain ⟨r2, w2, x2⟩ := judged_word j3 j4 ⟨len _ (by simp only [Kd.mB]; omega), len _ (by simp only [Kd.mB]; omega)⟩
  obtain ⟨r3, w3, x3⟩ := judged_word j5 j6 ⟨len _ (by simp only [Kd.mB]; omega), len _ (by simp only [Kd.mB]; omega)⟩
  obtain ⟨r4, w4, x4⟩ := judged_word j1 j1 ⟨len _ (by omega), len _ (by omega)⟩
  obtain ⟨r5, w5, x5⟩ := judged_word j7 j8 ⟨len _ (by simp only [Kd.mB]; omega), len _ (by simp only [Kd.mB]; omega)⟩
  have g2 : jw (.ei one third) (.ei third other) = jw one other := by
    unfold jw
    have : (Kd.ei one third).bun = (Kd.ei third other).bun ↔ one.bun = other.bun := by
      constructor
      · exact fun e => bunA_cancel one.bun_srt other.bun_srt e
      · intro e
        simp only [Kd.bun]
        rw [e]
        exact isort_perm lex_ord List.perm_append_comm
    simp only [this]
  have g3 : third.bun ≠ [] → jw (.bo third one) (.bo other third) = jw one other := by
    intro h0
    unfold jw
    have : (Kd.bo third one).bun = (Kd.bo other third).bun ↔ one.bun = other.bun := by
      constructor
      · exact fun e => bunS_cancel one.bun_srt other.bun_srt (bun_key kok (by omega)) (bun_key ook (by omega)) h0 e
      · intro e
        simp only [Kd.bun]
        rw [e, bunS_comm]
    simp only [this]
  have g4 : jw one one = "same" := by simp [jw]
  have g5 : jw (.ei one other) (.ei other one) = "same" := by
    unfold jw
    rw [if_pos]
    simp only [Kd.bun]
    exact isort_perm lex_ord List.perm_append_comm
  rw [g2] at x2
  rw [g4] at x4
  rw [g5] at x5
  have e3 : m_law_bundles _ = _ := lbundles_ev 40 third (by have := third.dep_lv; omega) (by omega) (third.fits_lv (by omega))
  have ne : kNe (.own (third.bun.map rowD)) (.own []) = .ok (.dat (.bl (!decide (third.bun.map rowD = [])))) := ne_rows third.bun []
  simp only [Kd.d] at w2 w3 w5
  by_cases h0 : third.bun = []
  · simp only [h0, List.map_nil, decide_true, Bool.not_true] at e3 ne
    simp [w1, x1, w2, x2, w4, x4, w5, x5, e3, ne]
  · have h1 : third.bun.map rowD ≠ [] := fun z => h0 (List.map_eq_nil_iff.mp z)
    rw [decide_eq_false h1] at ne
    rw [g3 h0] at x3
    simp [w1, x1, w2, x2, w3, x3, w4, x4, w5, x5, e3, ne]
end KT

set_option Elab.async false
set_option linter.all false
set_option maxRecDepth 100000
set_option maxHeartbeats 4000000
namespace LW
open PySem PySem.Spec PyProof.Rows L2 KT
def top (i : Nat) : Stmt := PySem.Challenge.pw_kindturn_k14_whole_put_to_both.main.body.getD i (.Pass ⟨0, 0, 0, 0⟩)
def d_is_pair : He.DefD := ⟨("is_pair", none), "is_pair", "is_pair", defArgs (top 4), defBody (top 4), defScope (top 4), [], []⟩
def d_need : He.DefD := ⟨("need", none), "need", "need", defArgs (top 6), defBody (top 6), defScope (top 6), [], []⟩
def d_turned_here : He.DefD := ⟨("turned_here", none), "turned_here", "turned_here", defArgs (top 7), defBody (top 7), defScope (top 7), [], []⟩
def d_bundles : He.DefD := ⟨("bundles", none), "bundles", "bundles", defArgs (top 9), defBody (top 9), defScope (top 9), [], []⟩
def d_Path___init__ : He.DefD := ⟨("Path", some "__init__"), "__init__", "Path.__init__", defArgs (inClass (top 10) 0), defBody (inClass (top 10) 0), defScope (inClass (top 10) 0), [], []⟩
def d_Path_turn : He.DefD := ⟨("Path", some "turn"), "turn", "Path.turn", defArgs (inClass (top 10) 1), defBody (inClass (top 10) 1), defScope (inClass (top 10) 1), [], []⟩
def d_Path_sift : He.DefD := ⟨("Path", some "sift"), "sift", "Path.sift", defArgs (inClass (top 10) 2), defBody (inClass (top 10) 2), defScope (inClass (top 10) 2), [], []⟩
def d_Path_merge : He.DefD := ⟨("Path", some "merge"), "merge", "Path.merge", defArgs (inClass (top 10) 3), defBody (inClass (top 10) 3), defScope (inClass (top 10) 3), [], []⟩
def d_Path_times : He.DefD := ⟨("Path", some "times"), "times", "Path.times", defArgs (inClass (top 10) 4), defBody (inClass (top 10) 4), defScope (inClass (top 10) 4), [], []⟩
def d_Path_share : He.DefD := ⟨("Path", some "share"), "share", "Path.share", defArgs (inClass (top 10) 5), defBody (inClass (top 10) 5), defScope (inClass (top 10) 5), [], []⟩
def d_Path_plainer : He.DefD := ⟨("Path", some "plainer"), "plainer", "Path.plainer", defArgs (inClass (top 10) 6), defBody (inClass (top 10) 6), defScope (inClass (top 10) 6), [], []⟩
def d_row_to_plain : He.DefD := ⟨("row_to_plain", none), "row_to_plain", "row_to_plain", defArgs (top 11), defBody (top 11), defScope (top 11), [], []⟩
def d_put_in : He.DefD := ⟨("put_in", none), "put_in", "put_in", defArgs (top 15), defBody (top 15), defScope (top 15), [], []⟩
def d_all_even : He.DefD := ⟨("all_even", none), "all_even", "all_even", defArgs (top 16), defBody (top 16), defScope (top 16), [], []⟩
def d_sizes_for : He.DefD := ⟨("sizes_for", none), "sizes_for", "sizes_for", defArgs (top 17), defBody (top 17), defScope (top 17), [], []⟩
def d_judged : He.DefD := ⟨("judged", none), "judged", "judged", defArgs (top 18), defBody (top 18), defScope (top 18), [], []⟩
def d_law_stir : He.DefD := ⟨("_law_stir", none), "_law_stir", "_law_stir", defArgs (top 20), defBody (top 20), defScope (top 20), [], []⟩
def d_law_cell : He.DefD := ⟨("_law_cell", none), "_law_cell", "_law_cell", defArgs (top 21), defBody (top 21), defScope (top 21), [], []⟩
def d_law_draw : He.DefD := ⟨("_law_draw", none), "_law_draw", "_law_draw", defArgs (top 22), defBody (top 22), defScope (top 22), [], []⟩
def d_law_kind : He.DefD := ⟨("_law_kind", none), "_law_kind", "_law_kind", defArgs (top 23), defBody (top 23), defScope (top 23), [], []⟩
def d_law_paths : He.DefD := ⟨("_law_paths", none), "_law_paths", "_law_paths", defArgs (top 24), defBody (top 24), defScope (top 24), [], []⟩
def d_law_part : He.DefD := ⟨("_law_part", none), "_law_part", "_law_part", defArgs (top 25), defBody (top 25), defScope (top 25), [], []⟩
def d_law_here : He.DefD := ⟨("_law_here", none), "_law_here", "_law_here", defArgs (top 26), defBody (top 26), defScope (top 26), [], []⟩
def d_law_put : He.DefD := ⟨("_law_put", none), "_law_put", "_law_put", defArgs (top 27), defBody (top 27), defScope (top 27), [], []⟩
def d_law_turned : He.DefD := ⟨("_law_turned", none), "_law_turned", "_law_turned", defArgs (top 28), defBody (top 28), defScope (top 28), [], []⟩
def d_law_all_turnings : He.DefD := ⟨("_law_all_turnings", none), "_law_all_turnings", "_law_all_turnings", defArgs (top 29), defBody (top 29), defScope (top 29), [], []⟩
def d_law_bundles : He.DefD := ⟨("_law_bundles", none), "_law_bundles", "_law_bundles", defArgs (top 30), defBody (top 30), defScope (top 30), [], []⟩
def d_law_other : He.DefD := ⟨("_law_other", none), "_law_other", "_law_other", defArgs (top 31), defBody (top 31), defScope (top 31), [], []⟩
def d_law_leafed : He.DefD := ⟨("_law_leafed", none), "_law_leafed", "_law_leafed", defArgs (top 32), defBody (top 32), defScope (top 32), [], []⟩
def d_law : He.DefD := ⟨("law", none), "law", "law", defArgs (top 33), defBody (top 33), defScope (top 33), [], []⟩
def fn : List He.DefD := [d_is_pair, d_need, d_turned_here, d_bundles, d_Path___init__, d_Path_turn, d_Path_sift, d_Path_merge, d_Path_times, d_Path_share, d_Path_plainer, d_row_to_plain, d_put_in, d_all_even, d_sizes_for, d_judged, d_law_stir, d_law_cell, d_law_draw, d_law_kind, d_law_paths, d_law_part, d_law_here, d_law_put, d_law_turned, d_law_all_turnings, d_law_bundles, d_law_other, d_law_leafed, d_law]
def fa : List He.Fa := [.glo "is_pair", .glo "need", .glo "turned_here", .glo "bundles", .glo "row_to_plain", .glo "put_in", .glo "all_even", .glo "sizes_for", .glo "judged", .glo "_law_stir", .glo "_law_cell", .glo "_law_draw", .glo "_law_kind", .glo "_law_paths", .glo "_law_part", .glo "_law_here", .glo "_law_put", .glo "_law_turned", .glo "_law_all_turnings", .glo "_law_bundles", .glo "_law_other", .glo "_law_leafed", .glo "law", .glo "KindError", .glo "NoTurning", .glo "Path", .exc "KindError", .exc "NoTurning", .exm "KindError" "KindError" true, .exm "NoTurning" "KindError" true, .int "NAMES" 4, .int "MOST" 20, .cls "Path", .mkr "Path", .noat "Path" "row", .meth "Path" "__init__", .meth "Path" "turn", .meth "Path" "sift", .meth "Path" "merge", .meth "Path" "times", .meth "Path" "share", .meth "Path" "plainer", .free "ValueError", .free "int", .free "len", .free "range", .free "sorted", .free "tuple"]
def xf : List Xf := []
def N_law_draw : List Str := ["cell", "k", "bound", "stir"]
def N_law_kind : List Str := ["cell", "leaves", "k", "left", "word", "which"]
def N_law_part : List Str := ["kind", "path", "side"]
def N_law_paths : List Str := ["kind", "found", "waiting", "path"]
def N_law_here : List Str := ["kind", "word", "k", "m"]
def N_law_all_turnings : List Str := ["kind", "found", "path", "word"]
def N_law_stir : List Str := ["cell", "found", "factor", "mixed"]
def N_law_cell : List Str := ["script", "k"]
def N_law_put : List Str := ["kind", "path", "piece", "inner"]
def N_law_turned : List Str := ["kind", "word", "path", "piece"]
def N_law_other : List Str := ["script", "first", "kind", "k", "some", "word", "path"]
def N_law_leafed : List Str := ["kind", "cell", "k"]
def N_bundles : List Str := ["kind", "left", "right", "found", "one", "other"]
def N_put_in : List Str := ["counts", "name", "size", "found", "names", "left", "worth", "one"]
def N_all_even : List Str := ["counts", "names"]
def N_sizes_for : List Str := ["counts", "sizes", "name", "size"]
def N_Path___init__ : List Str := ["self"]
def N_need : List Str := ["good"]
def N_is_pair : List Str := ["kind"]
def N_turned_here : List Str := ["kind", "word", "first", "second"]
def N_Path_turn : List Str := ["self", "kind", "path", "word"]
def N_Path_sift : List Str := ["self", "kind", "path", "first", "inner"]
def N_Path_merge : List Str := ["self", "kind", "path", "empty"]
def N_Path_share : List Str := ["self", "kind", "path", "left", "right"]
def N_Path_times : List Str := ["self", "kind", "path"]
def N_Path_plainer : List Str := ["self", "kind", "path", "left", "right"]
def N_row_to_plain : List Str := ["kind", "path"]
def N_judged : List Str := ["one", "other", "left", "right", "counts", "names"]
def N_law_bundles : List Str := ["kind", "left", "right", "found", "one", "other"]
def N_law : List Str := ["script", "one", "other", "third", "word"]
section
variable {P : Program} {w : World} {K : PySem.W.Frag} {mg : Str → Option Value} {base h : Heap}
theorem sc_law_draw : FnScope N_law_draw ["cell", "k", "bound"] (defScope (top 22)) := ⟨rfl, rfl, rfl, by decide +kernel, rfl, by decide +kernel, by decide +kernel⟩
theorem sc_law_kind : FnScope N_law_kind ["cell", "leaves", "k"] (defScope (top 23)) := ⟨rfl, rfl, rfl, by decide +kernel, rfl, by decide +kernel, by decide +kernel⟩
theorem sc_law_part : FnScope N_law_part ["kind", "path"] (defScope (top 25)) := ⟨rfl, rfl, rfl, by decide +kernel, rfl, by decide +kernel, by decide +kernel⟩
theorem sc_law_paths : FnScope N_law_paths ["kind"] (defScope (top 24)) := ⟨rfl, rfl, rfl, by decide +kernel, rfl, by decide +kernel, by decide +kernel⟩
theorem sc_law_here : FnScope N_law_here ["kind", "word"] (defScope (top 26)) := ⟨rfl, rfl, rfl, by decide +kernel, rfl, by decide +kernel, by decide +kernel⟩
theorem sc_law_all_turnings : FnScope N_law_all_turnings ["kind"] (defScope (top 29)) := ⟨rfl, rfl, rfl, by decide +kernel, rfl, by decide +kernel, by decide +kernel⟩
theorem sc_law_stir : FnScope N_law_stir ["cell"] (defScope (top 20)) := ⟨rfl, rfl, rfl, by decide +kernel, rfl, by decide +kernel, by decide +kernel⟩
theorem sc_law_cell : FnScope N_law_cell ["script", "k"] (defScope (top 21)) := ⟨rfl, rfl, rfl, by decide +kernel, rfl, by decide +kernel, by decide +kernel⟩
theorem sc_law_put : FnScope N_law_put ["kind", "path", "piece"] (defScope (top 27)) := ⟨rfl, rfl, rfl, by decide +kernel, rfl, by decide +kernel, by decide +kernel⟩
theorem sc_law_turned : FnScope N_law_turned ["kind", "word", "path"] (defScope (top 28)) := ⟨rfl, rfl, rfl, by decide +kernel, rfl, by decide +kernel, by decide +kernel⟩
theorem sc_law_other : FnScope N_law_other ["script", "first", "kind"] (defScope (top 31)) := ⟨rfl, rfl, rfl, by decide +kernel, rfl, by decide +kernel, by decide +kernel⟩
theorem sc_law_leafed : FnScope N_law_leafed ["kind", "cell", "k"] (defScope (top 32)) := ⟨rfl, rfl, rfl, by decide +kernel, rfl, by decide +kernel, by decide +kernel⟩
theorem sc_bundles : FnScope N_bundles ["kind"] (defScope (top 9)) := ⟨rfl, rfl, rfl, by decide +kernel, rfl, by decide +kernel, by decide +kernel⟩
theorem sc_put_in : FnScope N_put_in ["counts", "name", "size"] (defScope (top 15)) := ⟨rfl, rfl, rfl, by decide +kernel, rfl, by decide +kernel, by decide +kernel⟩
theorem sc_all_even : FnScope N_all_even ["counts"] (defScope (top 16)) := ⟨rfl, rfl, rfl, by decide +kernel, rfl, by decide +kernel, by decide +kernel⟩
theorem sc_sizes_for : FnScope N_sizes_for ["counts"] (defScope (top 17)) := ⟨rfl, rfl, rfl, by decide +kernel, rfl, by decide +kernel, by decide +kernel⟩
theorem sc_Path___init__ : FnScope N_Path___init__ ["self"] (defScope (inClass (top 10) 0)) := ⟨rfl, rfl, rfl, by decide +kernel, rfl, by decide +kernel, by decide +kernel⟩
theorem sc_need : FnScope N_need ["good"] (defScope (top 6)) := ⟨rfl, rfl, rfl, by decide +kernel, rfl, by decide +kernel, by decide +kernel⟩
theorem sc_is_pair : FnScope N_is_pair ["kind"] (defScope (top 4)) := ⟨rfl, rfl, rfl, by decide +kernel, rfl, by decide +kernel, by decide +kernel⟩
theorem sc_turned_here : FnScope N_turned_here ["kind", "word"] (defScope (top 7)) := ⟨rfl, rfl, rfl, by decide +kernel, rfl, by decide +kernel, by decide +kernel⟩
theorem sc_Path_turn : FnScope N_Path_turn ["self", "kind", "path", "word"] (defScope (inClass (top 10) 1)) := ⟨rfl, rfl, rfl, by decide +kernel, rfl, by decide +kernel, by decide +kernel⟩
theorem sc_Path_sift : FnScope N_Path_sift ["self", "kind", "path"] (defScope (inClass (top 10) 2)) := ⟨rfl, rfl, rfl, by decide +kernel, rfl, by decide +kernel, by decide +kernel⟩
theorem sc_Path_merge : FnScope N_Path_merge ["self", "kind", "path", "empty"] (defScope (inClass (top 10) 3)) := ⟨rfl, rfl, rfl, by decide +kernel, rfl, by decide +kernel, by decide +kernel⟩
theorem sc_Path_share : FnScope N_Path_share ["self", "kind", "path"] (defScope (inClass (top 10) 5)) := ⟨rfl, rfl, rfl, by decide +kernel, rfl, by decide +kernel, by decide +kernel⟩
theorem sc_Path_times : FnScope N_Path_times ["self", "kind", "path"] (defScope (inClass (top 10) 4)) := ⟨rfl, rfl, rfl, by decide +kernel, rfl, by decide +kernel, by decide +kernel⟩
theorem sc_Path_plainer : FnScope N_Path_plainer ["self", "kind", "path"] (defScope (inClass (top 10) 6)) := ⟨rfl, rfl, rfl, by decide +kernel, rfl, by decide +kernel, by decide +kernel⟩
theorem sc_row_to_plain : FnScope N_row_to_plain ["kind"] (defScope (top 11)) := ⟨rfl, rfl, rfl, by decide +kernel, rfl, by decide +kernel, by decide +kernel⟩
theorem sc_judged : FnScope N_judged ["one", "other"] (defScope (top 18)) := ⟨rfl, rfl, rfl, by decide +kernel, rfl, by decide +kernel, by decide +kernel⟩
theorem sc_law_bundles : FnScope N_law_bundles ["kind"] (defScope (top 30)) := ⟨rfl, rfl, rfl, by decide +kernel, rfl, by decide +kernel, by decide +kernel⟩
theorem sc_law : FnScope N_law ["script"] (defScope (top 33)) := ⟨rfl, rfl, rfl, by decide +kernel, rfl, by decide +kernel, by decide +kernel⟩
theorem ok_law_draw {k : Nat} (c : Says xf fa fn K) (XI : K.In h) (G : h.Ns mainGlobals mg) : FnK P w K mg base (clK K) "_law_draw" ["cell", "k", "bound"] (k + 1) (run 4 3 b_law_draw) := by
  obtain ⟨fd, FD⟩ := c.sd.def_ 18 (d := d_law_draw) rfl
  refine fnk_mk (N := N_law_draw) FD (c.glo XI G 11) sc_law_draw (by decide) (fun _ _ _ _ _ _ us hl => match us, hl with | [_, _, _], _ => rfl) (fun cdv A outer s H E hr tk => ?_)
  have nd := sc_law_draw.nd
  have hu := hu2_of hr
  unfold b_law_draw
  exact (s_cons (s_asg 3 nd (i_mod (i_add (i_add (i_mod (i_var 0) i_int) i_int) (i_mul (i_var 1) i_int)) i_int)) (s_cons (s_asg 3 nd (i_mod (i_mul (i_mod (i_mul (i_var 3) (i_var 3)) i_int) i_int) i_int)) (s_cons (s_asg 3 nd (i_mod (i_mul (i_mod (i_mul (i_var 3) (i_var 3)) i_int) i_int) i_int)) (s_one (s_ret (i_mod (i_fdiv (i_var 3) i_int) (i_var 2)))))))
theorem ok_law_kind {k : Nat} (c : Says xf fa fn K) (XI : K.In h) (G : h.Ns mainGlobals mg) {g_law_draw : FF} {g_law_kind : FF} (G_law_draw : FnK P w K mg base (clK K) "_law_draw" ["cell", "k", "bound"] k g_law_draw) (G_law_kind : FnK P w K mg base (clK K) "_law_kind" ["cell", "leaves", "k"] k g_law_kind) : FnK P w K mg base (clK K) "_law_kind" ["cell", "leaves", "k"] (k + 1) (run 6 3 (b_law_kind g_law_draw g_law_kind)) := by
  obtain ⟨fd, FD⟩ := c.sd.def_ 19 (d := d_law_kind) rfl
  refine fnk_mk (N := N_law_kind) FD (c.glo XI G 12) sc_law_kind (by decide) (fun _ _ _ _ _ _ us hl => match us, hl with | [_, _, _], _ => rfl) (fun cdv A outer s H E hr tk => ?_)
  have nd := sc_law_kind.nd
  have hu := hu2_of hr
  unfold b_law_kind
  exact (s_cons (s_if (it_cmp (op_lt) snd_lt (nomark _) (i_var 1) i_int) (s_cons (s_asg 5 nd (i_call G_law_draw hr rfl tk (a_cons (i_var 0) (a_cons (i_mul i_int (i_var 2)) (a_cons i_int a_nil))))) (s_cons (s_if (it_cmp (op_eqA hu) snd_eq (nomark _) (i_var 5) i_int) (s_one (s_ret (i_tup (a_cons i_str a_nil)))) s_nil) (s_cons (s_if (it_cmp (op_lt) snd_lt (nomark _) (i_var 5) i_int) (s_one (s_ret (i_tup (a_cons i_str a_nil)))) s_nil) (s_one (s_ret (i_tup (a_cons i_str (a_cons (i_mod (i_var 5) i_int) a_nil)))))))) s_nil) (s_cons (s_asg 3 nd (i_add i_int (i_call G_law_draw hr rfl tk (a_cons (i_var 0) (a_cons (i_add (i_mul i_int (i_var 2)) i_int) (a_cons (i_sub (i_var 1) i_int) a_nil)))))) (s_cons (s_asg 4 nd (i_ix (i_lst (a_cons i_str (a_cons i_str a_nil))) (i_call G_law_draw hr rfl tk (a_cons (i_var 0) (a_cons (i_add (i_mul i_int (i_var 2)) i_int) (a_cons i_int a_nil)))))) (s_one (s_ret (i_tup (a_cons (i_var 4) (a_cons (i_call G_law_kind hr rfl tk (a_cons (i_var 0) (a_cons (i_var 3) (a_cons (i_mul i_int (i_var 2)) a_nil)))) (a_cons (i_call G_law_kind hr rfl tk (a_cons (i_var 0) (a_cons (i_sub (i_var 1) (i_var 3)) (a_cons (i_add (i_mul i_int (i_var 2)) i_int) a_nil)))) a_nil)))))))))
theorem ok_law_part {k : Nat} (c : Says xf fa fn K) (XI : K.In h) (G : h.Ns mainGlobals mg) : FnK P w K mg base (clK K) "_law_part" ["kind", "path"] (k + 1) (run 3 2 b_law_part) := by
  obtain ⟨fd, FD⟩ := c.sd.def_ 21 (d := d_law_part) rfl
  refine fnk_mk (N := N_law_part) FD (c.glo XI G 14) sc_law_part (by decide) (fun _ _ _ _ _ _ us hl => match us, hl with | [_, _], _ => rfl) (fun cdv A outer s H E hr tk => ?_)
  have nd := sc_law_part.nd
  have hu := hu2_of hr
  unfold b_law_part
  exact (s_cons (s_forV 1 (passes_of rfl) rfl (pg_name (i := 2) nd rfl (by first | exact Or.inl rfl | exact Or.inr rfl)) tg_name (s_one (s_asg 0 nd (i_ix (i_var 0) (i_add i_int (i_var 2)))))) (s_one (s_retV 0)))
theorem ok_law_paths {k : Nat} (c : Says xf fa fn K) (XI : K.In h) (G : h.Ns mainGlobals mg) {g_law_part : FF} (G_law_part : FnK P w K mg base (clK K) "_law_part" ["kind", "path"] k g_law_part) : FnK P w K mg base (clK K) "_law_paths" ["kind"] (k + 1) (run 4 1 (b_law_paths g_law_part)) := by
  obtain ⟨fd, FD⟩ := c.sd.def_ 20 (d := d_law_paths) rfl
  have n_len := c.free XI G 44
  refine fnk_mk (N := N_law_paths) FD (c.glo XI G 13) sc_law_paths (by decide) (fun _ _ _ _ _ _ us hl => match us, hl with | [_], _ => rfl) (fun cdv A outer s H E hr tk => ?_)
  have nd := sc_law_paths.nd
  have hu := hu2_of hr
  unfold b_law_paths
  exact (s_cons (s_asg 1 nd (i_lst a_nil)) (s_cons (s_asg 2 nd (i_lst (a_cons (i_tup a_nil) a_nil))) (s_cons (s_while (passes_of rfl) (it_cmp (op_neA hu) snd_ne (nomark _) (i_var 2) (i_lst a_nil)) (s_cons (s_popTo 3 2 nd) (s_cons (s_app 1 (i_var 3)) (s_one (s_if (it_cmp (op_eqA hu) snd_eq (nomark _) (i_callB call_len snd_len boot_len rfl n_len (a_cons (i_call G_law_part hr rfl tk (a_cons (i_var 0) (a_cons (i_var 3) a_nil))) a_nil)) i_int) (s_one (s_ext 2 (i_lst (a_cons (i_add (i_var 3) (i_tup (a_cons i_int a_nil))) (a_cons (i_add (i_var 3) (i_tup (a_cons i_int a_nil))) a_nil))))) s_nil))))) (s_one (s_retV 1)))))
theorem ok_law_here {k : Nat} (c : Says xf fa fn K) (XI : K.In h) (G : h.Ns mainGlobals mg) : FnK P w K mg base (clK K) "_law_here" ["kind", "word"] (k + 1) (run 4 2 b_law_here) := by
  obtain ⟨fd, FD⟩ := c.sd.def_ 22 (d := d_law_here) rfl
  have n_len := c.free XI G 44
  refine fnk_mk (N := N_law_here) FD (c.glo XI G 15) sc_law_here (by decide) (fun _ _ _ _ _ _ us hl => match us, hl with | [_, _], _ => rfl) (fun cdv A outer s H E hr tk => ?_)
  have nd := sc_law_here.nd
  have hu := hu2_of hr
  unfold b_law_here
  exact (s_cons (s_if (it_cmp (op_lt) snd_lt (nomark _) (i_callB call_len snd_len boot_len rfl n_len (a_cons (i_var 0) a_nil)) i_int) (s_one (s_ret i_non)) s_nil) (s_cons (s_asg 2 nd (i_ix (i_var 0) i_int)) (s_cons (s_asg 3 nd (i_ix (i_var 0) i_int)) (s_cons (s_if (it_cmp (op_eqA hu) snd_eq (nomark _) (i_var 1) i_str) (s_one (s_ret (i_tup (a_cons (i_ix (i_var 0) i_int) (a_cons (i_var 3) (a_cons (i_var 2) a_nil)))))) s_nil) (s_cons (s_if (L2.PW.pt (iw_and (it_cmp (op_eqA hu) snd_eq (nomark _) (i_var 1) i_str) (iw_and1 (it_cmp (op_eqA hu) snd_eq (nomark _) (i_ix (i_var 2) i_int) (i_ix (i_var 0) i_int))))) (s_one (s_ret (i_tup (a_cons (i_ix (i_var 0) i_int) (a_cons (i_ix (i_var 2) i_int) (a_cons (i_tup (a_cons (i_ix (i_var 0) i_int) (a_cons (i_ix (i_var 2) i_int) (a_cons (i_var 3) a_nil)))) a_nil)))))) s_nil) (s_cons (s_if (L2.PW.pt (iw_and (it_cmp (op_eqA hu) snd_eq (nomark _) (i_var 1) i_str) (iw_and (it_cmp (op_eqA hu) snd_eq (nomark _) (i_ix (i_var 0) i_int) i_str) (iw_and1 (it_cmp (op_eqA hu) snd_eq (nomark _) (i_ix (i_var 3) i_int) i_str))))) (s_one (s_ret (i_tup (a_cons i_str (a_cons (i_tup (a_cons i_str (a_cons (i_var 2) (a_cons (i_ix (i_var 3) i_int) a_nil)))) (a_cons (i_tup (a_cons i_str (a_cons (i_var 2) (a_cons (i_ix (i_var 3) i_int) a_nil)))) a_nil)))))) s_nil) (s_cons (s_if (L2.PW.pt (iw_and (it_cmp (op_eqA hu) snd_eq (nomark _) (i_var 1) i_str) (iw_and (it_cmp (op_eqA hu) snd_eq (nomark _) (i_ix (i_var 0) i_int) i_str) (iw_and1 (it_cmp (op_eqA hu) snd_eq (nomark _) (i_ix (i_var 2) i_int) i_str))))) (s_one (s_ret (i_tup (a_cons i_str a_nil)))) s_nil) (s_cons (s_if (L2.PW.pt (iw_and (it_cmp (op_eqA hu) snd_eq (nomark _) (i_var 1) i_str) (iw_and1 (it_cmp (op_inA hu) snd_in (rfl) (i_tup (a_cons (i_ix (i_var 0) i_int) (a_cons (i_ix (i_var 2) i_int) a_nil))) (i_tup (a_cons (i_tup (a_cons i_str (a_cons i_str a_nil))) (a_cons (i_tup (a_cons i_str (a_cons i_str a_nil))) a_nil))))))) (s_one (s_retV 3)) s_nil) (s_one (s_ret i_non))))))))))
theorem ok_law_all_turnings {k : Nat} (c : Says xf fa fn K) (XI : K.In h) (G : h.Ns mainGlobals mg) {g_law_here : FF} {g_law_part : FF} {g_law_paths : FF} (G_law_here : FnK P w K mg base (clK K) "_law_here" ["kind", "word"] k g_law_here) (G_law_part : FnK P w K mg base (clK K) "_law_part" ["kind", "path"] k g_law_part) (G_law_paths : FnK P w K mg base (clK K) "_law_paths" ["kind"] k g_law_paths) : FnK P w K mg base (clK K) "_law_all_turnings" ["kind"] (k + 1) (run 4 1 (b_law_all_turnings g_law_here g_law_part g_law_paths)) := by
  obtain ⟨fd, FD⟩ := c.sd.def_ 25 (d := d_law_all_turnings) rfl
  refine fnk_mk (N := N_law_all_turnings) FD (c.glo XI G 18) sc_law_all_turnings (by decide) (fun _ _ _ _ _ _ us hl => match us, hl with | [_], _ => rfl) (fun cdv A outer s H E hr tk => ?_)
  have nd := sc_law_all_turnings.nd
  have hu := hu2_of hr
  unfold b_law_all_turnings
  exact (s_cons (s_asg 1 nd (i_lst a_nil)) (s_cons (s_forE (passes_of rfl) rfl (i_call G_law_paths hr rfl tk (a_cons (i_var 0) a_nil)) (pg_name (i := 2) nd rfl (by first | exact Or.inl rfl | exact Or.inr rfl)) tg_name (s_one (s_forE (passes_of rfl) rfl (i_lst (a_cons i_str (a_cons i_str (a_cons i_str (a_cons i_str a_nil))))) (pg_name (i := 3) nd rfl (by first | exact Or.inl rfl | exact Or.inr rfl)) tg_name (s_one (s_if (it_cmp (op_isNotA) snd_isNot (nomark _) (i_call G_law_here hr rfl tk (a_cons (i_call G_law_part hr rfl tk (a_cons (i_var 0) (a_cons (i_var 2) a_nil))) (a_cons (i_var 3) a_nil))) i_non) (s_one (s_app 1 (i_tup (a_cons (i_var 3) (a_cons (i_var 2) a_nil))))) s_nil))))) (s_one (s_retV 1))))
theorem ok_law_stir {k : Nat} (c : Says xf fa fn K) (XI : K.In h) (G : h.Ns mainGlobals mg) : FnK P w K mg base (clK K) "_law_stir" ["cell"] (k + 1) (run 4 1 b_law_stir) := by
  obtain ⟨fd, FD⟩ := c.sd.def_ 16 (d := d_law_stir) rfl
  refine fnk_mk (N := N_law_stir) FD (c.glo XI G 9) sc_law_stir (by decide) (fun _ _ _ _ _ _ us hl => match us, hl with | [_], _ => rfl) (fun cdv A outer s H E hr tk => ?_)
  have nd := sc_law_stir.nd
  have hu := hu2_of hr
  unfold b_law_stir
  exact (s_cons (s_asg 1 nd i_int) (s_cons (s_forE (passes_of rfl) rfl (i_lst (a_cons i_int (a_cons i_int (a_cons i_int (a_cons i_int a_nil))))) (pg_name (i := 2) nd rfl (by first | exact Or.inl rfl | exact Or.inr rfl)) tg_name (s_cons (s_asg 3 nd (i_mod (i_add (i_mul (i_var 0) (i_var 2)) i_int) i_int)) (s_cons (s_asg 3 nd (i_mod (i_mul (i_mod (i_mul (i_var 3) (i_var 3)) i_int) i_int) i_int)) (s_one (s_asg 1 nd (i_add (i_mul (i_var 1) (i_pow i_int i_int)) (i_fdiv (i_var 3) i_int))))))) (s_one (s_retV 1))))
theorem ok_law_cell {k : Nat} (c : Says xf fa fn K) (XI : K.In h) (G : h.Ns mainGlobals mg) {g_law_stir : FF} (G_law_stir : FnK P w K mg base (clK K) "_law_stir" ["cell"] k g_law_stir) : FnK P w K mg base (clK K) "_law_cell" ["script", "k"] (k + 1) (run 2 2 (b_law_cell g_law_stir)) := by
  obtain ⟨fd, FD⟩ := c.sd.def_ 17 (d := d_law_cell) rfl
  have n_len := c.free XI G 44
  refine fnk_mk (N := N_law_cell) FD (c.glo XI G 10) sc_law_cell (by decide) (fun _ _ _ _ _ _ us hl => match us, hl with | [_, _], _ => rfl) (fun cdv A outer s H E hr tk => ?_)
  have nd := sc_law_cell.nd
  have hu := hu2_of hr
  unfold b_law_cell
  exact (s_cons (s_if (it_cmp (op_lt) snd_lt (nomark _) (i_var 1) (i_callB call_len snd_len boot_len rfl n_len (a_cons (i_var 0) a_nil))) (s_one (s_ret (i_call G_law_stir hr rfl tk (a_cons (i_ix (i_var 0) (i_var 1)) a_nil)))) s_nil) (s_one (s_ret (i_call G_law_stir hr rfl tk (a_cons i_int a_nil)))))
theorem ok_law_put {k : Nat} (c : Says xf fa fn K) (XI : K.In h) (G : h.Ns mainGlobals mg) {g_law_put : FF} (G_law_put : FnK P w K mg base (clK K) "_law_put" ["kind", "path", "piece"] k g_law_put) : FnK P w K mg base (clK K) "_law_put" ["kind", "path", "piece"] (k + 1) (run 4 3 (b_law_put g_law_put)) := by
  obtain ⟨fd, FD⟩ := c.sd.def_ 23 (d := d_law_put) rfl
  refine fnk_mk (N := N_law_put) FD (c.glo XI G 16) sc_law_put (by decide) (fun _ _ _ _ _ _ us hl => match us, hl with | [_, _, _], _ => rfl) (fun cdv A outer s H E hr tk => ?_)
  have nd := sc_law_put.nd
  have hu := hu2_of hr
  unfold b_law_put
  exact (s_cons (s_if (it_cmp (op_eqA hu) snd_eq (nomark _) (i_var 1) (i_tup a_nil)) (s_one (s_retV 2)) s_nil) (s_cons (s_asg 3 nd (i_call G_law_put hr rfl tk (a_cons (i_ix (i_var 0) (i_add i_int (i_ix (i_var 1) i_int))) (a_cons (i_sl (i_var 1) (o_some i_int) o_none) (a_cons (i_var 2) a_nil))))) (s_cons (s_if (it_cmp (op_eqA hu) snd_eq (nomark _) (i_ix (i_var 1) i_int) i_int) (s_one (s_ret (i_tup (a_cons (i_ix (i_var 0) i_int) (a_cons (i_var 3) (a_cons (i_ix (i_var 0) i_int) a_nil)))))) s_nil) (s_one (s_ret (i_tup (a_cons (i_ix (i_var 0) i_int) (a_cons (i_ix (i_var 0) i_int) (a_cons (i_var 3) a_nil)))))))))
theorem ok_law_turned {k : Nat} (c : Says xf fa fn K) (XI : K.In h) (G : h.Ns mainGlobals mg) {g_law_paths : FF} {g_law_here : FF} {g_law_part : FF} {g_law_put : FF} (G_law_paths : FnK P w K mg base (clK K) "_law_paths" ["kind"] k g_law_paths) (G_law_here : FnK P w K mg base (clK K) "_law_here" ["kind", "word"] k g_law_here) (G_law_part : FnK P w K mg base (clK K) "_law_part" ["kind", "path"] k g_law_part) (G_law_put : FnK P w K mg base (clK K) "_law_put" ["kind", "path", "piece"] k g_law_put) : FnK P w K mg base (clK K) "_law_turned" ["kind", "word", "path"] (k + 1) (run 4 3 (b_law_turned g_law_paths g_law_here g_law_part g_law_put)) := by
  obtain ⟨fd, FD⟩ := c.sd.def_ 24 (d := d_law_turned) rfl
  refine fnk_mk (N := N_law_turned) FD (c.glo XI G 17) sc_law_turned (by decide) (fun _ _ _ _ _ _ us hl => match us, hl with | [_, _, _], _ => rfl) (fun cdv A outer s H E hr tk => ?_)
  have nd := sc_law_turned.nd
  have hu := hu2_of hr
  unfold b_law_turned
  exact (s_cons (s_if (it_cmp (op_notInA hu) snd_notIn (rfl) (i_var 2) (i_call G_law_paths hr rfl tk (a_cons (i_var 0) a_nil))) (s_one (s_ret i_non)) s_nil) (s_cons (s_asg 3 nd (i_call G_law_here hr rfl tk (a_cons (i_call G_law_part hr rfl tk (a_cons (i_var 0) (a_cons (i_var 2) a_nil))) (a_cons (i_var 1) a_nil)))) (s_cons (s_if (it_cmp (op_isA) snd_is (nomark _) (i_var 3) i_non) (s_one (s_ret i_non)) s_nil) (s_one (s_ret (i_call G_law_put hr rfl tk (a_cons (i_var 0) (a_cons (i_var 2) (a_cons (i_var 3) a_nil)))))))))
theorem ok_law_other {k : Nat} (c : Says xf fa fn K) (XI : K.In h) (G : h.Ns mainGlobals mg) {g_law_all_turnings : FF} {g_law_paths : FF} {g_law_cell : FF} {g_law_turned : FF} (G_law_all_turnings : FnK P w K mg base (clK K) "_law_all_turnings" ["kind"] k g_law_all_turnings) (G_law_paths : FnK P w K mg base (clK K) "_law_paths" ["kind"] k g_law_paths) (G_law_cell : FnK P w K mg base (clK K) "_law_cell" ["script", "k"] k g_law_cell) (G_law_turned : FnK P w K mg base (clK K) "_law_turned" ["kind", "word", "path"] k g_law_turned) : FnK P w K mg base (clK K) "_law_other" ["script", "first", "kind"] (k + 1) (run 7 3 (b_law_other g_law_all_turnings g_law_paths g_law_cell g_law_turned)) := by
  obtain ⟨fd, FD⟩ := c.sd.def_ 27 (d := d_law_other) rfl
  have n_len := c.free XI G 44
  have n_range := c.free XI G 45
  refine fnk_mk (N := N_law_other) FD (c.glo XI G 20) sc_law_other (by decide) (fun _ _ _ _ _ _ us hl => match us, hl with | [_, _, _], _ => rfl) (fun cdv A outer s H E hr tk => ?_)
  have nd := sc_law_other.nd
  have hu := hu2_of hr
  unfold b_law_other
  exact (s_cons (s_forR1 (passes_of rfl) rfl rfl n_range (i_mod (i_call G_law_cell hr rfl tk (a_cons (i_var 0) (a_cons (i_var 1) a_nil))) i_int) (pg_name (i := 3) nd rfl (by first | exact Or.inl rfl | exact Or.inr rfl)) tg_name (s_cons (s_asg 4 nd (i_call G_law_all_turnings hr rfl tk (a_cons (i_var 2) a_nil))) (s_one (s_if (L2.PW.pt (iw_and (it_cmp (op_neA hu) snd_ne (nomark _) (i_var 4) (i_lst a_nil)) (iw_and1 (it_cmp (op_lt) snd_lt (nomark _) (i_callB call_len snd_len boot_len rfl n_len (a_cons (i_call G_law_paths hr rfl tk (a_cons (i_var 2) a_nil)) a_nil)) i_int)))) (s_cons (s_asgT (i_ix (i_var 4) (i_mod (i_call G_law_cell hr rfl tk (a_cons (i_var 0) (a_cons (i_add (i_add (i_var 1) i_int) (i_var 3)) a_nil))) (i_callB call_len snd_len boot_len rfl n_len (a_cons (i_var 4) a_nil)))) (pg_tup rfl (pgs_cons (pg_name (i := 5) nd rfl (by first | exact Or.inl rfl | exact Or.inr rfl)) (pgs_cons (pg_name (i := 6) nd rfl (by first | exact Or.inl rfl | exact Or.inr rfl)) pgs_nil))) tg_pair) (s_one (s_asg 2 nd (i_call G_law_turned hr rfl tk (a_cons (i_var 2) (a_cons (i_var 5) (a_cons (i_var 6) a_nil))))))) s_nil)))) (s_one (s_retV 2)))
theorem ok_law_leafed {k : Nat} (c : Says xf fa fn K) (XI : K.In h) (G : h.Ns mainGlobals mg) {g_law_draw : FF} {g_law_leafed : FF} (G_law_draw : FnK P w K mg base (clK K) "_law_draw" ["cell", "k", "bound"] k g_law_draw) (G_law_leafed : FnK P w K mg base (clK K) "_law_leafed" ["kind", "cell", "k"] k g_law_leafed) : FnK P w K mg base (clK K) "_law_leafed" ["kind", "cell", "k"] (k + 1) (run 3 3 (b_law_leafed g_law_draw g_law_leafed)) := by
  obtain ⟨fd, FD⟩ := c.sd.def_ 28 (d := d_law_leafed) rfl
  have n_len := c.free XI G 44
  refine fnk_mk (N := N_law_leafed) FD (c.glo XI G 21) sc_law_leafed (by decide) (fun _ _ _ _ _ _ us hl => match us, hl with | [_, _, _], _ => rfl) (fun cdv A outer s H E hr tk => ?_)
  have nd := sc_law_leafed.nd
  have hu := hu2_of hr
  unfold b_law_leafed
  exact (s_cons (s_if (it_cmp (op_lt) snd_lt (nomark _) (i_callB call_len snd_len boot_len rfl n_len (a_cons (i_var 0) a_nil)) i_int) (s_cons (s_if (it_cmp (op_eqA hu) snd_eq (nomark _) (i_call G_law_draw hr rfl tk (a_cons (i_var 1) (a_cons (i_var 2) (a_cons i_int a_nil)))) i_int) (s_one (s_ret (i_ix (i_lst (a_cons (i_tup (a_cons i_str a_nil)) (a_cons (i_tup (a_cons i_str (a_cons (i_call G_law_draw hr rfl tk (a_cons (i_var 1) (a_cons (i_add (i_var 2) i_int) (a_cons i_int a_nil)))) a_nil))) a_nil))) (i_call G_law_draw hr rfl tk (a_cons (i_var 1) (a_cons (i_add (i_var 2) i_int) (a_cons i_int a_nil))))))) s_nil) (s_one (s_retV 0))) s_nil) (s_one (s_ret (i_tup (a_cons (i_ix (i_var 0) i_int) (a_cons (i_call G_law_leafed hr rfl tk (a_cons (i_ix (i_var 0) i_int) (a_cons (i_var 1) (a_cons (i_mul i_int (i_var 2)) a_nil)))) (a_cons (i_call G_law_leafed hr rfl tk (a_cons (i_ix (i_var 0) i_int) (a_cons (i_var 1) (a_cons (i_add (i_mul i_int (i_var 2)) i_int) a_nil)))) a_nil)))))))
theorem ok_bundles {k : Nat} (c : Says xf fa fn K) (XI : K.In h) (G : h.Ns mainGlobals mg) {g_bundles : FF} (G_bundles : FnK P w K mg base (clK K) "bundles" ["kind"] k g_bundles) : FnK P w K mg base (clK K) "bundles" ["kind"] (k + 1) (run 6 1 (b_bundles g_bundles)) := by
  obtain ⟨fd, FD⟩ := c.sd.def_ 3 (d := d_bundles) rfl
  have n_sorted := c.free XI G 46
  have n_tuple := c.free XI G 47
  refine fnk_mk (N := N_bundles) FD (c.glo XI G 3) sc_bundles (by decide) (fun _ _ _ _ _ _ us hl => match us, hl with | [_], _ => rfl) (fun cdv A outer s H E hr tk => ?_)
  have nd := sc_bundles.nd
  have hu := hu2_of hr
  unfold b_bundles
  exact (s_cons (s_if (it_cmp (op_eqA hu) snd_eq (nomark _) (i_ix (i_var 0) i_int) i_str) (s_one (s_ret (i_lst a_nil))) s_nil) (s_cons (s_if (it_cmp (op_eqA hu) snd_eq (nomark _) (i_ix (i_var 0) i_int) i_str) (s_one (s_ret (i_lst (a_cons (i_tup a_nil) a_nil)))) s_nil) (s_cons (s_if (it_cmp (op_eqA hu) snd_eq (nomark _) (i_ix (i_var 0) i_int) i_str) (s_one (s_ret (i_lst (a_cons (i_tup (a_cons (i_ix (i_var 0) i_int) a_nil)) a_nil)))) s_nil) (s_cons (s_asg 1 nd (i_call G_bundles hr rfl tk (a_cons (i_ix (i_var 0) i_int) a_nil))) (s_cons (s_asg 2 nd (i_call G_bundles hr rfl tk (a_cons (i_ix (i_var 0) i_int) a_nil))) (s_cons (s_if (it_cmp (op_eqA hu) snd_eq (nomark _) (i_ix (i_var 0) i_int) i_str) (s_one (s_ret (i_sorted hu rfl n_sorted (a_cons (i_add (i_var 1) (i_var 2)) a_nil)))) s_nil) (s_cons (s_asg 3 nd (i_lst a_nil)) (s_cons (s_forV 1 (passes_of rfl) rfl (pg_name (i := 4) nd rfl (by first | exact Or.inl rfl | exact Or.inr rfl)) tg_name (s_one (s_ext 3 (i_comp 5 rfl nd (src_e (i_var 2)) (blkOk_by (N := N_bundles) (sc := defScope (top 9)) (by decide +kernel)) (show 5 < N_bundles.length by decide) (fun _ _ _ _ _ => pg_name (i := 5) nd rfl (Or.inl rfl)) (fun _ _ _ _ _ => pts_yes) (fun _ _ _ _ _ => (i_callTy call_tuple_of snd_tupOf boot_tuple rfl n_tuple (a_cons (i_sorted hu rfl n_sorted (a_cons (i_add (i_var 4) (i_var 5)) a_nil)) a_nil))))))) (s_one (s_ret (i_sorted hu rfl n_sorted (a_cons (i_var 3) a_nil))))))))))))
theorem ok_put_in {k : Nat} (c : Says xf fa fn K) (XI : K.In h) (G : h.Ns mainGlobals mg) : FnK P w K mg base (clK K) "put_in" ["counts", "name", "size"] (k + 1) (run 8 3 b_put_in) := by
  obtain ⟨fd, FD⟩ := c.sd.def_ 12 (d := d_put_in) rfl
  have n_tuple := c.free XI G 47
  refine fnk_mk (N := N_put_in) FD (c.glo XI G 5) sc_put_in (by decide) (fun _ _ _ _ _ _ us hl => match us, hl with | [_, _, _], _ => rfl) (fun cdv A outer s H E hr tk => ?_)
  have nd := sc_put_in.nd
  have hu := hu2_of hr
  unfold b_put_in
  exact (s_cons (s_newD 3 nd) (s_cons (s_forD 0 (passes_of rfl) rfl (pg_name (i := 4) nd rfl (by first | exact Or.inl rfl | exact Or.inr rfl)) tg_name (s_cons (s_asg 5 nd (i_callTy call_tuple_of snd_tupOf boot_tuple rfl n_tuple (a_cons (i_comp 7 rfl nd (src_e (i_var 4)) (blkOk_by (N := N_put_in) (sc := defScope (top 15)) (by decide +kernel)) (show 7 < N_put_in.length by decide) (fun _ _ _ _ _ => pg_name (i := 7) nd rfl (Or.inl rfl)) (fun _ _ _ _ _ => (pts_one (it_cmp (op_neA hu) snd_ne (nomark _) (i_var 7) (i_var 1)))) (fun _ _ _ _ _ => (i_var 7))) a_nil))) (s_cons (s_asg 6 nd (i_dicG 0 hu (i_var 4))) (s_cons (s_forV 4 (passes_of rfl) rfl (pg_name (i := 7) nd rfl (by first | exact Or.inl rfl | exact Or.inr rfl)) tg_name (s_one (s_if (it_cmp (op_eqA hu) snd_eq (nomark _) (i_var 7) (i_var 1)) (s_one (s_asg 6 nd (i_mul (i_var 6) (i_var 2)))) s_nil))) (s_one (s_putD 3 hu (i_var 5) (i_add (i_dicG2 3 hu (i_var 5) i_int) (i_var 6)))))))) (s_one (s_retV 3))))
theorem ok_all_even {k : Nat} (c : Says xf fa fn K) (XI : K.In h) (G : h.Ns mainGlobals mg) : FnK P w K mg base (clK K) "all_even" ["counts"] (k + 1) (run 2 1 b_all_even) := by
  obtain ⟨fd, FD⟩ := c.sd.def_ 13 (d := d_all_even) rfl
  refine fnk_mk (N := N_all_even) FD (c.glo XI G 6) sc_all_even (by decide) (fun _ _ _ _ _ _ us hl => match us, hl with | [_], _ => rfl) (fun cdv A outer s H E hr tk => ?_)
  have nd := sc_all_even.nd
  have hu := hu2_of hr
  unfold b_all_even
  exact (s_cons (s_forD 0 (passes_of rfl) rfl (pg_name (i := 1) nd rfl (by first | exact Or.inl rfl | exact Or.inr rfl)) tg_name (s_one (s_if (it_cmp (op_neA hu) snd_ne (nomark _) (i_dicG 0 hu (i_var 1)) i_int) (s_one (s_ret i_bl)) s_nil))) (s_one (s_ret i_bl)))
theorem ok_sizes_for {k : Nat} (c : Says xf fa fn K) (XI : K.In h) (G : h.Ns mainGlobals mg) {g_all_even : FF} {g_put_in : FF} (G_all_even : FnK P w K mg base (clK K) "all_even" ["counts"] k g_all_even) (G_put_in : FnK P w K mg base (clK K) "put_in" ["counts", "name", "size"] k g_put_in) : FnK P w K mg base (clK K) "sizes_for" ["counts"] (k + 1) (run 4 1 (b_sizes_for g_all_even g_put_in)) := by
  obtain ⟨fd, FD⟩ := c.sd.def_ 14 (d := d_sizes_for) rfl
  obtain ⟨_, k_MOST⟩ := c.int XI G 31
  obtain ⟨_, k_NAMES⟩ := c.int XI G 30
  have n_range := c.free XI G 45
  have n_tuple := c.free XI G 47
  refine fnk_mk (N := N_sizes_for) FD (c.glo XI G 7) sc_sizes_for (by decide) (fun _ _ _ _ _ _ us hl => match us, hl with | [_], _ => rfl) (fun cdv A outer s H E hr tk => ?_)
  have nd := sc_sizes_for.nd
  have hu := hu2_of hr
  unfold b_sizes_for
  exact (s_cons (s_asg 1 nd (i_lst a_nil)) (s_cons (s_forR1 (passes_of rfl) rfl rfl n_range (i_globI rfl k_NAMES) (pg_name (i := 2) nd rfl (by first | exact Or.inl rfl | exact Or.inr rfl)) tg_name (s_cons (s_asg 3 nd i_int) (s_cons (s_while (passes_of rfl) (L2.PW.pt (iw_and (it_cmp (op_lt) snd_lt (nomark _) (i_var 3) (i_globI rfl k_MOST)) (iw_and1 (it_val (i_call G_all_even hr rfl tk (a_cons (i_call G_put_in hr rfl tk (a_cons (i_var 0) (a_cons (i_var 2) (a_cons (i_var 3) a_nil)))) a_nil)))))) (s_one (s_asg 3 nd (i_add (i_var 3) i_int)))) (s_cons (s_asg 0 nd (i_call G_put_in hr rfl tk (a_cons (i_var 0) (a_cons (i_var 2) (a_cons (i_var 3) a_nil))))) (s_one (s_app 1 (i_var 3))))))) (s_one (s_ret (i_callTy call_tuple_of snd_tupOf boot_tuple rfl n_tuple (a_cons (i_var 1) a_nil))))))
theorem I_Path (c : Says xf fa fn K) (XI : K.In h) (G : h.Ns mainGlobals mg) : InitK P w K mg base 1 := by
  obtain ⟨fd, FD⟩ := c.sd.def_ 4 (d := d_Path___init__) rfl
  have T : PathC K := ⟨He.cls_ok (c.sd.fact 32 (f := .cls "Path") rfl), He.noat_ok (c.sd.fact 34 (f := .noat "Path" "row") rfl)⟩
  exact init_mk T FD (He.mkr_ok (c.sd.fact 33 (f := .mkr "Path") rfl)) sc_Path___init__ (fun _ => rfl) (fun _ _ _ _ _ _ us hl => match us, hl with | [_], _ => rfl) (fun _ _ _ _ _ _ => by first | exact Or.inl rfl | exact Or.inr (Or.inl rfl) | exact Or.inr (Or.inr rfl))
theorem ok_need {k : Nat} (c : Says xf fa fn K) (XI : K.In h) (G : h.Ns mainGlobals mg) : FnK P w K mg base (clK K) "need" ["good"] (k + 1) (run 1 1 b_need) := by
  obtain ⟨fd, FD⟩ := c.sd.def_ 1 (d := d_need) rfl
  have e_NoTurning := c.sd.fact 27 (f := .exc "NoTurning") rfl
  have g_NoTurning := c.glo XI G 24 (x := "NoTurning")
  refine fnk_mk (N := N_need) FD (c.glo XI G 1) sc_need (by decide) (fun _ _ _ _ _ _ us hl => match us, hl with | [_], _ => rfl) (fun cdv A outer s H E hr tk => ?_)
  have nd := sc_need.nd
  have hu := hu2_of hr
  unfold b_need
  exact (s_one (s_if (it_not (it_val (i_var 0))) (s_one (s_raiseC (c := "NoTurning") rfl tk e_NoTurning g_NoTurning rfl)) s_nil))
theorem ok_is_pair {k : Nat} (c : Says xf fa fn K) (XI : K.In h) (G : h.Ns mainGlobals mg) : FnK P w K mg base (clK K) "is_pair" ["kind"] (k + 1) (run 1 1 b_is_pair) := by
  obtain ⟨fd, FD⟩ := c.sd.def_ 0 (d := d_is_pair) rfl
  refine fnk_mk (N := N_is_pair) FD (c.glo XI G 0) sc_is_pair (by decide) (fun _ _ _ _ _ _ us hl => match us, hl with | [_], _ => rfl) (fun cdv A outer s H E hr tk => ?_)
  have nd := sc_is_pair.nd
  have hu := hu2_of hr
  unfold b_is_pair
  exact (s_one (s_ret (i_or (i_cmp (op_eqA hu) snd_eq (nomark _) (i_ix (i_var 0) i_int) i_str) (i_one (i_cmp (op_eqA hu) snd_eq (nomark _) (i_ix (i_var 0) i_int) i_str)))))
theorem ok_turned_here {k : Nat} (c : Says xf fa fn K) (XI : K.In h) (G : h.Ns mainGlobals mg) {g_need : FF} {g_is_pair : FF} (G_need : FnK P w K mg base (clK K) "need" ["good"] k g_need) (G_is_pair : FnK P w K mg base (clK K) "is_pair" ["kind"] k g_is_pair) : FnK P w K mg base (clK K) "turned_here" ["kind", "word"] (k + 1) (run 4 2 (b_turned_here g_need g_is_pair)) := by
  obtain ⟨fd, FD⟩ := c.sd.def_ 2 (d := d_turned_here) rfl
  refine fnk_mk (N := N_turned_here) FD (c.glo XI G 2) sc_turned_here (by decide) (fun _ _ _ _ _ _ us hl => match us, hl with | [_, _], _ => rfl) (fun cdv A outer s H E hr tk => ?_)
  have nd := sc_turned_here.nd
  have hu := hu2_of hr
  unfold b_turned_here
  exact (s_cons (s_expr (i_call G_need hr rfl tk (a_cons (i_call G_is_pair hr rfl tk (a_cons (i_var 0) a_nil)) a_nil))) (s_cons (s_asg 2 nd (i_ix (i_var 0) i_int)) (s_cons (s_asg 3 nd (i_ix (i_var 0) i_int)) (s_cons (s_if (it_cmp (op_eqA hu) snd_eq (nomark _) (i_var 1) i_str) (s_one (s_ret (i_tup (a_cons (i_ix (i_var 0) i_int) (a_cons (i_var 3) (a_cons (i_var 2) a_nil)))))) s_nil) (s_cons (s_if (it_cmp (op_eqA hu) snd_eq (nomark _) (i_var 1) i_str) (s_cons (s_expr (i_call G_need hr rfl tk (a_cons (i_cmp (op_eqA hu) snd_eq (nomark _) (i_ix (i_var 2) i_int) (i_ix (i_var 0) i_int)) a_nil))) (s_one (s_ret (i_tup (a_cons (i_ix (i_var 0) i_int) (a_cons (i_ix (i_var 2) i_int) (a_cons (i_tup (a_cons (i_ix (i_var 0) i_int) (a_cons (i_ix (i_var 2) i_int) (a_cons (i_var 3) a_nil)))) a_nil))))))) s_nil) (s_cons (s_if (it_cmp (op_eqA hu) snd_eq (nomark _) (i_var 1) i_str) (s_cons (s_expr (i_call G_need hr rfl tk (a_cons (i_and (i_cmp (op_eqA hu) snd_eq (nomark _) (i_ix (i_var 0) i_int) i_str) (i_one (i_cmp (op_eqA hu) snd_eq (nomark _) (i_ix (i_var 3) i_int) i_str))) a_nil))) (s_one (s_ret (i_tup (a_cons i_str (a_cons (i_tup (a_cons i_str (a_cons (i_var 2) (a_cons (i_ix (i_var 3) i_int) a_nil)))) (a_cons (i_tup (a_cons i_str (a_cons (i_var 2) (a_cons (i_ix (i_var 3) i_int) a_nil)))) a_nil))))))) s_nil) (s_cons (s_expr (i_call G_need hr rfl tk (a_cons (i_cmp (op_eqA hu) snd_eq (nomark _) (i_var 1) i_str) a_nil))) (s_cons (s_if (L2.PW.pt (iw_and (it_cmp (op_eqA hu) snd_eq (nomark _) (i_ix (i_var 0) i_int) i_str) (iw_and1 (it_cmp (op_eqA hu) snd_eq (nomark _) (i_ix (i_var 2) i_int) i_str)))) (s_one (s_retV 2)) s_nil) (s_cons (s_expr (i_call G_need hr rfl tk (a_cons (i_or (i_and (i_cmp (op_eqA hu) snd_eq (nomark _) (i_ix (i_var 0) i_int) i_str) (i_one (i_cmp (op_eqA hu) snd_eq (nomark _) (i_ix (i_var 2) i_int) i_str))) (i_one (i_and (i_cmp (op_eqA hu) snd_eq (nomark _) (i_ix (i_var 0) i_int) i_str) (i_one (i_cmp (op_eqA hu) snd_eq (nomark _) (i_ix (i_var 2) i_int) i_str))))) a_nil))) (s_one (s_retV 3)))))))))))
theorem ok_Path_turn {k : Nat} (c : Says xf fa fn K) (XI : K.In h) (G : h.Ns mainGlobals mg) {g_turned_here : FF} (G_turned_here : FnK P w K mg base (clK K) "turned_here" ["kind", "word"] k g_turned_here) : MethK P w K mg base (clK K) "turn" ["self", "kind", "path", "word"] (k + 1) (runX 4 4 true (b_Path_turn g_turned_here)) := by
  obtain ⟨fd, FD⟩ := c.sd.def_ 5 (d := d_Path_turn) rfl
  have T : PathC K := ⟨He.cls_ok (c.sd.fact 32 (f := .cls "Path") rfl), He.noat_ok (c.sd.fact 34 (f := .noat "Path" "row") rfl)⟩
  refine meth_mk (N := N_Path_turn) FD (He.meth_ok (c.sd.fact 36 (f := .meth "Path" "turn") rfl)) sc_Path_turn (by decide) (fun _ _ _ _ _ _ us hl => match us, hl with | [_, _, _, _], _ => rfl) (fun cdv A outer s H E hr tk => ?_)
  have nd := sc_Path_turn.nd
  have hu := hu2_of hr
  unfold b_Path_turn
  exact (s_cons (s_appRow T (i_tup (a_cons (i_var 3) (a_cons (i_var 2) a_nil)))) (s_one (s_ret (i_call G_turned_here hr rfl tk (a_cons (i_var 1) (a_cons (i_var 3) a_nil))))))
theorem ok_Path_sift {k : Nat} (c : Says xf fa fn K) (XI : K.In h) (G : h.Ns mainGlobals mg) {g_bundles : FF} {g_Path_turn : FX} {g_Path_sift : FX} (G_bundles : FnK P w K mg base (clK K) "bundles" ["kind"] k g_bundles) (G_Path_turn : MethK P w K mg base (clK K) "turn" ["self", "kind", "path", "word"] k g_Path_turn) (G_Path_sift : MethK P w K mg base (clK K) "sift" ["self", "kind", "path"] k g_Path_sift) : MethK P w K mg base (clK K) "sift" ["self", "kind", "path"] (k + 1) (runX 5 3 true (b_Path_sift g_bundles g_Path_turn g_Path_sift)) := by
  obtain ⟨fd, FD⟩ := c.sd.def_ 6 (d := d_Path_sift) rfl
  have T : PathC K := ⟨He.cls_ok (c.sd.fact 32 (f := .cls "Path") rfl), He.noat_ok (c.sd.fact 34 (f := .noat "Path" "row") rfl)⟩
  refine meth_mk (N := N_Path_sift) FD (He.meth_ok (c.sd.fact 37 (f := .meth "Path" "sift") rfl)) sc_Path_sift (by decide) (fun _ _ _ _ _ _ us hl => match us, hl with | [_, _, _], _ => rfl) (fun cdv A outer s H E hr tk => ?_)
  have nd := sc_Path_sift.nd
  have hu := hu2_of hr
  unfold b_Path_sift
  exact (s_cons (s_asg 3 nd (i_call G_bundles hr rfl tk (a_cons (i_ix (i_var 1) i_int) a_nil))) (s_cons (s_if (it_cmp (op_neA hu) snd_ne (nomark _) (i_ix (i_ix (i_var 1) i_int) i_int) (i_ix (i_var 1) i_int)) (s_cons (s_if (it_cmp (op_gtL hu) snd_gtL (nomark _) (i_var 3) (i_call G_bundles hr rfl tk (a_cons (i_ix (i_var 1) i_int) a_nil))) (s_one (s_xRet (x_meth T G_Path_turn hr (by decide) (x_cons (x_pure (i_var 1)) (x_cons (x_pure (i_var 2)) (x_cons (x_pure i_str) x_nil)))))) s_nil) (s_one (s_retV 1))) s_nil) (s_cons (s_if (it_cmp (op_leL hu) snd_leL (nomark _) (i_var 3) (i_call G_bundles hr rfl tk (a_cons (i_ix (i_ix (i_var 1) i_int) i_int) a_nil))) (s_one (s_retV 1)) s_nil) (s_cons (s_xAsg 1 nd (x_meth T G_Path_turn hr (by decide) (x_cons (x_meth T G_Path_turn hr (by decide) (x_cons (x_pure (i_var 1)) (x_cons (x_pure (i_var 2)) (x_cons (x_pure i_str) x_nil)))) (x_cons (x_pure (i_var 2)) (x_cons (x_pure i_str) x_nil))))) (s_cons (s_xAsg 4 nd (x_meth T G_Path_turn hr (by decide) (x_cons (x_pure (i_ix (i_var 1) i_int)) (x_cons (x_pure (i_add (i_var 2) (i_tup (a_cons i_int a_nil)))) (x_cons (x_pure i_str) x_nil))))) (s_one (s_xRet (x_tup (x_cons (x_pure (i_ix (i_var 1) i_int)) (x_cons (x_pure (i_ix (i_var 1) i_int)) (x_cons (x_meth T G_Path_sift hr (by decide) (x_cons (x_pure (i_var 4)) (x_cons (x_pure (i_add (i_var 2) (i_tup (a_cons i_int a_nil)))) x_nil))) x_nil)))))))))))
theorem ok_Path_merge {k : Nat} (c : Says xf fa fn K) (XI : K.In h) (G : h.Ns mainGlobals mg) {g_Path_turn : FX} {g_Path_merge : FX} {g_Path_sift : FX} (G_Path_turn : MethK P w K mg base (clK K) "turn" ["self", "kind", "path", "word"] k g_Path_turn) (G_Path_merge : MethK P w K mg base (clK K) "merge" ["self", "kind", "path", "empty"] k g_Path_merge) (G_Path_sift : MethK P w K mg base (clK K) "sift" ["self", "kind", "path"] k g_Path_sift) : MethK P w K mg base (clK K) "merge" ["self", "kind", "path", "empty"] (k + 1) (runX 4 4 true (b_Path_merge g_Path_turn g_Path_merge g_Path_sift)) := by
  obtain ⟨fd, FD⟩ := c.sd.def_ 7 (d := d_Path_merge) rfl
  have T : PathC K := ⟨He.cls_ok (c.sd.fact 32 (f := .cls "Path") rfl), He.noat_ok (c.sd.fact 34 (f := .noat "Path" "row") rfl)⟩
  refine meth_mk (N := N_Path_merge) FD (He.meth_ok (c.sd.fact 38 (f := .meth "Path" "merge") rfl)) sc_Path_merge (by decide) (fun _ _ _ _ _ _ us hl => match us, hl with | [_, _, _, _], _ => rfl) (fun cdv A outer s H E hr tk => ?_)
  have nd := sc_Path_merge.nd
  have hu := hu2_of hr
  unfold b_Path_merge
  exact (s_cons (s_if (it_cmp (op_eqA hu) snd_eq (nomark _) (i_ix (i_ix (i_var 1) i_int) i_int) (i_var 3)) (s_one (s_xRet (x_meth T G_Path_turn hr (by decide) (x_cons (x_pure (i_var 1)) (x_cons (x_pure (i_var 2)) (x_cons (x_pure i_str) x_nil)))))) s_nil) (s_cons (s_if (it_cmp (op_eqA hu) snd_eq (nomark _) (i_ix (i_ix (i_var 1) i_int) i_int) (i_var 3)) (s_one (s_xRet (x_meth T G_Path_turn hr (by decide) (x_cons (x_meth T G_Path_turn hr (by decide) (x_cons (x_pure (i_var 1)) (x_cons (x_pure (i_var 2)) (x_cons (x_pure i_str) x_nil)))) (x_cons (x_pure (i_var 2)) (x_cons (x_pure i_str) x_nil)))))) s_nil) (s_cons (s_if (it_cmp (op_eqA hu) snd_eq (nomark _) (i_ix (i_ix (i_var 1) i_int) i_int) (i_ix (i_var 1) i_int)) (s_cons (s_xAsg 1 nd (x_meth T G_Path_turn hr (by decide) (x_cons (x_pure (i_var 1)) (x_cons (x_pure (i_var 2)) (x_cons (x_pure i_str) x_nil))))) (s_one (s_xAsg 1 nd (x_tup (x_cons (x_pure (i_ix (i_var 1) i_int)) (x_cons (x_pure (i_ix (i_var 1) i_int)) (x_cons (x_meth T G_Path_merge hr (by decide) (x_cons (x_pure (i_ix (i_var 1) i_int)) (x_cons (x_pure (i_add (i_var 2) (i_tup (a_cons i_int a_nil)))) (x_cons (x_pure (i_var 3)) x_nil)))) x_nil))))))) s_nil) (s_one (s_xRet (x_meth T G_Path_sift hr (by decide) (x_cons (x_pure (i_var 1)) (x_cons (x_pure (i_var 2)) x_nil))))))))
theorem ok_Path_share {k : Nat} (c : Says xf fa fn K) (XI : K.In h) (G : h.Ns mainGlobals mg) {g_Path_turn : FX} {g_Path_times : FX} {g_Path_merge : FX} (G_Path_turn : MethK P w K mg base (clK K) "turn" ["self", "kind", "path", "word"] k g_Path_turn) (G_Path_times : MethK P w K mg base (clK K) "times" ["self", "kind", "path"] k g_Path_times) (G_Path_merge : MethK P w K mg base (clK K) "merge" ["self", "kind", "path", "empty"] k g_Path_merge) : MethK P w K mg base (clK K) "share" ["self", "kind", "path"] (k + 1) (runX 5 3 true (b_Path_share g_Path_turn g_Path_times g_Path_merge)) := by
  obtain ⟨fd, FD⟩ := c.sd.def_ 9 (d := d_Path_share) rfl
  have T : PathC K := ⟨He.cls_ok (c.sd.fact 32 (f := .cls "Path") rfl), He.noat_ok (c.sd.fact 34 (f := .noat "Path" "row") rfl)⟩
  refine meth_mk (N := N_Path_share) FD (He.meth_ok (c.sd.fact 40 (f := .meth "Path" "share") rfl)) sc_Path_share (by decide) (fun _ _ _ _ _ _ us hl => match us, hl with | [_, _, _], _ => rfl) (fun cdv A outer s H E hr tk => ?_)
  have nd := sc_Path_share.nd
  have hu := hu2_of hr
  unfold b_Path_share
  exact (s_cons (s_xAsg 1 nd (x_meth T G_Path_turn hr (by decide) (x_cons (x_pure (i_var 1)) (x_cons (x_pure (i_var 2)) (x_cons (x_pure i_str) x_nil))))) (s_cons (s_xAsg 3 nd (x_meth T G_Path_times hr (by decide) (x_cons (x_pure (i_ix (i_var 1) i_int)) (x_cons (x_pure (i_add (i_var 2) (i_tup (a_cons i_int a_nil)))) x_nil)))) (s_cons (s_xAsg 4 nd (x_meth T G_Path_times hr (by decide) (x_cons (x_pure (i_ix (i_var 1) i_int)) (x_cons (x_pure (i_add (i_var 2) (i_tup (a_cons i_int a_nil)))) x_nil)))) (s_one (s_xRet (x_meth T G_Path_merge hr (by decide) (x_cons (x_pure (i_tup (a_cons i_str (a_cons (i_var 3) (a_cons (i_var 4) a_nil))))) (x_cons (x_pure (i_var 2)) (x_cons (x_pure i_str) x_nil)))))))))
theorem ok_Path_times {k : Nat} (c : Says xf fa fn K) (XI : K.In h) (G : h.Ns mainGlobals mg) {g_Path_turn : FX} {g_Path_share : FX} {g_Path_merge : FX} (G_Path_turn : MethK P w K mg base (clK K) "turn" ["self", "kind", "path", "word"] k g_Path_turn) (G_Path_share : MethK P w K mg base (clK K) "share" ["self", "kind", "path"] k g_Path_share) (G_Path_merge : MethK P w K mg base (clK K) "merge" ["self", "kind", "path", "empty"] k g_Path_merge) : MethK P w K mg base (clK K) "times" ["self", "kind", "path"] (k + 1) (runX 3 3 true (b_Path_times g_Path_turn g_Path_share g_Path_merge)) := by
  obtain ⟨fd, FD⟩ := c.sd.def_ 8 (d := d_Path_times) rfl
  have T : PathC K := ⟨He.cls_ok (c.sd.fact 32 (f := .cls "Path") rfl), He.noat_ok (c.sd.fact 34 (f := .noat "Path" "row") rfl)⟩
  refine meth_mk (N := N_Path_times) FD (He.meth_ok (c.sd.fact 39 (f := .meth "Path" "times") rfl)) sc_Path_times (by decide) (fun _ _ _ _ _ _ us hl => match us, hl with | [_, _, _], _ => rfl) (fun cdv A outer s H E hr tk => ?_)
  have nd := sc_Path_times.nd
  have hu := hu2_of hr
  unfold b_Path_times
  exact (s_cons (s_if (it_cmp (op_eqA hu) snd_eq (nomark _) (i_ix (i_ix (i_var 1) i_int) i_int) i_str) (s_one (s_xRet (x_meth T G_Path_turn hr (by decide) (x_cons (x_pure (i_var 1)) (x_cons (x_pure (i_var 2)) (x_cons (x_pure i_str) x_nil)))))) s_nil) (s_cons (s_if (it_cmp (op_eqA hu) snd_eq (nomark _) (i_ix (i_ix (i_var 1) i_int) i_int) i_str) (s_one (s_xRet (x_meth T G_Path_turn hr (by decide) (x_cons (x_meth T G_Path_turn hr (by decide) (x_cons (x_pure (i_var 1)) (x_cons (x_pure (i_var 2)) (x_cons (x_pure i_str) x_nil)))) (x_cons (x_pure (i_var 2)) (x_cons (x_pure i_str) x_nil)))))) s_nil) (s_cons (s_if (it_cmp (op_eqA hu) snd_eq (nomark _) (i_ix (i_ix (i_var 1) i_int) i_int) i_str) (s_one (s_xRet (x_meth T G_Path_share hr (by decide) (x_cons (x_pure (i_var 1)) (x_cons (x_pure (i_var 2)) x_nil))))) s_nil) (s_cons (s_if (it_cmp (op_eqA hu) snd_eq (nomark _) (i_ix (i_ix (i_var 1) i_int) i_int) i_str) (s_one (s_xRet (x_meth T G_Path_share hr (by decide) (x_cons (x_meth T G_Path_turn hr (by decide) (x_cons (x_pure (i_var 1)) (x_cons (x_pure (i_var 2)) (x_cons (x_pure i_str) x_nil)))) (x_cons (x_pure (i_var 2)) x_nil))))) s_nil) (s_one (s_xRet (x_meth T G_Path_merge hr (by decide) (x_cons (x_pure (i_var 1)) (x_cons (x_pure (i_var 2)) (x_cons (x_pure i_str) x_nil))))))))))
theorem ok_Path_plainer {k : Nat} (c : Says xf fa fn K) (XI : K.In h) (G : h.Ns mainGlobals mg) {g_Path_plainer : FX} {g_Path_merge : FX} {g_Path_times : FX} (G_Path_plainer : MethK P w K mg base (clK K) "plainer" ["self", "kind", "path"] k g_Path_plainer) (G_Path_merge : MethK P w K mg base (clK K) "merge" ["self", "kind", "path", "empty"] k g_Path_merge) (G_Path_times : MethK P w K mg base (clK K) "times" ["self", "kind", "path"] k g_Path_times) : MethK P w K mg base (clK K) "plainer" ["self", "kind", "path"] (k + 1) (runX 5 3 true (b_Path_plainer g_Path_plainer g_Path_merge g_Path_times)) := by
  obtain ⟨fd, FD⟩ := c.sd.def_ 10 (d := d_Path_plainer) rfl
  have T : PathC K := ⟨He.cls_ok (c.sd.fact 32 (f := .cls "Path") rfl), He.noat_ok (c.sd.fact 34 (f := .noat "Path" "row") rfl)⟩
  refine meth_mk (N := N_Path_plainer) FD (He.meth_ok (c.sd.fact 41 (f := .meth "Path" "plainer") rfl)) sc_Path_plainer (by decide) (fun _ _ _ _ _ _ us hl => match us, hl with | [_, _, _], _ => rfl) (fun cdv A outer s H E hr tk => ?_)
  have nd := sc_Path_plainer.nd
  have hu := hu2_of hr
  unfold b_Path_plainer
  exact (s_cons (s_if (L2.PW.pt (iw_and (it_cmp (op_neA hu) snd_ne (nomark _) (i_ix (i_var 1) i_int) i_str) (iw_and1 (it_cmp (op_neA hu) snd_ne (nomark _) (i_ix (i_var 1) i_int) i_str)))) (s_one (s_retV 1)) s_nil) (s_cons (s_xAsg 3 nd (x_meth T G_Path_plainer hr (by decide) (x_cons (x_pure (i_ix (i_var 1) i_int)) (x_cons (x_pure (i_add (i_var 2) (i_tup (a_cons i_int a_nil)))) x_nil)))) (s_cons (s_xAsg 4 nd (x_meth T G_Path_plainer hr (by decide) (x_cons (x_pure (i_ix (i_var 1) i_int)) (x_cons (x_pure (i_add (i_var 2) (i_tup (a_cons i_int a_nil)))) x_nil)))) (s_cons (s_if (it_cmp (op_eqA hu) snd_eq (nomark _) (i_ix (i_var 1) i_int) i_str) (s_one (s_xRet (x_meth T G_Path_merge hr (by decide) (x_cons (x_pure (i_tup (a_cons i_str (a_cons (i_var 3) (a_cons (i_var 4) a_nil))))) (x_cons (x_pure (i_var 2)) (x_cons (x_pure i_str) x_nil)))))) s_nil) (s_one (s_xRet (x_meth T G_Path_times hr (by decide) (x_cons (x_pure (i_tup (a_cons i_str (a_cons (i_var 3) (a_cons (i_var 4) a_nil))))) (x_cons (x_pure (i_var 2)) x_nil)))))))))
theorem ok_row_to_plain {k : Nat} (c : Says xf fa fn K) (XI : K.In h) (G : h.Ns mainGlobals mg) {g_Path_plainer : FX} (G_Path_plainer : MethK P w K mg base (clK K) "plainer" ["self", "kind", "path"] (k + 2) g_Path_plainer) : FnK P w K mg base (clK K) "row_to_plain" ["kind"] (k + 2 + 1) (run 2 1 (b_row_to_plain g_Path_plainer)) := by
  obtain ⟨fd, FD⟩ := c.sd.def_ 11 (d := d_row_to_plain) rfl
  have T : PathC K := ⟨He.cls_ok (c.sd.fact 32 (f := .cls "Path") rfl), He.noat_ok (c.sd.fact 34 (f := .noat "Path" "row") rfl)⟩
  refine fnk_mk (N := N_row_to_plain) FD (c.glo XI G 4) sc_row_to_plain (by decide) (fun _ _ _ _ _ _ us hl => match us, hl with | [_], _ => rfl) (fun cdv A outer s H E hr tk => ?_)
  have nd := sc_row_to_plain.nd
  have hu := hu2_of hr
  unfold b_row_to_plain
  exact s_rtp T (I_Path c XI G) G_Path_plainer (hr.mono (by omega)) hr nd (by exact rfl) (c.glo XI G 25 (x := "Path")) (by exact rfl) (by exact rfl) (by first | exact Or.inl rfl | exact Or.inr (Or.inl rfl) | exact Or.inr (Or.inr rfl)) (by first | exact Or.inl rfl | exact Or.inr (Or.inl rfl) | exact Or.inr (Or.inr rfl)) (by first | exact Or.inl rfl | exact Or.inr rfl) (by first | exact Or.inl rfl | exact Or.inr rfl)
theorem ok_judged {k : Nat} (c : Says xf fa fn K) (XI : K.In h) (G : h.Ns mainGlobals mg) {g_bundles : FF} {g_row_to_plain : FF} {g_sizes_for : FF} (G_bundles : FnK P w K mg base (clK K) "bundles" ["kind"] k g_bundles) (G_row_to_plain : FnK P w K mg base (clK K) "row_to_plain" ["kind"] k g_row_to_plain) (G_sizes_for : FnK P w K mg base (clK K) "sizes_for" ["counts"] k g_sizes_for) : FnK P w K mg base (clK K) "judged" ["one", "other"] (k + 1) (run 6 2 (b_judged g_bundles g_row_to_plain g_sizes_for)) := by
  obtain ⟨fd, FD⟩ := c.sd.def_ 15 (d := d_judged) rfl
  refine fnk_mk (N := N_judged) FD (c.glo XI G 8) sc_judged (by decide) (fun _ _ _ _ _ _ us hl => match us, hl with | [_, _], _ => rfl) (fun cdv A outer s H E hr tk => ?_)
  have nd := sc_judged.nd
  have hu := hu2_of hr
  unfold b_judged
  exact (s_cons (s_asg 2 nd (i_call G_bundles hr rfl tk (a_cons (i_var 0) a_nil))) (s_cons (s_asg 3 nd (i_call G_bundles hr rfl tk (a_cons (i_var 1) a_nil))) (s_cons (s_if (it_cmp (op_eqA hu) snd_eq (nomark _) (i_var 2) (i_var 3)) (s_one (s_ret (i_mkTwo (i_call G_row_to_plain hr rfl tk (a_cons (i_var 0) a_nil)) (i_call G_row_to_plain hr rfl tk (a_cons (i_var 1) a_nil))))) s_nil) (s_cons (s_newD 4 nd) (s_cons (s_forV 2 (passes_of rfl) rfl (pg_name (i := 5) nd rfl (by first | exact Or.inl rfl | exact Or.inr rfl)) tg_name (s_one (s_putD 4 hu (i_var 5) (i_add (i_dicG2 4 hu (i_var 5) i_int) i_int)))) (s_cons (s_forV 3 (passes_of rfl) rfl (pg_name (i := 5) nd rfl (by first | exact Or.inl rfl | exact Or.inr rfl)) tg_name (s_one (s_putD 4 hu (i_var 5) (i_sub (i_dicG2 4 hu (i_var 5) i_int) i_int)))) (s_one (s_ret (i_tup (a_cons i_str (a_cons (i_call G_sizes_for hr rfl tk (a_cons (i_var 4) a_nil)) a_nil)))))))))))
theorem ok_law_bundles {k : Nat} (c : Says xf fa fn K) (XI : K.In h) (G : h.Ns mainGlobals mg) {g_law_bundles : FF} (G_law_bundles : FnK P w K mg base (clK K) "_law_bundles" ["kind"] k g_law_bundles) : FnK P w K mg base (clK K) "_law_bundles" ["kind"] (k + 1) (run 6 1 (b_law_bundles g_law_bundles)) := by
  obtain ⟨fd, FD⟩ := c.sd.def_ 26 (d := d_law_bundles) rfl
  have n_len := c.free XI G 44
  have n_int := c.free XI G 43
  have n_sorted := c.free XI G 46
  have n_tuple := c.free XI G 47
  refine fnk_mk (N := N_law_bundles) FD (c.glo XI G 19) sc_law_bundles (by decide) (fun _ _ _ _ _ _ us hl => match us, hl with | [_], _ => rfl) (fun cdv A outer s H E hr tk => ?_)
  have nd := sc_law_bundles.nd
  have hu := hu2_of hr
  unfold b_law_bundles
  exact (s_cons (s_if (it_cmp (op_eqA hu) snd_eq (nomark _) (i_callB call_len snd_len boot_len rfl n_len (a_cons (i_var 0) a_nil)) i_int) (s_one (s_ret (i_mulL (i_lst (a_cons (i_tup a_nil) a_nil)) (i_callTy call_int1 snd_int boot_int rfl n_int (a_cons (i_cmp (op_eqA hu) snd_eq (nomark _) (i_ix (i_var 0) i_int) i_str) a_nil))))) s_nil) (s_cons (s_if (it_cmp (op_eqA hu) snd_eq (nomark _) (i_callB call_len snd_len boot_len rfl n_len (a_cons (i_var 0) a_nil)) i_int) (s_one (s_ret (i_lst (a_cons (i_tup (a_cons (i_ix (i_var 0) i_int) a_nil)) a_nil)))) s_nil) (s_cons (s_asg 1 nd (i_call G_law_bundles hr rfl tk (a_cons (i_ix (i_var 0) i_int) a_nil))) (s_cons (s_asg 2 nd (i_call G_law_bundles hr rfl tk (a_cons (i_ix (i_var 0) i_int) a_nil))) (s_cons (s_if (it_cmp (op_eqA hu) snd_eq (nomark _) (i_ix (i_var 0) i_int) i_str) (s_one (s_ret (i_sorted hu rfl n_sorted (a_cons (i_add (i_var 1) (i_var 2)) a_nil)))) s_nil) (s_cons (s_asg 3 nd (i_lst a_nil)) (s_cons (s_forV 1 (passes_of rfl) rfl (pg_name (i := 4) nd rfl (by first | exact Or.inl rfl | exact Or.inr rfl)) tg_name (s_one (s_forV 2 (passes_of rfl) rfl (pg_name (i := 5) nd rfl (by first | exact Or.inl rfl | exact Or.inr rfl)) tg_name (s_one (s_app 3 (i_callTy call_tuple_of snd_tupOf boot_tuple rfl n_tuple (a_cons (i_sorted hu rfl n_sorted (a_cons (i_add (i_var 4) (i_var 5)) a_nil)) a_nil))))))) (s_one (s_ret (i_sorted hu rfl n_sorted (a_cons (i_var 3) a_nil)))))))))))
theorem ok_law {k : Nat} (c : Says xf fa fn K) (XI : K.In h) (G : h.Ns mainGlobals mg) {g_law_kind : FF} {g_law_cell : FF} {g_law_other : FF} {g_law_leafed : FF} {g_judged : FF} {g_law_bundles : FF} (G_law_kind : FnK P w K mg base (clK K) "_law_kind" ["cell", "leaves", "k"] k g_law_kind) (G_law_cell : FnK P w K mg base (clK K) "_law_cell" ["script", "k"] k g_law_cell) (G_law_other : FnK P w K mg base (clK K) "_law_other" ["script", "first", "kind"] k g_law_other) (G_law_leafed : FnK P w K mg base (clK K) "_law_leafed" ["kind", "cell", "k"] k g_law_leafed) (G_judged : FnK P w K mg base (clK K) "judged" ["one", "other"] k g_judged) (G_law_bundles : FnK P w K mg base (clK K) "_law_bundles" ["kind"] k g_law_bundles) : FnK P w K mg base (clK K) "law" ["script"] (k + 1) (run 5 1 (b_law_k14 g_law_kind g_law_cell g_law_other g_law_leafed g_judged g_law_bundles)) := by
  obtain ⟨fd, FD⟩ := c.sd.def_ 29 (d := d_law) rfl
  refine fnk_mk (N := N_law) FD (c.glo XI G 22) sc_law (by decide) (fun _ _ _ _ _ _ us hl => match us, hl with | [_], _ => rfl) (fun cdv A outer s H E hr tk => ?_)
  have nd := sc_law.nd
  have hu := hu2_of hr
  unfold b_law_k14
  exact (s_cons (s_asg 1 nd (i_call G_law_kind hr rfl tk (a_cons (i_call G_law_cell hr rfl tk (a_cons (i_var 0) (a_cons i_int a_nil))) (a_cons (i_add i_int (i_mod (i_call G_law_cell hr rfl tk (a_cons (i_var 0) (a_cons i_int a_nil))) i_int)) (a_cons i_int a_nil))))) (s_cons (s_asg 2 nd (i_call G_law_other hr rfl tk (a_cons (i_var 0) (a_cons i_int (a_cons (i_var 1) a_nil))))) (s_cons (s_if (it_cmp (op_gt) snd_gt (nomark _) (i_mod (i_fdiv (i_call G_law_cell hr rfl tk (a_cons (i_var 0) (a_cons i_int a_nil))) i_int) i_int) i_int) (s_one (s_asg 2 nd (i_call G_law_leafed hr rfl tk (a_cons (i_var 2) (a_cons (i_call G_law_cell hr rfl tk (a_cons (i_var 0) (a_cons i_int a_nil))) (a_cons i_int a_nil)))))) s_nil) (s_cons (s_asg 3 nd (i_call G_law_kind hr rfl tk (a_cons (i_call G_law_cell hr rfl tk (a_cons (i_var 0) (a_cons i_int a_nil))) (a_cons (i_add i_int (i_mod (i_call G_law_cell hr rfl tk (a_cons (i_var 0) (a_cons i_int a_nil))) i_int)) (a_cons i_int a_nil))))) (s_cons (s_asg 4 nd (i_ixT (i_call G_judged hr rfl tk (a_cons (i_var 1) (a_cons (i_var 2) a_nil))) i_int)) (s_cons (s_if (it_cmp (op_neA hu) snd_ne (nomark _) (i_ixT (i_call G_judged hr rfl tk (a_cons (i_tup (a_cons i_str (a_cons (i_var 1) (a_cons (i_var 3) a_nil)))) (a_cons (i_tup (a_cons i_str (a_cons (i_var 3) (a_cons (i_var 2) a_nil)))) a_nil))) i_int) (i_var 4)) (s_one (s_ret i_bl)) s_nil) (s_cons (s_if (L2.PW.pt (iw_and (it_cmp (op_neA hu) snd_ne (nomark _) (i_call G_law_bundles hr rfl tk (a_cons (i_var 3) a_nil)) (i_lst a_nil)) (iw_and1 (it_cmp (op_neA hu) snd_ne (nomark _) (i_ixT (i_call G_judged hr rfl tk (a_cons (i_tup (a_cons i_str (a_cons (i_var 3) (a_cons (i_var 1) a_nil)))) (a_cons (i_tup (a_cons i_str (a_cons (i_var 2) (a_cons (i_var 3) a_nil)))) a_nil))) i_int) (i_var 4))))) (s_one (s_ret i_bl)) s_nil) (s_cons (s_if (it_cmp (op_neA hu) snd_ne (nomark _) (i_ixT (i_call G_judged hr rfl tk (a_cons (i_var 1) (a_cons (i_var 1) a_nil))) i_int) i_str) (s_one (s_ret i_bl)) s_nil) (s_one (s_ret (i_cmp (op_eqA hu) snd_eq (nomark _) (i_ixT (i_call G_judged hr rfl tk (a_cons (i_tup (a_cons i_str (a_cons (i_var 1) (a_cons (i_var 2) a_nil)))) (a_cons (i_tup (a_cons i_str (a_cons (i_var 2) (a_cons (i_var 1) a_nil)))) a_nil))) i_int) i_str)))))))))))
theorem K_law_draw (c : Says xf fa fn K) (XI : K.In h) (G : h.Ns mainGlobals mg) : FnK P w K mg base (clK K) "_law_draw" ["cell", "k", "bound"] 1 m_law_draw :=
  ok_law_draw c XI G 
theorem KN_law_kind (c : Says xf fa fn K) (XI : K.In h) (G : h.Ns mainGlobals mg) : ∀ n : Nat, FnK P w K mg base (clK K) "_law_kind" ["cell", "leaves", "k"] (1 + n) (m_law_kindN n)
  | 0 => (by
    obtain ⟨fd, FD⟩ := c.sd.def_ 19 (d := d_law_kind) rfl
    exact (fnk_zero FD (c.glo XI G 12) (fun _ _ _ _ _ _ us hl => match us, hl with | [_, _, _], _ => rfl)).up (Nat.zero_le _))
  | n + 1 => by
    have ih := KN_law_kind c XI G n
    exact (ok_law_kind c XI G ((K_law_draw c XI G).up (Nat.le_trans (by decide) (Nat.le_add_right 1 n))) ih)
theorem K_law_kind (c : Says xf fa fn K) (XI : K.In h) (G : h.Ns mainGlobals mg) : FnK P w K mg base (clK K) "_law_kind" ["cell", "leaves", "k"] 41 m_law_kind := (KN_law_kind c XI G 40)
theorem K_law_part (c : Says xf fa fn K) (XI : K.In h) (G : h.Ns mainGlobals mg) : FnK P w K mg base (clK K) "_law_part" ["kind", "path"] 1 m_law_part :=
  ok_law_part c XI G 
theorem K_law_paths (c : Says xf fa fn K) (XI : K.In h) (G : h.Ns mainGlobals mg) : FnK P w K mg base (clK K) "_law_paths" ["kind"] 2 m_law_paths :=
  ok_law_paths c XI G ((K_law_part c XI G).up (by decide))
theorem K_law_here (c : Says xf fa fn K) (XI : K.In h) (G : h.Ns mainGlobals mg) : FnK P w K mg base (clK K) "_law_here" ["kind", "word"] 1 m_law_here :=
  ok_law_here c XI G 
theorem K_law_all_turnings (c : Says xf fa fn K) (XI : K.In h) (G : h.Ns mainGlobals mg) : FnK P w K mg base (clK K) "_law_all_turnings" ["kind"] 3 m_law_all_turnings :=
  ok_law_all_turnings c XI G ((K_law_here c XI G).up (by decide)) ((K_law_part c XI G).up (by decide)) ((K_law_paths c XI G).up (by decide))
theorem K_law_stir (c : Says xf fa fn K) (XI : K.In h) (G : h.Ns mainGlobals mg) : FnK P w K mg base (clK K) "_law_stir" ["cell"] 1 m_law_stir :=
  ok_law_stir c XI G 
theorem K_law_cell (c : Says xf fa fn K) (XI : K.In h) (G : h.Ns mainGlobals mg) : FnK P w K mg base (clK K) "_law_cell" ["script", "k"] 2 m_law_cell :=
  ok_law_cell c XI G ((K_law_stir c XI G).up (by decide))
theorem KN_law_put (c : Says xf fa fn K) (XI : K.In h) (G : h.Ns mainGlobals mg) : ∀ n : Nat, FnK P w K mg base (clK K) "_law_put" ["kind", "path", "piece"] (0 + n) (m_law_putN n)
  | 0 => (by
    obtain ⟨fd, FD⟩ := c.sd.def_ 23 (d := d_law_put) rfl
    exact (fnk_zero FD (c.glo XI G 16) (fun _ _ _ _ _ _ us hl => match us, hl with | [_, _, _], _ => rfl)).up (Nat.zero_le _))
  | n + 1 => by
    have ih := KN_law_put c XI G n
    exact (ok_law_put c XI G ih)
theorem K_law_put (c : Says xf fa fn K) (XI : K.In h) (G : h.Ns mainGlobals mg) : FnK P w K mg base (clK K) "_law_put" ["kind", "path", "piece"] 40 m_law_put := (KN_law_put c XI G 40)
theorem K_law_turned (c : Says xf fa fn K) (XI : K.In h) (G : h.Ns mainGlobals mg) : FnK P w K mg base (clK K) "_law_turned" ["kind", "word", "path"] 41 m_law_turned :=
  ok_law_turned c XI G ((K_law_paths c XI G).up (by decide)) ((K_law_here c XI G).up (by decide)) ((K_law_part c XI G).up (by decide)) ((K_law_put c XI G).up (by decide))
theorem K_law_other (c : Says xf fa fn K) (XI : K.In h) (G : h.Ns mainGlobals mg) : FnK P w K mg base (clK K) "_law_other" ["script", "first", "kind"] 42 m_law_other :=
  ok_law_other c XI G ((K_law_all_turnings c XI G).up (by decide)) ((K_law_paths c XI G).up (by decide)) ((K_law_cell c XI G).up (by decide)) ((K_law_turned c XI G).up (by decide))
theorem KN_law_leafed (c : Says xf fa fn K) (XI : K.In h) (G : h.Ns mainGlobals mg) : ∀ n : Nat, FnK P w K mg base (clK K) "_law_leafed" ["kind", "cell", "k"] (1 + n) (m_law_leafedN n)
  | 0 => (by
    obtain ⟨fd, FD⟩ := c.sd.def_ 28 (d := d_law_leafed) rfl
    exact (fnk_zero FD (c.glo XI G 21) (fun _ _ _ _ _ _ us hl => match us, hl with | [_, _, _], _ => rfl)).up (Nat.zero_le _))
  | n + 1 => by
    have ih := KN_law_leafed c XI G n
    exact (ok_law_leafed c XI G ((K_law_draw c XI G).up (Nat.le_trans (by decide) (Nat.le_add_right 1 n))) ih)
theorem K_law_leafed (c : Says xf fa fn K) (XI : K.In h) (G : h.Ns mainGlobals mg) : FnK P w K mg base (clK K) "_law_leafed" ["kind", "cell", "k"] 41 m_law_leafed := (KN_law_leafed c XI G 40)
theorem KN_bundles (c : Says xf fa fn K) (XI : K.In h) (G : h.Ns mainGlobals mg) : ∀ n : Nat, FnK P w K mg base (clK K) "bundles" ["kind"] (0 + n) (m_bundlesN n)
  | 0 => (by
    obtain ⟨fd, FD⟩ := c.sd.def_ 3 (d := d_bundles) rfl
    exact (fnk_zero FD (c.glo XI G 3) (fun _ _ _ _ _ _ us hl => match us, hl with | [_], _ => rfl)).up (Nat.zero_le _))
  | n + 1 => by
    have ih := KN_bundles c XI G n
    exact (ok_bundles c XI G ih)
theorem K_bundles (c : Says xf fa fn K) (XI : K.In h) (G : h.Ns mainGlobals mg) : FnK P w K mg base (clK K) "bundles" ["kind"] 40 m_bundles := (KN_bundles c XI G 40)
theorem K_put_in (c : Says xf fa fn K) (XI : K.In h) (G : h.Ns mainGlobals mg) : FnK P w K mg base (clK K) "put_in" ["counts", "name", "size"] 1 m_put_in :=
  ok_put_in c XI G 
theorem K_all_even (c : Says xf fa fn K) (XI : K.In h) (G : h.Ns mainGlobals mg) : FnK P w K mg base (clK K) "all_even" ["counts"] 1 m_all_even :=
  ok_all_even c XI G 
theorem K_sizes_for (c : Says xf fa fn K) (XI : K.In h) (G : h.Ns mainGlobals mg) : FnK P w K mg base (clK K) "sizes_for" ["counts"] 2 m_sizes_for :=
  ok_sizes_for c XI G ((K_all_even c XI G).up (by decide)) ((K_put_in c XI G).up (by decide))
theorem K_need (c : Says xf fa fn K) (XI : K.In h) (G : h.Ns mainGlobals mg) : FnK P w K mg base (clK K) "need" ["good"] 1 m_need :=
  ok_need c XI G 
theorem K_is_pair (c : Says xf fa fn K) (XI : K.In h) (G : h.Ns mainGlobals mg) : FnK P w K mg base (clK K) "is_pair" ["kind"] 1 m_is_pair :=
  ok_is_pair c XI G 
theorem K_turned_here (c : Says xf fa fn K) (XI : K.In h) (G : h.Ns mainGlobals mg) : FnK P w K mg base (clK K) "turned_here" ["kind", "word"] 2 m_turned_here :=
  ok_turned_here c XI G ((K_need c XI G).up (by decide)) ((K_is_pair c XI G).up (by decide))
theorem K_Path_turn (c : Says xf fa fn K) (XI : K.In h) (G : h.Ns mainGlobals mg) : MethK P w K mg base (clK K) "turn" ["self", "kind", "path", "word"] 3 m_Path_turn :=
  ok_Path_turn c XI G ((K_turned_here c XI G).up (by decide))
theorem KN_Path_sift (c : Says xf fa fn K) (XI : K.In h) (G : h.Ns mainGlobals mg) : ∀ n : Nat, MethK P w K mg base (clK K) "sift" ["self", "kind", "path"] (40 + n) (m_Path_siftN n)
  | 0 => (by
    obtain ⟨fd, FD⟩ := c.sd.def_ 6 (d := d_Path_sift) rfl
    exact (meth_zero FD (He.meth_ok (c.sd.fact 37 (f := .meth "Path" "sift") rfl)) (fun _ _ _ _ _ _ us hl => match us, hl with | [_, _, _], _ => rfl)).up (Nat.zero_le _))
  | n + 1 => by
    have ih := KN_Path_sift c XI G n
    exact (ok_Path_sift c XI G ((K_bundles c XI G).up (Nat.le_trans (by decide) (Nat.le_add_right 40 n))) ((K_Path_turn c XI G).up (Nat.le_trans (by decide) (Nat.le_add_right 40 n))) ih)
theorem K_Path_sift (c : Says xf fa fn K) (XI : K.In h) (G : h.Ns mainGlobals mg) : MethK P w K mg base (clK K) "sift" ["self", "kind", "path"] 80 m_Path_sift := (KN_Path_sift c XI G 40)
theorem KN_Path_merge (c : Says xf fa fn K) (XI : K.In h) (G : h.Ns mainGlobals mg) : ∀ n : Nat, MethK P w K mg base (clK K) "merge" ["self", "kind", "path", "empty"] (80 + n) (m_Path_mergeN n)
  | 0 => (by
    obtain ⟨fd, FD⟩ := c.sd.def_ 7 (d := d_Path_merge) rfl
    exact (meth_zero FD (He.meth_ok (c.sd.fact 38 (f := .meth "Path" "merge") rfl)) (fun _ _ _ _ _ _ us hl => match us, hl with | [_, _, _, _], _ => rfl)).up (Nat.zero_le _))
  | n + 1 => by
    have ih := KN_Path_merge c XI G n
    exact (ok_Path_merge c XI G ((K_Path_turn c XI G).up (Nat.le_trans (by decide) (Nat.le_add_right 80 n))) ih ((K_Path_sift c XI G).up (Nat.le_trans (by decide) (Nat.le_add_right 80 n))))
theorem K_Path_merge (c : Says xf fa fn K) (XI : K.In h) (G : h.Ns mainGlobals mg) : MethK P w K mg base (clK K) "merge" ["self", "kind", "path", "empty"] 120 m_Path_merge := (KN_Path_merge c XI G 40)
theorem KN_Path_share (c : Says xf fa fn K) (XI : K.In h) (G : h.Ns mainGlobals mg) : ∀ n : Nat, MethK P w K mg base (clK K) "share" ["self", "kind", "path"] (120 + n) (m_Path_shareN n) ∧ MethK P w K mg base (clK K) "times" ["self", "kind", "path"] (120 + n) (m_Path_timesN n)
  | 0 => ⟨(by
    obtain ⟨fd, FD⟩ := c.sd.def_ 9 (d := d_Path_share) rfl
    exact (meth_zero FD (He.meth_ok (c.sd.fact 40 (f := .meth "Path" "share") rfl)) (fun _ _ _ _ _ _ us hl => match us, hl with | [_, _, _], _ => rfl)).up (Nat.zero_le _)), (by
    obtain ⟨fd, FD⟩ := c.sd.def_ 8 (d := d_Path_times) rfl
    exact (meth_zero FD (He.meth_ok (c.sd.fact 39 (f := .meth "Path" "times") rfl)) (fun _ _ _ _ _ _ us hl => match us, hl with | [_, _, _], _ => rfl)).up (Nat.zero_le _))⟩
  | n + 1 => by
    have ih := KN_Path_share c XI G n
    exact ⟨(ok_Path_share c XI G ((K_Path_turn c XI G).up (Nat.le_trans (by decide) (Nat.le_add_right 120 n))) ih.2 ((K_Path_merge c XI G).up (Nat.le_trans (by decide) (Nat.le_add_right 120 n)))), (ok_Path_times c XI G ((K_Path_turn c XI G).up (Nat.le_trans (by decide) (Nat.le_add_right 120 n))) ih.1 ((K_Path_merge c XI G).up (Nat.le_trans (by decide) (Nat.le_add_right 120 n))))⟩
theorem K_Path_share (c : Says xf fa fn K) (XI : K.In h) (G : h.Ns mainGlobals mg) : MethK P w K mg base (clK K) "share" ["self", "kind", "path"] 160 m_Path_share := (KN_Path_share c XI G 40).1
theorem K_Path_times (c : Says xf fa fn K) (XI : K.In h) (G : h.Ns mainGlobals mg) : MethK P w K mg base (clK K) "times" ["self", "kind", "path"] 160 m_Path_times := (KN_Path_share c XI G 40).2
theorem KN_Path_plainer (c : Says xf fa fn K) (XI : K.In h) (G : h.Ns mainGlobals mg) : ∀ n : Nat, MethK P w K mg base (clK K) "plainer" ["self", "kind", "path"] (160 + n) (m_Path_plainerN n)
  | 0 => (by
    obtain ⟨fd, FD⟩ := c.sd.def_ 10 (d := d_Path_plainer) rfl
    exact (meth_zero FD (He.meth_ok (c.sd.fact 41 (f := .meth "Path" "plainer") rfl)) (fun _ _ _ _ _ _ us hl => match us, hl with | [_, _, _], _ => rfl)).up (Nat.zero_le _))
  | n + 1 => by
    have ih := KN_Path_plainer c XI G n
    exact (ok_Path_plainer c XI G ih ((K_Path_merge c XI G).up (Nat.le_trans (by decide) (Nat.le_add_right 160 n))) ((K_Path_times c XI G).up (Nat.le_trans (by decide) (Nat.le_add_right 160 n))))
theorem K_Path_plainer (c : Says xf fa fn K) (XI : K.In h) (G : h.Ns mainGlobals mg) : MethK P w K mg base (clK K) "plainer" ["self", "kind", "path"] 200 m_Path_plainer := (KN_Path_plainer c XI G 40)
theorem K_row_to_plain (c : Says xf fa fn K) (XI : K.In h) (G : h.Ns mainGlobals mg) : FnK P w K mg base (clK K) "row_to_plain" ["kind"] 201 m_row_to_plain :=
  ok_row_to_plain c XI G ((K_Path_plainer c XI G).up (by decide))
theorem K_judged (c : Says xf fa fn K) (XI : K.In h) (G : h.Ns mainGlobals mg) : FnK P w K mg base (clK K) "judged" ["one", "other"] 202 m_judged :=
  ok_judged c XI G ((K_bundles c XI G).up (by decide)) ((K_row_to_plain c XI G).up (by decide)) ((K_sizes_for c XI G).up (by decide))
theorem KN_law_bundles (c : Says xf fa fn K) (XI : K.In h) (G : h.Ns mainGlobals mg) : ∀ n : Nat, FnK P w K mg base (clK K) "_law_bundles" ["kind"] (0 + n) (m_law_bundlesN n)
  | 0 => (by
    obtain ⟨fd, FD⟩ := c.sd.def_ 26 (d := d_law_bundles) rfl
    exact (fnk_zero FD (c.glo XI G 19) (fun _ _ _ _ _ _ us hl => match us, hl with | [_], _ => rfl)).up (Nat.zero_le _))
  | n + 1 => by
    have ih := KN_law_bundles c XI G n
    exact (ok_law_bundles c XI G ih)
theorem K_law_bundles (c : Says xf fa fn K) (XI : K.In h) (G : h.Ns mainGlobals mg) : FnK P w K mg base (clK K) "_law_bundles" ["kind"] 40 m_law_bundles := (KN_law_bundles c XI G 40)
theorem K_law (c : Says xf fa fn K) (XI : K.In h) (G : h.Ns mainGlobals mg) : FnK P w K mg base (clK K) "law" ["script"] 203 m_law_k14 :=
  ok_law c XI G ((K_law_kind c XI G).up (by decide)) ((K_law_cell c XI G).up (by decide)) ((K_law_other c XI G).up (by decide)) ((K_law_leafed c XI G).up (by decide)) ((K_judged c XI G).up (by decide)) ((K_law_bundles c XI G).up (by decide))
end
end LW

set_option maxHeartbeats 0
namespace LW
open PySem PySem.Spec PyProof.Rows L2 KT
abbrev R : PySem.W.OpenRow := PySem.W.OpenLaw.row PySem.Challenge.rw_kindturn_k14_whole_put_to_both
abbrev hk : PySem.W.Hook := hookX 5 (xtOf xf) fa fn
def ob (s : PySem.W.SharedT) : Bool × He.AlD := obsXG 5 (xtOf xf) fa fn (HandSHeadRun.getT s)
theorem ob_eq (s : PySem.W.SharedT) : ob s = hk.obs s.abs := obsXG_eq (HandSHeadRun.getT_eq s)
def nm0 : List PySem.Str := ["KindError", "NoTurning", "is_pair", "need", "turned_here", "bundles", "Path", "row_to_plain", "put_in", "all_even", "sizes_for", "judged", "_law_stir", "_law_cell", "_law_draw", "_law_kind", "_law_paths", "_law_part", "_law_here", "_law_put", "_law_turned", "_law_all_turnings", "_law_bundles", "_law_other", "_law_leafed", "NAMES", "MOST"]
def nms : List PySem.Str := nm0
theorem run (w : World) : HandSHeadRun.RunEq R (PySem.W.view R.prog [33]) hk ob 6000 nms w := by
  intro os
  kernel_rfl
theorem facts {P : Program} {w : World} {K : PySem.W.Frag} {h : Heap} {mg : Str → Option Value} {f : Addr} (XI : K.In h) (G : h.Ns mainGlobals mg) (hfa : mg ("law" : Str) = some (.ref f)) (c : Says xf fa fn K) :
    ∃ fd : FuncData, (∀ (s : Shared) (v : Value), BindsTo s fd ⟨[v], []⟩ [("script", v)]) ∧ ∀ base : Heap, K.In base → base.Ns mainGlobals mg → FnOk P w K mg base CXU 203 f fd ["script"] (spF K (clK K) 1 m_law_k14) := by
  obtain ⟨⟨f2, fd, G2, hm, kp, bi, b, oc, od, osl, lk⟩, ar⟩ := K_law (P := P) (w := w) (base := h) c XI G
  have e2 := hfa.symm.trans hm
  cases e2
  refine ⟨fd, fun s v => b s [v] rfl, fun base _ _ => ?_⟩
  obtain ⟨⟨f3, fd3, G3, hm3, kp3, bi3, b3, oc3, od3, osl3, lk3⟩, ar3⟩ := K_law (P := P) (w := w) (base := base) c XI G
  have e3 := hfa.symm.trans hm3
  cases e3
  rw [lk] at lk3
  cases lk3
  exact FnOk.cxu G3
end LW
open PySem PySem.W PySem.Calls PyProof.Rows
theorem PySem.Challenge.cw_kindturn_k14_whole_put_to_both_holds : PySem.Challenge.rw_kindturn_k14_whole_put_to_both.Holds := by
  w_on; o_law
  refine HandSHeadRun.head_any (r := OpenLaw.row PySem.Challenge.rw_kindturn_k14_whole_put_to_both) (q := view (OpenLaw.row PySem.Challenge.rw_kindturn_k14_whole_put_to_both).prog [33]) (H := LW.hk) (ob := LW.ob) (M := 6000) (loose := LW.nms) (d := HandSHeadRun.topDef (OpenLaw.row PySem.Challenge.rw_kindturn_k14_whole_put_to_both).prog 33) (kwd := []) LW.ob_eq
    (by kernel_rfl) (fun s => by kernel_rfl) LW.run (by kernel_rfl) (by kernel_rfl) (by kernel_rfl) (by rfl) (by first | assumption | decide +kernel) (by decide +kernel) ⟨rfl, rfl, rfl, rfl, rfl, by decide +kernel⟩ ?hw ?hc
  case hw => w_witness2
  case hc =>
    refine L2.walk_ofE (l := PySem.Challenge.rw_kindturn_k14_whole_put_to_both) (n := 63) (k := 203) (x := "script") (CX := KT.CXU) rfl (by decide) (by kernel_rfl) ⟨rfl, by decide, by decide⟩ ?F KT.cx_nil
    intro w mg fa h Y G hmg0
    obtain ⟨K, KX, c⟩ := Y
    have hmg : mg ("law" : PySem.Str) = some (.ref fa) := by
      have e : (HandSHeadRun.topDef (OpenLaw.row PySem.Challenge.rw_kindturn_k14_whole_put_to_both).prog 33).name = ("law" : PySem.Str) := by kernel_rfl
      rw [← e]
      exact hmg0
    obtain ⟨fd, hb, hF⟩ := LW.facts (P := (PySem.Challenge.rw_kindturn_k14_whole_put_to_both).prog) (w := w) KX G hmg (KT.says_of c)
    exact ⟨K, fd, _, KX, hb, KT.law_sp (fun ns _ => KT.law14 ns), hF⟩
