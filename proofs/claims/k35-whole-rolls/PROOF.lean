import PyProof.Rows.All
import Wide.All
import OpenK.AllK
import Wide.FinOn
import HandS.ForMost
import HandS.TupAny
import HandS.IsInst
import HandS.Style
import HandS.Flow
import HandS.Wide
import HandS.EndTab
import KE.SortKeyHeap
import HandS.SortKw
import HandS.TupSets
import PySem.Challenge.RW_prizelog_k35_whole_rolls
import HandS.Codes
import KE.KNestM
set_option Elab.async false
set_option linter.all false
set_option maxRecDepth 100000
/-! La: data in the heap, what a reading gives -/
namespace Rk
open PySem PySem.Spec PyProof.Rows L2

/-! ### data -/
/-- m: lists that others may change (each a draw's pot); n: lists that no data name -/
structure Ct where
  m : List Addr
  n : List Addr
  sub : ∀ a ∈ m, a ∈ n
def Ct.add (C : Ct) (l : Addr) : Ct := ⟨C.m, l :: C.n, fun a h => List.mem_cons_of_mem _ (C.sub a h)⟩
def potB : Int := 10 ^ 600
def PotOk (H : Hp) (p : Addr) : Prop := ∃ x y : Int, H p = some (.lst [.int x, .int y]) ∧ 0 ≤ x ∧ x < potB ∧ 0 ≤ y ∧ y < 2147483647
mutual
inductive Is (M : Ct) (H : Hp) : V → PyData → Prop
  | non : Is M H .non .none
  | bl (b : Bool) : Is M H (.bl b) (.bool b)
  | int (i : Int) : Is M H (.int i) (.int i)
  | str (x : Str) : Is M H (.str x) (.str x)
  | lst {a : Addr} {xs : List V} {ds : List PyData} : a ∉ M.n → H a = some (.lst xs) → IsA M H xs ds → Is M H (.ref a) (.list ds)
  | tup {a : Addr} {xs : List V} {ds : List PyData} : H a = some (.tup xs) → IsA M H xs ds → Is M H (.ref a) (.tuple ds)
  | pot {a : Addr} : a ∈ M.m → PotOk H a → Is M H (.ref a) (.dict [])
inductive IsA (M : Ct) (H : Hp) : List V → List PyData → Prop
  | nil : IsA M H [] []
  | cons {v : V} {vs : List V} {d : PyData} {ds : List PyData} : Is M H v d → IsA M H vs ds → IsA M H (v :: vs) (d :: ds)
end
structure Gd (T : List (Addr × Str)) (M : Ct) (H : Hp) : Prop where
  tab : LamX.Tabs T H
  tr : ∀ p ∈ M.n, ∃ xs, H p = some (.lst xs)
structure Xq (M : Ct) (H H' : Hp) : Prop where
  keep : ∀ b o, H b = some o → b ∉ M.m → (∀ ps, o ≠ .tbl ps) → H' b = some o
  tup : ∀ b xs, H b = some (.tup xs) → H' b = some (.tup xs)
  pot : ∀ p ∈ M.m, PotOk H p → PotOk H' p
theorem Xq.refl {M : Ct} {H : Hp} : Xq M H H := ⟨fun _ _ h _ _ => h, fun _ _ h => h, fun _ _ h => h⟩
theorem Xq.trans {M : Ct} {H H1 H2 : Hp} (a : Xq M H H1) (b : Xq M H1 H2) : Xq M H H2 := ⟨fun c o h n t => b.keep c o (a.keep c o h n t) n t, fun c xs h => b.tup c xs (a.tup c xs h), fun p hp h => b.pot p hp (a.pot p hp h)⟩
theorem PotOk.at {H H' : Hp} {p : Addr} (h : PotOk H p) (e : H' p = H p) : PotOk H' p := by
  obtain ⟨x, y, q, r⟩ := h
  exact ⟨x, y, e.trans q, r⟩
theorem PotOk.some {H : Hp} {p : Addr} (h : PotOk H p) : ∃ o, H p = some o := by
  obtain ⟨x, y, q, r⟩ := h
  exact ⟨_, q⟩
/-- an object that H does not know may change -/
theorem Xq.mut {M : Ct} {H H' : Hp} {p : Addr} {o : HO} (e : Xq M H H') (h : H p = none) : Xq M H (upd H' p o) := ⟨fun b u q n t => by rw [upd_ne (ne_of_none q h)]; exact e.keep b u q n t, fun b u q => by rw [upd_ne (ne_of_none q h)]; exact e.tup b u q, fun b hb q => by
  obtain ⟨u, hu⟩ := q.some
  exact (e.pot b hb q).at (upd_ne (ne_of_none hu h))⟩
theorem Xq.new {M : Ct} {H : Hp} {p : Addr} {o : HO} (h : H p = none) : Xq M H (upd H p o) := Xq.refl.mut h
theorem Xq.same {M N : Ct} {H H' : Hp} (h : Xq M H H') (s : M.m = N.m) : Xq N H H' := ⟨fun b o e n t => h.keep b o e (by rw [s]; exact n) t, h.tup, fun p hp => h.pot p (by rw [s]; exact hp)⟩
theorem Xq.add {M : Ct} {l : Addr} {H H' : Hp} (h : Xq M H H') : Xq (M.add l) H H' := h.same rfl
theorem Xq.drop {M : Ct} {l : Addr} {H H' : Hp} (h : Xq (M.add l) H H') : Xq M H H' := h.same rfl
theorem tabs_new {T : List (Addr × Str)} {H : Hp} {p : Addr} {o : HO} (g : LamX.Tabs T H) (h : H p = none) : LamX.Tabs T (upd H p o) := g.ext fun b u e => by rw [upd_ne (ne_of_none e h)]; exact e
theorem Gd.new {T : List (Addr × Str)} {M : Ct} {H : Hp} {p : Addr} {o : HO} (g : Gd T M H) (h : H p = none) : Gd T M (upd H p o) := ⟨tabs_new g.tab h, fun q hq => by
  obtain ⟨x, e⟩ := g.tr q hq
  exact ⟨x, by rw [upd_ne (ne_of_none e h)]; exact e⟩⟩
theorem Gd.fresh {T : List (Addr × Str)} {M : Ct} {H : Hp} {p : Addr} (g : Gd T M H) (h : H p = none) : p ∉ M.n := fun q => by
  obtain ⟨x, e⟩ := g.tr p q
  rw [h] at e
  cases e
theorem Gd.drop {T : List (Addr × Str)} {M : Ct} {H : Hp} {l : Addr} (g : Gd T (M.add l) H) : Gd T M H := ⟨g.tab, fun p hp => g.tr p (List.mem_cons_of_mem _ hp)⟩
theorem Gd.up {T : List (Addr × Str)} {M : Ct} {H : Hp} {l : Addr} {xs : List V} (g : Gd T M H) (h : H l = some (.lst xs)) : Gd T (M.add l) H := ⟨g.tab, fun p hp => by
  rcases List.mem_cons.mp hp with e | e
  · exact ⟨xs, by rw [e]; exact h⟩
  · exact g.tr p e⟩
theorem codeO_lst {c : Addr} {q : Str} {xs : List V} : LamX.CodeO c q ≠ .lst xs := fun z => by
  unfold LamX.CodeO at z
  cases z
/-- a tracked list is written -/
theorem Gd.wr {T : List (Addr × Str)} {M : Ct} {H : Hp} {l : Addr} {xs ys : List V} (g : Gd T M H) (h : H l = some (.lst xs)) : Gd T M (upd H l (.lst ys)) := by
  refine ⟨fun p hp => ?_, fun q hq => ?_⟩
  · obtain ⟨ps, h1, h2, h3⟩ := g.tab p hp
    refine ⟨ps, by rw [upd_ne (ne_of h1 h (by intro z; cases z))]; exact h1, h2, fun pos cv hc => ?_⟩
    obtain ⟨c, e1, e2⟩ := h3 pos cv hc
    exact ⟨c, e1, by rw [upd_ne (ne_of e2 h codeO_lst)]; exact e2⟩
  · by_cases e : q = l
    · subst e
      exact ⟨ys, upd_same⟩
    · rw [upd_ne e]
      exact g.tr q hq

mutual
theorem Is.mono {M : Ct} {H H' : Hp} (x : Xq M H H') : ∀ {d : PyData} {v : V}, Is M H v d → Is M H' v d
  | .none, _, h => by cases h; exact .non
  | .bool _, _, h => by cases h; exact .bl _
  | .int _, _, h => by cases h; exact .int _
  | .str _, _, h => by cases h; exact .str _
  | .list ds, _, h => by
    cases h with
    | lst n e a => exact .lst n (x.keep _ _ e (fun z => n (M.sub _ z)) fun ps z => by cases z) (IsA.mono x a)
  | .tuple ds, _, h => by
    cases h with
    | tup e a => exact .tup (x.tup _ _ e) (IsA.mono x a)
  | .dict kvs, _, h => by
    cases h with
    | pot a b => exact .pot a (x.pot _ a b)
theorem IsA.mono {M : Ct} {H H' : Hp} (x : Xq M H H') : ∀ {ds : List PyData} {vs : List V}, IsA M H vs ds → IsA M H' vs ds
  | [], _, h => by cases h; exact .nil
  | d :: ds, _, h => by
    cases h with
    | cons h1 h2 => exact .cons (Is.mono x h1) (IsA.mono x h2)
end
mutual
/-- a list that no data name is written -/
theorem Is.put {M : Ct} {H : Hp} {l : Addr} {xs ys : List V} (hn : l ∈ M.n) (hm : l ∉ M.m) (hl : H l = some (.lst xs)) : ∀ {d : PyData} {v : V}, Is M H v d → Is M (upd H l (.lst ys)) v d
  | .none, _, h => by cases h; exact .non
  | .bool _, _, h => by cases h; exact .bl _
  | .int _, _, h => by cases h; exact .int _
  | .str _, _, h => by cases h; exact .str _
  | .list ds, _, h => by
    cases h with
    | lst n e a => exact .lst n (by rw [upd_ne (fun z => n (by rw [z]; exact hn))]; exact e) (IsA.put hn hm hl a)
  | .tuple ds, _, h => by
    cases h with
    | tup e a => exact .tup (by rw [upd_ne (ne_of e hl (by intro z; cases z))]; exact e) (IsA.put hn hm hl a)
  | .dict kvs, _, h => by
    cases h with
    | pot a b => exact .pot a (b.at (upd_ne fun z => hm (by rw [← z]; exact a)))
theorem IsA.put {M : Ct} {H : Hp} {l : Addr} {xs ys : List V} (hn : l ∈ M.n) (hm : l ∉ M.m) (hl : H l = some (.lst xs)) : ∀ {ds : List PyData} {vs : List V}, IsA M H vs ds → IsA M (upd H l (.lst ys)) vs ds
  | [], _, h => by cases h; exact .nil
  | d :: ds, _, h => by
    cases h with
    | cons h1 h2 => exact .cons (Is.put hn hm hl h1) (IsA.put hn hm hl h2)
end
mutual
/-- an object that H does not know is named by no data -/
theorem Is.add {M : Ct} {H : Hp} {l : Addr} (hl : H l = none) : ∀ {d : PyData} {v : V}, Is M H v d → Is (M.add l) H v d
  | .none, _, h => by cases h; exact .non
  | .bool _, _, h => by cases h; exact .bl _
  | .int _, _, h => by cases h; exact .int _
  | .str _, _, h => by cases h; exact .str _
  | .list ds, _, h => by
    cases h with
    | lst n e a => exact .lst (fun z => by
        rcases List.mem_cons.mp z with q | q
        · rw [q, hl] at e
          cases e
        · exact n q) e (IsA.add hl a)
  | .tuple ds, _, h => by
    cases h with
    | tup e a => exact .tup e (IsA.add hl a)
  | .dict kvs, _, h => by
    cases h with
    | pot a b => exact .pot a b
theorem IsA.add {M : Ct} {H : Hp} {l : Addr} (hl : H l = none) : ∀ {ds : List PyData} {vs : List V}, IsA M H vs ds → IsA (M.add l) H vs ds
  | [], _, h => by cases h; exact .nil
  | d :: ds, _, h => by
    cases h with
    | cons h1 h2 => exact .cons (Is.add hl h1) (IsA.add hl h2)
end
mutual
theorem Is.drop {M : Ct} {H : Hp} {l : Addr} : ∀ {d : PyData} {v : V}, Is (M.add l) H v d → Is M H v d
  | .none, _, h => by cases h; exact .non
  | .bool _, _, h => by cases h; exact .bl _
  | .int _, _, h => by cases h; exact .int _
  | .str _, _, h => by cases h; exact .str _
  | .list ds, _, h => by
    cases h with
    | lst n e a => exact .lst (fun z => n (List.mem_cons_of_mem _ z)) e (IsA.off a)
  | .tuple ds, _, h => by
    cases h with
    | tup e a => exact .tup e (IsA.off a)
  | .dict kvs, _, h => by
    cases h with
    | pot a b => exact .pot a b
theorem IsA.off {M : Ct} {H : Hp} {l : Addr} : ∀ {ds : List PyData} {vs : List V}, IsA (M.add l) H vs ds → IsA M H vs ds
  | [], _, h => by cases h; exact .nil
  | d :: ds, _, h => by
    cases h with
    | cons h1 h2 => exact .cons (Is.drop h1) (IsA.off h2)
end
/-! no list, no pot within -/
mutual
def flat : PyData → Bool
  | .list _ => false
  | .dict _ => false
  | .tuple ds => flatA ds
  | _ => true
def flatA : List PyData → Bool
  | [] => true
  | d :: ds => flat d && flatA ds
end
mutual
theorem Is.wr {M N : Ct} {H : Hp} {l : Addr} {xs ys : List V} (hl : H l = some (.lst xs)) : ∀ {d : PyData} {v : V}, Is M H v d → flat d = true → Is N (upd H l (.lst ys)) v d
  | .none, _, h, _ => by cases h; exact .non
  | .bool _, _, h, _ => by cases h; exact .bl _
  | .int _, _, h, _ => by cases h; exact .int _
  | .str _, _, h, _ => by cases h; exact .str _
  | .list ds, _, h, f => by cases f
  | .tuple ds, _, h, f => by
    cases h with
    | tup e a => exact .tup (by rw [upd_ne (ne_of e hl (by intro z; cases z))]; exact e) (IsA.wr hl a f)
  | .dict kvs, _, h, f => by cases f
theorem IsA.wr {M N : Ct} {H : Hp} {l : Addr} {xs ys : List V} (hl : H l = some (.lst xs)) : ∀ {ds : List PyData} {vs : List V}, IsA M H vs ds → flatA ds = true → IsA N (upd H l (.lst ys)) vs ds
  | [], _, h, _ => by cases h; exact .nil
  | d :: ds, _, h, f => by
    unfold flatA at f
    rw [Bool.and_eq_true] at f
    cases h with
    | cons h1 h2 => exact .cons (Is.wr hl h1 f.1) (IsA.wr hl h2 f.2)
end
theorem IsA.length : ∀ {M : Ct} {H : Hp} {ds : List PyData} {vs : List V}, IsA M H vs ds → vs.length = ds.length
  | _, _, [], _, h => by cases h; rfl
  | _, _, d :: ds, _, h => by
    cases h with
    | cons h1 h2 => rw [List.length_cons, List.length_cons, IsA.length h2]
theorem IsA.get : ∀ {M : Ct} {H : Hp} {ds : List PyData} {vs : List V} {i : Nat} {d : PyData}, IsA M H vs ds → ds[i]? = some d → ∃ v, vs[i]? = some v ∧ Is M H v d
  | _, _, [], _, _, _, h, e => by simp at e
  | _, _, d :: ds, _, 0, _, h, e => by
    cases h with
    | cons h1 h2 =>
      have e : d = _ := Option.some.inj e
      subst e
      exact ⟨_, rfl, h1⟩
  | _, _, d :: ds, _, i + 1, _, h, e => by
    cases h with
    | cons h1 h2 =>
      obtain ⟨v, a, b⟩ := IsA.get (i := i) h2 (by simpa using e)
      exact ⟨v, by simpa using a, b⟩
theorem IsA.get' : ∀ {M : Ct} {H : Hp} {ds : List PyData} {vs : List V} {i : Nat} {v : V}, IsA M H vs ds → vs[i]? = some v → ∃ d, ds[i]? = some d ∧ Is M H v d
  | _, _, [], _, _, _, h, e => by cases h; simp at e
  | _, _, d :: ds, _, 0, _, h, e => by
    cases h with
    | cons h1 h2 =>
      have e : _ = _ := Option.some.inj e
      subst e
      exact ⟨_, rfl, h1⟩
  | _, _, d :: ds, _, i + 1, _, h, e => by
    cases h with
    | cons h1 h2 =>
      obtain ⟨v, a, b⟩ := IsA.get' (i := i) h2 (by simpa using e)
      exact ⟨v, by simpa using a, b⟩
theorem IsA.app : ∀ {M : Ct} {H : Hp} {ds es : List PyData} {vs ws : List V}, IsA M H vs ds → IsA M H ws es → IsA M H (vs ++ ws) (ds ++ es)
  | _, _, [], _, _, _, h, k => by cases h; exact k
  | _, _, d :: ds, _, _, _, h, k => by
    cases h with
    | cons h1 h2 => exact .cons h1 (IsA.app h2 k)
theorem IsA.take : ∀ {M : Ct} {H : Hp} {ds : List PyData} {vs : List V} (n : Nat), IsA M H vs ds → IsA M H (vs.take n) (ds.take n)
  | _, _, _, _, 0, h => .nil
  | _, _, [], _, n + 1, h => by cases h; exact .nil
  | _, _, d :: ds, _, n + 1, h => by
    cases h with
    | cons h1 h2 => exact .cons h1 (IsA.take n h2)
theorem IsA.drop : ∀ {M : Ct} {H : Hp} {ds : List PyData} {vs : List V} (n : Nat), IsA M H vs ds → IsA M H (vs.drop n) (ds.drop n)
  | _, _, _, _, 0, h => h
  | _, _, [], _, n + 1, h => by cases h; exact .nil
  | _, _, d :: ds, _, n + 1, h => by
    cases h with
    | cons h1 h2 => exact IsA.drop n h2
theorem IsA.set {M : Ct} {H : Hp} {d : PyData} {v : V} (hv : Is M H v d) : ∀ {ds : List PyData} {vs : List V} (n : Nat), IsA M H vs ds → IsA M H (vs.set n v) (ds.set n d)
  | [], _, n, h => by cases h; exact .nil
  | e :: ds, _, 0, h => by
    cases h with
    | cons h1 h2 => exact .cons hv h2
  | e :: ds, _, n + 1, h => by
    cases h with
    | cons h1 h2 => exact .cons h1 (IsA.set hv n h2)
theorem IsA.ints : ∀ {M : Ct} {H : Hp} {ns : List Int} {vs : List V}, IsA M H vs (ns.map PyData.int) → vs = ns.map V.int
  | _, _, [], _, h => by cases h; rfl
  | _, _, n :: ns, _, h => by
    cases h with
    | cons h1 h2 =>
      cases h1
      rw [List.map_cons, IsA.ints h2]
theorem IsA.of_ints {M : Ct} {H : Hp} : ∀ (ns : List Int), IsA M H (ns.map V.int) (ns.map PyData.int)
  | [] => .nil
  | n :: ns => .cons (.int n) (IsA.of_ints ns)
theorem IsA.strs : ∀ {M : Ct} {H : Hp} {ns : List Str} {vs : List V}, IsA M H vs (ns.map PyData.str) → vs = ns.map V.str
  | _, _, [], _, h => by cases h; rfl
  | _, _, n :: ns, _, h => by
    cases h with
    | cons h1 h2 =>
      cases h1
      rw [List.map_cons, IsA.strs h2]
theorem IsA.of_strs {M : Ct} {H : Hp} : ∀ (ns : List Str), IsA M H (ns.map V.str) (ns.map PyData.str)
  | [] => .nil
  | n :: ns => .cons (.str n) (IsA.of_strs ns)
theorem IsA.bls : ∀ {M : Ct} {H : Hp} {ns : List Bool} {vs : List V}, IsA M H vs (ns.map PyData.bool) → vs = ns.map V.bl
  | _, _, [], _, h => by cases h; rfl
  | _, _, n :: ns, _, h => by
    cases h with
    | cons h1 h2 =>
      cases h1
      rw [List.map_cons, IsA.bls h2]
/-! to the layer's own data -/
mutual
theorem Is.dp {K : PySem.W.Frag} {M : Ct} {H : Hp} : ∀ {d : PyData} {v : V}, Is M H v d → PyData.canLay0 d = true → Dp K H v d
  | .none, _, h, _ => by cases h; exact .non
  | .bool _, _, h, _ => by cases h; exact .bl _
  | .int _, _, h, _ => by cases h; exact .int _
  | .str _, _, h, _ => by cases h; exact .str _
  | .list ds, _, h, c => by
    cases h with
    | lst n e a => exact .lst (SqL.of e) (IsA.dp a (by unfold PyData.canLay0 at c; exact c))
  | .tuple ds, _, h, c => by
    cases h with
    | tup e a => exact .tup (SqT.of e) (IsA.dp a (by unfold PyData.canLay0 at c; exact c))
  | .dict kvs, _, h, c => by
    unfold PyData.canLay0 at c
    cases c
theorem IsA.dp {K : PySem.W.Frag} {M : Ct} {H : Hp} : ∀ {ds : List PyData} {vs : List V}, IsA M H vs ds → PyData.canLayAll0 ds = true → DpAll K H vs ds
  | [], _, h, _ => by cases h; exact .nil
  | d :: ds, _, h, c => by
    unfold PyData.canLayAll0 at c
    rw [Bool.and_eq_true] at c
    cases h with
    | cons h1 h2 => exact .cons (Is.dp h1 c.1) (IsA.dp h2 c.2)
end
end Rk
namespace Rk
open PySem PySem.Spec PyProof.Rows L2
mutual
/-- data without lists are the same whatever lists may change -/
theorem Is.ft {M N : Ct} {H : Hp} : ∀ {d : PyData} {v : V}, Is M H v d → flat d = true → Is N H v d
  | .none, _, h, _ => by cases h; exact .non
  | .bool _, _, h, _ => by cases h; exact .bl _
  | .int _, _, h, _ => by cases h; exact .int _
  | .str _, _, h, _ => by cases h; exact .str _
  | .list ds, _, h, f => by cases f
  | .tuple ds, _, h, f => by
    cases h with
    | tup e a => exact .tup e (IsA.ft a f)
  | .dict kvs, _, h, f => by cases f
theorem IsA.ft {M N : Ct} {H : Hp} : ∀ {ds : List PyData} {vs : List V}, IsA M H vs ds → flatA ds = true → IsA N H vs ds
  | [], _, h, _ => by cases h; exact .nil
  | d :: ds, _, h, f => by
    unfold flatA at f
    rw [Bool.and_eq_true] at f
    cases h with
    | cons h1 h2 => exact .cons (Is.ft h1 f.1) (IsA.ft h2 f.2)
end
theorem flatA_of : ∀ {ds : List PyData}, (∀ d ∈ ds, flat d = true) → flatA ds = true
  | [], _ => rfl
  | d :: ds, h => by
    unfold flatA
    rw [h d List.mem_cons_self, flatA_of fun e he => h e (List.mem_cons_of_mem _ he)] <;> rfl
end Rk
set_option Elab.async false
set_option linter.all false
set_option maxRecDepth 100000
/-! Lb: what expressions give, as data -/
namespace Rk
open PySem PySem.Spec PyProof.Rows L2
abbrev Tbs := List (Addr × Str)
abbrev DP := PyData → Prop
/-- wished behind an expression -/
abbrev Post (T : Tbs) (M : Ct) (H : Hp) (P : DP) (Q : VK) : Prop := ∀ v H2 d, P d → Xq M H H2 → Gd T M H2 → Is M H2 v d → Q v H2
def EX (T : Tbs) (M : Ct) (te : TE) (σ : L2.St) (H : Hp) (P : DP) : Prop := ∀ H1, Xq M H H1 → Gd T M H1 → ∀ Q : VK, Post T M H1 P Q → te σ H1 Q
def EA (T : Tbs) (M : Ct) (ta : TA) (σ : L2.St) (H : Hp) (P : List PyData → Prop) : Prop := ∀ H1, Xq M H H1 → Gd T M H1 → ∀ Q : List V → Hp → Prop, (∀ vs H2 ds, P ds → Xq M H1 H2 → Gd T M H2 → IsA M H2 vs ds → Q vs H2) → ta σ H1 Q
def ET (T : Tbs) (M : Ct) (tt : TT) (σ : L2.St) (H : Hp) (P : Bool → Prop) : Prop := ∀ H1, Xq M H H1 → Gd T M H1 → ∀ Q : Bool → Hp → Prop, (∀ b H2, P b → Xq M H1 H2 → Gd T M H2 → Q b H2) → tt σ H1 Q
def EO (T : Tbs) (M : Ct) (to : TO) (σ : L2.St) (H : Hp) (P : Option Int → Prop) : Prop := ∀ H1, Xq M H H1 → Gd T M H1 → ∀ Q : Option Int → Hp → Prop, (∀ b H2, P b → Xq M H1 H2 → Gd T M H2 → Q b H2) → to σ H1 Q
/-- two places by values -/
def RD (T : Tbs) (M : Ct) (r : R2) (dx dy : PyData) (P : DP) : Prop := ∀ H x y, Gd T M H → Is M H x dx → Is M H y dy → ∀ Q : VK, Post T M H P Q → r x y H Q
def RU (T : Tbs) (M : Ct) (r : V → Hp → VK → Prop) (dx : PyData) (P : DP) : Prop := ∀ H x, Gd T M H → Is M H x dx → ∀ Q : VK, Post T M H P Q → r x H Q
def RC (T : Tbs) (M : Ct) (r : List V → Hp → VK → Prop) (ds : List PyData) (P : DP) : Prop := ∀ H vs, Gd T M H → IsA M H vs ds → ∀ Q : VK, Post T M H P Q → r vs H Q
section
variable {T : Tbs} {M : Ct} {K : PySem.W.Frag} {σ : L2.St} {H H' : Hp} {ta tb tc te tx : TE} {t u : TT} {P Pa : DP} {v : V} {d da db : PyData} {r r' : R2}
theorem EX.go (h : EX T M te σ H P) (g : Gd T M H) {Q : VK} (k : Post T M H P Q) : te σ H Q := h H Xq.refl g Q k
theorem ET.go {p : Bool → Prop} (h : ET T M t σ H p) (g : Gd T M H) {Q : Bool → Hp → Prop} (k : ∀ b H2, p b → Xq M H H2 → Gd T M H2 → Q b H2) : t σ H Q := h H Xq.refl g Q k
theorem EX.mono (x : Xq M H H') (h : EX T M te σ H P) : EX T M te σ H' P := fun H1 a g Q q => h H1 (x.trans a) g Q q
theorem ET.mono {p : Bool → Prop} (x : Xq M H H') (h : ET T M t σ H p) : ET T M t σ H' p := fun H1 a g Q q => h H1 (x.trans a) g Q q
theorem EX.imp {P' : DP} (h : EX T M te σ H P) (i : ∀ d, P d → P' d) : EX T M te σ H P' := fun H1 a g Q q => h H1 a g Q fun v H2 d p => q v H2 d (i d p)
theorem EX.to (h : EX T M te σ H (· = da)) (e : da = db) : EX T M te σ H (· = db) := e ▸ h
theorem ET.imp {p p' : Bool → Prop} (h : ET T M t σ H p) (i : ∀ d, p d → p' d) : ET T M t σ H p' := fun H1 a g Q q => h H1 a g Q fun v H2 d => q v H2 (i v d)
theorem ed_var {i : Nat} (h : σ[i]? = some (some v)) (hd : Is M H v d) : EX T M (tVar i) σ H (· = d) := fun H1 x g Q q => ⟨v, h, q v H1 d rfl Xq.refl g (hd.mono x)⟩
theorem ed_int {i : Int} : EX T M (tC (.int i)) σ H (· = .int i) := fun H1 x g Q q => q _ H1 _ rfl Xq.refl g (.int i)
theorem ed_str {i : Str} : EX T M (tC (.str i)) σ H (· = .str i) := fun H1 x g Q q => q _ H1 _ rfl Xq.refl g (.str i)
theorem ed_bl {i : Bool} : EX T M (tC (.bl i)) σ H (· = .bool i) := fun H1 x g Q q => q _ H1 _ rfl Xq.refl g (.bl i)
theorem ed_non : EX T M (tC .non) σ H (· = .none) := fun H1 x g Q q => q _ H1 _ rfl Xq.refl g .non
theorem ex_op {Pb : PyData → DP} (ha : EX T M ta σ H Pa) (hb : ∀ da, Pa da → EX T M tb σ H (Pb da)) (hr : ∀ da db, Pa da → Pb da db → RD T M r da db P) : EX T M (tOp r ta tb) σ H P := fun H1 x g Q q =>
  ha H1 x g _ fun v H2 da pa x2 g2 va => hb da pa H2 (x.trans x2) g2 _ fun w H3 db pb x3 g3 wb => hr da db pa pb H3 v w g3 (va.mono x3) wb Q fun z H4 d p x4 g4 zd => q z H4 d p ((x2.trans x3).trans x4) g4 zd
theorem ed_op (ha : EX T M ta σ H (· = da)) (hb : EX T M tb σ H (· = db)) (hr : RD T M r da db P) : EX T M (tOp r ta tb) σ H P :=
  ex_op (Pb := fun _ => (· = db)) ha (fun _ _ => hb) fun a b ea eb => by subst ea eb; exact hr
theorem ex_un {r : V → Hp → VK → Prop} (ha : EX T M ta σ H Pa) (hr : ∀ da, Pa da → RU T M r da P) : EX T M (tUn r ta) σ H P := fun H1 x g Q q =>
  ha H1 x g _ fun v H2 da pa x2 g2 va => hr da pa H2 v g2 va Q fun z H4 d p x4 g4 zd => q z H4 d p (x2.trans x4) g4 zd
/-! operators -/
theorem rd_I0 {f : Int → Int → Int} {i j : Int} : RD T M (rI0 fun i j => .int (f i j)) (.int i) (.int j) (· = .int (f i j)) := fun H x y g hx hy Q q => by
  cases hx; cases hy
  exact ⟨i, j, rfl, rfl, q _ H _ rfl Xq.refl g (.int _)⟩
theorem rd_B0 {f : Int → Int → Bool} {i j : Int} : RD T M (rI0 fun i j => .bl (f i j)) (.int i) (.int j) (· = .bool (f i j)) := fun H x y g hx hy Q q => by
  cases hx; cases hy
  exact ⟨i, j, rfl, rfl, q _ H _ rfl Xq.refl g (.bl _)⟩
theorem rd_I {C : Int → Int → Prop} {f : Int → Int → Int} {i j : Int} (hc : C i j) : RD T M (rI C fun i j => .int (f i j)) (.int i) (.int j) (· = .int (f i j)) := fun H x y g hx hy Q q => by
  cases hx; cases hy
  exact ⟨i, j, rfl, rfl, hc, q _ H _ rfl Xq.refl g (.int _)⟩
theorem ru_I {f : Int → Int} {i : Int} : RU T M (rU fun i => .int (f i)) (.int i) (· = .int (f i)) := fun H x g hx Q q => by
  cases hx
  exact ⟨i, rfl, q _ H _ rfl Xq.refl g (.int _)⟩
theorem rd_eqI {i j : Int} : RD T M rEq (.int i) (.int j) (· = .bool (decide (i = j))) := fun H x y g hx hy Q q => by
  cases hx; cases hy
  refine ⟨rfl, ?_⟩
  rw [show decide (V.int i = V.int j) = decide (i = j) by simp]
  exact q _ H _ rfl Xq.refl g (.bl _)
theorem rd_neI {i j : Int} : RD T M rNe (.int i) (.int j) (· = .bool (!decide (i = j))) := fun H x y g hx hy Q q => by
  cases hx; cases hy
  refine ⟨rfl, ?_⟩
  rw [show decide (V.int i = V.int j) = decide (i = j) by simp]
  exact q _ H _ rfl Xq.refl g (.bl _)
theorem rd_eqS {i j : Str} : RD T M rEq (.str i) (.str j) (· = .bool (decide (i = j))) := fun H x y g hx hy Q q => by
  cases hx; cases hy
  refine ⟨rfl, ?_⟩
  rw [show decide (V.str i = V.str j) = decide (i = j) by simp]
  exact q _ H _ rfl Xq.refl g (.bl _)
theorem rd_neS {i j : Str} : RD T M rNe (.str i) (.str j) (· = .bool (!decide (i = j))) := fun H x y g hx hy Q q => by
  cases hx; cases hy
  refine ⟨rfl, ?_⟩
  rw [show decide (V.str i = V.str j) = decide (i = j) by simp]
  exact q _ H _ rfl Xq.refl g (.bl _)
theorem canLay_of {d : PyData} (h : SeqAt.shaped d = true) : PyData.canLay0 d = true := SeqAt.canLay_of_shaped h
theorem rd_eqD (h1 : SeqAt.shaped da = true) (h2 : SeqAt.shaped db = true) : RD T M (rEqD K) da db (· = .bool (PyData.eqv da db)) := fun H x y g hx hy Q q =>
  ⟨da, db, hx.dp (canLay_of h1), hy.dp (canLay_of h2), h1, h2, q _ H _ rfl Xq.refl g (.bl _)⟩
theorem rd_neD (h1 : SeqAt.shaped da = true) (h2 : SeqAt.shaped db = true) : RD T M (rNeD K) da db (· = .bool (!PyData.eqv da db)) := fun H x y g hx hy Q q =>
  ⟨da, db, hx.dp (canLay_of h1), hy.dp (canLay_of h2), h1, h2, q _ H _ rfl Xq.refl g (.bl _)⟩
theorem IsA.atI {ds : List PyData} {vs : List V} {i : Int} (h : IsA M H vs ds) (e : L2.atI ds i = some d) : ∃ v, L2.atI vs i = some v ∧ Is M H v d := by
  unfold L2.atI at e ⊢
  rw [h.length]
  cases hj : ixN ds.length i with
  | none => rw [hj] at e; cases e
  | some j =>
    rw [hj] at e
    exact h.get e
theorem rd_ixT {ds : List PyData} {i : Int} (e : L2.atI ds i = some d) : RD T M (rIxT K) (.tuple ds) (.int i) (· = d) := fun H x y g hx hy Q q => by
  cases hx with
  | tup ha hs =>
    cases hy
    obtain ⟨v, hv, hd⟩ := hs.atI e
    exact ⟨_, _, i, v, rfl, rfl, SqT.of ha, hv, q _ H _ rfl Xq.refl g hd⟩
theorem rd_ixL {ds : List PyData} {i : Int} (e : L2.atI ds i = some d) : RD T M (rIxL K) (.list ds) (.int i) (· = d) := fun H x y g hx hy Q q => by
  cases hx with
  | lst n ha hs =>
    cases hy
    obtain ⟨v, hv, hd⟩ := hs.atI e
    exact ⟨_, _, i, v, rfl, rfl, SqL.of ha, hv, q _ H _ rfl Xq.refl g hd⟩
theorem rd_ixS {z : Str} {i : Int} {c : Nat} (hl : z.length ≤ 1000) (e : L2.atI z.cps.toList i = some c) : RD T M rIxS (.str z) (.int i) (· = .str ⟨#[c]⟩) := fun H x y g hx hy Q q => by
  cases hx; cases hy
  exact ⟨z, i, c, rfl, rfl, Nat.le_of_lt (small1000 hl), e, q _ H _ rfl Xq.refl g (.str _)⟩
def isN : PyData → Bool
  | .none => true
  | _ => false
theorem Is.isN (h : Is M H v d) : decide (v = .non) = isN d := by
  cases h <;> rfl
theorem rd_isN : RD T M (fun x y H Q => y = .non ∧ Q (.bl (decide (x = .non))) H) d .none (· = .bool (Rk.isN d)) := fun H x y g hx hy Q q => by
  cases hy
  refine ⟨rfl, ?_⟩
  rw [hx.isN]
  exact q _ H _ rfl Xq.refl g (.bl _)
theorem rd_notN : RD T M (fun x y H Q => y = .non ∧ Q (.bl (!decide (x = .non))) H) d .none (· = .bool (!Rk.isN d)) := fun H x y g hx hy Q q => by
  cases hy
  refine ⟨rfl, ?_⟩
  rw [hx.isN]
  exact q _ H _ rfl Xq.refl g (.bl _)
theorem rd_catS {i j : Str} (h : i.length + j.length ≤ 1000) : RD T M (fun x y H Q => ∃ i j, x = .str i ∧ y = .str j ∧ i.length + j.length ≤ sizeLine ∧ Q (.str (i ++ j)) H) (.str i) (.str j) (· = .str (i ++ j)) := fun H x y g hx hy Q q => by
  cases hx; cases hy
  exact ⟨i, j, rfl, rfl, Nat.le_of_lt (small1000 h), q _ H _ rfl Xq.refl g (.str _)⟩
theorem rd_inS {c : Nat} {z : Str} : RD T M (fun x y H Q => ∃ (c : Nat) (z : Str), x = .str ⟨#[c]⟩ ∧ y = .str z ∧ Q (.bl (decide (c ∈ z.cps.toList))) H) (.str ⟨#[c]⟩) (.str z) (· = .bool (decide (c ∈ z.cps.toList))) := fun H x y g hx hy Q q => by
  cases hx; cases hy
  exact ⟨c, z, rfl, rfl, q _ H _ rfl Xq.refl g (.bl _)⟩
theorem rd_catT {ds es : List PyData} (h : ds.length + es.length ≤ 1000) : RD T M (rCatA K) (.tuple ds) (.tuple es) (· = .tuple (ds ++ es)) := fun H x y g hx hy Q q => by
  cases hx with
  | tup ha hs =>
    cases hy with
    | tup hb ht =>
      rename_i a xs b ys
      refine ⟨a, b, xs, ys, rfl, rfl, SqT.of ha, SqT.of hb, by rw [hs.length, ht.length]; exact Nat.le_of_lt (small1000 h), fun e => ?_, fun _ e => ?_, fun _ _ p np => ?_⟩
      · subst e
        cases hs
        exact q _ H _ rfl Xq.refl g (.tup hb ht)
      · subst e
        cases ht
        exact q _ H _ rfl Xq.refl g (.tup ha (by rw [List.append_nil]; exact hs))
      · exact q _ _ _ rfl (Xq.new np) (g.new np) (.tup upd_same ((hs.mono (Xq.new np)).app (ht.mono (Xq.new np))))
theorem rd_catL {ds es : List PyData} (h : ds.length + es.length ≤ 1000) : RD T M rCat (.list ds) (.list es) (· = .list (ds ++ es)) := fun H x y g hx hy Q q => by
  cases hx with
  | lst n1 ha hs =>
    cases hy with
    | lst n2 hb ht =>
      rename_i a xs b ys
      refine ⟨a, b, xs, ys, rfl, rfl, ha, hb, by rw [hs.length, ht.length]; exact Nat.le_of_lt (small1000 h), fun p np => ?_⟩
      exact q _ _ _ rfl (Xq.new np) (g.new np) (.lst (g.fresh np) upd_same ((hs.mono (Xq.new np)).app (ht.mono (Xq.new np))))
/-! arguments, displays -/
theorem ea_nil : EA T M tNil σ H (· = []) := fun H1 x g Q q => q [] H1 [] rfl Xq.refl g .nil
theorem ea_cons {tr : TA} {Pr : PyData → List PyData → Prop} (ha : EX T M ta σ H Pa) (hr : ∀ d, Pa d → EA T M tr σ H (Pr d)) : EA T M (tCons ta tr) σ H (fun l => ∃ d ds, l = d :: ds ∧ Pa d ∧ Pr d ds) := fun H1 x g Q q =>
  ha H1 x g _ fun v H2 da pa x2 g2 va => hr da pa H2 (x.trans x2) g2 _ fun vs H3 ds pd x3 g3 vds => q _ H3 _ ⟨da, ds, rfl, pa, pd⟩ (x2.trans x3) g3 (.cons (va.mono x3) vds)
theorem ead {tr : TA} {ds : List PyData} (ha : EX T M ta σ H (· = da)) (hr : EA T M tr σ H (· = ds)) : EA T M (tCons ta tr) σ H (· = da :: ds) := fun H1 x g Q q =>
  ha H1 x g _ fun v H2 d1 pa x2 g2 va => hr H2 (x.trans x2) g2 _ fun vs H3 d2 pd x3 g3 vds => by
    subst pa pd
    exact q _ H3 _ rfl (x2.trans x3) g3 (.cons (va.mono x3) vds)
theorem EA.imp {tr : TA} {p p' : List PyData → Prop} (h : EA T M tr σ H p) (i : ∀ d, p d → p' d) : EA T M tr σ H p' := fun H1 a g Q q => h H1 a g Q fun v H2 d pd => q v H2 d (i d pd)
theorem ex_tup {tr : TA} {p : List PyData → Prop} (h : EA T M tr σ H p) (hl : ∀ ds, p ds → ds.length ≤ 1000) : EX T M (tTup tr) σ H (fun d => ∃ ds, d = .tuple ds ∧ p ds) := fun H1 x g Q q =>
  h H1 x g _ fun vs H2 ds pd x2 g2 vds => ⟨by rw [vds.length]; exact Nat.le_of_lt (small1000 (hl ds pd)), fun a na => q _ _ _ ⟨ds, rfl, pd⟩ (x2.trans (Xq.new na)) (g2.new na) (.tup upd_same (vds.mono (Xq.new na)))⟩
theorem ex_lst {tr : TA} {p : List PyData → Prop} (h : EA T M tr σ H p) (hl : ∀ ds, p ds → ds.length ≤ 1000) : EX T M (tLst tr) σ H (fun d => ∃ ds, d = .list ds ∧ p ds) := fun H1 x g Q q =>
  h H1 x g _ fun vs H2 ds pd x2 g2 vds => ⟨by rw [vds.length]; exact Nat.le_of_lt (small1000 (hl ds pd)), fun a na => q _ _ _ ⟨ds, rfl, pd⟩ (x2.trans (Xq.new na)) (g2.new na) (.lst (g2.fresh na) upd_same (vds.mono (Xq.new na)))⟩
theorem ed_tup {tr : TA} {ds : List PyData} (h : EA T M tr σ H (· = ds)) (hl : ds.length ≤ 1000) : EX T M (tTup tr) σ H (· = .tuple ds) := (ex_tup h (fun l e => by subst e; exact hl)).imp fun d ⟨l, e, e2⟩ => by rw [e, e2]
theorem ed_lst {tr : TA} {ds : List PyData} (h : EA T M tr σ H (· = ds)) (hl : ds.length ≤ 1000) : EX T M (tLst tr) σ H (· = .list ds) := (ex_lst h (fun l e => by subst e; exact hl)).imp fun d ⟨l, e, e2⟩ => by rw [e, e2]
/-! calls -/
theorem ex_cb {r : List V → Hp → VK → Prop} {tr : TA} {p : List PyData → Prop} (h : EA T M tr σ H p) (hr : ∀ ds, p ds → RC T M r ds P) : EX T M (tCB r tr) σ H P := fun H1 x g Q q =>
  h H1 x g _ fun vs H2 ds pd x2 g2 vds => hr ds pd H2 vs g2 vds Q fun z H4 d p x4 g4 zd => q z H4 d p (x2.trans x4) g4 zd
theorem ed_cb {r : List V → Hp → VK → Prop} {tr : TA} {ds : List PyData} (h : EA T M tr σ H (· = ds)) (hr : RC T M r ds P) : EX T M (tCB r tr) σ H P := ex_cb h fun l e => by subst e; exact hr
/-- a def's promise over data -/
def spC (T : Tbs) (C : List PyData → DP → Prop) : Sp := fun vs H Q _ => ∃ M ds P, Gd T M H ∧ IsA M H vs ds ∧ C ds P ∧ Post T M H P Q
theorem ex_call {C : List PyData → DP → Prop} {E : XK} {tr : TA} {p : List PyData → Prop} (h : EA T M tr σ H p) (hr : ∀ ds, p ds → C ds P) : EX T M (tCall (spC T C) [] E tr) σ H P := fun H1 x g Q q =>
  h H1 x g _ fun vs H2 ds pd x2 g2 vds => ⟨M, ds, P, g2, by rw [List.append_nil]; exact vds, hr ds pd, fun z H4 d p x4 g4 zd => q z H4 d p (x2.trans x4) g4 zd⟩
theorem ed_call {C : List PyData → DP → Prop} {E : XK} {tr : TA} {ds : List PyData} (h : EA T M tr σ H (· = ds)) (hr : C ds P) : EX T M (tCall (spC T C) [] E tr) σ H P := ex_call h fun l e => by subst e; exact hr
theorem rc_lenT {ds : List PyData} : RC T M (fun xs H Q => ∃ p ys, xs = [.ref p] ∧ (SqL K H p ys ∨ SqT K H p ys) ∧ Q (.int ys.length) H) [.tuple ds] (· = .int ds.length) := fun H vs g h Q q => by
  cases h with
  | cons h1 h2 =>
    cases h2
    cases h1 with
    | tup ha hs =>
      refine ⟨_, _, rfl, .inr (SqT.of ha), ?_⟩
      rw [hs.length]
      exact q _ H _ rfl Xq.refl g (.int _)
theorem rc_lenL {ds : List PyData} : RC T M (fun xs H Q => ∃ p ys, xs = [.ref p] ∧ (SqL K H p ys ∨ SqT K H p ys) ∧ Q (.int ys.length) H) [.list ds] (· = .int ds.length) := fun H vs g h Q q => by
  cases h with
  | cons h1 h2 =>
    cases h2
    cases h1 with
    | lst n ha hs =>
      refine ⟨_, _, rfl, .inl (SqL.of ha), ?_⟩
      rw [hs.length]
      exact q _ H _ rfl Xq.refl g (.int _)
theorem rc_lenS {z : Str} (hl : z.length ≤ 1000) : RC T M (fun xs H Q => ∃ z, xs = [.str z] ∧ z.length ≤ sizeLine ∧ Q (.int z.length) H) [.str z] (· = .int z.length) := fun H vs g h Q q => by
  cases h with
  | cons h1 h2 =>
    cases h2
    cases h1
    exact ⟨z, rfl, Nat.le_of_lt (small1000 hl), q _ H _ rfl Xq.refl g (.int _)⟩
theorem rc_all {bs : List Bool} : RC T M (rAll K) [.list (bs.map PyData.bool)] (· = .bool (bs.all id)) := fun H vs g h Q q => by
  cases h with
  | cons h1 h2 =>
    cases h2
    cases h1 with
    | lst n ha hs =>
      have e := hs.bls
      subst e
      exact ⟨_, bs, rfl, SqL.of ha, q _ H _ rfl Xq.refl g (.bl _)⟩
theorem rc_abs {i : Int} : RC T M (fun xs H Q => ∃ i, xs = [.int i] ∧ Q (.int (if i < 0 then -i else i)) H) [.int i] (· = .int (if i < 0 then -i else i)) := fun H vs g h Q q => by
  cases h with
  | cons h1 h2 =>
    cases h2
    cases h1
    exact ⟨i, rfl, q _ H _ rfl Xq.refl g (.int _)⟩
theorem rc_intB {b : Bool} : RC T M (fun xs H Q => (∃ i, xs = [.int i] ∧ Q (.int i) H) ∨ ∃ k, xs = [.bl k] ∧ Q (.int (if k then 1 else 0)) H) [.bool b] (· = .int (if b then 1 else 0)) := fun H vs g h Q q => by
  cases h with
  | cons h1 h2 =>
    cases h2
    cases h1
    exact .inr ⟨b, rfl, q _ H _ rfl Xq.refl g (.int _)⟩
theorem rc_2I {f : Int → Int → Int} {i j : Int} : RC T M (fun xs H Q => ∃ i j, xs = [.int i, .int j] ∧ Q (.int (f i j)) H) [.int i, .int j] (· = .int (f i j)) := fun H vs g h Q q => by
  cases h with
  | cons h1 h2 =>
    cases h2 with
    | cons h3 h4 =>
      cases h4
      cases h1
      cases h3
      exact ⟨i, j, rfl, q _ H _ rfl Xq.refl g (.int _)⟩
theorem rc_tupleL {ds : List PyData} : RC T M (fun xs H Q => ∃ p ys, xs = [.ref p] ∧ ((SqL K H p ys ∧ ∀ l, H l = none → Q (.ref l) (upd H l (.tup ys))) ∨ (SqT K H p ys ∧ Q (.ref p) H))) [.list ds] (· = .tuple ds) := fun H vs g h Q q => by
  cases h with
  | cons h1 h2 =>
    cases h2
    cases h1 with
    | lst n ha hs => exact ⟨_, _, rfl, .inl ⟨SqL.of ha, fun l nl => q _ _ _ rfl (Xq.new nl) (g.new nl) (.tup upd_same (hs.mono (Xq.new nl)))⟩⟩
/-! slices -/
theorem eo_none : EO T M tNoPart σ H (· = none) := fun H1 x g Q q => q none H1 rfl Xq.refl g
theorem eo_some {p : Int → Prop} (h : EX T M te σ H (fun d => ∃ i, d = .int i ∧ p i)) : EO T M (tPart te) σ H (fun o => ∃ i, o = some i ∧ p i) := fun H1 x g Q q =>
  h H1 x g _ fun v H2 d pd x2 g2 vd => by
    obtain ⟨i, e, pi⟩ := pd
    subst e
    cases vd
    exact ⟨i, rfl, q _ H2 ⟨i, rfl, pi⟩ x2 g2⟩
theorem eo_d {i : Int} (h : EX T M te σ H (· = .int i)) : EO T M (tPart te) σ H (· = some i) := fun H1 x g Q q =>
  h H1 x g _ fun v H2 d pd x2 g2 vd => by
    subst pd
    cases vd
    exact ⟨i, rfl, q _ H2 rfl x2 g2⟩
def cutD (xs : List PyData) (lo hi : Option Int) : List PyData := (xs.drop (HT.sIx xs.length 0 lo)).take (HT.sIx xs.length xs.length hi - HT.sIx xs.length 0 lo)
theorem IsA.cut {ds : List PyData} {vs : List V} {lo hi : Option Int} (h : IsA M H vs ds) : IsA M H (cutV vs lo hi) (cutD ds lo hi) := by
  unfold cutV cutD
  rw [h.length]
  exact (h.drop _).take _
theorem cut_whole {ds : List PyData} {lo hi : Option Int} (h : HT.sIx ds.length 0 lo = 0 ∧ HT.sIx ds.length ds.length hi = ds.length) : cutD ds lo hi = ds := by
  unfold cutD
  rw [h.1, h.2]
  simp
theorem ex_slT {tl th : TO} {Pl Ph : Option Int → Prop} {ds : List PyData} (h : EX T M te σ H (· = .tuple ds)) (h1 : EO T M tl σ H Pl) (h2 : EO T M th σ H Ph) : EX T M (tSl (rSlA K) te tl th) σ H (fun d => ∃ lo hi, d = .tuple (cutD ds lo hi) ∧ Pl lo ∧ Ph hi) := fun H1 x g Q q =>
  h H1 x g _ fun v H2 d pd x2 g2 vd => h1 H2 (x.trans x2) g2 _ fun lo H3 pl x3 g3 => h2 H3 ((x.trans x2).trans x3) g3 _ fun hi H4 ph x4 g4 => by
    subst pd
    have vd4 := vd.mono (x3.trans x4)
    cases vd4 with
    | tup ha hs =>
      rename_i a xs
      refine ⟨a, xs, rfl, SqT.of ha, fun w => ?_, fun w p np => ?_⟩
      · rw [hs.length] at w
        exact q _ H4 _ ⟨lo, hi, by rw [cut_whole w], pl, ph⟩ ((x2.trans x3).trans x4) g4 (.tup ha hs)
      · exact q _ _ _ ⟨lo, hi, rfl, pl, ph⟩ (((x2.trans x3).trans x4).trans (Xq.new np)) (g4.new np) (.tup upd_same (hs.cut.mono (Xq.new np)))
theorem ex_slL {tl th : TO} {Pl Ph : Option Int → Prop} {ds : List PyData} (h : EX T M te σ H (· = .list ds)) (h1 : EO T M tl σ H Pl) (h2 : EO T M th σ H Ph) : EX T M (tSl (rSlL K) te tl th) σ H (fun d => ∃ lo hi, d = .list (cutD ds lo hi) ∧ Pl lo ∧ Ph hi) := fun H1 x g Q q =>
  h H1 x g _ fun v H2 d pd x2 g2 vd => h1 H2 (x.trans x2) g2 _ fun lo H3 pl x3 g3 => h2 H3 ((x.trans x2).trans x3) g3 _ fun hi H4 ph x4 g4 => by
    subst pd
    have vd4 := vd.mono (x3.trans x4)
    cases vd4 with
    | lst n ha hs =>
      rename_i a xs
      exact ⟨a, xs, rfl, SqL.of ha, fun p np => q _ _ _ ⟨lo, hi, rfl, pl, ph⟩ (((x2.trans x3).trans x4).trans (Xq.new np)) (g4.new np) (.lst (g4.fresh np) upd_same (hs.cut.mono (Xq.new np)))⟩
theorem ed_slT {tl th : TO} {lo hi : Option Int} {ds : List PyData} (h : EX T M te σ H (· = .tuple ds)) (h1 : EO T M tl σ H (· = lo)) (h2 : EO T M th σ H (· = hi)) : EX T M (tSl (rSlA K) te tl th) σ H (· = .tuple (cutD ds lo hi)) :=
  (ex_slT h h1 h2).imp fun d ⟨l, k, e, e1, e2⟩ => by rw [e, e1, e2]
theorem ed_slL {tl th : TO} {lo hi : Option Int} {ds : List PyData} (h : EX T M te σ H (· = .list ds)) (h1 : EO T M tl σ H (· = lo)) (h2 : EO T M th σ H (· = hi)) : EX T M (tSl (rSlL K) te tl th) σ H (· = .list (cutD ds lo hi)) :=
  (ex_slL h h1 h2).imp fun d ⟨l, k, e, e1, e2⟩ => by rw [e, e1, e2]
/-! tests -/
variable {a b : Bool} {p p' : Bool → Prop}
theorem et_test (h : EX T M te σ H (fun d => ∃ k, d = .bool k ∧ p k)) : ET T M (tTest te) σ H p := fun H1 x g Q q => h H1 x g _ fun v H2 d pd x2 g2 vd => by
  obtain ⟨k, e, pk⟩ := pd
  subst e
  cases vd
  exact ⟨k, rfl, q k H2 pk x2 g2⟩
theorem et_B (h : EX T M te σ H (fun d => ∃ k, d = .bool k ∧ p k)) : ET T M (tB te) σ H p := et_test h
theorem etd (h : EX T M te σ H (· = .bool b)) : ET T M (tTest te) σ H (· = b) := et_test (h.imp fun d e => ⟨b, e, rfl⟩)
theorem etdB (h : EX T M te σ H (· = .bool b)) : ET T M (tB te) σ H (· = b) := et_test (h.imp fun d e => ⟨b, e, rfl⟩)
theorem ET.to (h : ET T M t σ H (· = a)) (e : a = b) : ET T M t σ H (· = b) := e ▸ h
theorem et_and (h1 : ET T M t σ H (· = a)) (h2 : a = true → ET T M u σ H (· = b)) : ET T M (tAnd t u) σ H (· = (a && b)) := fun H1 x g Q q => h1 H1 x g _ fun c H2 pc x2 g2 => by
  subst pc
  cases c with
  | true =>
    show u σ H2 Q
    exact h2 rfl H2 (x.trans x2) g2 Q fun d H3 pd x3 g3 => q d H3 (by rw [pd, Bool.true_and]) (x2.trans x3) g3
  | false =>
    show Q false H2
    exact q false H2 rfl x2 g2
theorem et_or (h1 : ET T M t σ H (· = a)) (h2 : a = false → ET T M u σ H (· = b)) : ET T M (tOr t u) σ H (· = (a || b)) := fun H1 x g Q q => h1 H1 x g _ fun c H2 pc x2 g2 => by
  subst pc
  cases c with
  | true =>
    show Q true H2
    exact q true H2 rfl x2 g2
  | false =>
    show u σ H2 Q
    exact h2 rfl H2 (x.trans x2) g2 Q fun d H3 pd x3 g3 => q d H3 (by rw [pd, Bool.false_or]) (x2.trans x3) g3
theorem et_not (h1 : ET T M t σ H (· = a)) : ET T M (tNot t) σ H (· = !a) := fun H1 x g Q q => h1 H1 x g _ fun c H2 pc x2 g2 => q (!c) H2 (by rw [pc]) x2 g2
theorem ed_andV (h1 : EX T M ta σ H (· = .bool a)) (h2 : a = true → EX T M tb σ H (· = .bool b)) : EX T M (tAndV ta tb) σ H (· = .bool (a && b)) := fun H1 x g Q q => h1 H1 x g _ fun c H2 d pc x2 g2 vd => by
  subst pc
  cases vd
  refine ⟨a, rfl, ?_⟩
  cases a with
  | true =>
    show tb σ H2 Q
    exact h2 rfl H2 (x.trans x2) g2 Q fun d H3 e pd x3 g3 => q d H3 e (by rw [pd, Bool.true_and]) (x2.trans x3) g3
  | false =>
    show Q (.bl false) H2
    exact q _ H2 _ rfl x2 g2 (.bl _)
theorem ed_orV (h1 : EX T M ta σ H (· = .bool a)) (h2 : a = false → EX T M tb σ H (· = .bool b)) : EX T M (tOrV ta tb) σ H (· = .bool (a || b)) := fun H1 x g Q q => h1 H1 x g _ fun c H2 d pc x2 g2 vd => by
  subst pc
  cases vd
  refine ⟨a, rfl, ?_⟩
  cases a with
  | true =>
    show Q (.bl true) H2
    exact q _ H2 _ rfl x2 g2 (.bl _)
  | false =>
    show tb σ H2 Q
    exact h2 rfl H2 (x.trans x2) g2 Q fun d H3 e pd x3 g3 => q d H3 e (by rw [pd, Bool.false_or]) (x2.trans x3) g3
theorem ed_notV (h1 : EX T M ta σ H (· = .bool a)) : EX T M (tNotV ta) σ H (· = .bool (!a)) := fun H1 x g Q q => h1 H1 x g _ fun c H2 d pc x2 g2 vd => by
  subst pc
  cases vd
  exact ⟨a, rfl, q _ H2 _ rfl x2 g2 (.bl _)⟩
theorem ed_chain {dc : PyData} (ha : EX T M ta σ H (· = da)) (hb : EX T M tb σ H (· = db)) (h1 : RD T M r da db (· = .bool a)) (hc : a = true → EX T M tc σ H (· = dc)) (h2 : a = true → RD T M r' db dc (· = .bool b)) : EX T M (tChain r r' ta tb tc) σ H (· = .bool (a && b)) := fun H1 x g Q q =>
  ha H1 x g _ fun v H2 d1 p1 x2 g2 v1 => hb H2 (x.trans x2) g2 _ fun w H3 d2 p2 x3 g3 v2 => by
    subst p1 p2
    refine h1 H3 v w g3 (v1.mono x3) v2 _ fun z H4 d4 p4 x4 g4 v4 => ?_
    subst p4
    cases v4
    refine ⟨a, rfl, ?_⟩
    cases a with
    | true =>
      show tc σ H4 _
      refine hc rfl H4 (((x.trans x2).trans x3).trans x4) g4 _ fun u H5 d5 p5 x5 g5 v5 => ?_
      subst p5
      refine h2 rfl H5 w u g5 (v2.mono (x4.trans x5)) v5 _ fun k H6 d6 p6 x6 g6 v6 => ?_
      exact q k H6 d6 (by rw [p6, Bool.true_and]) ((((x2.trans x3).trans x4).trans x5).trans x6) g6 v6
    | false =>
      show Q (.bl false) H4
      exact q _ H4 _ rfl ((x2.trans x3).trans x4) g4 (.bl _)
end
end Rk
set_option Elab.async false
set_option linter.all false
set_option maxRecDepth 100000
/-! Lc: comprehensions, loops, methods -/
namespace Rk
open PySem PySem.Spec PyProof.Rows L2
theorem Paired.len {A B : Type} {F : A → B → Prop} {l : List A} {m : List B} (h : Paired F l m) : l.length = m.length := Paired.length h
theorem Paired.snoc {A B : Type} {F : A → B → Prop} {a : A} {b : B} (hr : F a b) : ∀ {l : List A} {m : List B}, Paired F l m → Paired F (l ++ [a]) (m ++ [b])
  | _, _, .nil => .cons hr .nil
  | _, _, .cons r t => .cons r (Paired.snoc hr t)
theorem Paired.flat {A : Type} {F : A → PyData → Prop} (hf : ∀ a b, F a b → flat b = true) {l : List A} {m : List PyData} (h : Paired F l m) : flatA m = true := by
  induction h with
  | nil => rfl
  | cons r t ih =>
    unfold flatA
    rw [hf _ _ r, ih] <;> rfl
theorem Paired.toMap {A B : Type} {f : A → B} {l : List A} {m : List B} (h : Paired (fun a b => b = f a) l m) : m = l.map f := by
  induction h with
  | nil => rfl
  | cons r t ih => rw [List.map_cons, r, ih]
theorem flat_strs' (ys : List Str) : (ys.map V.str).all flatV = true := by
  rw [List.all_map]
  exact List.all_eq_true.mpr fun _ _ => rfl
section
variable {T : Tbs} {M : Ct} {K : PySem.W.Frag} {σ : L2.St} {H H' : Hp} {ta tb tc te tx tl : TE} {tt : TT} {P Pa : DP} {v : V} {d da db : PyData}
/-- what walks the data ds from the heap H1 on, while all that H1 tells stands -/
structure Wk (T : Tbs) (M : Ct) (J : It) (ds : List PyData) (H1 : Hp) : Prop where
  go : ∀ i H', Xq M H1 H' → i < ds.length → J.go i H'
  stop : ∀ H', Xq M H1 H' → J.stop ds.length H'
  yld : ∀ i H' x H2, Xq M H1 H' → J.yld i H' x H2 → H2 = H' ∧ ∀ d, ds[i]? = some d → Is M H' x d
/-- what gives such a walk -/
def EW (T : Tbs) (M : Ct) (wi : TI) (σ : L2.St) (H : Hp) (P : List PyData → Prop) : Prop := ∀ H1, Xq M H H1 → Gd T M H1 → ∀ R : It → Hp → Prop, (∀ J H2 ds, P ds → Xq M H1 H2 → Gd T M H2 → Wk T M J ds H2 → R J H2) → wi σ H1 R
theorem ew_list {p : List PyData → Prop} (h : EX T M tl σ H (fun d => ∃ ds, d = .list ds ∧ p ds)) : EW T M (iList K tl) σ H p := fun H1 x g R q => h H1 x g _ fun v H2 d pd x2 g2 vd => by
  obtain ⟨ds, e, pds⟩ := pd
  subst e
  cases vd with
  | lst n ha hs =>
    rename_i a xs
    have at' : ∀ H', Xq M H2 H' → H' a = some (.lst xs) := fun H' x' => x'.keep a _ ha (fun z => n (M.sub _ z)) (fun ps z => by cases z)
    refine ⟨a, rfl, ⟨xs, SqL.of ha⟩, q _ H2 ds pds x2 g2 ⟨fun i H' x' hi => ?_, fun H' x' => ⟨xs, SqL.of (at' H' x'), by rw [hs.length]; exact Nat.le_refl _⟩, fun i H' y H3 x' hy => ?_⟩⟩
    · have hi2 : i < xs.length := by rw [hs.length]; exact hi
      exact ⟨xs, xs[i], SqL.of (at' H' x'), List.getElem?_eq_getElem hi2⟩
    · obtain ⟨e, hy⟩ := hy
      refine ⟨e, fun d hd => ?_⟩
      have q1 := hy xs (SqL.of (at' H' x'))
      obtain ⟨w, e1, e2⟩ := hs.get hd
      rw [q1] at e1
      cases e1
      exact e2.mono x'
theorem ew_tup {p : List PyData → Prop} (h : EX T M tl σ H (fun d => ∃ ds, d = .tuple ds ∧ p ds)) : EW T M (iTup K tl) σ H p := fun H1 x g R q => h H1 x g _ fun v H2 d pd x2 g2 vd => by
  obtain ⟨ds, e, pds⟩ := pd
  subst e
  cases vd with
  | tup ha hs =>
    rename_i a xs
    have at' : ∀ H', Xq M H2 H' → H' a = some (.tup xs) := fun H' x' => x'.tup a _ ha
    refine ⟨a, rfl, ⟨xs, SqT.of ha⟩, q _ H2 ds pds x2 g2 ⟨fun i H' x' hi => ?_, fun H' x' => ⟨xs, SqT.of (at' H' x'), by rw [hs.length]; exact Nat.le_refl _⟩, fun i H' y H3 x' hy => ?_⟩⟩
    · have hi2 : i < xs.length := by rw [hs.length]; exact hi
      exact ⟨xs, xs[i], SqT.of (at' H' x'), List.getElem?_eq_getElem hi2⟩
    · obtain ⟨e, hy⟩ := hy
      refine ⟨e, fun d hd => ?_⟩
      have q1 := hy xs (SqT.of (at' H' x'))
      obtain ⟨w, e1, e2⟩ := hs.get hd
      rw [q1] at e1
      cases e1
      exact e2.mono x'
def sgn (c : Nat) : PyData := .str ⟨#[c]⟩
theorem ew_str {z : Str} (h : EX T M tl σ H (· = .str z)) : EW T M (iStr tl) σ H (· = z.cps.toList.map sgn) := fun H1 x g R q => h H1 x g _ fun v H2 d pd x2 g2 vd => by
  subst pd
  cases vd
  have hl : (z.cps.toList.map sgn).length = z.cps.size := by rw [List.length_map, Array.length_toList]
  refine ⟨z, rfl, q _ H2 _ rfl x2 g2 ⟨fun i H' x' hi => by rw [hl] at hi; exact hi, fun H' x' => by show z.cps.size ≤ _; rw [hl]; exact Nat.le_refl _, fun i H' y H3 x' hy => ?_⟩⟩
  obtain ⟨e, c, hc, ey⟩ := hy
  refine ⟨e, fun d hd => ?_⟩
  rw [List.getElem?_map, Array.getElem?_toList, hc] at hd
  cases hd
  subst ey
  exact .str _
def intsTo (n : Nat) : List PyData := (List.range n).map fun (k : Nat) => PyData.int (k : Int)
theorem ew_range {tr : TA} {p : Int → Prop} (h : EA T M tr σ H (fun ds => ∃ j : Int, ds = [.int j] ∧ p j)) (hp : ∀ j, p j → -1000000 ≤ j ∧ j ≤ 1000000) : EW T M (iRng1 tr) σ H (fun ds => ∃ j : Int, ds = intsTo j.toNat ∧ p j) := fun H1 x g R q => h H1 x g _ fun vs H2 ds pd x2 g2 vd => by
  obtain ⟨j, e, pj⟩ := pd
  subst e
  have hj := hp j pj
  cases vd with
  | cons h1 h2 =>
    cases h1
    cases h2
    have hl : (intsTo j.toNat).length = j.toNat := by unfold intsTo; rw [List.length_map, List.length_range]
    refine ⟨j, rfl, by omega, by omega, q _ H2 _ ⟨j, rfl, pj⟩ x2 g2 ⟨fun i H' x' hi => by rw [hl] at hi; exact hi, fun H' x' => by show j.toNat ≤ _; rw [hl]; exact Nat.le_refl _, fun i H' y H3 x' hy => ?_⟩⟩
    obtain ⟨e, ey⟩ := hy
    refine ⟨e, fun d hd => ?_⟩
    subst ey
    unfold intsTo at hd
    rw [List.getElem?_map] at hd
    cases hr : (List.range j.toNat)[i]? with
    | none => rw [hr] at hd; cases hd
    | some k =>
      rw [hr] at hd
      cases hd
      have hk : k = i := by
        obtain ⟨h3, h4⟩ := List.getElem?_eq_some_iff.mp hr
        rw [List.getElem_range] at h4
        exact h4.symm
      rw [hk, Int.zero_add]
      exact .int _
/-- a comprehension -/
theorem ex_lc {wi : TI} {k : Nat} {p : List PyData → Prop} {bt : PyData → Bool} {Q : PyData → PyData → Prop} (hw : EW T M wi σ H p) (hz : ∀ ds, p ds → ds.length ≤ 1000) (hf : ∀ d e, Q d e → flat e = true)
    (hs : ∀ (ds : List PyData) (i : Nat) (d : PyData) (v : V) (H' : Hp), p ds → ds[i]? = some d → Xq M H H' → Gd T M H' → Is M H' v d → ET T M tt ((wipe σ [k]).set k (some v)) H' (· = bt d) ∧ (bt d = true → EX T M te ((wipe σ [k]).set k (some v)) H' (Q d))) :
    EX T M (tLc wi (gName k) tt te [k]) σ H (fun r => ∃ ds es, r = .list es ∧ p ds ∧ Paired Q (ds.filter bt) es) := fun H1 x g Qp q => hw H1 x g _ fun J H2 ds pd x2 g2 wk => by
  intro D nD
  have hlen := hz ds pd
  refine ⟨fun i m H' => m = ds.length - i ∧ i ≤ ds.length ∧ Xq M H2 H' ∧ Gd T M H' ∧ ∃ xs es, H' D = some (.lst xs) ∧ IsA M H' xs es ∧ Paired Q ((ds.take i).filter bt) es,
    ⟨ds.length, by omega, Nat.zero_le _, Xq.new nD, g2.new nD, [], [], upd_same, .nil, by rw [List.take_zero]; exact .nil⟩, ?_⟩
  rintro i m H' ⟨rfl, hi, x3, g3, xs, es, hD, hes, hp⟩
  by_cases hlt : i < ds.length
  · refine .inr ⟨wk.go i H' x3 hlt, fun H5 => Xq M H2 H5 ∧ Gd T M H5 ∧ ∃ xs es, H5 D = some (.lst xs) ∧ IsA M H5 xs es ∧ Paired Q ((ds.take (i + 1)).filter bt) es, fun H5 h5 => ⟨ds.length - (i + 1), by omega, rfl, hlt, h5⟩, fun y H4 hy => ?_⟩
    obtain ⟨e, hy⟩ := wk.yld i H' y H4 x3 hy
    subst e
    have hd := List.getElem?_eq_getElem hlt
    have hyd := hy _ hd
    have htk : (ds.take (i + 1)) = ds.take i ++ [ds[i]] := by rw [List.take_succ, hd] <;> rfl
    obtain ⟨s1, s2⟩ := hs ds i _ y H4 pd hd ((x.trans x2).trans x3) g3 hyd
    have hDm : D ∉ M.m := fun z => by
      obtain ⟨u, hu⟩ := g2.tr D (M.sub _ z)
      rw [nD] at hu
      cases hu
    show wipe ((wipe σ [k]).set k (some y)) [k] = wipe σ [k] ∧ _
    refine ⟨?_, ?_⟩
    · show ((σ.set k none).set k (some y)).set k none = σ.set k none
      rw [List.set_set, List.set_set]
    · refine s1 H4 Xq.refl g3 _ fun b H5 eb x5 g5 => ?_
      subst eb
      have hD5 : H5 D = some (.lst xs) := x5.keep D _ hD hDm (fun ps z => by cases z)
      cases hb : bt ds[i] with
      | true =>
        show te _ H5 _
        refine s2 hb H5 x5 g5 _ fun w H6 e qe x6 g6 we => ?_
        have hD6 : H6 D = some (.lst xs) := x6.keep D _ hD5 hDm (fun ps z => by cases z)
        have hl : xs.length ≤ 1000 := by
          rw [hes.length, ← Paired.len hp]
          have h1 := List.length_filter_le bt (ds.take i)
          have h2 := List.length_take_le i ds
          have h3 : (ds.take i).length ≤ ds.length := by rw [List.length_take]; omega
          omega
        refine ⟨xs, hD6, small1000 hl, ((x3.trans x5).trans x6).mut nD, g6.wr hD6, xs ++ [w], es ++ [e], upd_same, ?_, ?_⟩
        · exact ((hes.mono (x5.trans x6)).wr hD6 (Paired.flat hf hp)).app (.cons (we.wr hD6 (hf _ _ qe)) .nil)
        · rw [htk, List.filter_append, List.filter_cons_of_pos hb, List.filter_nil]
          exact Paired.snoc qe hp
      | false =>
        show Xq M H2 H5 ∧ _
        refine ⟨x3.trans x5, g5, xs, es, hD5, hes.mono x5, ?_⟩
        rw [htk, List.filter_append, List.filter_cons_of_neg (by rw [hb]; decide), List.filter_nil, List.append_nil]
        exact hp
  · have e : i = ds.length := by omega
    subst e
    rw [List.take_length] at hp
    have hDn : D ∉ M.n := g2.fresh nD
    exact .inl ⟨wk.stop H' x3, q _ H' _ ⟨ds, es, rfl, pd, hp⟩ (x2.trans x3) g3 (.lst hDn hD hes)⟩
/-- .. that keeps all, each item one value -/
theorem ed_lcm {wi : TI} {k : Nat} {ds : List PyData} {f : PyData → PyData} (hw : EW T M wi σ H (· = ds)) (hz : ds.length ≤ 1000) (hf : ∀ d ∈ ds, flat (f d) = true)
    (hs : ∀ (d : PyData) (v : V) (H' : Hp), d ∈ ds → Xq M H H' → Gd T M H' → Is M H' v d → EX T M te ((wipe σ [k]).set k (some v)) H' (· = f d)) : EX T M (tLc wi (gName k) tYes te [k]) σ H (· = .list (ds.map f)) := by
  refine (ex_lc (bt := fun _ => true) (Q := fun d e => d ∈ ds ∧ e = f d) hw (fun l e => by subst e; exact hz) (fun d e ⟨h1, h2⟩ => by rw [h2]; exact hf d h1) fun l i d v H' e hd x g hv => ?_).imp fun r h => ?_
  · subst e
    have hm : d ∈ l := List.mem_of_getElem? hd
    exact ⟨fun H1 x1 g1 Q q => q true H1 rfl Xq.refl g1, fun _ => (hs d v H' hm x g hv).imp fun e he => ⟨hm, he⟩⟩
  · obtain ⟨l, es, e1, e2, h3⟩ := h
    subst e2
    rw [e1]
    congr 1
    have h4 : l.filter (fun _ => true) = l := List.filter_eq_self.mpr fun _ _ => rfl
    rw [h4] at h3
    exact Paired.toMap (L2.Paired.mapP h3 fun a b z => z.2)
/-- .. with a test -/
theorem ed_lcf {wi : TI} {k : Nat} {ds : List PyData} {f : PyData → PyData} {bt : PyData → Bool} (hw : EW T M wi σ H (· = ds)) (hz : ds.length ≤ 1000) (hf : ∀ d ∈ ds, flat (f d) = true)
    (hs : ∀ (d : PyData) (v : V) (H' : Hp), d ∈ ds → Xq M H H' → Gd T M H' → Is M H' v d → ET T M tt ((wipe σ [k]).set k (some v)) H' (· = bt d) ∧ (bt d = true → EX T M te ((wipe σ [k]).set k (some v)) H' (· = f d))) : EX T M (tLc wi (gName k) tt te [k]) σ H (· = .list ((ds.filter bt).map f)) := by
  refine (ex_lc (bt := bt) (Q := fun d e => d ∈ ds ∧ e = f d) hw (fun l e => by subst e; exact hz) (fun d e ⟨h1, h2⟩ => by rw [h2]; exact hf d h1) fun l i d v H' e hd x g hv => ?_).imp fun r h => ?_
  · subst e
    have hm : d ∈ l := List.mem_of_getElem? hd
    obtain ⟨s1, s2⟩ := hs d v H' hm x g hv
    exact ⟨s1, fun hb => (s2 hb).imp fun e he => ⟨hm, he⟩⟩
  · obtain ⟨l, es, e1, e2, h3⟩ := h
    subst e2
    rw [e1]
    congr 1
    exact Paired.toMap (L2.Paired.mapP h3 fun a b z => z.2)
/-- a loop -/
theorem fo {wi : TI} {gt : TG} {tb : TS} {D : Ends} {p : List PyData → Prop} (hw : EW T M wi σ H p) (g : Gd T M H) (Pv : Hp → List PyData → Nat → L2.St → Hp → Prop) (h0 : ∀ (H1 : Hp) (ds : List PyData), p ds → Xq M H H1 → Gd T M H1 → Pv H1 ds 0 σ H1) (hk : ∀ (H1 : Hp) (ds : List PyData) (i : Nat) (σ' : L2.St) (H' : Hp), Pv H1 ds i σ' H' → Xq M H1 H')
    (hs : ∀ (H1 : Hp) (ds : List PyData) (i : Nat) (d : PyData) (v : V) (σ' : L2.St) (H' : Hp), p ds → ds[i]? = some d → Pv H1 ds i σ' H' → Is M H' v d → gt v σ' H' fun σ2 H2 => tb { D with nx := Pv H1 ds (i + 1), ct := Pv H1 ds (i + 1), bk := D.nx } σ2 H2) (hd : ∀ (H1 : Hp) (ds : List PyData) (σ' : L2.St) (H' : Hp), p ds → Pv H1 ds ds.length σ' H' → D.nx σ' H') : tFor wi gt tb D σ H :=
  hw H Xq.refl g _ fun J H1 ds pd x1 g1 wk => by
    refine ⟨fun i m σ' H' => m = ds.length - i ∧ i ≤ ds.length ∧ Pv H1 ds i σ' H', ⟨ds.length, by omega, Nat.zero_le _, h0 H1 ds pd x1 g1⟩, ?_⟩
    rintro i m σ' H' ⟨rfl, hi, hp⟩
    have x3 := hk _ _ _ _ _ hp
    by_cases hlt : i < ds.length
    · refine .inr ⟨wk.go i H' x3 hlt, Pv H1 ds (i + 1), fun σ2 H2 h2 => ⟨ds.length - (i + 1), by omega, rfl, hlt, h2⟩, fun y H4 hy => ?_⟩
      obtain ⟨e, hy⟩ := wk.yld i H' y H4 x3 hy
      subst e
      have hd := List.getElem?_eq_getElem hlt
      exact hs H1 ds i _ y σ' H4 pd hd hp (hy _ hd)
    · have e : i = ds.length := by omega
      subst e
      exact .inl ⟨wk.stop H' x3, hd H1 ds σ' H' pd hp⟩
/-! methods -/
theorem ed_join {a : Str} {ys : List Str} (h1 : EX T M ta σ H (· = .str a)) {p : List Str → Prop} (h2 : EX T M tb σ H (fun d => ∃ ys : List Str, d = .list (ys.map PyData.str) ∧ p ys)) (hz : ∀ ys, p ys → (ys.map (·.length)).sum + ys.length * a.length ≤ 16777216) :
    EX T M (tM1 (fun x xs H Q => ∃ a p, ∃ ys : List Str, x = .str a ∧ xs = [.ref p] ∧ (SqL K H p (ys.map V.str) ∨ SqT K H p (ys.map V.str)) ∧ (ys.map (·.length)).sum + ys.length * a.length ≤ 16777216 ∧ Q (.str (Txt.join a ys)) H) ta tb) σ H (fun d => ∃ ys, d = .str (Txt.join a ys) ∧ p ys) := fun H1 x g Q q =>
  h1 H1 x g _ fun v H2 d1 p1 x2 g2 v1 => by
    subst p1
    cases v1
    refine ⟨⟨a, rfl⟩, h2 H2 (x.trans x2) g2 _ fun w H3 d2 p2 x3 g3 v2 => ?_⟩
    obtain ⟨ys, e, py⟩ := p2
    subst e
    cases v2 with
    | lst n ha hs =>
      have e := hs.strs
      subst e
      exact ⟨a, _, ys, rfl, rfl, .inl (SqL.of ha), hz ys py, q _ H3 _ ⟨ys, rfl, py⟩ (x2.trans x3) g3 (.str _)⟩
/-- xs.index(y) of texts, none twice -/
theorem ed_index {tr : TA} {ys : List Str} {j : Nat} {z : Str} (h1 : EX T M ta σ H (· = .list (ys.map PyData.str))) (h2 : EA T M tr σ H (· = [.str z])) (hj : ys[j]? = some z) (hno : ∀ m, m < j → ys[m]? ≠ some z) :
    EX T M (tBM K "list" (rIndex K) ta tr) σ H (· = .int (j : Int)) := fun H1 x g Q q =>
  h1 H1 x g _ fun v H2 d1 p1 x2 g2 v1 => by
    subst p1
    have v1' := v1
    cases v1 with
    | lst n ha hs =>
      refine ⟨.inl ⟨rfl, _, SqL.of ha⟩, h2 H2 (x.trans x2) g2 _ fun ws H3 d2 p2 x3 g3 v2 => ?_⟩
      subst p2
      have v3 := v1'.mono x3
      cases v3 with
      | lst n3 ha3 hs3 =>
        have e := hs3.strs
        subst e
        cases v2 with
        | cons w1 w2 =>
          cases w2
          cases w1
          refine ⟨_, ys.map V.str, .str z, j, .str z, rfl, rfl, SqL.of ha3, rfl, flat_strs' ys, by rw [List.getElem?_map, hj] <;> rfl, by show (z == z) = true; exact beq_self_eq_true z, fun m y hm hy => ?_, q _ H3 _ rfl (x2.trans x3) g3 (.int _)⟩
          rw [List.getElem?_map] at hy
          cases hq : ys[m]? with
          | none => rw [hq] at hy; cases hy
          | some u =>
            rw [hq] at hy
            cases hy
            show (u == z) = false
            exact beq_eq_false_iff_ne.mpr fun e => hno m hm (by rw [hq, e])
end
end Rk
set_option Elab.async false
set_option linter.all false
set_option maxRecDepth 100000
set_option maxHeartbeats 4000000
/-! Ld: sorted over data -/
namespace Rk
open PySem PySem.Spec PyProof.Rows L2
open PySem.W (EachIs dataLe AllAlike Sortable)
def dsort (ds : List PyData) : List PyData := ds.mergeSort (dataLe false id)
structure SortOk (ds : List PyData) : Prop where
  al : AllAlike ds
  so : Sortable ds
  sh : ∀ d ∈ ds, SeqAt.shaped d = true ∧ d.depth ≤ 8
  ln : ds.length ≤ 1000
theorem IsA.mem {M : Ct} {H : Hp} : ∀ {ds : List PyData} {vs : List V}, IsA M H vs ds → ∀ p ∈ vs.zip ds, Is M H p.1 p.2
  | [], _, h, p, hp => by cases h; cases hp
  | d :: ds, _, h, p, hp => by
    cases h with
    | cons h1 h2 =>
      rcases List.mem_cons.mp hp with e | hp
      · subst e; exact h1
      · exact IsA.mem h2 p hp
theorem IsA.of_mem {M : Ct} {H : Hp} : ∀ {L : List (V × PyData)}, (∀ p ∈ L, Is M H p.1 p.2) → IsA M H (L.map (·.1)) (L.map (·.2))
  | [], _ => .nil
  | p :: L, h => .cons (h p List.mem_cons_self) (IsA.of_mem fun q hq => h q (List.mem_cons_of_mem _ hq))
section
variable {X : Cx} {pins : List (Addr × Obj)} {σ : L2.St} {H : Hp} {s : Shared}
theorem each_rel : ∀ {ds : List PyData} {vs : List V} {us : List Value}, Vals vs us → vs.length = ds.length → EachIs (fun u (p : V × PyData) => RelV p.1 u) us (vs.zip ds)
  | [], [], _, .nil, _ => .nil
  | d :: ds, v :: vs, _, .cons r t, h => .cons r (each_rel t (by simpa using h))
  | [], v :: vs, _, _, h => by simp at h
  | d :: ds, [], _, _, h => by simp at h
theorem each_reads {C : Ct} (I : Inv X pins σ H s) : ∀ {ds : List PyData} {vs : List V} {us : List Value}, IsA C H vs ds → Vals vs us → (∀ d ∈ ds, SeqAt.shaped d = true) → EachIs (fun u (p : V × PyData) => ∃ as, Reads s.heap u p.2 as) us (vs.zip ds)
  | [], _, _, h, r, _ => by cases h; cases r; exact .nil
  | d :: ds, _, _, h, r, hs => by
    cases h with
    | cons h1 h2 =>
      cases r with
      | cons r1 r2 => exact .cons (Dp.reads I d _ _ (h1.dp (canLay_of (hs d List.mem_cons_self))) r1) (each_reads I h2 r2 fun e he => hs e (List.mem_cons_of_mem _ he))
theorem vals_each : ∀ {L : List (V × PyData)} {us : List Value}, EachIs (fun u (p : V × PyData) => RelV p.1 u) us L → Vals (L.map (·.1)) us
  | _, _, .nil => .nil
  | _, _, .cons r t => .cons r (vals_each t)
theorem zip_snd : ∀ {vs : List V} {ds : List PyData}, vs.length = ds.length → (vs.zip ds).map (·.2) = ds
  | [], [], _ => rfl
  | v :: vs, d :: ds, h => by rw [List.zip_cons_cons, List.map_cons, zip_snd (by simpa using h)]
  | [], d :: ds, h => by simp at h
  | v :: vs, [], h => by simp at h
theorem zip_fst : ∀ {vs : List V} {ds : List PyData}, vs.length = ds.length → (vs.zip ds).map (·.1) = vs
  | [], [], _ => rfl
  | v :: vs, d :: ds, h => by rw [List.zip_cons_cons, List.map_cons, zip_fst (by simpa using h)]
  | [], d :: ds, h => by simp at h
  | v :: vs, [], h => by simp at h
theorem zip_sorted {vs : List V} {ds : List PyData} (h : vs.length = ds.length) : ((vs.zip ds).mergeSort (dataLe false (·.2))).map (·.2) = dsort ds := by
  have e := PySem.W.sort_maps (r := dataLe false (fun p : V × PyData => p.2)) (s := dataLe false id) (fun p : V × PyData => p.2) (l := vs.zip ds) (fun a _ b _ => rfl)
  rw [e, zip_snd h] <;> rfl
def rSortD : List V → Hp → VK → Prop := fun vs H Q => ∃ (a : Addr) (xs : List V) (ds : List PyData) (C : Ct), vs = [.ref a] ∧ H a = some (.lst xs) ∧ IsA C H xs ds ∧ SortOk ds ∧ ∀ p ys, H p = none → IsA C H ys (dsort ds) → Q (.ref p) (upd H p (.lst ys))
theorem cr_sortD (hu : X.A.units + 64 < cLine) : CallR X (.builtin "sorted") rSortD := by
  intro pins s σ H vs us Q I r h
  obtain ⟨a, xs, ds, C, rfl, ha, hds, ok, q⟩ := h
  obtain rfl := Vals.ref1 r
  obtain ⟨its, rv, hl, hz⟩ := I.list (SqL.of ha)
  have hlen := hds.length
  have e1 := each_rel rv hlen
  have e2 := each_reads I hds rv fun d hd => (ok.sh d hd).1
  have hzl : (xs.zip ds).length = ds.length := by rw [List.length_zip, hlen, Nat.min_self]
  have em : (xs.zip ds).map (fun p : V × PyData => p.2) = ds := zip_snd hlen
  refine PySem.W.sorted_data (R := fun u (p : V × PyData) => RelV p.1 u) (enc := fun p : V × PyData => p.2) hl.isList e1 e2 (by rw [em]; exact ok.al) (by rw [em]; exact ok.so) (by rw [hzl]; exact Nat.le_of_lt (small1000 ok.ln)) (fun p hp => ?_) fun out hol ho => ?_
  · have := (ok.sh p.2 (List.of_mem_zip hp).2).2
    omega
  · have pm : ((xs.zip ds).mergeSort (dataLe false (·.2))).Perm (xs.zip ds) := List.mergeSort_perm _ _
    have hI : IsA C H (((xs.zip ds).mergeSort (dataLe false (·.2))).map (·.1)) (dsort ds) := by
      rw [← zip_sorted hlen]
      exact IsA.of_mem fun p hp => hds.mem p (pm.mem_iff.mp hp)
    obtain ⟨ep, he'⟩ := PyProof.Rows.sortedAll_at s.heap its out.toArray
    have hll : (((xs.zip ds).mergeSort (dataLe false (·.2))).map (·.1)).length ≤ sizeLine := by
      rw [List.length_map, pm.length_eq, hzl]
      exact Nat.le_of_lt (small1000 ok.ln)
    exact ⟨.ref _, upd H (s.heap.objs.size + 1) (.lst (((xs.zip ds).mergeSort (dataLe false (·.2))).map (·.1))), I.laid (t' := s.toks) (fun _ _ => PyProof.Rows.sortedAll_old) (Nat.le_succ _) ⟨hll, out, ep, vals_each ho, he'⟩, rfl, q _ _ (I.hok.fresh (Nat.le_succ _)) hI⟩
end
section
variable {T : Tbs} {M : Ct}
theorem rc_sortD {ds : List PyData} (ok : SortOk ds) : RC T M rSortD [.list ds] (· = .list (dsort ds)) := fun H vs g h Q q => by
  cases h with
  | cons h1 h2 =>
    cases h2
    cases h1 with
    | lst n ha hs => exact ⟨_, _, ds, M, rfl, ha, hs, ok, fun p ys np hy => q _ _ _ rfl (Xq.new np) (g.new np) (.lst (g.fresh np) upd_same (hy.mono (Xq.new np)))⟩
end
end Rk
set_option Elab.async false
set_option linter.all false
set_option maxRecDepth 100000
set_option maxHeartbeats 4000000
/-! Le: sorted by a lambda's key -/
namespace Rk
open PySem PySem.Spec PyProof.Rows L2
open PySem.W (EachIs dataLe AllAlike Sortable KeyPure kla_fn kla_obj)
abbrev pairBody (x : Str) (p1 p2 p3 p4 p5 p6 p7 : Pos) (k1 k2 k3 : Nat) : Expr := .Tuple [.Subscript (.Name x p1) (.Constant (.int 2) k1 p2) p3, .Subscript (.Name x p4) (.Constant (.int 0) k2 p5) p6] k3 p7
section
variable {prog : Program} {w : World} {A : Around} {s : Shared} {E : Value → Shared → Prop}
theorem ix_step {x : Str} {env : Env} {mp : Str → Option Value} {t : Addr} {its : Array Value} {i : Nat} {u : Value} {p1 p2 p3 : Pos} {k1 : Nat} {Q : Value → Shared → Prop} (hd : (x == ("__debug__" : Str)) = false) (hk : env.scope.kind = .function) (hl : env.kindOf x = some .local)
    (hn : s.heap.Ns env.locals mp) (hv : mp x = some (.ref t)) (ht : IsTup s.heap t its) (hsz : its.size = 3) (hi : i < 3) (hu : its[i]? = some u) (h : ∀ tk, Q u { s with toks := tk }) :
    wpAny (model prog w) A (eval (.Subscript (.Name x p1) (.Constant (.int (i : Int)) k1 p2) p3) env) Q E s := by
  refine Subscript_ (wpAny_Name (wpAny_loadName_local hk hl hn hv (wpAny_Constant_int ?_)) hd)
  refine subscriptTail_builtinR (x := u) (s := { s with toks := s.toks + 1 }) (T := "tuple") (show Shared.TypeIs { s with toks := s.toks + 1 } (.ref t) "tuple" from ht.typeIs) PyProof.Rows.slot_tuple_getitem.lookup
    (getItem_tuple (s := { s with toks := s.toks + 1 }) (k := (i : Int)) (j := i) (Q := fun r s' => r = u ∧ Q r s') ht (by omega) (by omega) ?_ hu ⟨rfl, h _⟩) rfl
  rw [hsz, seqIndex_of (by omega) (by omega)]
  congr 1
theorem lam_turn {f t c' : Addr} {qual x : Str} {params : Arguments} {scope : Scope} {pm ctv : Value} {m r : Str} {sv : Int} {tm tr ts : Tok} {p1 p2 p3 p4 p5 p6 p7 : Pos} {k1 k2 k3 : Nat} (hdp : A.depth < recursionLimit)
    (ho : s.heap.get? f = some (kla_obj "<lambda>" qual params (pairBody x p1 p2 p3 p4 p5 p6 p7 k1 k2 k3) scope [] pm c' ctv)) (hcd : s.heap.CodeRec (.ref c') qual) (lim : s.heap.NoLimit) (ht : IsTup s.heap t #[.str m tm, .str r tr, .int sv ts])
    (hb : ∀ (pm cv ctv : Value), bindArgs (kla_fn "<lambda>" qual params (pairBody x p1 p2 p3 p4 p5 p6 p7 k1 k2 k3) scope [] pm cv ctv) ⟨[.ref t], []⟩ = pure [(x, .ref t)]) (hx : (x == ("__debug__" : Str)) = false) (hk : scope.kind = .function) (hco : scope.isCoroutine = false) (hgen : scope.isGenerator = false)
    (hl : scope.names.lookup x = some .local) (hnc : ∀ y ∈ scope.names, y.2 ≠ .cell) :
    wpAny (model prog w) A (call (.ref f) [.ref t]) (KeyPure (.tuple [.int sv, .str m]) s) E s := by
  refine wpAny_call (codeAny_mono (R := fun r' s' => ∃ v, r' = .ok (.ret v) ∧ KeyPure (.tuple [.int sv, .str m]) s v s') ?_ fun r' s' hq => ?_)
  · refine PySem.W.kla_callFunE hdp ho rfl hco hgen rfl hcd ?_
    rw [hb]
    refine wpAny_pure (wpAny_newFunctionEnv hnc (fun y hy => ?_) (fun h₁ hns hsb => ⟨lim.fresh _ hsb, ?_⟩) hk)
    · rw [List.mem_singleton.mp hy]; exact hl
    · have kp : ∀ b o, s.heap.get? b = some o → h₁.get? b = some o := fun b o e => hsb.extBut b o (Nat.ne_of_lt (Heap.lt_size e)) (Heap.get?_push_of_some _ e)
      have ht1 : IsTup h₁ t #[.str m tm, .str r tr, .int sv ts] := by
        obtain ⟨o, a, b, c⟩ := ht
        exact ⟨o, kp _ _ a, b, c⟩
      have hmp : (fun y => [(x, Value.ref t)].reverse.lookup y) x = some (.ref t) := by
        show List.lookup x [(x, Value.ref t)] = _
        simp
      refine PySem.W.kla_codeExpr ?_
      refine wpAny_Tuple_spliced ?_
      refine Calls.spliced_cons (ix_step (i := 2) hx hk hl hns hmp ht1 rfl (by omega) rfl fun tk1 => ?_)
      refine Calls.spliced_cons (ix_step (s := { s with heap := h₁, toks := tk1 }) (i := 0) hx hk hl hns hmp ht1 rfl (by omega) rfl fun tk2 => ?_)
      refine Calls.spliced_nil ⟨by show 2 ≤ sizeLine; decide, _, rfl, _, tk2, rfl, fun b o e => Heap.get?_push_of_some _ (kp b o e), ?_⟩
      exact Reads.tuple (as := [] ++ ([] ++ [])) (Heap.get?_push_size _ rfl) rfl rfl (.cons (.int _ _) (.cons (.str _ _) .nil))
  · obtain ⟨v, e, q⟩ := hq
    subst e
    exact q
end
theorem Xq.ofExt {M : Ct} {H H' : Hp} (e : LamX.ExtN H H') : Xq M H H' := ⟨fun b o q _ t => e b o q t, fun b xs q => e b _ q (fun ps z => by cases z), fun p _ q => by
  obtain ⟨x, y, h, r⟩ := q
  exact ⟨x, y, e p _ h (fun ps z => by cases z), r⟩⟩
/-- men: a text, a text, a whole number -/
def Man3 (d : PyData) : Prop := ∃ (m r : Str) (s : Int), d = .tuple [.str m, .str r, .int s]
def keyM : PyData → PyData
  | .tuple [.str m, .str r, .int s] => .tuple [.int s, .str m]
  | _ => .none
theorem alike_km {d e : PyData} (h : Man3 d) (k : Man3 e) : PySem.W.alike (keyM d) (keyM e) = true := by
  obtain ⟨m, r, s, rfl⟩ := h
  obtain ⟨m', r', s', rfl⟩ := k
  simp [keyM, PySem.W.alike, PySem.W.alikeAll]
def tSortLam (T : Tbs) (te : TE) : TE := fun σ H Q => te σ H fun x H1 => LamX.Tabs T H1 ∧ ∃ (a : Addr) (xs : List V) (ds : List PyData) (C : Ct), x = .ref a ∧ H1 a = some (.lst xs) ∧ IsA C H1 xs ds ∧ (∀ d ∈ ds, Man3 d) ∧ ds.length ≤ 1000 ∧
  ∀ H2 p ys es, LamX.ExtN H1 H2 → LamX.Tabs T H2 → H2 p = none → es.Perm ds → IsA C H2 ys es → Q (.ref p) (upd H2 p (.lst ys))
section
variable {X : Cx}
theorem pe_sortLam {T : Tbs} {e : Expr} {te : TE} {c P : Addr} {x y : Str} {params : Arguments} {scope : Scope} {p pos lpos kpos p1 p2 p3 p4 p5 p6 p7 : Pos} {k1 k2 k3 : Nat} (hr : Room 3 X.A) (hg : Gl X "sorted") (hm : X.mg "sorted" = none) (he : PE X e te)
    (TB : LamX.TabB X.base X.mg c P) (hcode : X.env.code = .ref c) (hmT : (P, X.env.qual ++ "<lambda>") ∈ T) (hu : ∀ p ∈ T, p.1 = P → p.2 = X.env.qual ++ "<lambda>") (hdef : defaultsOf params X.env = ([], []))
    (hb : ∀ (q : Str) (t : Addr) (pm cv ctv : Value), bindArgs (kla_fn "<lambda>" q params (pairBody y p1 p2 p3 p4 p5 p6 p7 k1 k2 k3) scope [] pm cv ctv) ⟨[.ref t], []⟩ = pure [(y, .ref t)]) (hx : (y == ("__debug__" : Str)) = false) (hk : scope.kind = .function) (hco : scope.isCoroutine = false) (hgen : scope.isGenerator = false)
    (hsc : scope.names = [(y, .local)])
    (na : backTo pos (starEach [e] X.env) = (false, eval e X.env) :: backTo pos (starEach [] X.env) := by rfl) (npl : (backTo pos (starEach [e] X.env)).any (·.1) = false := by rfl) :
    PE X (.Call (.Name "sorted" p) [e] [⟨some "key", .Lambda params (pairBody y p1 p2 p3 p4 p5 p6 p7 k1 k2 k3) scope lpos, kpos⟩] pos) (tSortLam T te) := by
  have hl : scope.names.lookup y = some .local := by rw [hsc]; simp
  have hnc : ∀ z ∈ scope.names, z.2 ≠ .cell := fun z hz => by
    rw [hsc] at hz
    rw [List.mem_singleton.mp hz]
    exact fun h => nomatch h
  have hclo : cloFrom X.env.cells scope.names [] = [] := by
    rw [hsc]
    rfl
  refine ⟨fun pins s σ H Q I h => ?_⟩
  refine wpAny_Call_Name_kw (ld_blt (u := .builtin "sorted") I hg hm (by decide +kernel) ?_ (by decide) (by decide))
  refine PyProof.Rows.callWith_kw (thn ?_ fun us s1 h1 => h1) na npl
  rw [na]
  refine Calls.spliced_cons (thn (he.run pins s σ H _ I h) fun u s1 ⟨v, H1, I1, r1, q1⟩ => ?_)
  refine Calls.spliced_nil ?_
  obtain ⟨hT, a, xs, ds, C, rfl, ha, hds, hman, hln, q⟩ := q1
  obtain rfl : u = Value.ref a := r1
  show wpAny _ _ (evalAll [(do let v ← eval (.Lambda params (pairBody y p1 p2 p3 p4 p5 p6 p7 k1 k2 k3) scope lpos) X.env; standAt pos; pure v)]) _ _ s1
  refine wpAny_evalAll_cons (wpAny_bind (LamX.lam_make2 I1 TB hcode hmT hu hT hdef (fun z hz e => ?_) fun f c' pm ctv H2 s2 I2 eN T2 hf hfn hfr hco' => wpAny_bind (wpAny_standAt (wpAny_pure (wpAny_evalAll_nil ?_)))))
  · rw [hsc] at hz
    rw [List.mem_singleton.mp hz] at e
    cases e
  · rw [hclo] at hf
    have X12 : Xq C H1 H2 := Xq.ofExt eN
    have ha2 : H2 a = some (.lst xs) := eN a _ ha fun ps z => by cases z
    have hds2 : IsA C H2 xs ds := hds.mono X12
    obtain ⟨its, rv, hlist, hz⟩ := I2.list (SqL.of ha2)
    have hlen := hds2.length
    have hzl : (xs.zip ds).length = ds.length := by rw [List.length_zip, hlen, Nat.min_self]
    have hcd : s2.heap.CodeRec (.ref c') (X.env.qual ++ "<lambda>") := by
      obtain ⟨⟨oc, vs, t, h1, h2, h3⟩, _, _⟩ := I2.hok c' _ hco'
      exact ⟨c', oc, vs, t, rfl, h1, h2, h3⟩
    have hmem : ∀ p ∈ xs.zip ds, Man3 p.2 := fun p hp => hman p.2 (List.of_mem_zip hp).2
    have ok : AllAlike ((xs.zip ds).map fun p => keyM p.2) := fun d hd d' hd' => by
      obtain ⟨p, hp, rfl⟩ := List.mem_map.mp hd
      obtain ⟨p', hp', rfl⟩ := List.mem_map.mp hd'
      exact alike_km (hmem p hp) (hmem p' hp')
    have so : Sortable ((xs.zip ds).map fun p => keyM p.2) := .inl fun d hd => by
      obtain ⟨p, hp, rfl⟩ := List.mem_map.mp hd
      obtain ⟨m, r, s, e⟩ := hmem p hp
      rw [e]
      exact ⟨_, _, rfl⟩
    have dep : ∀ p ∈ xs.zip ds, (keyM p.2).depth ≤ 1 := fun p hp => by
      obtain ⟨m, r, s, e⟩ := hmem p hp
      rw [e]
      simp [keyM, PyData.depth, PyData.depthAll]
    have hud : X.A.units + 64 < cLine := hr.units
    have hdp := hr.dp
    show wpAny _ _ (call (.builtin "sorted") [.ref a] [(Str.ofString "key", .ref f)]) _ _ s2
    refine PySem.W.sorted_key_data (R := fun u (p : V × PyData) => RelV p.1 u) (b := false) (fun p : V × PyData => keyM p.2) hlist.isList (each_rel rv hlen) ok so (by rw [hzl]; exact Nat.le_of_lt (small1000 hln)) (fun p hp => ?_)
      (PyProof.Rows.ksk_s1 _ _) (fun _ => PyProof.Rows.ksk_l1 _ _) (fun _ => PyProof.Rows.ksk_t1 _ _) (fun v pr hR hp g tk kp => ?_) fun out cc h' tk kp _ hD hol ho => ?_
    · have := dep p hp
      omega
    · obtain ⟨m, r, sv, e⟩ := hmem pr hp
      have hIs := hds2.mem pr hp
      rw [e] at hIs ⊢
      obtain ⟨p1v, p2v⟩ := pr
      dsimp only at hIs hR e
      cases hIs with
      | tup htt hit =>
        rename_i tt ys
        obtain rfl : v = Value.ref tt := hR
        obtain ⟨_, its2, r2, o, h1, h2, n, h3⟩ := I2.hok _ _ htt
        cases hit with
        | cons a1 a2 =>
          cases a2 with
          | cons a3 a4 =>
            cases a4 with
            | cons a5 a6 =>
              cases a6
              cases a1
              cases a3
              cases a5
              cases r2 with
              | cons b1 b2 =>
                cases b2 with
                | cons b3 b4 =>
                  cases b4 with
                  | cons b5 b6 =>
                    cases b6
                    obtain ⟨t1, rfl⟩ := b1
                    obtain ⟨t2, rfl⟩ := b3
                    obtain ⟨t3, rfl⟩ := b5
                    refine wpAny_mono (lam_turn (s := { s2 with heap := g, toks := tk }) (E := fun _ _ => False) ?_ (kp _ _ hf) (hcd.keeps kp) (I2.nolimit.keeps kp) (show IsTup g tt _ from ⟨o, kp _ _ h1, h2, n, h3⟩) (fun pm cv ctv => hb _ _ pm cv ctv) hx hk hco hgen hl hnc) (fun _ _ q => q) fun _ _ q => q
                    first
                      | exact hr.depth
                      | (show X.A.depth < recursionLimit; exact hr.depth)
                      | (have := hr.dp; simp only [Around.in1] at *; omega)
    · have pm' : ((xs.zip ds).mergeSort (dataLe false fun p => keyM p.2)).Perm (xs.zip ds) := List.mergeSort_perm _ _
      have hI : IsA C H2 (((xs.zip ds).mergeSort (dataLe false fun p => keyM p.2)).map (·.1)) (((xs.zip ds).mergeSort (dataLe false fun p => keyM p.2)).map (·.2)) :=
        IsA.of_mem fun p hp => hds2.mem p (pm'.mem_iff.mp hp)
      have hpe : (((xs.zip ds).mergeSort (dataLe false fun p => keyM p.2)).map (·.2)).Perm ds := by
        have z := pm'.map (·.2)
        rw [zip_snd hlen] at z
        exact z
      have hll : (((xs.zip ds).mergeSort (dataLe false fun p => keyM p.2)).map (·.1)).length ≤ sizeLine := by
        rw [List.length_map, pm'.length_eq, hzl]
        exact Nat.le_of_lt (small1000 hln)
      exact ⟨.ref _, upd H2 (s2.heap.objs.size + 1) (.lst (((xs.zip ds).mergeSort (dataLe false fun p => keyM p.2)).map (·.1))), I2.laid (t' := tk) kp (Nat.le_succ _) ⟨hll, out, cc, vals_each ho, hD⟩, rfl, q H2 _ _ _ eN T2 (I2.hok.fresh (Nat.le_succ _)) hpe hI⟩
end
end Rk
set_option Elab.async false
set_option linter.all false
set_option maxRecDepth 100000
set_option maxHeartbeats 4000000
/-! Lf: set(xs) of any items, by what one item does to the set -/
namespace Rk
open PySem PySem.Spec PyProof.Rows L2
abbrev setFresh (w : World) : Obj := { cls := .type "set", dict := none, data := .set #[] 0 (.fresh 0 0 (!w.params.followText "set-order")) }
/-- what adding one item does: J, of the set's growth, of the heap -/
structure SetStep (P : Program) (w : World) (S : Addr) (items : Array Value) (h0 : Heap) (u : Nat) (J : Nat → Heap → Prop) : Prop where
  keep : ∀ i h h', J i h → (∀ o, h.get? S = some o → h'.get? S = some o) → (∀ b o, h0.get? b = some o → h'.get? b = some o) → J i h'
  add : ∀ (A : Around) (E : Value → Shared → Prop) (i : Nat) (v : Value) (s : Shared) (Q : Bool → Shared → Prop), A.units < u → items[i]? = some v → J i s.heap → (∀ b o, h0.get? b = some o → s.heap.get? b = some o) →
    (∀ b h' tk, s.toks ≤ tk → Heap.SameBut S s.heap h' → J (i + 1) h' → Q b { s with heap := h', toks := tk }) → wpAny (model P w) A (setAdd S v) Q E s
section
variable {P : Program} {w : World} {A : Around} {E : Value → Shared → Prop} {s : Shared}
theorem set_loop {I : Addr} {fp wr : List Addr} {G : Array GenState → Array GenState → Prop} {n : Nat} {Pv : Nat → Value → Prop} {St : Nat → Shared → Prop} {R : Result → Shared → Prop} {S : Addr} {items : Array Value} {h0 : Heap} {u : Nat} {J : Nat → Heap → Prop}
    (W : WalksS P w A.in1 I fp wr G n Pv St) (hSf : S ∉ fp) (Z : SetStep P w S items h0 u J) (hu : A.in1.units < u) (hval : ∀ i v, Pv i v → items[i]? = some v) (hS0 : h0.get? S = none) (hw0 : ∀ b ∈ wr, h0.get? b = none) :
    ∀ (k i : Nat) (s : Shared), n - i = k → i ≤ n → St i s → (∀ b o, h0.get? b = some o → s.heap.get? b = some o) → J i s.heap →
      (∀ s', Moved (S :: wr) G s s' → J n s'.heap → (∀ b o, h0.get? b = some o → s'.heap.get? b = some o) → R (.ok (.ret .none)) s') →
      codeAny (model P w) A (.builtin "set.update.loop" ⟨[.ref S, .ref I], []⟩) R s := by
  have hSw : S ∉ wr := fun h => hSf (W.sub _ h)
  have up : ∀ b ∈ wr, b ∈ S :: wr := fun b hb => List.mem_cons_of_mem _ hb
  have kp : ∀ {s s' : Shared}, Moved wr G s s' → (∀ b o, h0.get? b = some o → s.heap.get? b = some o) → ∀ b o, h0.get? b = some o → s'.heap.get? b = some o := fun hm k b o e =>
    hm.heap b o (fun hb => by rw [hw0 b hb] at e; cases e) (k b o e)
  intro k
  induction k with
  | zero =>
    intro i s hk hi hst h1 hJ hR
    have e : i = n := by omega
    subst e
    refine codeAny_builtin F.entry_set_update_loop ?_
    rw [Around.under_plainId F.plain_set_update_loop _]
    refine wpAny_bind (W.done s _ _ hst fun s' hm => ?_)
    have h1' := kp hm h1
    exact wpAny_pure (hR s' (hm.mono up) (Z.keep _ _ _ hJ (fun o e => hm.heap S o hSw e) h1') h1')
  | succ k ih =>
    intro i s hk hi hst h1 hJ hR
    refine codeAny_builtin F.entry_set_update_loop ?_
    rw [Around.under_plainId F.plain_set_update_loop _]
    refine wpAny_bind (W.item i s _ _ (by omega) hst fun v s1 hP hst1 hm => ?_)
    have h1' := kp hm h1
    have hJ1 : J i s1.heap := Z.keep _ _ _ hJ (fun o e => hm.heap S o hSw e) h1'
    refine wpAny_bind (wpAny_holding ?_)
    refine Z.add A.in1 _ i v s1 _ hu (hval i v hP) hJ1 h1' fun b h' tk htk sb hJ2 => ?_
    have h2 : ∀ b o, h0.get? b = some o → h'.get? b = some o := fun b o e => (sb.2 b (fun z => by rw [z, hS0] at e; cases e)).trans (h1' b o e)
    refine wpAny_pure ⟨plainId_quiet F.plain_set_update_loop _, ih (i + 1) _ (by omega) (by omega) (W.frame _ s1 _ _ hst1 htk fun b hb o e => ?_) h2 hJ2 fun s'' hm2 hJ3 h3 => ?_⟩
    · rw [sb.2 b (fun z : b = S => hSf (by rw [← z]; exact hb))]
      exact e
    · refine hR s'' (Moved.trans W.gtrans ((hm.mono up).then_heap htk fun b o hb e => ?_) hm2) hJ3 h3
      rw [sb.2 b (fun z : b = S => hb (by rw [z]; exact List.mem_cons_self))]
      exact e
theorem set_call {l : Addr} {items : Array Value} {u : Nat} {J : Nat → Heap → Prop} {Q : Value → Shared → Prop} (hh : A.handled = none) (hl : s.heap.IsList l items) (Z : SetStep P w s.heap.objs.size items s.heap u J) (hu : A.units + 8 < u)
    (h0 : ∀ h : Heap, h.get? s.heap.objs.size = some (setFresh w) → (∀ b o, s.heap.get? b = some o → h.get? b = some o) → J 0 h)
    (h : ∀ (h' : Heap) (tk : Nat), J items.size h' → (∀ b o, s.heap.get? b = some o → h'.get? b = some o) → Q (.ref s.heap.objs.size) { s with heap := h', toks := tk }) :
    wpAny (model P w) A (call (.type "set") [.ref l]) Q E s := by
  obtain ⟨cm, tl, hmro⟩ := F.called_set.mro
  have hmade := F.called_set.made
  have hsub := F.called_set.sub
  refine wpAny_call (codeAny_of_tree ?_)
  show wpAny _ _ (callAny (.type "set") _) _ _ _
  refine wpAny_pure ⟨Code.quiet_builtin _ (by decide +kernel), codeAny_builtin F.entry_type_call ?_⟩
  rw [Around.under_plain (weight_type_call_type "set" [.ref l] []) rfl]
  have hnt := F.called_set.notType
  have hcc := F.called_set.canCreate
  have hct := F.typeCall_set_1 (.ref l)
  repeat (any_goals (first | assumption | wp_step))
  refine codeAny_mono (code_set_led1 (.ref l) (E := E) (Q₁ := fun obj s₁ => obj = .ref s.heap.objs.size ∧ s₁ = { s with heap := s.heap.push (setFresh w) }) ⟨rfl, rfl⟩) fun r s₁ hr => ?_
  cases r with
  | error e => exact hr
  | ok fl =>
    cases fl with
    | next => exact hr.elim
    | brk => exact hr.elim
    | cont => exact hr.elim
    | ret obj =>
      obtain ⟨rfl, rfl⟩ := hr
      have hS : (s.heap.push (setFresh w)).get? s.heap.objs.size = some (setFresh w) := Heap.get?_push_size _ rfl
      have hT : Shared.TypeIs { s with heap := s.heap.push (setFresh w) } (.ref s.heap.objs.size) "set" := ⟨_, hS, rfl⟩
      have hli := F.called_set.init.lookup
      have hbi := F.called_set.init.bind (.ref s.heap.objs.size)
      repeat (any_goals (first | assumption | wp_step))
      refine codeAny_mono (codeAny_call_builtin (R := wants (fun r s₂ => r = .none ∧ ∃ h' tk, s₂ = { s with heap := h', toks := tk } ∧ J items.size h' ∧ (∀ b o, s.heap.get? b = some o → h'.get? b = some o)) E) F.called_set.init.plain F.entry_set_init (check_set_init_1 hT ?_)) fun r₂ s₂ hr₂ => ?_
      · obtain ⟨⟨ocls, odict, odata, oslots⟩, hol, hcl, nl, hdl⟩ := hl
        simp only at hcl hdl
        subst hcl hdl
        have hl1 : (s.heap.push (setFresh w)).IsList l items := ⟨_, Heap.get?_push_of_some _ hol, rfl, nl, rfl⟩
        have hol' := Heap.get?_push_of_some (setFresh w) hol
        have hsls := F.sub_list_set
        have hslf := F.sub_list_frozenset
        have hne : (Value.type "list" == Value.type "dict") = false := by decide
        unfold Builtin.«set.__init__» noKeywords Builtin.Frozenset.updateFrom
        generalize hPI : pyIter = PI
        wp_walk
        subst hPI
        refine wpAny_pyIter_list hl1 ?_
        refine wpAny_bind (wpAny_runValue ?_)
        have hlS : l < s.heap.objs.size := Heap.lt_size hol
        have hh3 : A.in1.in1.in1.handled = none := by simp [hh]
        have hz1 : (s.heap.push (setFresh w)).objs.size = s.heap.objs.size + 1 := Heap.size_push ..
        have hneI : l ≠ (s.heap.push (setFresh w)).objs.size := by
          rw [hz1]; exact Nat.ne_of_lt (Nat.lt_succ_of_lt hlS)
        have hSf : s.heap.objs.size ∉ [(s.heap.push (setFresh w)).objs.size, l] := by
          rw [hz1]; simp only [List.mem_cons, List.mem_singleton, List.not_mem_nil, or_false, not_or]
          exact ⟨Nat.ne_of_lt (Nat.lt_succ_self _), Nat.ne_of_gt hlS⟩
        have noth : ∀ b, s.heap.objs.size ≤ b → s.heap.get? b = none := fun b hb => Heap.get?_none_of_le hb
        refine set_loop ((Walks.list hh3 _ l hneI items).toS) hSf Z (by simp only [Around.in1] at *; omega) (fun i v hv => hv) (noth _ (Nat.le_refl _)) (fun b hb => noth b (by
            rw [List.mem_singleton.mp hb, hz1]
            exact Nat.le_succ _)) (items.size - 0) 0 _ (by omega) (Nat.zero_le _)
          ⟨⟨_, Heap.get?_push_size _ rfl, rfl, rfl⟩, (hl1.push _)⟩ (fun b o e => Heap.get?_push_of_some _ (Heap.get?_push_of_some _ e)) (h0 _ (Heap.get?_push_of_some _ hS) fun b o e => Heap.get?_push_of_some _ (Heap.get?_push_of_some _ e)) ?hR
        case hR =>
          intro s' hm hJ hkp
          obtain ⟨h', g2, d', tk', os'⟩ := s'
          have eg : g2 = s.gens := hm.gens
          have ed : d' = s.drawn := hm.drawn
          have eo : os' = s.os := hm.os
          subst eg ed eo
          show wpAny _ _ _ _ _ _
          refine wpAny_pure ?_
          show wpAny _ _ (ret Value.none) _ _ _
          exact wpAny_pure ⟨rfl, h', tk', rfl, hJ, hkp⟩
      · cases r₂ with
        | error e => exact hr₂
        | ok fl₂ =>
          cases fl₂ with
          | next => exact hr₂.elim
          | brk => exact hr₂.elim
          | cont => exact hr₂.elim
          | ret r =>
            obtain ⟨rfl, h', tk, rfl, hJ, hk'⟩ := hr₂
            repeat (any_goals (first | assumption | wp_step))
            exact h _ _ hJ hk'
end
end Rk
set_option Elab.async false
set_option linter.all false
set_option maxRecDepth 100000
set_option maxHeartbeats 4000000
/-! Lg: sorted(set(xs)), xs whole numbers or texts -/
namespace Rk
open PySem PySem.Spec PyProof.Rows L2
open PySem.W (EachIs dataLe AllAlike Sortable)
def kOfV : Value → Key
  | .int k _ => .inl k
  | .str x _ => .inr x
  | _ => .inl 0
abbrev kOf (e : Int × Value) : Key := kOfV e.2
theorem kOfV_is {k : Key} {v : Value} (h : keyIs k v = true) : kOfV v = k ∧ RelV (kV k) v ∧ v.scannable = true := by
  rcases keyIs_shape h with ⟨i, t, rfl, rfl⟩ | ⟨x, t, rfl, rfl⟩
  · exact ⟨rfl, ⟨t, rfl⟩, rfl⟩
  · exact ⟨rfl, ⟨t, rfl⟩, rfl⟩
theorem keyIs_rel {k : Key} {v : Value} (h : RelV (kV k) v) : keyIs k v = true := by
  cases k with
  | inl i => obtain ⟨t, rfl⟩ := h; exact keyIs_int i t
  | inr x => obtain ⟨t, rfl⟩ := h; exact keyIs_str x t
section
variable {P : Program} {w : World} {A : Around} {E : Value → Shared → Prop} {s : Shared} {a : Addr} {L : List Key}
def KSet (P : Program) (w : World) (h : Heap) (a : Addr) (L : List Key) : Prop :=
  ∃ o es ep t, h.get? a = some o ∧ o.ExactSet ∧ o.data = .set es ep t ∧ ElemsOf (mixKind P w) es.toList ∧ (es.toList.map kOf).Nodup ∧ (∀ k, k ∈ L ↔ k ∈ es.toList.map kOf) ∧ es.size ≤ L.length ∧ t.fits es.size = true ∧ Ris t.place.toList ∧ (w.params.followText "set-order" = true ∨ t.led = true)
theorem el_mem {l : List (Int × Value)} (g : ElemsOf (mixKind P w) l) (k : Key) : k ∈ l.map kOf ↔ ∃ e ∈ l, (mixKind P w).is k e.2 = true := by
  rw [List.mem_map]
  constructor
  · rintro ⟨e, he, q⟩
    obtain ⟨⟨k', h1, _⟩, _⟩ := g e he
    have e1 := (kOfV_is h1).1
    refine ⟨e, he, ?_⟩
    have e2 : k' = k := e1.symm.trans q
    rw [← e2]
    exact h1
  · rintro ⟨e, he, q⟩
    exact ⟨e, he, (kOfV_is q).1⟩
theorem KSet.at {h h' : Heap} (R : KSet P w h a L) (k : ∀ o, h.get? a = some o → h'.get? a = some o) : KSet P w h' a L := by
  obtain ⟨o, es, ep, t, ho, r⟩ := R
  exact ⟨o, es, ep, t, k o ho, r⟩
theorem kset_new {h : Heap} (e : h.get? a = some (setFresh w)) : KSet P w h a [] :=
  ⟨_, #[], 0, _, e, ⟨rfl, rfl, rfl⟩, rfl, (fun e he => by simp at he), (by simp), (fun k => by simp), Nat.le_refl _, (by rfl), List.Pairwise.nil, by
    show _ ∨ (!w.params.followText "set-order") = true
    cases w.params.followText "set-order"
    · exact .inr rfl
    · exact .inl rfl⟩
/-- laid, and laid anew where the table is too full -/
theorem kset_tail {o : Obj} {es : Array (Int × Value)} {ep : Nat} {t : SetTable} (ho : s.heap.get? a = some o) (hex : o.ExactSet) (hd : o.data = .set es ep t) {es1 : Array (Int × Value)} {t2 : SetTable} {n : Nat}
    (g1 : ElemsOf (mixKind P w) es1.toList) (nd1 : (es1.toList.map kOf).Nodup) (m1 : ∀ k, k ∈ L ↔ k ∈ es1.toList.map kOf) (hn : es1.size ≤ L.length) (hL : L.length ≤ 1000) (hf2 : t2.fits es1.size = true) (hr : Ris t2.place.toList) (hl : w.params.followText "set-order" = true ∨ t2.led = true)
    {wasDummy : Bool} {R : Option Bool → Shared → Prop} {g : Bool → Sem Unit} (hg : ∀ (b : Bool) (s₁ : Shared) (Q' : Unit → Shared → Prop), Q' () s₁ → wpAny (model P w) A (g b) Q' E s₁) (hR : ∀ h', Heap.SameBut a s.heap h' → KSet P w h' a L → R (some true) { s with heap := h' }) :
    wpAny (model P w) A (do
        storeSet a es1 t2
        if (!wasDummy && t2.tooFull) = true then do
            g (relayAll t2 es1 (SetTable.grown es1.size)).2.2
            storeSet a (relayAll t2 es1 (SetTable.grown es1.size)).1 (relayAll t2 es1 (SetTable.grown es1.size)).2.1
            pure (some true)
          else pure (some true)) R E s := by
  have lim : ∀ n, n ≤ L.length → n ≤ sizeLine := fun n h => by rw [sizeLine_eq]; omega
  refine wpAny_bind (wpAny_storeSet_of ho hd ?_ (lim _ hn))
  have ho1 := store_at (es' := es1) (t' := t2) ho hd
  have sb1 := Heap.SameBut.update s.heap a (Obj.putSet es1 t2)
  by_cases hc : (!wasDummy && t2.tooFull) = true
  · rw [if_pos hc]
    have pm := relayAll_perm t2 es1 (SetTable.grown es1.size)
    have hf3 := relayAll_fits t2 es1 (SetTable.grown es1.size)
    have hr3 := relayAll_ris t2 es1 (SetTable.grown es1.size)
    have hl3 := relayAll_led t2 es1 (SetTable.grown es1.size)
    generalize relayAll t2 es1 (SetTable.grown es1.size) = Z at pm hf3 hr3 hl3 ⊢
    obtain ⟨es2, t3, gave⟩ := Z
    dsimp only at pm hf3 hr3 hl3 ⊢
    have hsz : es2.size = es1.size := by rw [← Array.length_toList, pm.length_eq, Array.length_toList]
    refine wpAny_bind (hg _ _ _ ?_)
    refine wpAny_bind (wpAny_storeSet_of ho1 rfl ?_ (lim _ (by rw [hsz]; exact hn)))
    have ho2 := store_at (es' := es2) (t' := t3) ho1 rfl
    refine wpAny_pure (hR _ (sb1.trans (Heap.SameBut.update _ a _)) ?_)
    exact ⟨_, es2, _, t3, ho2, hex, rfl, ElemsOf.perm g1 pm, (pm.map kOf).nodup_iff.mpr nd1, fun k => (m1 k).trans (pm.map kOf).mem_iff.symm, by rw [hsz]; exact hn, hf3, hr3, hl.imp id fun z => by rw [hl3]; exact z⟩
  · rw [if_neg hc]
    exact wpAny_pure (hR _ sb1 ⟨_, es1, _, t2, ho1, hex, rfl, g1, nd1, m1, hn, hf2, hr, hl⟩)
theorem kset_add {k : Key} {x : Value} {Q : Bool → Shared → Prop} (R : KSet P w s.heap a L) (hkey : (mixKind P w).is k x = true) (room : L.length + 1 ≤ 1000)
    (hQ : ∀ b h', Heap.SameBut a s.heap h' → KSet P w h' a (L ++ [k]) → Q b { s with heap := h' }) :
    wpAny (model P w) A (setAddHashed a x ((mixKind P w).hash k)) Q E s := by
  obtain ⟨o, es, ep, t, ho, hex, hd, hel, nd, hm, hn, hf, hr, hl⟩ := R
  have hsc : x.scannable = true := (kOfV_is hkey).2.2
  have hkx : kOfV x = k := (kOfV_is hkey).1
  have hb : es.size < scanBound := by unfold scanBound; omega
  have lenA : (L ++ [k]).length = L.length + 1 := by rw [List.length_append, List.length_singleton]
  unfold setAddHashed setAddHashedIn
  refine wpAny_holding (wpAny_bind (wpAny_setState_of ho hd hf ?_))
  dsimp only
  rw [byScan_of hsc hb hel]
  simp only [↓reduceIte]
  unfold setAddByScan
  refine wpAny_bind ?_
  refine wpAny_bind (wpAny_rule ?_)
  refine wpAny_bind (wpAny_setScan_of hkey ho hd hf hel ?_)
  cases hfi : List.findIdx? (fun e => (mixKind P w).is k e.2) es.toList with
  | some j =>
    dsimp only
    obtain ⟨hj, pj, _⟩ := List.findIdx?_eq_some_iff_getElem.mp hfi
    have hk : k ∈ es.toList.map kOf := (el_mem hel k).2 ⟨es.toList[j], List.getElem_mem hj, pj⟩
    refine wpAny_pure (wpAny_pure ?_)
    refine hQ false s.heap (Heap.SameBut.refl a s.heap) ⟨o, es, ep, t, ho, hex, hd, hel, nd, fun i => ?_, by rw [lenA]; omega, hf, hr, hl⟩
    rw [List.mem_append, List.mem_singleton, hm i]
    exact ⟨fun z => z.elim id fun e => by rw [e]; exact hk, .inl⟩
  | none =>
    dsimp only
    have hnk : k ∉ es.toList.map kOf := fun z => by
      obtain ⟨e, he, q⟩ := (el_mem hel k).1 z
      have c := List.findIdx?_eq_none_iff.mp hfi e he
      rw [q] at c
      cases c
    have hgw : ∀ (b : Bool) (s₁ : Shared) (Q' : Unit → Shared → Prop), Q' () s₁ → wpAny (model P w) A (match b with | true => rule "set.scan.the-table-gave-way" | false => pure ()) Q' E s₁ :=
      fun b s₁ Q' q => by cases b <;> first | exact wpAny_pure q | exact wpAny_rule q
    have pm := layNew_perm t es ((mixKind P w).hash k) x
    have hf1 := layNew_fits t es ((mixKind P w).hash k) x
    have hr1 := layNew_ris t es ((mixKind P w).hash k) x hr
    have hl1 := layNew_led t es ((mixKind P w).hash k) x
    generalize layNew t es ((mixKind P w).hash k) x = Z at pm hf1 hr1 hl1 ⊢
    obtain ⟨es1, t1, wasDummy, gave⟩ := Z
    dsimp only at pm hf1 hr1 hl1 ⊢
    rw [Array.toList_push] at pm
    have pc : es1.toList.Perm (((mixKind P w).hash k, x) :: es.toList) := pm.trans (List.perm_append_singleton _ _)
    have pk : (es1.toList.map kOf).Perm (k :: es.toList.map kOf) := by
      have z := pc.map kOf
      rw [List.map_cons, show kOf ((mixKind P w).hash k, x) = k from hkx] at z
      exact z
    have g1 : ElemsOf (mixKind P w) es1.toList := fun e he => by
      rcases List.mem_cons.mp (pc.mem_iff.mp he) with z | z
      · rw [z]; exact ⟨⟨k, hkey, rfl⟩, hsc⟩
      · exact hel e z
    have nd1 : (es1.toList.map kOf).Nodup := pk.nodup_iff.mpr (List.nodup_cons.mpr ⟨hnk, nd⟩)
    have m1 : ∀ i, i ∈ L ++ [k] ↔ i ∈ es1.toList.map kOf := fun i => by
      rw [List.mem_append, List.mem_singleton, hm i, pk.mem_iff, List.mem_cons]
      exact Or.comm
    have hsz : es1.size = es.size + 1 := by rw [← Array.length_toList, pc.length_eq, List.length_cons, Array.length_toList]
    have hn1 : es1.size ≤ (L ++ [k]).length := by rw [hsz, lenA]; omega
    have hled : w.params.followText "set-order" = true ∨ t1.led = true := hl.imp id fun z => by rw [hl1]; exact z
    have hL1 : (L ++ [k]).length ≤ 1000 := by rw [lenA]; exact room
    refine wpAny_bind (hgw _ _ _ ?_)
    split
    · refine wpAny_bind ?_
      rw [hashByValue_scannable 8 hsc]
      refine wpAny_pure ?_
      refine kset_tail (n := 0) ho hex hd g1 nd1 m1 hn1 hL1 ?_ ?_ ?_ ?_ ?_
      · first | (split <;> first | exact hf1 | exact SetTable.fits_plain_off hf1) | exact hf1
      · first | (split <;> exact hr1) | exact hr1
      · first | (split <;> exact hled) | exact hled
      · intro b s₁ Q' q; cases b <;> first | exact wpAny_pure q | exact wpAny_rule q
      · intro h' sb r; dsimp only; exact wpAny_pure (hQ _ h' sb r)
    · refine wpAny_bind (wpAny_pure ?_)
      simp only [↓reduceIte]
      refine kset_tail (n := 0) ho hex hd g1 nd1 m1 hn1 hL1 hf1 hr1 hled ?_ ?_
      · intro b s₁ Q' q; cases b <;> first | exact wpAny_pure q | exact wpAny_rule q
      · intro h' sb r; dsimp only; exact wpAny_pure (hQ _ h' sb r)
/-- the step: the i-th item, of the key ks[i] -/
theorem kset_step {S : Addr} {items : Array Value} {h0 : Heap} {u : Nat} {ks : List Key} (hk : ∀ (i : Nat) (v : Value), items[i]? = some v → ∃ k, ks[i]? = some k ∧ keyIs k v = true) (hL : ks.length ≤ 999) : SetStep P w S items h0 u (fun i h => KSet P w h S (ks.take i)) where
  keep := fun i h h' R k _ => R.at k
  add := fun A E i v s Q _ hv R _ hQ => by
    obtain ⟨k, e, hkv⟩ := hk i v hv
    unfold setAdd
    refine wpAny_holding (wpAny_bind ((mixKind P w).pyHash (k := k) hkv ?_))
    refine kset_add (s := { s with toks := s.toks + 1 }) R hkv (by rw [List.length_take]; omega) fun b h' sb R' => ?_
    refine hQ b h' (s.toks + 1) (Nat.le_succ _) sb ?_
    rw [show ks.take (i + 1) = ks.take i ++ [k] by rw [List.take_succ, e] <;> rfl]
    exact R'
def dK : Key → PyData
  | .inl i => .int i
  | .inr x => .str x
def kSame : List Key → Prop := fun ks => (∀ k ∈ ks, ∃ i, k = .inl i) ∨ (∀ k ∈ ks, ∃ x, k = .inr x)
/-- sorted(set) -/
theorem ksorted {Q : Value → Shared → Prop} (R : KSet P w s.heap a L) (hs : kSame L) (hh : A.handled = none) (hL : L.length ≤ 1000) (hu : A.units + 16 < cLine)
    (hQ : ∀ s' p (out : List Value) (c : Nat) (es : List Key), (∀ b o, s.heap.get? b = some o → s'.heap.get? b = some o) → s'.gens = s.gens → s'.os = s.os → s.heap.objs.size ≤ p →
      s'.heap.get? p = some (seqObj "list" out.toArray c) → Vals (es.map kV) out → es.Nodup → (∀ k, k ∈ es ↔ k ∈ L) → es.length ≤ L.length → Q (.ref p) s') :
    wpAny (model P w) A (call (.builtin "sorted") [.ref a]) Q E s := by
  obtain ⟨o, es, ep, t, ho, hex, hd, hel, nd, hm, hn, hf, hr, hl⟩ := R
  refine Calls.call_function_entry kind_sorted plain_sorted entry_sorted (args_sorted1 _) ?_
  unfold Builtin.«sorted»
  refine wpAny_bind (m := checkCount "sorted" 1 1 _) (wpAny_pure ?_)
  refine wpAny_bind (collect_set (A := A.in1) hh ⟨o, ho, hex.1, hd⟩ hf (by unfold scanBound; omega) hr hl fun s1 vs k1 hz g1 o1 pm => ?_)
  have pk : (vs.map kOfV).Perm (es.toList.map kOf) := by
    have z := pm.map kOfV
    rw [List.map_map] at z
    exact z
  have hvl : vs.length ≤ L.length := by
    rw [pm.length_eq, List.length_map, Array.length_toList]
    exact hn
  have good : ∀ v ∈ vs, RelV (kV (kOfV v)) v := fun v hv => by
    obtain ⟨e, he, q⟩ := List.mem_map.mp (pm.mem_iff.mp hv)
    obtain ⟨⟨k, h1, _⟩, _⟩ := hel e he
    obtain ⟨h2, h3, _⟩ := kOfV_is h1
    rw [← q, h2]
    exact h3
  have hsame : kSame (vs.map kOfV) := hs.imp (fun h k hk => h k ((hm k).mpr (pk.mem_iff.mp hk))) fun h k hk => h k ((hm k).mpr (pk.mem_iff.mp hk))
  refine wpAny_bind (wpAny_newList ?_ (by rw [sizeLine_eq]; omega))
  have hoL : (s1.heap.push (seqObj "list" vs.toArray 0)).get? s1.heap.objs.size = some (seqObj "list" vs.toArray 0) := Heap.get?_push_size _ rfl
  have er : ∀ (l : List Value), (∀ v ∈ l, RelV (kV (kOfV v)) v) → EachIs (fun v k => RelV (kV k) v) l (l.map kOfV) := by
    intro l
    induction l with
    | nil => intro _; exact .nil
    | cons v l ih => intro h; exact .cons (h v List.mem_cons_self) (ih fun u hu => h u (List.mem_cons_of_mem _ hu))
  have hE := er vs good
  have al : AllAlike ((vs.map kOfV).map dK) := fun d hd d' hd' => by
    obtain ⟨k, hk, rfl⟩ := List.mem_map.mp hd
    obtain ⟨k', hk', rfl⟩ := List.mem_map.mp hd'
    rcases hsame with h | h
    · obtain ⟨i, rfl⟩ := h k hk
      obtain ⟨j, rfl⟩ := h k' hk'
      simp [dK, PySem.W.alike]
    · obtain ⟨i, rfl⟩ := h k hk
      obtain ⟨j, rfl⟩ := h k' hk'
      simp [dK, PySem.W.alike]
  have so : Sortable ((vs.map kOfV).map dK) := .inr fun d hd => by
    obtain ⟨k, hk, rfl⟩ := List.mem_map.mp hd
    cases k with
    | inl i => exact ⟨fun z => (by cases z), fun xs z => (by cases z)⟩
    | inr i => exact ⟨fun z => (by cases z), fun xs z => (by cases z)⟩
  have dep : ∀ k, (dK k).depth = 0 := fun k => by
    cases k <;> simp [dK, PyData.depth]
  refine wpAny_bind (wpAny_holding (PySem.W.list_sort_data (s := { s1 with heap := s1.heap.push (seqObj "list" vs.toArray 0) }) (R := fun v k => RelV (kV k) v) (enc := dK) hoL hE (hE.mono fun v k r => ?_) al so (by rw [List.length_map, sizeLine_eq]; omega) (fun k _ => by rw [dep k]; simp only [Around.in1]; omega) fun out hol ho' => ?_))
  · cases k with
    | inl i =>
      obtain ⟨t, rfl⟩ := r
      exact ⟨[], .int _ _, by simp⟩
    | inr i =>
      obtain ⟨t, rfl⟩ := r
      exact ⟨[], .str _ _, by simp⟩
  · obtain ⟨c, hc⟩ := sortedHeap_at (vs := vs) (out := out.toArray) hoL
    have p2 : ((vs.map kOfV).mergeSort (dataLe false dK)).Perm (es.toList.map kOf) := (List.mergeSort_perm _ _).trans pk
    have toV : ∀ {l : List Value} {ks : List Key}, EachIs (fun v k => RelV (kV k) v) l ks → Vals (ks.map kV) l := by
      intro l ks h
      induction h with
      | nil => exact .nil
      | cons r t ih => exact .cons r ih
    refine wpAny_pure ⟨_, rfl, hQ _ s1.heap.objs.size out c _ (fun b u e => ?_) g1 o1 hz hc (toV ho') (p2.nodup_iff.mpr nd) (fun k => by rw [p2.mem_iff, hm k]) (by rw [p2.length_eq, List.length_map, Array.length_toList]; exact hn)⟩
    have q := k1 b u e
    have hlt := Heap.lt_size q
    show (sortedHeap (s1.heap.push (seqObj "list" vs.toArray 0)) s1.heap.objs.size vs out.toArray).get? b = some u
    rw [sortedHeap_old (Nat.ne_of_lt hlt) (by rw [size_push']; exact Nat.lt_succ_of_lt hlt)]
    exact Heap.get?_push_of_some _ q
end
/-- sorted(set(e)) -/
def tSortSet (ta : TE) : TE := fun σ H Q => ta σ H fun x H1 => ∃ (l : Addr) (ks : List Key), x = V.ref l ∧ H1 l = some (.lst (ks.map kV)) ∧ kSame ks ∧ ks.length ≤ 999 ∧ ∀ (p : Addr) (es : List Key), H1 p = none → es.Nodup → (∀ k, k ∈ es ↔ k ∈ ks) → es.length ≤ ks.length → Q (.ref p) (upd H1 p (.lst (es.map kV)))
section
variable {X : Cx} {e : Expr} {te : TE} {p p2 q pos : Pos}
theorem pe_sortSet (hc : X.calm = true) (hu : X.A.units + 64 < cLine) (hg : Gl X "sorted") (hm : X.mg "sorted" = none) (hg2 : Gl X "set") (hm2 : X.mg "set" = none) (ha : PE X e te)
    (na : starEach [e] X.env = (false, eval e X.env) :: starEach [] X.env := by rfl) : PE X (.Call (.Name "sorted" p) [.Call (.Name "set" p2) [e] [] q] [] pos) (tSortSet te) := by
  refine ⟨fun pins s σ H Q I h => ?_⟩
  refine Call_ (ld_blt I hg hm boot_sorted ?_)
  refine PyProof.Rows.callWith_builtin1 (PyProof.Rows.args_cons ?_ rfl) rfl rfl
  refine Call_ (ld_blt I hg2 hm2 boot_set ?_)
  refine PyProof.Rows.callWith_type1 (PyProof.Rows.args_cons (thn (ha.run pins s σ H _ I h) fun v s1 ⟨x, H1, I1, r1, q1⟩ => PyProof.Rows.args_nil ?_) na) na rfl
  obtain ⟨l, ks, rfl, hl, hs, hln, qq⟩ := q1
  cases r1
  obtain ⟨its, rv, pl, hz⟩ := I1.list (SqL.of hl)
  have hkv : ∀ (i : Nat) (v : Value), its.toArray[i]? = some v → ∃ k, ks[i]? = some k ∧ keyIs k v = true := fun i v hv => by
    have hv' : its[i]? = some v := by simpa using hv
    cases hk : (ks.map kV)[i]? with
    | none =>
      rw [rv.none_of hk] at hv'
      cases hv'
    | some x =>
      obtain ⟨u, hu', ru⟩ := rv.get hk
      rw [hv'] at hu'
      cases hu'
      rw [List.getElem?_map] at hk
      cases hk2 : ks[i]? with
      | none => rw [hk2] at hk; cases hk
      | some k =>
        rw [hk2] at hk
        cases hk
        exact ⟨k, rfl, keyIs_rel ru⟩
  have hsz : its.toArray.size = ks.length := by rw [List.size_toArray, ← rv.length, List.length_map]
  refine set_call (I1.ok.hd hc) pl.isList (kset_step (u := X.A.units + 9) hkv hln) (by omega) (fun g e _ => ?_) fun h' tk R hk => ?_
  · rw [List.take_zero]
    exact kset_new e
  · refine PyProof.Rows.args_nil ?_
    rw [hsz, List.take_length] at R
    have I2 : Inv X pins σ H1 { s1 with heap := h', toks := tk } := I1.kept hk
    refine ksorted (s := { s1 with heap := h', toks := tk }) R hs (I2.ok.hd hc) (by omega) (by omega) fun s' pp out c es k g o hp hgp hv nd hmem hle => ?_
    have hn : H1 pp = none := I2.hok.fresh hp
    have hll : (es.map kV).length ≤ sizeLine := by rw [List.length_map, sizeLine_eq]; omega
    have J : Inv X pins σ (upd H1 pp (.lst (es.map kV))) { ({ s1 with heap := h', toks := tk } : Shared) with heap := s'.heap, gens := s'.gens, drawn := s'.drawn, toks := s'.toks } :=
      I2.call (ch := []) (Un.laid k hp hn) (I2.hok.laid k hp ⟨hll, out, c, hv, hgp⟩) (by rw [g]; exact I2.bare) (fun _ z => nomatch z)
    have e : s' = { s1 with heap := s'.heap, gens := s'.gens, drawn := s'.drawn, toks := s'.toks } := by
      cases s'
      cases s1
      cases o
      rfl
    rw [e]
    exact ⟨.ref pp, _, J, rfl, qq pp es hn nd hmem hle⟩
end
section
variable {T : Tbs} {M : Ct} {σ : L2.St} {H : Hp} {te : TE}
theorem IsA.keys {M : Ct} {H : Hp} : ∀ {ks : List Key} {vs : List V}, IsA M H vs (ks.map dK) → vs = ks.map kV
  | [], _, h => by cases h; rfl
  | .inl i :: ks, _, h => by
    cases h with
    | cons h1 h2 =>
      cases h1
      rw [List.map_cons, IsA.keys h2] <;> rfl
  | .inr i :: ks, _, h => by
    cases h with
    | cons h1 h2 =>
      cases h1
      rw [List.map_cons, IsA.keys h2] <;> rfl
theorem IsA.of_keys {M : Ct} {H : Hp} : ∀ (ks : List Key), IsA M H (ks.map kV) (ks.map dK)
  | [] => .nil
  | .inl i :: ks => .cons (.int i) (IsA.of_keys ks)
  | .inr i :: ks => .cons (.str i) (IsA.of_keys ks)
theorem ex_sortSet {p : List Key → Prop} (h : EX T M te σ H (fun d => ∃ ks : List Key, d = .list (ks.map dK) ∧ p ks)) (hp : ∀ ks, p ks → kSame ks ∧ ks.length ≤ 999) :
    EX T M (tSortSet te) σ H (fun d => ∃ ks es : List Key, d = .list (es.map dK) ∧ p ks ∧ es.Nodup ∧ (∀ k, k ∈ es ↔ k ∈ ks) ∧ es.length ≤ ks.length) := fun H1 x g Q q => h H1 x g _ fun v H2 d pd x2 g2 vd => by
  obtain ⟨ks, e, pk⟩ := pd
  subst e
  cases vd with
  | lst n ha hs =>
    have e := hs.keys
    subst e
    obtain ⟨h1, h2⟩ := hp ks pk
    exact ⟨_, ks, rfl, ha, h1, h2, fun pp es np nd hm hl => q _ _ _ ⟨ks, es, rfl, pk, nd, hm, hl⟩ (x2.trans (Xq.new np)) (g2.new np) (.lst (g2.fresh np) upd_same (IsA.of_keys es))⟩
end
end Rk
set_option Elab.async false
set_option linter.all false
set_option maxRecDepth 100000
set_option maxHeartbeats 4000000
/-! Lh: len(set(xs)), xs tuples of whole numbers and texts, no two alike -/
namespace Rk
open PySem PySem.Spec PyProof.Rows L2
abbrev Row0 := Addr × List Key
section
variable {P : Program} {w : World} {A : Around} {E : Value → Shared → Prop} {s : Shared}
abbrev TKy (P : Program) (w : World) (h : Heap) (k : List Key) (a : Addr) : Prop := IsTupleKey (mixKind P w) h k a
abbrev hK (P : Program) (w : World) (k : List Key) : Int := tupleKeyHash (mixKind P w) k
abbrev rowK (P : Program) (w : World) (p : Row0) : Int × Value := (hK P w p.2, Value.ref p.1)
theorem items_byv {k : List Key} {vs : List Value} (h : ItemsAre (mixKind P w) k vs) : ∀ v ∈ vs, ∃ k', keyIs k' v = true := by
  induction h with
  | nil => intro v hv; cases hv
  | @cons k0 v' ks vs h1 _ ih =>
    intro v hv
    rcases List.mem_cons.mp hv with e | hv
    · exact ⟨k0, by rw [e]; exact h1⟩
    · exact ih v hv
theorem ofA_key (n : Nat) {k : Key} {v : Value} (h : keyIs k v = true) : ofAClassStatement n v = pure false := by
  rcases keyIs_shape h with ⟨i, t, _, rfl⟩ | ⟨x, t, _, rfl⟩ <;> cases n <;> rfl
theorem hashBy_key (n : Nat) {k : Key} {v : Value} (h : keyIs k v = true) : ∃ b, hashByValue n v = pure b := ⟨_, hashByValue_scannable n (kOfV_is h).2.2⟩
theorem ofA_tup {k : List Key} {b : Addr} {Q : Bool → Shared → Prop} (hk : TKy P w s.heap k b) (h : Q false s) : wpAny (model P w) A (ofAClassStatement 8 (.ref b)) Q E s := by
  have hT := hk.typeIs
  obtain ⟨o, items, n, ho, _, hd, hi⟩ := hk
  unfold ofAClassStatement
  refine wpAny_bind (wpAny_typeOf hT ?_)
  dsimp only
  have e : (("tuple" : String) == "tuple") = true := by decide
  simp only [e, if_true, Bool.not_true, Bool.false_eq_true, if_false]
  try refine wpAny_bind (wpAny_pure ?_)
  try simp only [Bool.not_true, Bool.false_eq_true, if_false]
  show wpAny _ _ (seqItems? (.ref b) >>= _) _ _ s
  refine wpAny_bind (wpAny_seqItems ho hd ?_)
  dsimp only
  refine wpAny_bind ?_
  show wpAny _ _ (forIn items _ _) _ _ s
  rw [← Array.forIn_toList]
  refine wpAny_forIn_list _ (fun rest r s' => r.1 = none ∧ s' = s ∧ ∀ v ∈ rest, ∃ k', keyIs k' v = true) _ ?_ ?_ _ _ ⟨rfl, rfl, items_byv hi⟩
  · rintro v rest r s' ⟨hr, rfl, hall⟩
    obtain ⟨k', hk'⟩ := hall v List.mem_cons_self
    rw [ofA_key 7 hk']
    refine wpAny_bind (wpAny_pure ?_)
    simp only [Bool.false_eq_true, if_false]
    exact wpAny_pure ⟨rfl, rfl, fun u hu' => hall u (List.mem_cons_of_mem _ hu')⟩
  · rintro ⟨r1, r2⟩ s' ⟨hr, rfl, _⟩
    simp only at hr
    subst hr
    exact wpAny_pure h
theorem hashBy_tup' {k : List Key} {b : Addr} {Q : Bool → Shared → Prop} (hk : TKy P w s.heap k b) (h : ∀ r, Q r s) : wpAny (model P w) A (hashByValue 8 (.ref b)) Q E s := by
  have hT := hk.typeIs
  obtain ⟨o, items, n, ho, _, hd, hi⟩ := hk
  unfold hashByValue
  refine wpAny_bind (wpAny_specialOf hT F.slot_tuple_hash.lookup ?_)
  show wpAny _ _ (seqItems? (.ref b) >>= _) _ _ s
  refine wpAny_bind (wpAny_seqItems ho hd ?_)
  refine wpAny_bind ?_
  show wpAny _ _ (forIn items _ _) _ _ s
  rw [← Array.forIn_toList]
  refine wpAny_mono (wpAny_forIn_list _ (fun rest r s' => r.1 = none ∧ s' = s ∧ ∀ v ∈ rest, ∃ k', keyIs k' v = true) (fun r s' => s' = s) ?_ ?_ _ _ ⟨rfl, rfl, items_byv hi⟩) (fun r s' e => ?_) fun _ _ x => x
  · rintro v rest r s' ⟨hr, rfl, hall⟩
    obtain ⟨k', hk'⟩ := hall v List.mem_cons_self
    obtain ⟨bb, hb⟩ := hashBy_key 7 hk'
    rw [hb]
    refine wpAny_bind (wpAny_pure ?_)
    cases bb with
    | true =>
      simp only [Bool.not_true, Bool.false_eq_true, if_false]
      exact wpAny_pure ⟨rfl, rfl, fun u hu' => hall u (List.mem_cons_of_mem _ hu')⟩
    | false =>
      simp only [Bool.not_false, if_true]
      exact wpAny_pure rfl
  · rintro r s' ⟨_, rfl, _⟩
    rfl
  · subst e
    obtain ⟨r1, r2⟩ := r
    cases r1 with
    | none => exact wpAny_pure (h _)
    | some z => exact wpAny_pure (h _)
theorem seen_no {k : List Key} {b : Addr} {Q : Bool → Shared → Prop} (hk : TKy P w s.heap k b) {ys : List Value} (hy : ∀ y ∈ ys, ∃ k' c, y = Value.ref c ∧ TKy P w s.heap k' c) (h : Q false s) :
    wpAny (model P w) A (searchCouldBeSeen (.ref b) ys) Q E s := by
  unfold searchCouldBeSeen
  refine wpAny_bind ?_
  refine wpAny_forIn_list _ (fun rest r s' => r.1 = none ∧ s' = s ∧ ∀ y ∈ rest, ∃ k' c, y = Value.ref c ∧ TKy P w s.heap k' c) _ ?_ ?_ _ _ ⟨rfl, rfl, hy⟩
  · rintro v rest r s' ⟨hr, rfl, hall⟩
    obtain ⟨k', c, rfl, hc⟩ := hall v List.mem_cons_self
    have more : ∀ y ∈ rest, ∃ k' c, y = Value.ref c ∧ TKy P w s'.heap k' c := fun u hu' => hall u (List.mem_cons_of_mem _ hu')
    dsimp only
    by_cases hv : (b == c || (carriedByValue (.ref b) && carriedByValue (.ref c))) = true
    · exact wp_if_pos hv (wpAny_pure ⟨rfl, rfl, more⟩)
    · refine wp_if_neg hv ?_
      refine wpAny_bind (wpAny_eqIsQuiet_tuple hk ?_)
      simp only [Bool.not_true, Bool.false_eq_true, if_false]
      refine wpAny_bind (wpAny_eqIsQuiet_tuple hc ?_)
      simp only [Bool.not_true, Bool.false_eq_true, if_false]
      refine wpAny_bind (ofA_tup hk ?_)
      simp only [Bool.false_eq_true, if_false]
      refine wpAny_bind (ofA_tup hc ?_)
      simp only [Bool.false_eq_true, if_false]
      exact wpAny_pure ⟨rfl, rfl, more⟩
  · rintro ⟨r1, r2⟩ s' ⟨hr, rfl, _⟩
    simp only at hr
    subst hr
    exact wpAny_pure h
/-- the set, its rows in the table's order -/
structure TSt (P : Program) (w : World) (h : Heap) (a : Addr) (L : List Row0) (es : Array (Int × Value)) (ep : Nat) (t : SetTable) : Prop where
  ob : ∃ o, h.get? a = some o ∧ o.ExactSet ∧ o.data = .set es ep t
  rows : es.toList = L.map (rowK P w)
  tab : TabOk t (L.map fun p => hK P w p.2)
  tup : ∀ p ∈ L, TKy P w h p.2 p.1
  led : w.params.followText "set-order" = true ∨ t.led = true
  room : L.length * 5 < t.mask * 3
  few : L.length < 64
variable {a : Addr} {L : List Row0} {es : Array (Int × Value)} {ep : Nat} {t : SetTable}
theorem TSt.size (R : TSt P w s.heap a L es ep t) : es.size = L.length := by
  rw [← Array.length_toList, R.rows, List.length_map]
theorem TSt.fits (R : TSt P w s.heap a L es ep t) : t.fits es.size = true := by
  have h1 := R.tab.sz
  rw [List.length_map] at h1
  have h2 := R.size
  have h3 := R.room
  unfold SetTable.fits SetTable.fill
  rw [R.tab.dm, Bool.and_eq_true, beq_iff_eq, decide_eq_true_eq]
  show t.place.size = es.size ∧ t.place.size + 0 ≤ t.mask
  omega
theorem TSt.entry (R : TSt P w s.heap a L es ep t) {i : Nat} {p : Row0} (h : L[i]? = some p) : es[i]? = some (rowK P w p) := by
  rw [← Array.getElem?_toList, R.rows, List.getElem?_map, h] <;> rfl
theorem TSt.odd (R : TSt P w s.heap a L es ep t) : ¬ t.gaveWay = true := by
  unfold SetTable.gaveWay
  rw [mask_odd R.tab.mok]
  decide
/-- a key that is not there is not found -/
theorem look_from (R : TSt P w s.heap a L es ep t) {x : Addr} {k : List Key} (hx : TKy P w s.heap k x) (hne : ∀ p ∈ L, p.2 ≠ k) (hu : A.units < cLine) {K : Nat} (hKf : K < 10 * SetTable.turns t.mask)
    (hKn : way t.mask (hK P w k) K ∉ t.place.toList) (hKb : ∀ c, c < K → way t.mask (hK P w k) c ∈ t.place.toList) {Q : SetFound → Shared → Prop} (hout : Q (.free (way t.mask (hK P w k) K) false) s) :
    ∀ (f c : Nat) (stand : Option SetTable.Probe), stand.getD (t.probeStart (hK P w k)) = nth t.mask (runAt t.mask (SetTable.bits (hK P w k) % (t.mask + 1)) (SetTable.bits (hK P w k))) c → c ≤ K → K - c < f →
      wpAny (model P w) A (setSearchFrom a (.ref x) (hK P w k) true f stand) Q E s
  | 0, c, stand, _, _, hf => absurd hf (Nat.not_lt_zero _)
  | f + 1, c, stand, hst, hc, hf => by
    obtain ⟨o, ho, hex, hd⟩ := R.ob
    rw [setSearchFrom_succ]
    refine wpAny_bind (wpAny_setState_of ho hd R.fits ?_)
    dsimp only
    refine wp_if_neg R.odd ?_
    try refine wpAny_bind (wpAny_pure ?_)
    have nodm : ∀ (n : Nat) (p : SetTable.Probe), p.dummy = none → (nth t.mask p n).dummy = none := by
      intro n
      induction n with
      | zero => intro p h; exact h
      | succ n ih =>
        intro p h
        refine ih (adv t.mask p) ?_
        unfold adv
        split <;> exact h
    have sh : ∀ q, nth t.mask (nth t.mask (runAt t.mask (SetTable.bits (hK P w k) % (t.mask + 1)) (SetTable.bits (hK P w k))) c) q = nth t.mask (runAt t.mask (SetTable.bits (hK P w k) % (t.mask + 1)) (SetTable.bits (hK P w k))) (c + q) := fun q => (nth_add t.mask c _ q).symm
    have shj : ∀ q, (nth t.mask (nth t.mask (runAt t.mask (SetTable.bits (hK P w k) % (t.mask + 1)) (SetTable.bits (hK P w k))) c) q).j = way t.mask (hK P w k) (c + q) := fun q => congrArg SetTable.Probe.j (sh q)
    have spec := go_spec t R.tab.ris R.tab.dm (fun i => (es[i]?.map (·.1)).getD 0) (hK P w k) (10 * SetTable.turns t.mask) (K - c) _ (nodm c _ rfl) (by omega)
      (fun q hq => by rw [shj]; exact hKb (c + q) (by omega)) (by rw [shj, show c + (K - c) = K by omega]; exact hKn)
    rcases spec with ⟨q, i, hq, hi, hh, _, hpr⟩ | ⟨_, hpr⟩
    · have hpr' : t.probe (fun i => (es[i]?.map (·.1)).getD 0) (hK P w k) (stand.getD (t.probeStart (hK P w k))) = some (.candidate (way t.mask (hK P w k) (c + q)) i (nth t.mask (runAt t.mask (SetTable.bits (hK P w k) % (t.mask + 1)) (SetTable.bits (hK P w k))) (c + (q + 1)))) := by
        rw [hst, ← shj, ← sh]
        exact hpr
      rw [hpr']
      dsimp only
      rw [shj] at hi
      have hil : i < L.length := by
        have h1 : i < t.place.toList.length := (List.getElem?_eq_some_iff.mp hi).1
        have h2 := R.tab.sz
        rw [List.length_map] at h2
        rw [Array.length_toList] at h1
        omega
      have hp : L[i]? = some L[i] := List.getElem?_eq_getElem hil
      generalize L[i] = p at hp
      have hmem : p ∈ L := List.mem_of_getElem? hp
      have hkk : p.2 ≠ k := hne p hmem
      have cont : wpAny (model P w) A (searchRest a (.ref x) (hK P w k) true f es t (way t.mask (hK P w k) (c + q)) i (nth t.mask (runAt t.mask (SetTable.bits (hK P w k) % (t.mask + 1)) (SetTable.bits (hK P w k))) (c + (q + 1)))) Q E s := by
        unfold searchRest
        rw [R.entry hp]
        dsimp only
        refine wpAny_bind (wpAny_holding (wpAny_eqBool_tuple hu (R.tup p hmem) hx ?_))
        refine wpAny_bind (wpAny_setState_of ho hd R.fits ?_)
        dsimp only
        refine wp_if_neg (by simp [hkk]) ?_
        try refine wpAny_bind (wpAny_pure ?_)
        rw [sameMem]
        dsimp only
        have hsl : t.slot (way t.mask (hK P w k) (c + q)) = .live i := slot_live R.tab.ris hi
        simp only [if_true, hsl, R.entry hp]
        refine wpAny_bind (wpAny_isSame_ref_self (wpAny_bind (wpAny_pure ?_)))
        simp only [if_true]
        refine wp_if_neg (by simp [hkk]) ?_
        exact look_from R hx hne hu hKf hKn hKb hout f (c + (q + 1)) _ rfl (by omega) (by omega)
      by_cases hl : t.led = true
      · refine wp_if_neg (by simp [hl]) ?_
        try refine wpAny_bind (wpAny_pure ?_)
        exact cont
      · refine wp_if_pos (by simp [hl]) ?_
        refine wpAny_bind (seen_no hx (fun y hy => ?_) ?_)
        · obtain ⟨e, he, ee⟩ := List.mem_map.mp hy
          have he1 : e ∈ es ∧ e.1 = hK P w k := by simpa using he
          have he2 : e ∈ es.toList := by simpa using he1.1
          rw [R.rows] at he2
          obtain ⟨p2, hp2, e2⟩ := List.mem_map.mp he2
          exact ⟨p2.2, p2.1, by rw [← ee, ← e2], R.tup p2 hp2⟩
        · refine wp_if_neg (by decide) ?_
          try refine wpAny_bind (wpAny_pure ?_)
          exact cont
    · have hpr' : t.probe (fun i => (es[i]?.map (·.1)).getD 0) (hK P w k) (stand.getD (t.probeStart (hK P w k))) = some (.empty (way t.mask (hK P w k) K) none) := by
        have e2 : way t.mask (hK P w k) K = (nth t.mask (nth t.mask (runAt t.mask (SetTable.bits (hK P w k) % (t.mask + 1)) (SetTable.bits (hK P w k))) c) (K - c)).j := by
          rw [shj, show c + (K - c) = K by omega]
        rw [hst, e2]
        exact hpr
      rw [hpr']
      exact wpAny_pure hout
theorem tky_same {h h' : Heap} {k : List Key} {b : Addr} {o : Obj} (hb : TKy P w h k b) (ho : h.get? a = some o) (hd : o.data = .set es ep t) (hs : Heap.SameBut a h h') : TKy P w h' k b := by
  obtain ⟨o', items, n, ho', hc, hd', hi⟩ := hb
  refine ⟨o', items, n, (hs.2 b fun z => ?_).trans ho', hc, hd', hi⟩
  rw [z, ho] at ho'
  cases ho'
  rw [hd] at hd'
  exact nomatch hd'
theorem pick_all {α : Type} (L : List α) : (List.range L.length).filterMap (fun i => L[i]?) = L := by
  have go : ∀ n, n ≤ L.length → (List.range n).filterMap (fun i => L[i]?) = L.take n := by
    intro n
    induction n with
    | zero => intro _; rfl
    | succ n ih =>
      intro hn
      rw [List.range_succ, List.filterMap_append, ih (Nat.le_of_lt hn), List.take_succ, List.getElem?_eq_getElem hn, List.filterMap_cons_some (List.getElem?_eq_getElem hn)] <;> rfl
  rw [go _ (Nat.le_refl _), List.take_length]
theorem pick_map {α β : Type} (f : α → β) (d : β) (L : List α) (xs : Array β) (hx : xs.toList = L.map f) : ∀ l : List Nat, (∀ i ∈ l, i < L.length) → (l.filterMap fun i => L[i]?).map f = l.map fun i => xs.getD i d := by
  intro l
  induction l with
  | nil => intro _; rfl
  | cons i l ih =>
    intro hl
    have hi := hl i List.mem_cons_self
    rw [List.filterMap_cons_some (List.getElem?_eq_getElem hi), List.map_cons, List.map_cons, ih fun j hj => hl j (List.mem_cons_of_mem _ hj)]
    congr 1
    have e : xs[i]? = some (f L[i]) := by
      rw [← Array.getElem?_toList, hx, List.getElem?_map, List.getElem?_eq_getElem hi] <;> rfl
    simp [Array.getD_eq_getD_getElem?, e]
theorem pick_es {α β : Type} (f : α → β) (L : List α) (xs : Array β) (hx : xs.toList = L.map f) : ∀ l : List Nat, l.filterMap (fun i => xs[i]?) = (l.filterMap fun i => L[i]?).map f := by
  intro l
  induction l with
  | nil => rfl
  | cons i l ih =>
    have e : xs[i]? = (L[i]?).map f := by rw [← Array.getElem?_toList, hx, List.getElem?_map]
    cases h : L[i]? with
    | none =>
      rw [h] at e
      rw [List.filterMap_cons_none (by rw [e] <;> rfl), List.filterMap_cons_none h, ih]
    | some y =>
      rw [h] at e
      rw [List.filterMap_cons_some (by rw [e] <;> rfl), List.filterMap_cons_some h, List.map_cons, ih]
/-- laid anew, larger -/
theorem tst_relay {o : Obj} (ho : s.heap.get? a = some o) (hex : o.ExactSet) (hd : o.data = .set es ep t) (hrows : es.toList = L.map (rowK P w)) (hsz : t.place.size = es.size) (hdm : t.dummies = #[]) (hfl : es.size ≤ t.mask)
    (tup : ∀ p ∈ L, TKy P w s.heap p.2 p.1) (ld : w.params.followText "set-order" = true ∨ t.led = true) (few : L.length < 64) {wanted M : Nat}
    (hw : SetTable.sizeAbove wanted - 1 = M) (hM : MaskOk M) (hw2 : SetTable.sizeAbove wanted ≤ 128) (hn : L.length * 5 < M * 3) {Q : Unit → Shared → Prop}
    (hQ : ∀ h' L' es' ep' t', Heap.SameBut a s.heap h' → TSt P w h' a L' es' ep' t' → L'.Perm L → Q () { s with heap := h' }) : wpAny (model P w) A (setRelay a wanted) Q E s := by
  have hsl : es.size = L.length := by rw [← Array.length_toList, hrows, List.length_map]
  have hfits : t.fits es.size = true := by
    unfold SetTable.fits SetTable.fill
    rw [hdm, Bool.and_eq_true, beq_iff_eq, decide_eq_true_eq]
    show t.place.size = es.size ∧ t.place.size + 0 ≤ t.mask
    omega
  obtain ⟨t', order, e, hp, T, em, el, _, ed⟩ := relaid_ok t (hs := es.map (·.1)) (wanted := wanted) hw hM (by rw [Array.size_map, hsl]; omega)
  rw [Array.size_map, hsl] at hp
  have hor : ∀ i ∈ order.toList, i < L.length := fun i hi => List.mem_range.mp (hp.mem_iff.mp hi)
  have r1 : (order.filterMap (es[·]?)).toList = (order.toList.filterMap fun i => L[i]?).map (rowK P w) := by
    have z := pick_es (rowK P w) L es hrows order.toList
    first | (rw [Array.toList_filterMap]; exact z) | simpa using z
  have r2 : (order.toList.filterMap fun i => L[i]?).Perm L := by
    have z := hp.filterMap fun i => L[i]?
    rw [pick_all] at z
    exact z
  have r3 : (order.toList.filterMap fun i => L[i]?).map (fun p => hK P w p.2) = order.toList.map fun i => (es.map (·.1)).getD i 0 := pick_map (fun p : Row0 => hK P w p.2) 0 L (es.map (·.1)) (by rw [Array.toList_map, hrows, List.map_map] <;> rfl) _ hor
  rw [← r3] at T
  generalize order.toList.filterMap (fun i => L[i]?) = L2 at T r1 r2
  have hs2 : (order.filterMap (es[·]?)).size = es.size := by
    rw [← Array.length_toList, r1, List.length_map, r2.length_eq, hsl]
  rw [setRelay_eq]
  refine wpAny_bind (wpAny_setState_of ho hd hfits ?_)
  dsimp only
  refine wp_if_neg (by rw [sizeLine_eq]; omega) ?_
  try refine wpAny_bind (wpAny_pure ?_)
  rw [e]
  dsimp only
  refine wpAny_bind ?_
  refine wp_if_neg (by rw [hs2]; simp) ?_
  try refine wpAny_bind (wpAny_pure ?_)
  refine wpAny_pure ?_
  dsimp only
  refine wpAny_storeSet_of ho hd ?_ (by rw [hs2, hsl, sizeLine_eq]; omega)
  have sb : Heap.SameBut a s.heap (s.heap.update a (Obj.putSet (order.filterMap (es[·]?)) t')) := Heap.SameBut.update ..
  refine hQ _ L2 (order.filterMap (es[·]?)) (ep + 1) t' sb ?_ r2
  exact ⟨⟨_, store_at ho hd, ⟨hex.1, hex.2.1, hex.2.2⟩, rfl⟩, r1, T, fun p hpm => tky_same (tup p (r2.mem_iff.mp hpm)) ho hd sb, by rw [el]; exact ld, by rw [r2.length_eq, em]; exact hn, by rw [r2.length_eq]; exact few⟩
theorem tabOk_plain {t : SetTable} {hs : List Int} {b : Bool} (T : TabOk t hs) : TabOk { t with plain := b } hs := ⟨T.ris, T.dm, T.sz, T.mok, T.bd, T.reach⟩
theorem tst_add (R : TSt P w s.heap a L es ep t) {x : Addr} {k : List Key} (hx : TKy P w s.heap k x) (hne : ∀ p ∈ L, p.2 ≠ k) (hu : A.units < cLine) (hfew : L.length + 1 < 64) {Q : Bool → Shared → Prop}
    (hQ : ∀ b h' L' es' ep' t', Heap.SameBut a s.heap h' → TSt P w h' a L' es' ep' t' → L'.Perm ((x, k) :: L) → Q b { s with heap := h' }) :
    wpAny (model P w) A (setAddHashed a (.ref x) (hK P w k)) Q E s := by
  obtain ⟨o, ho, hex, hd⟩ := R.ob
  have hsl := R.size
  have hroom := R.room
  obtain ⟨K, hKf, hKn, hKb⟩ := R.tab.first (by rw [List.length_map]; omega) (hK P w k)
  have hbig : K < 100000 := by
    have : 10 * SetTable.turns t.mask ≤ 1420 := by
      unfold SetTable.turns
      rcases R.tab.mok with e | e | e <;> omega
    omega
  unfold setAddHashed
  refine wpAny_holding ?_
  rw [show (100000 : Nat) = 99999 + 1 from rfl, setAddHashedIn_succ]
  refine wpAny_bind (wpAny_setState_of ho hd R.fits ?_)
  dsimp only
  refine wp_if_neg (by simp [byScan, Value.scannable]) ?_
  try refine wpAny_bind (wpAny_pure ?_)
  unfold setSearch
  refine wpAny_bind (look_from R hx hne hu hKf hKn hKb ?_ 100000 0 none rfl (Nat.zero_le _) (by omega))
  dsimp only
  refine wpAny_bind (wpAny_setState_of ho hd R.fits ?_)
  dsimp only
  obtain ⟨q1, q2, q3, q4, q5, q6, q7, q8, q9⟩ := R.tab.put hKn hKb
  generalize hpt : t.put (way t.mask (hK P w k) K) = pt at q1 q3 q4 q5 q6 q7 q8 q9 ⊢
  obtain ⟨t1, p⟩ := pt
  dsimp only at q1 q3 q4 q5 q6 q7 q8 q9 ⊢
  have hin : (SetTable.insertAt es p (hK P w k, Value.ref x)).toList = (L.take p ++ (x, k) :: L.drop p).map (rowK P w) := by
    rw [SetTable.toList_insertAt, R.rows, List.map_append, List.map_cons, List.map_take, List.map_drop]
  rw [← q1] at q2 q3
  have pm : (L.take p ++ (x, k) :: L.drop p).Perm ((x, k) :: L) := put_perm L p (x, k)
  have hlen : (L.take p ++ (x, k) :: L.drop p).length = L.length + 1 := pm.length_eq
  have hhs : (L.take p ++ (x, k) :: L.drop p).map (fun p => hK P w p.2) = (L.map fun p => hK P w p.2).take p ++ hK P w k :: (L.map fun p => hK P w p.2).drop p := by
    rw [List.map_append, List.map_cons, List.map_take, List.map_drop]
  rw [← hhs] at q3
  have hes : (SetTable.insertAt es p (hK P w k, Value.ref x)).size = L.length + 1 := by
    rw [← Array.length_toList, hin, List.length_map, hlen]
  generalize SetTable.insertAt es p (hK P w k, Value.ref x) = es1 at hin hes ⊢
  generalize L.take p ++ (x, k) :: L.drop p = L1 at pm hlen q3 hin
  have tail : ∀ tb : SetTable, TabOk tb (L1.map fun p => hK P w p.2) → tb.mask = t.mask → tb.led = t.led → tb.fill = L.length + 1 →
      wpAny (model P w) A (do
        storeSet a es1 tb
        if (!false && tb.tooFull) = true then setRelay a (SetTable.grown (es.size + 1))
        pure true) Q E s := fun tb T2 m2 l2 f2 => by
    refine wpAny_bind (wpAny_storeSet_of ho hd ?_ (by rw [hes, sizeLine_eq]; omega))
    have sb : Heap.SameBut a s.heap (s.heap.update a (Obj.putSet es1 tb)) := Heap.SameBut.update ..
    have ho1 := store_at (es' := es1) (t' := tb) ho hd
    generalize s.heap.update a (Obj.putSet es1 tb) = h1 at sb ho1 ⊢
    have tup1 : ∀ p ∈ L1, TKy P w h1 p.2 p.1 := fun p hp => by
      rcases List.mem_cons.mp (pm.mem_iff.mp hp) with e | hp
      · rw [e]; exact tky_same hx ho hd sb
      · exact tky_same (R.tup p hp) ho hd sb
    have ld1 : w.params.followText "set-order" = true ∨ tb.led = true := by rw [l2]; exact R.led
    by_cases hf : tb.tooFull = true
    · first
        | (refine wpAny_bind ?_; refine wp_if_pos (by simp [hf]) ?_)
        | (refine wp_if_pos (by simp [hf]) ?_; refine wpAny_bind ?_)
      have hfull : (L.length + 1) * 5 ≥ tb.mask * 3 := by
        have h := hf
        unfold SetTable.tooFull at h
        rw [decide_eq_true_eq, f2] at h
        exact h
      rw [hsl]
      have hsz1 : tb.place.size = es1.size := by
        have h := T2.sz
        rw [List.length_map, hlen] at h
        rw [h, hes]
      have cases2 : (t.mask = 7 ∧ L.length = 4) ∨ (t.mask = 31 ∧ L.length = 18) := by
        rcases R.tab.mok with e | e | e
        · left; rw [m2, e] at hfull; rw [e] at hroom; exact ⟨e, by omega⟩
        · right; rw [m2, e] at hfull; rw [e] at hroom; exact ⟨e, by omega⟩
        · exfalso; rw [m2, e] at hfull; omega
      have go : ∀ M, SetTable.sizeAbove (SetTable.grown (L.length + 1)) - 1 = M → MaskOk M → SetTable.sizeAbove (SetTable.grown (L.length + 1)) ≤ 128 → (L.length + 1) * 5 < M * 3 →
          wpAny (model P w) A (setRelay a (SetTable.grown (L.length + 1))) (fun _ s' => wpAny (model P w) A (pure true) Q E s') E { s with heap := h1 } := fun M h1' h2' h3' h4' => by
        refine tst_relay (s := { s with heap := h1 }) ho1 ⟨hex.1, hex.2.1, hex.2.2⟩ rfl hin hsz1 T2.dm (by rw [hes, m2]; rcases cases2 with ⟨e, e2⟩ | ⟨e, e2⟩ <;> omega) tup1 ld1 (by rw [hlen]; exact hfew) h1' h2' h3' (by rw [hlen]; exact h4') ?_
        intro h2 L2 es2 ep2 t2 sb2 R2 pm2
        exact wpAny_pure (hQ true h2 L2 es2 ep2 t2 (sb.trans sb2) R2 (pm2.trans pm))
      rcases cases2 with ⟨_, e2⟩ | ⟨_, e2⟩
      · refine go 31 (by rw [e2, size_20]) (.inr (.inl rfl)) (by rw [e2, size_20]; decide) (by omega)
      · refine go 127 (by rw [e2, size_76]) (.inr (.inr rfl)) (by rw [e2, size_76]; decide) (by omega)
    · first
        | refine wp_if_neg (by simp [hf]) ?_
        | (refine wpAny_bind ?_; refine wp_if_neg (by simp [hf]) ?_; refine wpAny_pure ?_)
      refine wpAny_pure (hQ true h1 L1 es1 (ep + 1) tb sb ⟨⟨_, ho1, ⟨hex.1, hex.2.1, hex.2.2⟩, rfl⟩, hin, T2, tup1, ld1, ?_, by rw [hlen]; exact hfew⟩ pm)
      have h := hf
      unfold SetTable.tooFull at h
      rw [decide_eq_true_eq, f2] at h
      rw [hlen]
      omega
  rw [List.length_map] at q9
  have byv : ∀ r : Bool, wpAny (model P w) A (do
        storeSet a es1 (if r = true then t1 else { t1 with plain := false })
        if (!false && (if r = true then t1 else { t1 with plain := false } : SetTable).tooFull) = true then setRelay a (SetTable.grown (es.size + 1))
        pure true) Q E s := fun r => by
    cases r with
    | true => exact tail t1 q3 q4 q5 q9
    | false => exact tail { t1 with plain := false } (tabOk_plain q3) q4 q5 q9
  by_cases hp1 : t1.plain = true
  · first
      | (refine wpAny_bind ?_; refine wp_if_pos hp1 ?_; refine hashBy_tup' hx fun r => ?_; exact byv r)
      | (refine wp_if_pos hp1 (wpAny_bind (hashBy_tup' hx fun r => ?_)); exact byv r)
  · first
      | (refine wpAny_bind ?_; refine wp_if_neg hp1 ?_; refine wpAny_pure ?_; exact byv true)
      | (refine wp_if_neg hp1 (wpAny_bind (wpAny_pure ?_)); exact byv true)
end
end Rk
set_option Elab.async false
set_option linter.all false
set_option maxRecDepth 100000
set_option maxHeartbeats 4000000
/-! Li: len(set(xs)) of tuples: the expression -/
namespace Rk
open PySem PySem.Spec PyProof.Rows L2
section
variable {P : Program} {w : World}
theorem tky_keep {h h' : Heap} {k : List Key} {b : Addr} (x : TKy P w h k b) (hk : ∀ c o, h.get? c = some o → h'.get? c = some o) : TKy P w h' k b := by
  obtain ⟨o, items, n, ho, r⟩ := x
  exact ⟨o, items, n, hk b o ho, r⟩
theorem tst_new {h : Heap} {a : Addr} (e : h.get? a = some (setFresh w)) : TSt P w h a [] #[] 0 (.fresh 0 0 (!w.params.followText "set-order")) where
  ob := ⟨_, e, ⟨rfl, rfl, rfl⟩, rfl⟩
  rows := rfl
  tab := ⟨List.Pairwise.nil, rfl, rfl, .inl rfl, fun x hx => (by cases hx), fun i h j hi => (by simp at hi)⟩
  tup := fun p hp => (by cases hp)
  led := by
    show _ ∨ (!w.params.followText "set-order") = true
    cases w.params.followText "set-order"
    · exact .inr rfl
    · exact .inl rfl
  room := by
    show 0 * 5 < 7 * 3
    decide
  few := by
    show 0 < 64
    decide
theorem tset_step {S : Addr} {items : Array Value} {h0 : Heap} {u : Nat} {ks : List Row0} (hu : u ≤ cLine) (hk : ∀ (i : Nat) (v : Value), items[i]? = some v → ∃ p, ks[i]? = some p ∧ v = .ref p.1) (ht : ∀ p ∈ ks, TKy P w h0 p.2 p.1) (nd : (ks.map (·.2)).Nodup) (hL : ks.length < 64) :
    SetStep P w S items h0 u (fun i h => ∃ L es ep t, TSt P w h S L es ep t ∧ L.Perm (ks.take i)) where
  keep := fun i h h' ⟨L, es, ep, t, R, pm⟩ hS h0' => by
    obtain ⟨o, ho, r⟩ := R.ob
    exact ⟨L, es, ep, t, ⟨⟨o, hS o ho, r⟩, R.rows, R.tab, fun p hp => tky_keep (ht p (List.mem_of_mem_take (pm.mem_iff.mp hp))) h0', R.led, R.room, R.few⟩, pm⟩
  add := fun A E i v s Q hA hv ⟨L, es, ep, t, R, pm⟩ h0' hQ => by
    obtain ⟨p, e, rfl⟩ := hk i v hv
    have hi : i < ks.length := (List.getElem?_eq_some_iff.mp e).1
    have htk : ks.take (i + 1) = ks.take i ++ [p] := by rw [List.take_succ, e] <;> rfl
    have hx : TKy P w s.heap p.2 p.1 := tky_keep (ht p (List.mem_of_getElem? e)) h0'
    have hAc : A.units < cLine := Nat.lt_of_lt_of_le hA hu
    have hlen : L.length = i := by rw [pm.length_eq, List.length_take]; omega
    have hne : ∀ q ∈ L, q.2 ≠ p.2 := fun q hq z => by
      have h1 := pm.mem_iff.mp hq
      have h2 : ((ks.take (i + 1)).map (·.2)).Nodup := by
        rw [List.map_take]
        exact nd.sublist (List.take_sublist _ _)
      rw [htk, List.map_append, List.nodup_append] at h2
      exact h2.2.2 q.2 (List.mem_map.mpr ⟨q, h1, rfl⟩) p.2 (by simp) z
    unfold setAdd
    refine wpAny_holding (wpAny_bind (wpAny_pyHash_tuple hAc hx ?_))
    refine tst_add (s := { s with toks := s.toks + (p.2.length + 1) }) (k := p.2) (x := p.1) ⟨R.ob, R.rows, R.tab, R.tup, R.led, R.room, R.few⟩ hx hne hAc (by omega) fun b h' L' es' ep' t' sb R' pm' => ?_
    refine hQ b h' (s.toks + (p.2.length + 1)) (Nat.le_add_right _ _) sb ⟨L', es', ep', t', R', pm'.trans ?_⟩
    rw [htk]
    exact (pm.cons (p.1, p.2)).trans (List.perm_append_singleton _ _).symm
end
def tLenSetT (te : TE) : TE := fun σ H Q => te σ H fun x H1 => ∃ (l : Addr) (ks : List Row0), x = .ref l ∧ H1 l = some (.lst (ks.map fun p => V.ref p.1)) ∧ (∀ p ∈ ks, H1 p.1 = some (.tup (p.2.map kV))) ∧ (ks.map (·.2)).Nodup ∧ ks.length < 64 ∧ Q (.int ks.length) H1
theorem items_kV {P : Program} {w : World} : ∀ {k : List Key} {us : List Value}, Vals (k.map kV) us → ItemsAre (mixKind P w) k us
  | [], _, .nil => .nil
  | n :: k, _, .cons r t => .cons (keyIs_rel r) (items_kV t)
section
variable {X : Cx} {e : Expr} {te : TE} {p p2 q pos : Pos}
theorem pe_lenSetT (hc : X.calm = true) (hu : X.A.units + 64 < cLine) (hg : Gl X "len") (hm : X.mg "len" = none) (hg2 : Gl X "set") (hm2 : X.mg "set" = none) (ha : PE X e te)
    (na : starEach [e] X.env = (false, eval e X.env) :: starEach [] X.env := by rfl) : PE X (.Call (.Name "len" p) [.Call (.Name "set" p2) [e] [] q] [] pos) (tLenSetT te) := by
  refine ⟨fun pins s σ H Q I h => ?_⟩
  refine Call_ (ld_blt I hg hm boot_len ?_)
  refine PyProof.Rows.callWith_builtin1 (PyProof.Rows.args_cons ?_ rfl) rfl rfl
  refine Call_ (ld_blt I hg2 hm2 boot_set ?_)
  refine PyProof.Rows.callWith_type1 (PyProof.Rows.args_cons (thn (ha.run pins s σ H _ I h) fun v s1 ⟨x, H1, I1, r1, q1⟩ => PyProof.Rows.args_nil ?_) na) na rfl
  obtain ⟨l, ks, rfl, hl, ht, nd, hln, qq⟩ := q1
  cases r1
  obtain ⟨its, rv, pl, hz⟩ := I1.list (SqL.of hl)
  have hkv : ∀ (i : Nat) (v : Value), its.toArray[i]? = some v → ∃ p, ks[i]? = some p ∧ v = .ref p.1 := fun i v hv => by
    have hv' : its[i]? = some v := by simpa using hv
    cases hk : (ks.map fun p => V.ref p.1)[i]? with
    | none =>
      rw [rv.none_of hk] at hv'
      cases hv'
    | some x =>
      obtain ⟨u, hu', ru⟩ := rv.get hk
      rw [hv'] at hu'
      cases hu'
      rw [List.getElem?_map] at hk
      cases hk2 : ks[i]? with
      | none => rw [hk2] at hk; cases hk
      | some k =>
        rw [hk2] at hk
        cases hk
        exact ⟨k, rfl, ru⟩
  have htt : ∀ p ∈ ks, TKy X.prog X.w s1.heap p.2 p.1 := fun p hp => by
    obtain ⟨_, it2, r2, o, h1, h2, n, h3⟩ := I1.hok _ _ (ht p hp)
    exact ⟨o, it2.toArray, n, h1, h2, h3, by simpa using items_kV r2⟩
  have hsz : its.toArray.size = ks.length := by rw [List.size_toArray, ← rv.length, List.length_map]
  refine set_call (I1.ok.hd hc) pl.isList (tset_step (u := X.A.units + 9) (by omega) hkv htt nd hln) (by omega) (fun g e _ => ⟨[], _, _, _, tst_new e, by rw [List.take_zero]⟩) fun h' tk ⟨L, es, ep, t, R, pm⟩ hk => ?_
  refine PyProof.Rows.args_nil ?_
  rw [hsz, List.take_length] at pm
  have I2 : Inv X pins σ H1 { s1 with heap := h', toks := tk } := I1.kept hk
  obtain ⟨o, ho, hex, hd⟩ := R.ob
  have hes : es.size = ks.length := by
    rw [← Array.length_toList, R.rows, List.length_map, pm.length_eq]
  have hf : t.fits es.size = true := TSt.fits (s := { s1 with heap := h', toks := tk }) R
  refine call_len_set ho hex hd hf (by omega) ⟨.int ks.length, H1, I2.tok _, ⟨_, by rw [hes]⟩, qq⟩
end
section
variable {T : Tbs} {M : Ct} {σ : L2.St} {H : Hp} {te : TE}
/-- data: tuples of keys -/
def dT (k : List Key) : PyData := .tuple (k.map dK)
theorem IsA.rows : ∀ {kss : List (List Key)} {vs : List V}, IsA M H vs (kss.map dT) → ∃ ks : List Row0, vs = ks.map (fun p => V.ref p.1) ∧ (∀ p ∈ ks, H p.1 = some (.tup (p.2.map kV))) ∧ ks.map (·.2) = kss
  | [], _, h => by cases h; exact ⟨[], rfl, fun p hp => (by cases hp), rfl⟩
  | k :: kss, _, h => by
    cases h with
    | cons h1 h2 =>
      obtain ⟨ks, e1, e2, e3⟩ := IsA.rows h2
      cases h1 with
      | tup ha hs =>
        have e := hs.keys
        subst e
        rename_i b
        refine ⟨(b, k) :: ks, by rw [e1] <;> rfl, fun p hp => ?_, by rw [List.map_cons, e3]⟩
        rcases List.mem_cons.mp hp with z | z
        · subst z; exact ha
        · exact e2 p z
theorem ed_lenSetT {kss : List (List Key)} (h : EX T M te σ H (· = .list (kss.map dT))) (nd : kss.Nodup) (hl : kss.length < 64) : EX T M (tLenSetT te) σ H (· = .int kss.length) := fun H1 x g Q q => h H1 x g _ fun v H2 d pd x2 g2 vd => by
  subst pd
  cases vd with
  | lst n ha hs =>
    obtain ⟨ks, e1, e2, e3⟩ := IsA.rows hs
    subst e1
    have el : ks.length = kss.length := by rw [← e3, List.length_map]
    refine ⟨_, ks, rfl, ha, e2, by rw [e3]; exact nd, by rw [el]; exact hl, ?_⟩
    rw [el]
    exact q _ H2 _ rfl x2 g2 (.int _)
end
end Rk
set_option Elab.async false
set_option linter.all false
set_option maxRecDepth 100000
/-! Ma: rolls, in plain Lean -/
namespace Rk
open PySem
/-- (man, hour, ship, rank); (hour, ship, rank) -/
abbrev Row := Str × Int × Str × Str
abbrev R3 := Int × Str × Str
abbrev At := Str × Str × Int
abbrev Man := Str × Str × Int
abbrev Stay := Int × Option Int × Str × Str
def rows3 (R : List Row) (man : Str) : List R3 := ((R.filter fun r => decide (r.1 = man)).map (·.2)).mergeSort fun a b => decide (a.1 ≤ b.1)
def Up (l : List R3) : Prop := l.Pairwise fun a b => a.1 < b.1
def KeysNd (R : List Row) : Prop := (R.map fun r => (r.1, r.2.1)).Nodup
theorem up_unique : ∀ {l m : List R3}, Up l → Up m → l.Perm m → l = m
  | [], m, _, _, p => (List.nil_perm.mp p).symm
  | a :: l, m, hl, hm, p => by
    cases m with
    | nil => exact absurd p.length_eq (by simp)
    | cons b m =>
      obtain ⟨h1, h2⟩ := List.pairwise_cons.mp hl
      obtain ⟨k1, k2⟩ := List.pairwise_cons.mp hm
      have e : a = b := by
        have ha := p.mem_iff.mp (List.mem_cons_self (a := a) (l := l))
        have hb := p.mem_iff.mpr (List.mem_cons_self (a := b) (l := m))
        rcases List.mem_cons.mp ha with e | ha
        · exact e
        · rcases List.mem_cons.mp hb with e | hb
          · exact e.symm
          · have x := k1 a ha
            have y := h1 b hb
            omega
      subst e
      rw [up_unique h2 k2 (List.Perm.cons_inv p)]
theorem rows3_perm (R : List Row) (man : Str) : (rows3 R man).Perm ((R.filter fun r => decide (r.1 = man)).map (·.2)) := List.mergeSort_perm _ _
theorem hours_nd {R : List Row} (h : KeysNd R) (man : Str) : ((R.filter fun r => decide (r.1 = man)).map fun r => r.2.1).Nodup := by
  have h1 : ((R.filter fun r => decide (r.1 = man)).map fun r => (r.1, r.2.1)).Nodup := h.sublist (List.filter_sublist.map _)
  refine List.pairwise_map.mpr (List.Pairwise.imp_of_mem (fun {a b} ha hb hne e => ?_) (List.pairwise_map.mp h1))
  have e1 := of_decide_eq_true (List.mem_filter.mp ha).2
  have e2 := of_decide_eq_true (List.mem_filter.mp hb).2
  exact hne (by rw [e1, e2, e])
theorem rows3_up {R : List Row} (h : KeysNd R) (man : Str) : Up (rows3 R man) := by
  have p : (rows3 R man).Pairwise fun a b => a.1 ≤ b.1 := by
    have q := List.pairwise_mergeSort (le := fun a b : R3 => decide (a.1 ≤ b.1)) (fun a b c h1 h2 => by
      have x := of_decide_eq_true h1
      have y := of_decide_eq_true h2
      exact decide_eq_true (by omega)) (fun a b => by
      rw [Bool.or_eq_true, decide_eq_true_eq, decide_eq_true_eq]
      omega) ((R.filter fun r => decide (r.1 = man)).map (·.2))
    exact q.imp fun h => of_decide_eq_true h
  have nd : ((rows3 R man).map (·.1)).Nodup := by
    refine ((rows3_perm R man).map (·.1)).nodup_iff.mpr ?_
    rw [List.map_map]
    exact hours_nd h man
  exact List.Pairwise.imp₂ (fun {a b} h1 h2 => by omega) p (List.pairwise_map.mp nd)
theorem rows3_of {R : List Row} (h : KeysNd R) {man : Str} {l : List R3} (hu : Up l) (p : l.Perm ((R.filter fun r => decide (r.1 = man)).map (·.2))) : l = rows3 R man :=
  up_unique hu (rows3_up h man) (p.trans (rows3_perm R man).symm)
/-! ### where he is -/
def since (found : Option At) (b : Int) (k : Str) : Int := match found with
  | some (_, k', z) => if k' = k then z else b
  | none => b
def step (h : Int) (found : Option At) (r : R3) : Option At := if r.1 ≤ h then some (r.2.1, r.2.2, since found r.1 r.2.2) else found
def standing (l : List R3) (h : Int) : Option At := l.foldl (step h) none
theorem standing_snoc (l : List R3) (r : R3) (h : Int) : standing (l ++ [r]) h = step h (standing l h) r := by
  unfold standing
  rw [List.foldl_append]
  rfl
theorem fold_late {h : Int} : ∀ {l : List R3} {f : Option At}, (∀ r ∈ l, h < r.1) → l.foldl (step h) f = f
  | [], f, _ => rfl
  | r :: l, f, hl => by
    rw [List.foldl_cons]
    have h1 := hl r List.mem_cons_self
    rw [show step h f r = f by unfold step; rw [if_neg (by omega)]]
    exact fold_late fun x hx => hl x (List.mem_cons_of_mem _ hx)
/-- the last row of a list that all began tells the ship and the rank -/
theorem standing_last {l : List R3} {r : R3} {h : Int} (hr : r.1 ≤ h) : ∃ z, standing (l ++ [r]) h = some (r.2.1, r.2.2, z) := by
  rw [standing_snoc]
  unfold step
  rw [if_pos hr]
  exact ⟨_, rfl⟩
theorem since_le {h : Int} : ∀ {l : List R3} {f : Option At} {a : At}, (∀ x, f = some x → x.2.2 ≤ h) → l.foldl (step h) f = some a → a.2.2 ≤ h
  | [], f, a, hf, e => hf a e
  | r :: l, f, a, hf, e => by
    rw [List.foldl_cons] at e
    refine since_le (l := l) (fun x hx => ?_) e
    unfold step at hx
    by_cases c : r.1 ≤ h
    · rw [if_pos c] at hx
      cases hx
      show since f r.1 r.2.2 ≤ h
      unfold since
      cases f with
      | none => exact c
      | some y =>
        obtain ⟨s, k, z⟩ := y
        dsimp only
        by_cases c2 : k = r.2.2
        · rw [if_pos c2]
          exact hf (s, k, z) rfl
        · rw [if_neg c2]
          exact c
    · rw [if_neg c] at hx
      exact hf x hx
def whereAt (R : List Row) (man : Str) (h : Int) : Option At := standing (rows3 R man) h
theorem whereAt_since {R : List Row} {man : Str} {h : Int} {a : At} (e : whereAt R man h = some a) : a.2.2 ≤ h := since_le (fun x hx => by cases hx) e
theorem standing_mem {h : Int} : ∀ {l : List R3} {f : Option At} {a : At}, l.foldl (step h) f = some a → (∃ r ∈ l, r.2.1 = a.1 ∧ r.2.2 = a.2.1) ∨ ∃ x, f = some x ∧ x.1 = a.1 ∧ x.2.1 = a.2.1
  | [], f, a, e => .inr ⟨a, e, rfl, rfl⟩
  | r :: l, f, a, e => by
    rw [List.foldl_cons] at e
    rcases standing_mem e with ⟨r', h1, h2⟩ | ⟨x, h1, h2, h3⟩
    · exact .inl ⟨r', List.mem_cons_of_mem _ h1, h2⟩
    · unfold step at h1
      by_cases c : r.1 ≤ h
      · rw [if_pos c] at h1
        cases h1
        exact .inl ⟨r, List.mem_cons_self, h2, h3⟩
      · rw [if_neg c] at h1
        exact .inr ⟨x, h1, h2, h3⟩
theorem whereAt_row {R : List Row} {man : Str} {h : Int} {a : At} (e : whereAt R man h = some a) : ∃ r ∈ R, r.1 = man ∧ r.2.2.1 = a.1 ∧ r.2.2.2 = a.2.1 := by
  rcases standing_mem e with ⟨r, h1, h2, h3⟩ | ⟨x, h1, _⟩
  · obtain ⟨q, hq, e2⟩ := List.mem_map.mp ((rows3_perm R man).mem_iff.mp h1)
    obtain ⟨hq1, hq2⟩ := List.mem_filter.mp hq
    exact ⟨q, hq1, of_decide_eq_true hq2, by rw [e2]; exact h2, by rw [e2]; exact h3⟩
  · cases h1
/-! ### stays -/
def stayStep (S : List Stay) (r : R3) : List Stay := match S.getLast? with
  | none => S ++ [(r.1, none, r.2.1, r.2.2)]
  | some l => if l.2.2 = r.2 then S else S.dropLast ++ [(l.1, some r.1, l.2.2)] ++ [(r.1, none, r.2.1, r.2.2)]
def staysOf (l : List R3) : List Stay := l.foldl stayStep []
def has (h : Int) (s : Stay) : Bool := decide (s.1 ≤ h) && (match s.2.1 with | none => true | some t => decide (h < t))
theorem staysOf_snoc (l : List R3) (r : R3) : staysOf (l ++ [r]) = stayStep (staysOf l) r := by
  unfold staysOf
  rw [List.foldl_append]
  rfl
structure StInv (l : List R3) (S : List Stay) : Prop where
  pair : ∀ h, (S.filter (has h)).map (fun s => s.2.2) = ((standing l h).map fun a => (a.1, a.2.1)).toList
  last : ∀ r, l.getLast? = some r → ∃ D f, S = D ++ [(f, none, r.2)] ∧ f ≤ r.1 ∧ ∀ h, r.1 ≤ h → D.filter (has h) = []
  nil : l = [] → S = []
theorem stInv_snoc {l : List R3} {S : List Stay} (hl : Up (l ++ [r])) (I : StInv l S) : StInv (l ++ [r]) (stayStep S r) := by
  have hb : ∀ x ∈ l, x.1 < r.1 := fun x hx => (List.pairwise_append.mp hl).2.2 x hx r (by simp)
  rcases List.eq_nil_or_concat l with e | ⟨l0, q, e⟩
  · subst e
    have e2 := I.nil rfl
    subst e2
    have es : stayStep [] r = [(r.1, none, r.2.1, r.2.2)] := rfl
    rw [es]
    refine ⟨fun h => ?_, fun x hx => ?_, fun z => by simp at z⟩
    · show (List.filter (has h) [(r.1, none, r.2.1, r.2.2)]).map (fun s => s.2.2) = ((standing [r] h).map fun a => (a.1, a.2.1)).toList
      unfold standing
      simp only [List.foldl_cons, List.foldl_nil]
      unfold step
      by_cases c : r.1 ≤ h
      · rw [if_pos c]
        have : has h (r.1, none, r.2.1, r.2.2) = true := by unfold has; simp [c]
        rw [List.filter_cons_of_pos this]
        rfl
      · rw [if_neg c]
        have : ¬ has h (r.1, none, r.2.1, r.2.2) = true := by unfold has; simp [c]
        rw [List.filter_cons_of_neg this]
        rfl
    · have : r = x := by simpa using hx
      subst this
      exact ⟨[], r.1, rfl, Int.le_refl _, fun _ _ => rfl⟩
  · rw [List.concat_eq_append] at e
    subst e
    obtain ⟨D, f, eS, hf, hD⟩ := I.last q (by simp)
    have hq : q.1 < r.1 := hb q (by simp)
    have hgl : S.getLast? = some (f, none, q.2) := by rw [eS]; simp
    have hgl2 : (l0 ++ [q] ++ [r]).getLast? = some r := by simp
    -- what stands behind q
    have late : ∀ h, q.1 ≤ h → ∃ z, standing (l0 ++ [q]) h = some (q.2.1, q.2.2, z) := fun h hh => standing_last hh
    by_cases c : q.2 = r.2
    · have es : stayStep S r = S := by
        unfold stayStep
        rw [hgl]
        exact if_pos c
      rw [es]
      refine ⟨fun h => ?_, fun x hx => ?_, fun z => by simp at z⟩
      · rw [I.pair h, standing_snoc (l0 ++ [q])]
        unfold step
        by_cases c2 : r.1 ≤ h
        · rw [if_pos c2]
          obtain ⟨z, ez⟩ := late h (by omega)
          rw [ez]
          show ([(q.2.1, q.2.2)] : List (Str × Str)) = [(r.2.1, r.2.2)]
          rw [c]
        · rw [if_neg c2]
      · rw [hgl2] at hx
        cases hx
        exact ⟨D, f, by rw [eS, c], by omega, fun h hh => hD h (by omega)⟩
    · have es : stayStep S r = D ++ [(f, some r.1, q.2)] ++ [(r.1, none, r.2)] := by
        unfold stayStep
        rw [hgl]
        show (if q.2 = r.2 then S else S.dropLast ++ [(f, some r.1, q.2)] ++ [(r.1, none, r.2.1, r.2.2)]) = _
        rw [if_neg c, eS, List.dropLast_concat]
      rw [es]
      have closed : ∀ h, r.1 ≤ h → (D ++ [(f, some r.1, q.2)]).filter (has h) = [] := fun h hh => by
        rw [List.filter_append, hD h (by omega)]
        have : ¬ has h (f, some r.1, q.2) = true := by
          unfold has
          simp
          omega
        rw [List.filter_cons_of_neg this]
        rfl
      refine ⟨fun h => ?_, fun x hx => ?_, fun z => by simp at z⟩
      · rw [standing_snoc (l0 ++ [q])]
        unfold step
        by_cases c2 : r.1 ≤ h
        · rw [if_pos c2, List.filter_append, closed h c2]
          have : has h (r.1, none, r.2) = true := by unfold has; simp [c2]
          rw [List.filter_cons_of_pos this]
          rfl
        · rw [if_neg c2, ← I.pair h, eS, List.filter_append, List.filter_append, List.filter_append]
          have h1 : ¬ has h (r.1, none, r.2) = true := by unfold has; simp [c2]
          have h2 : has h (f, some r.1, q.2) = has h (f, none, q.2) := by
            unfold has
            have : decide (h < r.1) = true := decide_eq_true (by omega)
            simp [this]
          rw [List.filter_cons_of_neg h1, List.filter_nil, List.append_nil]
          cases hc : has h (f, none, q.2) with
          | true =>
            rw [List.filter_cons_of_pos (by rw [h2]; exact hc), List.filter_cons_of_pos hc, List.filter_nil, List.map_append, List.map_append]
            rfl
          | false =>
            rw [List.filter_cons_of_neg (by rw [h2, hc]; decide), List.filter_cons_of_neg (by rw [hc]; decide)]
      · rw [hgl2] at hx
        cases hx
        exact ⟨D ++ [(f, some r.1, q.2)], r.1, rfl, Int.le_refl _, fun h hh => closed h hh⟩
theorem up_pre {l : List R3} {r : R3} (h : Up (l ++ [r])) : Up l := (List.pairwise_append.mp h).1
theorem stInv : ∀ (n : Nat) (l : List R3), l.length = n → Up l → StInv l (staysOf l)
  | 0, l, hl, _ => by
    have e : l = [] := List.eq_nil_of_length_eq_zero hl
    subst e
    exact ⟨fun h => rfl, fun r hr => by simp at hr, fun _ => rfl⟩
  | n + 1, l, hl, hu => by
    rcases List.eq_nil_or_concat l with e | ⟨l0, q, e⟩
    · subst e
      simp at hl
    · rw [List.concat_eq_append] at e
      subst e
      rw [staysOf_snoc]
      exact stInv_snoc hu (stInv n l0 (by simpa using hl) (up_pre hu))
theorem stays_pair {R : List Row} (h : KeysNd R) (man : Str) (hr : Int) : ((staysOf (rows3 R man)).filter (has hr)).map (fun s => s.2.2) = ((whereAt R man hr).map fun a => (a.1, a.2.1)).toList :=
  (stInv _ _ rfl (rows3_up h man)).pair hr
/-! ### a row more -/
theorem keysNd_perm {R S : List Row} (p : R.Perm S) (h : KeysNd S) : KeysNd R := (p.map _).nodup_iff.mpr h
theorem keysNd_cons {R : List Row} {r : Row} (h : KeysNd R) (hn : ∀ q ∈ R, ¬ (q.1 = r.1 ∧ q.2.1 = r.2.1)) : KeysNd (r :: R) := by
  unfold KeysNd
  rw [List.map_cons]
  refine List.nodup_cons.mpr ⟨fun z => ?_, h⟩
  obtain ⟨q, hq, e⟩ := List.mem_map.mp z
  have e1 := congrArg Prod.fst e
  have e2 := congrArg Prod.snd e
  exact hn q hq ⟨e1, e2⟩
theorem rows3_congr {R S : List Row} (p : R.Perm S) (h : KeysNd S) (man : Str) : rows3 R man = rows3 S man :=
  up_unique (rows3_up (keysNd_perm p h) man) (rows3_up h man) ((rows3_perm R man).trans (((p.filter _).map _).trans (rows3_perm S man).symm))
theorem rows3_other {R : List Row} {r : Row} {man : Str} (hm : r.1 ≠ man) : rows3 (r :: R) man = rows3 R man := by
  unfold rows3
  rw [List.filter_cons_of_neg (by simp [hm])]
theorem rows3_more {R : List Row} {r : Row} (h : KeysNd (r :: R)) : ∃ pre post, rows3 R r.1 = pre ++ post ∧ rows3 (r :: R) r.1 = pre ++ r.2 :: post ∧ (∀ x ∈ pre, x.1 < r.2.1) ∧ ∀ x ∈ post, r.2.1 < x.1 := by
  have hR : KeysNd R := by
    unfold KeysNd at h ⊢
    rw [List.map_cons] at h
    exact (List.nodup_cons.mp h).2
  have p : (rows3 (r :: R) r.1).Perm (r.2 :: rows3 R r.1) := by
    refine (rows3_perm _ _).trans ?_
    rw [List.filter_cons_of_pos (by simp), List.map_cons]
    exact (rows3_perm R r.1).symm.cons r.2
  have hu := rows3_up h r.1
  have hm : r.2 ∈ rows3 (r :: R) r.1 := p.mem_iff.mpr List.mem_cons_self
  obtain ⟨pre, post, e⟩ := List.append_of_mem hm
  have hu2 := hu
  rw [e] at hu2
  obtain ⟨u1, u2, u3⟩ := List.pairwise_append.mp hu2
  obtain ⟨u4, u5⟩ := List.pairwise_cons.mp u2
  refine ⟨pre, post, ?_, e, fun x hx => u3 x hx r.2 List.mem_cons_self, fun x hx => u4 x hx⟩
  refine (rows3_of hR (List.pairwise_append.mpr ⟨u1, u5, fun a ha b hb => u3 a ha b (List.mem_cons_of_mem _ hb)⟩) ?_).symm
  refine List.Perm.trans ?_ (rows3_perm R r.1)
  have q : (r.2 :: (pre ++ post)).Perm (r.2 :: rows3 R r.1) := by
    rw [e] at p
    exact List.perm_middle.symm.trans p
  exact List.Perm.cons_inv q
/-- ahead of its hour nothing changes -/
theorem whereAt_ahead {R : List Row} {r : Row} (h : KeysNd (r :: R)) {hr : Int} (hh : hr < r.2.1) : whereAt (r :: R) r.1 hr = whereAt R r.1 hr := by
  obtain ⟨pre, post, e1, e2, _, h2⟩ := rows3_more h
  unfold whereAt standing
  rw [e1, e2, List.foldl_append, List.foldl_append, List.foldl_cons]
  congr 1
  unfold step
  rw [if_neg (by omega)]
/-- at its hour it holds -/
theorem whereAt_new {R : List Row} {r : Row} (h : KeysNd (r :: R)) : ∃ z, whereAt (r :: R) r.1 r.2.1 = some (r.2.2.1, r.2.2.2, z) := by
  obtain ⟨pre, post, _, e2, _, h2⟩ := rows3_more h
  have e3 : standing (pre ++ r.2 :: post) r.2.1 = standing (pre ++ [r.2]) r.2.1 := by
    unfold standing
    rw [List.foldl_append, List.foldl_cons, List.foldl_append, List.foldl_cons, List.foldl_nil, fold_late fun x hx => h2 x hx]
  unfold whereAt
  rw [e2, e3]
  exact standing_last (Int.le_refl _)
theorem fold_same {hr : Int} {l : List R3} {b : Int} {a : At} (hb : b ≤ hr) (hl : ∀ x ∈ l, x.1 < b) (e : standing l b = some a) : standing l hr = some a := by
  have go : ∀ (l : List R3) (f : Option At), (∀ x ∈ l, x.1 < b) → l.foldl (step hr) f = l.foldl (step b) f := by
    intro l
    induction l with
    | nil => intro f _; rfl
    | cons x l ih =>
      intro f hx
      have h1 := hx x List.mem_cons_self
      rw [List.foldl_cons, List.foldl_cons, ih _ fun y hy => hx y (List.mem_cons_of_mem _ hy)]
      congr 1
      unfold step
      rw [if_pos (by omega), if_pos (by omega)]
  unfold standing
  rw [go l none hl]
  exact e
/-- a row that says again where he is and of what rank changes nothing -/
theorem again {R : List Row} {r : Row} (h : KeysNd (r :: R)) {a : At} (e : whereAt R r.1 r.2.1 = some a) (ea : (a.1, a.2.1) = r.2.2) : (∀ hr, whereAt (r :: R) r.1 hr = whereAt R r.1 hr) ∧ staysOf (rows3 (r :: R) r.1) = staysOf (rows3 R r.1) := by
  obtain ⟨pre, post, e1, e2, h1, h2⟩ := rows3_more h
  have hR : KeysNd R := by
    unfold KeysNd at h ⊢
    rw [List.map_cons] at h
    exact (List.nodup_cons.mp h).2
  have ep : standing pre r.2.1 = some a := by
    have z : standing (pre ++ post) r.2.1 = standing pre r.2.1 := by
      unfold standing
      rw [List.foldl_append, fold_late fun x hx => h2 x hx]
    unfold whereAt at e
    rw [e1, z] at e
    exact e
  refine ⟨fun hr => ?_, ?_⟩
  · unfold whereAt
    rw [e1, e2]
    show standing (pre ++ r.2 :: post) hr = standing (pre ++ post) hr
    unfold standing
    rw [List.foldl_append, List.foldl_cons, List.foldl_append]
    congr 1
    show step hr (standing pre hr) r.2 = standing pre hr
    unfold step
    by_cases c : r.2.1 ≤ hr
    · rw [if_pos c, fold_same c h1 ep]
      obtain ⟨s, k, z⟩ := a
      have e3 : s = r.2.2.1 := congrArg Prod.fst ea
      have e4 : k = r.2.2.2 := congrArg Prod.snd ea
      show some (r.2.2.1, r.2.2.2, since (some (s, k, z)) r.2.1 r.2.2.2) = some (s, k, z)
      unfold since
      dsimp only
      rw [if_pos e4, e3, e4]
    · rw [if_neg c]
  · rw [e1, e2]
    unfold staysOf
    rw [List.foldl_append, List.foldl_cons, List.foldl_append]
    congr 1
    show stayStep (staysOf pre) r.2 = staysOf pre
    rcases List.eq_nil_or_concat pre with z | ⟨l0, q, z⟩
    · subst z
      cases ep
    · rw [List.concat_eq_append] at z
      subst z
      have hu : Up (l0 ++ [q]) := by
        have z := rows3_up hR r.1
        rw [e1] at z
        exact (List.pairwise_append.mp z).1
      obtain ⟨D, f, eS, _⟩ := (stInv _ _ rfl hu).last q (by simp)
      have hq : q.1 ≤ r.2.1 := Int.le_of_lt (h1 q (by simp))
      obtain ⟨z, ez⟩ := standing_last (l := l0) hq
      rw [ep] at ez
      cases ez
      unfold stayStep
      rw [eS]
      simp only [List.getLast?_concat]
      exact if_pos ea
end Rk
set_option Elab.async false
set_option linter.all false
set_option maxRecDepth 100000
/-! Mb: rolls as data; crews; men called otherwise -/
namespace Rk
open PySem
open PySem.W (dataLe dataLt)
def dRow (r : Row) : PyData := .tuple [.str r.1, .int r.2.1, .str r.2.2.1, .str r.2.2.2]
def dR3 (r : R3) : PyData := .tuple [.int r.1, .str r.2.1, .str r.2.2]
def dAt (a : At) : PyData := .tuple [.str a.1, .str a.2.1, .int a.2.2]
def dAtO : Option At → PyData
  | none => .none
  | some a => dAt a
def dIO : Option Int → PyData
  | none => .none
  | some i => .int i
def dStay (s : Stay) : PyData := .tuple [.int s.1, dIO s.2.1, .str s.2.2.1, .str s.2.2.2]
def dRoll (R : List Row) : PyData := .tuple (R.map dRow)
/-! ### order of data -/
theorem sorted_unique {α : Type} {le : α → α → Prop} (anti : ∀ a b, le a b → le b a → a = b) : ∀ {l m : List α}, l.Pairwise le → m.Pairwise le → l.Perm m → l = m
  | [], m, _, _, p => (List.nil_perm.mp p).symm
  | a :: l, m, hl, hm, p => by
    cases m with
    | nil => exact absurd p.length_eq (by simp)
    | cons b m =>
      obtain ⟨h1, h2⟩ := List.pairwise_cons.mp hl
      obtain ⟨k1, k2⟩ := List.pairwise_cons.mp hm
      have e : a = b := by
        have ha := p.mem_iff.mp (List.mem_cons_self (a := a) (l := l))
        have hb := p.mem_iff.mpr (List.mem_cons_self (a := b) (l := m))
        rcases List.mem_cons.mp ha with e | ha
        · exact e
        · rcases List.mem_cons.mp hb with e | hb
          · exact e.symm
          · exact anti a b (h1 b hb) (k1 a ha)
      subst e
      rw [sorted_unique anti h2 k2 (List.Perm.cons_inv p)]
theorem str_anti {x y : Str} (h1 : ¬ x.cps.toList < y.cps.toList) (h2 : ¬ y.cps.toList < x.cps.toList) : x = y := by
  refine PySem.W.str_of_cps ?_
  exact List.le_antisymm (List.not_lt.mp h2) (List.not_lt.mp h1)
theorem lt3 {x y z x' y' z' : PyData} (h1 : PySem.W.alike x x' = true) (h2 : PySem.W.alike y y' = true) (h3 : PySem.W.alike z z' = true) :
    dataLt (.tuple [x, y, z]) (.tuple [x', y', z']) = if PyData.eqv x x' = true then (if PyData.eqv y y' = true then (if PyData.eqv z z' = true then false else dataLt z z') else dataLt y y') else dataLt x x' := by
  rw [PySem.W.dataLt_tuple, PySem.W.dataLt_cons h1, PySem.W.dataLt_cons h2, PySem.W.dataLt_cons h3]
  rfl
theorem al_int (i j : Int) : PySem.W.alike (.int i) (.int j) = true := by simp [PySem.W.alike]
theorem al_str (i j : Str) : PySem.W.alike (.str i) (.str j) = true := by simp [PySem.W.alike]
theorem eq_int' (i j : Int) : PyData.eqv (.int i) (.int j) = decide (i = j) := by
  simp [PyData.eqv, Bool.beq_eq_decide_eq]
theorem eq_str' (i j : Str) : PyData.eqv (.str i) (.str j) = decide (i = j) := by
  simp [PyData.eqv, Bool.beq_eq_decide_eq]
theorem lt_at (a b : At) : dataLt (dAt a) (dAt b) = if a.1 = b.1 then (if a.2.1 = b.2.1 then decide (a.2.2 < b.2.2) else decide (a.2.1.cps.toList < b.2.1.cps.toList)) else decide (a.1.cps.toList < b.1.cps.toList) := by
  unfold dAt
  rw [lt3 (al_str _ _) (al_str _ _) (al_int _ _), eq_str', eq_str', eq_int', PySem.W.dataLt_str, PySem.W.dataLt_str, PySem.W.dataLt_int]
  simp only [decide_eq_true_eq]
  by_cases c : a.1 = b.1
  · rw [if_pos c, if_pos c]
    by_cases c2 : a.2.1 = b.2.1
    · rw [if_pos c2, if_pos c2]
      by_cases c3 : a.2.2 = b.2.2
      · rw [if_pos c3]
        exact (decide_eq_false (by omega)).symm
      · rw [if_neg c3]
    · rw [if_neg c2, if_neg c2]
  · rw [if_neg c, if_neg c]
theorem at_anti {a b : At} (h1 : dataLt (dAt a) (dAt b) = false) (h2 : dataLt (dAt b) (dAt a) = false) : a = b := by
  rw [lt_at] at h1 h2
  obtain ⟨m, k, z⟩ := a
  obtain ⟨m', k', z'⟩ := b
  dsimp only at h1 h2
  by_cases c : m = m'
  · subst c
    rw [if_pos rfl] at h1 h2
    by_cases c2 : k = k'
    · subst c2
      rw [if_pos rfl] at h1 h2
      have e1 := of_decide_eq_false h1
      have e2 := of_decide_eq_false h2
      rw [show z = z' by omega]
    · rw [if_neg c2] at h1
      rw [if_neg (fun e => c2 e.symm)] at h2
      exact absurd (str_anti (of_decide_eq_false h1) (of_decide_eq_false h2)) c2
  · rw [if_neg c] at h1
    rw [if_neg (fun e => c e.symm)] at h2
    exact absurd (str_anti (of_decide_eq_false h1) (of_decide_eq_false h2)) c
theorem dsort_map {α : Type} (f : α → PyData) (l : List α) : dsort (l.map f) = (l.mergeSort (dataLe false f)).map f :=
  (PySem.W.sort_maps (r := dataLe false f) (s := dataLe false id) f (l := l) (fun a _ b _ => rfl)).symm
theorem le_total {α : Type} (f : α → PyData) : PySem.W.TotalLe (dataLe false f) := PySem.W.sortLe_total _ _ _
theorem le_iff {α : Type} (f : α → PyData) (a b : α) : dataLe false f a b = true ↔ dataLt (f b) (f a) = false := by
  rw [PySem.W.dataLe_eq]
  show (!dataLt (f b) (f a)) = true ↔ _
  cases dataLt (f b) (f a) <;> simp
/-- like men, sorted, are the same list -/
theorem dsort_perm {A B : List At} (p : A.Perm B) : dsort (A.map dAt) = dsort (B.map dAt) := by
  rw [dsort_map, dsort_map]
  congr 1
  refine sorted_unique (le := fun a b => dataLe false dAt a b = true) (fun a b h1 h2 => ?_) (PySem.W.sort_pairwise (le_total dAt) A) (PySem.W.sort_pairwise (le_total dAt) B) (((List.mergeSort_perm _ _).trans p).trans (List.mergeSort_perm _ _).symm)
  exact at_anti ((le_iff dAt b a).mp h2) ((le_iff dAt a b).mp h1)
theorem lt_r3 {a b : R3} (h : dataLt (dR3 b) (dR3 a) = false) : a.1 ≤ b.1 := by
  unfold dR3 at h
  rw [lt3 (al_int _ _) (al_str _ _) (al_str _ _), eq_int', PySem.W.dataLt_int] at h
  simp only [decide_eq_true_eq] at h
  by_cases c : b.1 = a.1
  · omega
  · rw [if_neg c] at h
    have := of_decide_eq_false h
    omega
/-- the rows of a man, sorted as data -/
theorem dsort_rows {R : List Row} (h : KeysNd R) (man : Str) : dsort (((R.filter fun r => decide (r.1 = man)).map (·.2)).map dR3) = (rows3 R man).map dR3 := by
  rw [dsort_map]
  congr 1
  refine rows3_of h ?_ (List.mergeSort_perm _ _)
  have p := PySem.W.sort_pairwise (le_total dR3) ((R.filter fun r => decide (r.1 = man)).map (·.2))
  have nd : ((((R.filter fun r => decide (r.1 = man)).map (·.2)).mergeSort (dataLe false dR3)).map (·.1)).Nodup := by
    refine ((List.mergeSort_perm ((R.filter fun r => decide (r.1 = man)).map (·.2)) (dataLe false dR3)).map (fun r : R3 => r.1)).nodup_iff.mpr ?_
    rw [List.map_map]
    exact hours_nd h man
  exact List.Pairwise.imp₂ (fun {a b} h1 h2 => by
    have := lt_r3 ((le_iff dR3 a b).mp h1)
    omega) p (List.pairwise_map.mp nd)
/-! ### crews -/
def aboard (R : List Row) (ship : Str) (h : Int) (m : Str) : Option At := match whereAt R m h with
  | some a => if a.1 = ship then some (m, a.2.1, a.2.2) else none
  | none => none
def CrewIs (R : List Row) (ship : Str) (h : Int) (es : List At) : Prop := ∃ men : List Str, men.Nodup ∧ (∀ m, m ∈ men ↔ ∃ r ∈ R, r.1 = m) ∧ es.Perm (men.filterMap (aboard R ship h))
theorem aboard_man {R : List Row} {ship : Str} {h : Int} {m : Str} {a : At} (e : aboard R ship h m = some a) : a.1 = m := by
  unfold aboard at e
  split at e
  · split at e
    · cases e; rfl
    · cases e
  · cases e
def ofMan (R : List Row) (ship : Str) (h : Int) (man : Str) : List At := (aboard R ship h man).toList
theorem filter_men {R : List Row} {ship : Str} {h : Int} {man : Str} : ∀ {men : List Str}, men.Nodup → (men.filterMap (aboard R ship h)).filter (fun a => decide (a.1 = man)) = if man ∈ men then ofMan R ship h man else []
  | [], _ => by simp
  | m :: men, nd => by
    obtain ⟨n1, n2⟩ := List.nodup_cons.mp nd
    have ih := filter_men (R := R) (ship := ship) (h := h) (man := man) n2
    have none_of : ∀ {l : List Str}, m ∉ l → man = m → (l.filterMap (aboard R ship h)).filter (fun a => decide (a.1 = man)) = [] := fun {l} hm e => by
      rw [List.filter_eq_nil_iff]
      intro a ha
      obtain ⟨q, hq, eq⟩ := List.mem_filterMap.mp ha
      have := aboard_man eq
      intro z
      have z2 := of_decide_eq_true z
      exact hm (by rw [← e, ← z2, this]; exact hq)
    by_cases c : man = m
    · subst c
      rw [if_pos List.mem_cons_self]
      cases ea : aboard R ship h man with
      | none =>
        rw [List.filterMap_cons_none ea, none_of n1 rfl]
        unfold ofMan
        rw [ea]
        rfl
      | some a =>
        rw [List.filterMap_cons_some ea, List.filter_cons_of_pos (by rw [aboard_man ea]; exact decide_eq_true rfl), none_of n1 rfl]
        unfold ofMan
        rw [ea]
        rfl
    · have hiff : (man ∈ m :: men) ↔ man ∈ men := by
        rw [List.mem_cons]
        exact ⟨fun z => z.elim (fun e => absurd e c) id, .inr⟩
      rw [show (if man ∈ m :: men then ofMan R ship h man else []) = if man ∈ men then ofMan R ship h man else [] by simp only [hiff], ← ih]
      cases ea : aboard R ship h m with
      | none => rw [List.filterMap_cons_none ea]
      | some a =>
        rw [List.filterMap_cons_some ea, List.filter_cons_of_neg]
        intro z
        have z2 := of_decide_eq_true z
        rw [aboard_man ea] at z2
        exact c z2.symm
theorem aboard_none {R : List Row} {ship : Str} {h : Int} {man : Str} (hn : ¬ ∃ r ∈ R, r.1 = man) : aboard R ship h man = none := by
  unfold aboard
  cases e : whereAt R man h with
  | none => rfl
  | some a =>
    obtain ⟨r, hr, h1, _⟩ := whereAt_row e
    exact absurd ⟨r, hr, h1⟩ hn
theorem perm_small {α : Type} {l m : List α} (p : l.Perm m) (h : m.length ≤ 1) : l = m := by
  match m, h with
  | [], _ => exact List.perm_nil.mp p
  | [x], _ => exact List.perm_singleton.mp p
theorem crew_of {R : List Row} {ship : Str} {h : Int} {es : List At} (C : CrewIs R ship h es) (man : Str) : es.filter (fun a => decide (a.1 = man)) = ofMan R ship h man := by
  obtain ⟨men, nd, hm, p⟩ := C
  have q := p.filter fun a => decide (a.1 = man)
  rw [filter_men nd] at q
  have e : (if man ∈ men then ofMan R ship h man else []) = ofMan R ship h man := by
    by_cases c : man ∈ men
    · rw [if_pos c]
    · rw [if_neg c]
      unfold ofMan
      rw [aboard_none (fun z => c ((hm man).mpr z))]
      rfl
  rw [e] at q
  refine perm_small q ?_
  unfold ofMan
  cases aboard R ship h man <;> simp
/-- what one finds of a man, ship by ship -/
def found (R : List Row) (ships : List Str) (h : Int) (man : Str) : List (Str × At) := ships.flatMap fun sh => (ofMan R sh h man).map fun a => (sh, a)
theorem found_none {R : List Row} {ships : List Str} {h : Int} {man : Str} (e : ∀ a, whereAt R man h = some a → a.1 ∉ ships) : found R ships h man = [] := by
  unfold found
  rw [List.flatMap_eq_nil_iff]
  intro sh hs
  unfold ofMan aboard
  cases ew : whereAt R man h with
  | none => rfl
  | some a =>
    dsimp only
    rw [if_neg (fun z => e a ew (by rw [z]; exact hs))]
    rfl
theorem found_one {R : List Row} {ships : List Str} {h : Int} {man : Str} {a : At} (e : whereAt R man h = some a) (hs : a.1 ∈ ships) (nd : ships.Nodup) : found R ships h man = [(a.1, (man, a.2.1, a.2.2))] := by
  obtain ⟨l1, l2, rfl⟩ := List.append_of_mem hs
  obtain ⟨n1, n2, n3⟩ := List.nodup_append.mp nd
  obtain ⟨n4, n5⟩ := List.nodup_cons.mp n2
  have z : ∀ l : List Str, a.1 ∉ l → found R l h man = [] := fun l hl => found_none fun b hb => by
    rw [e] at hb
    cases hb
    exact hl
  have h1 := z l1 fun w => n3 a.1 w a.1 List.mem_cons_self rfl
  have h2 := z l2 n4
  unfold found at h1 h2 ⊢
  rw [List.flatMap_append, List.flatMap_cons, h1, h2]
  unfold ofMan aboard
  rw [e]
  simp
/-! ### men called otherwise -/
def call (f : Str → Str) (R : List Row) : List Row := R.map fun r => (f r.1, r.2)
theorem rows3_call {f : Str → Str} {R : List Row} {man : Str} (inj : ∀ r ∈ R, f r.1 = f man → r.1 = man) : rows3 (call f R) (f man) = rows3 R man := by
  unfold rows3 call
  rw [List.filter_map]
  have e : R.filter ((fun r : Row => decide (r.1 = f man)) ∘ fun r => (f r.1, r.2)) = R.filter fun r => decide (r.1 = man) := by
    refine List.filter_congr fun r hr => ?_
    show decide (f r.1 = f man) = decide (r.1 = man)
    exact decide_eq_decide.mpr ⟨inj r hr, fun z => by rw [z]⟩
  rw [e, List.map_map]
  rfl
theorem fm_congr {α β : Type} {f g : α → Option β} : ∀ {l : List α}, (∀ m ∈ l, f m = g m) → l.filterMap f = l.filterMap g
  | [], _ => rfl
  | a :: l, h => by
    have e := h a List.mem_cons_self
    have ih := fm_congr (l := l) fun m hm => h m (List.mem_cons_of_mem _ hm)
    rw [List.filterMap_cons, List.filterMap_cons, e, ih]
theorem crew_call {f : Str → Str} {R : List Row} {ship : Str} {h : Int} {es es' : List At} (inj : ∀ r ∈ R, ∀ q ∈ R, f r.1 = f q.1 → r.1 = q.1) (C : CrewIs R ship h es) (C' : CrewIs (call f R) ship h es') : es'.Perm (es.map fun a => (f a.1, a.2)) := by
  obtain ⟨men, nd, hm, p⟩ := C
  obtain ⟨men', nd', hm', p'⟩ := C'
  have injm : ∀ x ∈ men, ∀ y ∈ men, f x = f y → x = y := fun x hx y hy e => by
    obtain ⟨r, hr, rfl⟩ := (hm x).mp hx
    obtain ⟨q, hq, rfl⟩ := (hm y).mp hy
    exact inj r hr q hq e
  have pm : men'.Perm (men.map f) := by
    refine (List.perm_ext_iff_of_nodup nd' ?_).mpr fun x => ?_
    · refine List.pairwise_map.mpr (List.Pairwise.imp_of_mem (fun {a b} ha hb hne e => hne (injm a ha b hb e)) nd)
    · rw [hm' x]
      constructor
      · rintro ⟨r, hr, e⟩
        obtain ⟨q, hq, e2⟩ := List.mem_map.mp hr
        refine List.mem_map.mpr ⟨q.1, (hm q.1).mpr ⟨q, hq, rfl⟩, ?_⟩
        rw [← e, ← e2]
      · intro hx
        obtain ⟨y, hy, e⟩ := List.mem_map.mp hx
        obtain ⟨r, hr, e2⟩ := (hm y).mp hy
        exact ⟨(f r.1, r.2), List.mem_map.mpr ⟨r, hr, rfl⟩, by rw [← e, ← e2]⟩
  refine p'.trans ((pm.filterMap _).trans (List.Perm.trans ?_ (p.map _).symm))
  rw [List.filterMap_map, List.map_filterMap]
  refine List.Perm.of_eq (fm_congr fun m hmm => ?_)
  show aboard (call f R) ship h (f m) = (aboard R ship h m).map fun a => (f a.1, a.2)
  have ew : whereAt (call f R) (f m) h = whereAt R m h := by
    unfold whereAt
    rw [rows3_call fun r hr e => by
      obtain ⟨q, hq, e2⟩ := (hm m).mp hmm
      rw [← e2] at e ⊢
      exact inj r hr q hq e]
  unfold aboard
  rw [ew]
  cases whereAt R m h with
  | none => rfl
  | some a =>
    dsimp only
    by_cases c : a.1 = ship
    · rw [if_pos c, if_pos c] <;> rfl
    · rw [if_neg c, if_neg c] <;> rfl
theorem keysNd_call {f : Str → Str} {R : List Row} (inj : ∀ r ∈ R, ∀ q ∈ R, f r.1 = f q.1 → r.1 = q.1) (h : KeysNd R) : KeysNd (call f R) := by
  unfold KeysNd call
  rw [List.map_map]
  refine List.pairwise_map.mpr (List.Pairwise.imp_of_mem (fun {a b} ha hb hne e => hne ?_) (List.pairwise_map.mp h))
  have e1 : f a.1 = f b.1 := congrArg Prod.fst e
  have e2 : a.2.1 = b.2.1 := congrArg Prod.snd e
  rw [inj a ha b hb e1, e2]
end Rk
set_option Elab.async false
set_option linter.all false
set_option maxRecDepth 100000
/-! Pa: promises over data; names, hours, rows, rolls -/
namespace Rk
open PySem PySem.Spec PyProof.Rows L2
def topS (i : Nat) : Stmt := PySem.Challenge.pw_prizelog_k35_whole_rolls.main.body.getD i (.Pass ⟨0, 0, 0, 0⟩)
/-- a def of the top -/
structure Df (K : PySem.W.Frag) (mg : Str → Option Value) (x : Str) (st : Stmt) (ps : List Str) : Prop where
  ex : ∃ f fd, Fun K x x st f fd ∧ mg x = some (.ref f) ∧ Binds K fd ps []
/-- a def that keeps a promise over data -/
structure Go (P : Program) (w : World) (K : PySem.W.Frag) (mg : Str → Option Value) (base : Heap) (T : Tbs) (k : Nat) (x : Str) (C : List PyData → DP → Prop) : Prop where
  ex : ∃ f fd ps, FnOk P w K mg base CX0 k f fd ps (spC T C) ∧ mg x = some (.ref f) ∧ PySem.W.keepIn K (.ref f) = true ∧ Binds K fd ps []
section
variable {P : Program} {w : World} {K : PySem.W.Frag} {mg : Str → Option Value} {base : Heap} {T : Tbs} {k : Nat} {x : Str} {C : List PyData → DP → Prop}
theorem IsA.len {M : Ct} {H : Hp} {vs : List V} {ds : List PyData} (h : IsA M H vs ds) : vs.length = ds.length := h.length
theorem go_mk {st : Stmt} {N ps : List Str} (D : Df K mg x st ps) (S : FnScope N ps (defScope st)) (len : ∀ ds R, C ds R → ds.length = ps.length)
    (body : ∀ (f : Addr) (cdv : Value) (A : Around) (outer : List Env) (s : Shared) (H : Hp) (vs : List V) (Q : VK) (E : XK) (M : Ct) (ds : List PyData) (R : DP), Room k (A.deeper (envOfC x (defScope st) s.heap.objs.size f cdv)) → Gd T M H → IsA M H vs ds → C ds R → Post T M H R Q →
      ∃ t, PSs (cxOf CX0 P w K mg base N x (defScope st) f cdv A outer s H E).nox (defBody st) t ∧ t { nx := fun _ H' => Q .non H', rt := Q } (start N vs) H) : Go P w K mg base T (k + 1) x C := by
  obtain ⟨f, fd, F, m, b⟩ := D.ex
  refine ⟨f, fd, ps, F.ok S (fun vs H Q E h => ?_) fun cdv A outer s H vs Q E hr h => ?_, m, F.kp, b⟩
  · obtain ⟨M, ds, R, g, a, c, q⟩ := h
    rw [a.length]
    exact len ds R c
  · obtain ⟨M, ds, R, g, a, c, q⟩ := h
    exact body f cdv A outer s H vs Q E M ds R hr g a c q
end
section
variable {X : Cx} {j k : Nat} {T : Tbs} {C : List PyData → DP → Prop} {x : Str} {p pos : Pos} {e : Expr} {es : List Expr} {t : TA}
theorem pe_go (c : Go X.prog X.w X.K X.mg X.base T k x C) (hr : Room j X.A) (ha : PA X (e :: es) t) (hk : k ≤ j := by decide) (hg : Gl X x := by rfl)
    (hdb : (x == ("__debug__" : Str)) = false := by decide) (he : starEach (e :: es) X.env = (false, eval e X.env) :: starEach es X.env := by rfl) (hpl : (backTo pos (starEach es X.env)).any (·.1) = false := by rfl) :
    PE X (.Call (.Name x p) (e :: es) [] pos) (tCall (spC T C) [] E0 t) := by
  obtain ⟨f, fd, ps, F, hm, kp, b⟩ := c.ex
  exact pe_call F (hr.mono hk) hg hm kp b .nil pass0 ha hdb he hpl
end
/-! statements -/
section
variable {T : Tbs} {M : Ct} {σ : L2.St} {H H' : Hp} {te : TE} {t : TT} {P : DP} {D : Ends} {ta tb : TS} {b : Bool} {i : Nat}
theorem sq (h : ta { D with nx := tb D } σ H) : tSeq ta tb D σ H := h
theorem as_d (h : EX T M te σ H P) (g : Gd T M H) (k : ∀ v H2 d, P d → Xq M H H2 → Gd T M H2 → Is M H2 v d → D.nx (σ.set i (some v)) H2) : tAsg te (gName i) D σ H := h H Xq.refl g _ k
theorem if_d (h : ET T M t σ H (· = b)) (g : Gd T M H) (k1 : b = true → ∀ H2, Xq M H H2 → Gd T M H2 → ta D σ H2) (k2 : b = false → ∀ H2, Xq M H H2 → Gd T M H2 → tb D σ H2) : tIfS t ta tb D σ H := h H Xq.refl g _ fun c H2 pc x g2 => by
  subst pc
  cases c with
  | true => exact iteT (k1 rfl H2 x g2)
  | false => exact iteF (k2 rfl H2 x g2)
theorem rt_d (h : EX T M te σ H P) (g : Gd T M H) (k : Post T M H P D.rt) : tRet te D σ H := h H Xq.refl g _ k
theorem dr_d (h : EX T M te σ H P) (g : Gd T M H) (k : ∀ d H2, P d → Xq M H H2 → Gd T M H2 → D.nx σ H2) : tDrop te D σ H := h H Xq.refl g _ fun v H2 d pd x g2 _ => k d H2 pd x g2
end
/-! ### what the top has written -/
theorem bt_isinstance : bootBuiltins "isinstance" = some (.builtin "isinstance") := by decide +kernel
theorem bt_len : bootBuiltins "len" = some (.builtin "len") := by decide +kernel
theorem bt_all : bootBuiltins "all" = some (.builtin "all") := by decide +kernel
theorem bt_sorted : bootBuiltins "sorted" = some (.builtin "sorted") := by decide +kernel
theorem bt_abs : bootBuiltins "abs" = some (.builtin "abs") := by decide +kernel
theorem bt_max : bootBuiltins "max" = some (.builtin "max") := by decide +kernel
theorem bt_min : bootBuiltins "min" = some (.builtin "min") := by decide +kernel
theorem bt_int : bootBuiltins "int" = some (.type "int") := by decide +kernel
theorem bt_bool : bootBuiltins "bool" = some (.type "bool") := by decide +kernel
theorem bt_str : bootBuiltins "str" = some (.type "str") := by decide +kernel
theorem bt_tuple : bootBuiltins "tuple" = some (.type "tuple") := by decide +kernel
theorem bt_set : bootBuiltins "set" = some (.type "set") := by decide +kernel
theorem bt_range : bootBuiltins "range" = some (.type "range") := by decide +kernel
def letters : Str := "abcdefghijklmnopqrstuvwxyz"
structure Top (mg : Str → Option Value) : Prop where
  isi : mg "isinstance" = none
  int : mg "int" = none
  bool : mg "bool" = none
  str : mg "str" = none
  tuple : mg "tuple" = none
  len : mg "len" = none
  all : mg "all" = none
  set : mg "set" = none
  sorted : mg "sorted" = none
  range : mg "range" = none
  abs : mg "abs" = none
  max : mg "max" = none
  min : mg "min" = none
  cL : ∃ u, mg "LETTERS" = some u ∧ RelV (.str letters) u
  cS : ∃ u, mg "MOST_SIGNS" = some u ∧ RelV (.int 8) u
  cH : ∃ u, mg "LAST_HOUR" = some u ∧ RelV (.int 100000) u
  cR : ∃ u, mg "MOST_ROWS" = some u ∧ RelV (.int 60) u
theorem pe_gcon {X : Cx} {x : Str} {v : V} {pos : Pos} (h : ∃ u, X.mg x = some u ∧ RelV v u) (hg : Gl X x := by rfl) (hd : (x == ("__debug__" : Str)) = false := by decide) : PE X (.Name x pos) (tC v) := by
  obtain ⟨u, h1, h2⟩ := h
  exact pe_glob hg h1 h2 hd
theorem ed_ty {T : Tbs} {M : Ct} {σ : L2.St} {H : Hp} {te : TE} {tn un : String} {d : PyData} {b : Bool} (h : EX T M te σ H (· = d)) (ht : ∀ (K : PySem.W.Frag) H v, Is M H v d → TyX K H v (.type tn)) (hk : kitB tn un = some b) {K : PySem.W.Frag} :
    EX T M (tCB (rIsi K) (tCons te (tCons (tC (.ty un)) tNil))) σ H (· = .bool b) := fun H1 x g Q q => h H1 x g _ fun v H2 e pe x2 g2 ve => by
  subst pe
  exact ⟨v, .ty un, .type tn, .type un, b, rfl, .ty un, ht K H2 v ve, kit_ty hk, q _ H2 _ rfl x2 g2 (.bl b)⟩
theorem ty_int {M : Ct} {i : Int} (K : PySem.W.Frag) (H : Hp) (v : V) (h : Is M H v (.int i)) : TyX K H v (.type "int") := by cases h; exact .base (.int i)
theorem ty_str {M : Ct} {i : Str} (K : PySem.W.Frag) (H : Hp) (v : V) (h : Is M H v (.str i)) : TyX K H v (.type "str") := by cases h; exact .base (.str i)
theorem ty_tup {M : Ct} {ds : List PyData} (K : PySem.W.Frag) (H : Hp) (v : V) (h : Is M H v (.tuple ds)) : TyX K H v (.type "tuple") := by
  cases h with
  | tup e a => exact .base (.tup e)
/-! ### is_whole -/
abbrev sWhole : Stmt := topS 1
theorem scWhole : FnScope ["thing"] ["thing"] (defScope sWhole) := ⟨rfl, rfl, rfl, by decide +kernel, rfl, by decide +kernel, by decide +kernel⟩
def cWhole (ds : List PyData) (R : DP) : Prop := ∃ i : Int, ds = [.int i] ∧ R = (· = .bool true)
section
variable {P : Program} {w : World} {K : PySem.W.Frag} {mg : Str → Option Value} {base : Heap} {T : Tbs}
theorem go_whole (tp : Top mg) (D : Df K mg "is_whole" sWhole ["thing"]) : Go P w K mg base T 1 "is_whole" cWhole := by
  refine go_mk (k := 0) D scWhole (fun ds R h => by obtain ⟨i, rfl, _⟩ := h; rfl) fun f cdv A outer s H vs Q E M ds R hr g a c q => ?_
  obtain ⟨i, rfl, rfl⟩ := c
  cases a with
  | cons h1 h2 =>
    cases h2
    refine ⟨_, pss_one (ps_ret (pe_and (pe_callB call_isi (by rfl) tp.isi bt_isinstance (pa_cons (pv 0) (pa_cons (pe_bltn (v := .ty "int") (by rfl) tp.int bt_int rfl) pa_nil)))
      (pe_one (pe_not (pe_callB call_isi (by rfl) tp.isi bt_isinstance (pa_cons (pv 0) (pa_cons (pe_bltn (v := .ty "bool") (by rfl) tp.bool bt_bool rfl) pa_nil))))))), ?_⟩
    exact rt_d (ed_andV (ed_ty (ed_var rfl h1) ty_int (b := true) (by decide +kernel)) fun _ => ed_notV (ed_ty (ed_var rfl h1) ty_int (b := false) (by decide +kernel))) g q
end
end Rk
set_option Elab.async false
set_option linter.all false
set_option maxRecDepth 100000
/-! Pb: names, hours, rows, rolls -/
namespace Rk
open PySem PySem.Spec PyProof.Rows L2
section
variable {M : Ct} {H : Hp} {vs : List V} {d1 d2 d3 d4 d5 d6 : PyData}
theorem IsA.a1 (h : IsA M H vs [d1]) : ∃ v, vs = [v] ∧ Is M H v d1 := by
  cases h with
  | cons h1 h2 => cases h2; exact ⟨_, rfl, h1⟩
theorem IsA.a2 (h : IsA M H vs [d1, d2]) : ∃ u v, vs = [u, v] ∧ Is M H u d1 ∧ Is M H v d2 := by
  cases h with
  | cons h1 h2 =>
    obtain ⟨v, rfl, h3⟩ := h2.a1
    exact ⟨_, v, rfl, h1, h3⟩
theorem IsA.a3 (h : IsA M H vs [d1, d2, d3]) : ∃ t u v, vs = [t, u, v] ∧ Is M H t d1 ∧ Is M H u d2 ∧ Is M H v d3 := by
  cases h with
  | cons h1 h2 =>
    obtain ⟨u, v, rfl, h3, h4⟩ := h2.a2
    exact ⟨_, u, v, rfl, h1, h3, h4⟩
theorem IsA.a4 (h : IsA M H vs [d1, d2, d3, d4]) : ∃ s t u v, vs = [s, t, u, v] ∧ Is M H s d1 ∧ Is M H t d2 ∧ Is M H u d3 ∧ Is M H v d4 := by
  cases h with
  | cons h1 h2 =>
    obtain ⟨t, u, v, rfl, h3⟩ := h2.a3
    exact ⟨_, t, u, v, rfl, h1, h3⟩
theorem IsA.a6 (h : IsA M H vs [d1, d2, d3, d4, d5, d6]) : ∃ q r s t u v, vs = [q, r, s, t, u, v] ∧ Is M H q d1 ∧ Is M H r d2 ∧ Is M H s d3 ∧ Is M H t d4 ∧ Is M H u d5 ∧ Is M H v d6 := by
  cases h with
  | cons h1 h2 =>
    cases h2 with
    | cons h3 h4 =>
      obtain ⟨s, t, u, v, rfl, h5⟩ := h4.a4
      exact ⟨_, _, s, t, u, v, rfl, h1, h3, h5⟩
end
def nameB (z : Str) : Bool := (decide ((1 : Int) ≤ z.length) && decide ((z.length : Int) ≤ 8)) && z.cps.toList.all fun c => decide (c ∈ letters.cps.toList)
theorem nameB_len {z : Str} (h : nameB z = true) : 1 ≤ z.length ∧ z.length ≤ 8 := by
  unfold nameB at h
  rw [Bool.and_eq_true, Bool.and_eq_true, decide_eq_true_eq, decide_eq_true_eq] at h
  omega
abbrev sName : Stmt := topS 12
abbrev sHour : Stmt := topS 13
abbrev sRow : Stmt := topS 14
abbrev sRoll : Stmt := topS 15
abbrev sNRoll : Stmt := topS 16
abbrev sNName : Stmt := topS 17
abbrev sNHour : Stmt := topS 18
theorem scName : FnScope ["thing", "sign"] ["thing"] (defScope sName) := ⟨rfl, rfl, rfl, by decide +kernel, rfl, by decide +kernel, by decide +kernel⟩
theorem scHour : FnScope ["thing"] ["thing"] (defScope sHour) := ⟨rfl, rfl, rfl, by decide +kernel, rfl, by decide +kernel, by decide +kernel⟩
theorem scRow : FnScope ["thing"] ["thing"] (defScope sRow) := ⟨rfl, rfl, rfl, by decide +kernel, rfl, by decide +kernel, by decide +kernel⟩
theorem scRoll : FnScope ["thing", "row"] ["thing"] (defScope sRoll) := ⟨rfl, rfl, rfl, by decide +kernel, rfl, by decide +kernel, by decide +kernel⟩
theorem scNRoll : FnScope ["thing"] ["thing"] (defScope sNRoll) := ⟨rfl, rfl, rfl, by decide +kernel, rfl, by decide +kernel, by decide +kernel⟩
theorem scNName : FnScope ["thing"] ["thing"] (defScope sNName) := ⟨rfl, rfl, rfl, by decide +kernel, rfl, by decide +kernel, by decide +kernel⟩
theorem scNHour : FnScope ["thing"] ["thing"] (defScope sNHour) := ⟨rfl, rfl, rfl, by decide +kernel, rfl, by decide +kernel, by decide +kernel⟩
def hourB (i : Int) : Bool := decide (0 ≤ i) && decide (i ≤ 100000)
structure RowOk (r : Row) : Prop where
  man : nameB r.1 = true
  hour : hourB r.2.1 = true
  ship : nameB r.2.2.1 = true ∨ r.2.2.1 = ""
  rank : nameB r.2.2.2 = true
structure RollOk (R : List Row) : Prop where
  len : R.length ≤ 60
  rows : ∀ r ∈ R, RowOk r
  nd : KeysNd R
def cName (ds : List PyData) (R : DP) : Prop := ∃ z : Str, ds = [.str z] ∧ z.length ≤ 8 ∧ R = (· = .bool (nameB z))
def cHour (ds : List PyData) (R : DP) : Prop := ∃ i : Int, ds = [.int i] ∧ R = (· = .bool (hourB i))
def cRow (ds : List PyData) (R : DP) : Prop := ∃ r : Row, ds = [dRow r] ∧ RowOk r ∧ R = (· = .bool true)
def cRoll (ds : List PyData) (R : DP) : Prop := ∃ r : List Row, ds = [dRoll r] ∧ RollOk r ∧ R = (· = .bool true)
def cNRoll (ds : List PyData) (R : DP) : Prop := ∃ r : List Row, ds = [dRoll r] ∧ RollOk r ∧ R = (· = .none)
def cNName (ds : List PyData) (R : DP) : Prop := ∃ z : Str, ds = [.str z] ∧ nameB z = true ∧ R = (· = .none)
def cNHour (ds : List PyData) (R : DP) : Prop := ∃ i : Int, ds = [.int i] ∧ hourB i = true ∧ R = (· = .none)
def fIn : PyData → PyData
  | .str z => .bool (match z.cps.toList with | [c] => decide (c ∈ letters.cps.toList) | _ => false)
  | _ => .bool false
theorem fIn_sgn (c : Nat) : fIn (sgn c) = .bool (decide (c ∈ letters.cps.toList)) := rfl
theorem fIn_map (l : List Nat) : (l.map sgn).map fIn = (l.map fun c => decide (c ∈ letters.cps.toList)).map PyData.bool := by
  rw [List.map_map, List.map_map]
  rfl
theorem nl_non {M : Ct} {H : Hp} : Is M H .non .none := .non
section
variable {P : Program} {w : World} {K : PySem.W.Frag} {mg : Str → Option Value} {base : Heap} {T : Tbs}
theorem go_name (tp : Top mg) (D : Df K mg "is_name" sName ["thing"]) : Go P w K mg base T 1 "is_name" cName := by
  refine go_mk (k := 0) D scName (fun ds R h => by obtain ⟨i, rfl, _⟩ := h; rfl) fun f cdv A outer s H vs Q E M ds R hr g a c q => ?_
  obtain ⟨z, rfl, hz, rfl⟩ := c
  obtain ⟨v, rfl, hv⟩ := a.a1
  refine ⟨_, pss_cons (ps_if (pw_or (pt_not (pt_val (pe_callB call_isi (by rfl) tp.isi bt_isinstance (pa_cons (pv 0) (pa_cons (pe_bltn (v := .ty "str") (by rfl) tp.str bt_str rfl) pa_nil)))))
      (pw_or1 (pt_not (pt_chain op_le op_le pe_int (pe_callB call_len_str (by rfl) tp.len bt_len (pa_cons (pv 0) pa_nil)) (pe_gcon tp.cS))))).pt (pss_one (ps_ret pe_bl)) pss_nil)
    (pss_one (ps_ret (pe_callB (cr_all rfl) (by rfl) tp.all bt_all (pa_cons (pe_lc (own := [("sign", 1)]) (g := gName 1) (tt := tYes) rfl scName.nd (pi_str (pv 0)) (blkOk_by (N := ["thing", "sign"]) (sc := defScope sName) (by decide +kernel)) (fun _ _ _ _ _ => pg_name (i := 1) scName.nd rfl (Or.inl rfl)) (fun _ _ _ _ _ => pts_nil) (fun _ _ _ _ _ => pe_cmpR op_in_sign (pv 1) (pe_gcon tp.cL) (by with_unfolding_all rfl))) pa_nil)))), ?_⟩
  refine sq (if_d (et_or (et_not (etdB (ed_ty (ed_var rfl hv) ty_str (b := true) (by decide +kernel)))) fun _ => et_not (etd (ed_chain ed_int (ed_cb (ead (ed_var rfl hv) ea_nil) (rc_lenS (by omega))) rd_B0 (fun _ => ed_int) (fun _ => rd_B0)))) g (fun hb H2 x g2 => ?_) fun hb H2 x g2 => ?_)
  · refine rt_d ed_bl g2 fun v2 H3 d pd x3 g3 vd => q v2 H3 d ?_ (x.trans x3) g3 vd
    rw [pd]
    unfold nameB
    rw [Bool.not_true, Bool.false_or, Bool.not_eq_true'] at hb
    rw [hb, Bool.false_and]
  · refine rt_d (ed_cb (ead ((ed_lcm (f := fIn) (ew_str (ed_var rfl (hv.mono x))) ?_ ?_ ?_).to (congrArg PyData.list (fIn_map z.cps.toList))) ea_nil) rc_all) g2 fun v2 H3 d pd x3 g3 vd => q v2 H3 d ?_ (x.trans x3) g3 vd
    · rw [List.length_map, Array.length_toList]
      exact Nat.le_trans hz (by decide)
    · intro d hd
      obtain ⟨c, _, rfl⟩ := List.mem_map.mp hd
      rfl
    · intro d v3 H4 hd x4 g4 hv4
      obtain ⟨c, _, rfl⟩ := List.mem_map.mp hd
      exact ed_op (ed_var rfl hv4) ed_str rd_inS
    · rw [pd]
      unfold nameB
      rw [Bool.not_true, Bool.false_or, Bool.not_eq_false'] at hb
      rw [hb, Bool.true_and, List.all_map]
      rfl
theorem go_hour (tp : Top mg) (GW : Go P w K mg base T 1 "is_whole" cWhole) (D : Df K mg "is_hour" sHour ["thing"]) : Go P w K mg base T 2 "is_hour" cHour := by
  refine go_mk (k := 1) D scHour (fun ds R h => by obtain ⟨i, rfl, _⟩ := h; rfl) fun f cdv A outer s H vs Q E M ds R hr g a c q => ?_
  obtain ⟨i, rfl, rfl⟩ := c
  obtain ⟨v, rfl, hv⟩ := a.a1
  refine ⟨_, pss_one (ps_ret (pe_and (pe_go GW hr (pa_cons (pv 0) pa_nil)) (pe_one (pe_chain op_le op_le pe_int (pv 0) (pe_gcon tp.cH))))), ?_⟩
  exact rt_d (ed_andV (ed_call (ead (ed_var rfl hv) ea_nil) ⟨i, rfl, rfl⟩) fun _ => ed_chain ed_int (ed_var rfl hv) rd_B0 (fun _ => ed_int) (fun _ => rd_B0)) g q
theorem go_nname (GN : Go P w K mg base T 1 "is_name" cName) (D : Df K mg "need_name" sNName ["thing"]) : Go P w K mg base T 2 "need_name" cNName := by
  refine go_mk (k := 1) D scNName (fun ds R h => by obtain ⟨i, rfl, _⟩ := h; rfl) fun f cdv A outer s H vs Q E M ds R hr g a c q => ?_
  obtain ⟨z, rfl, hz, rfl⟩ := c
  obtain ⟨v, rfl, hv⟩ := a.a1
  refine ⟨_, pss_one (ps_if (pt_not (pt_val (pe_go GN hr (pa_cons (pv 0) pa_nil)))) (pss_one ps_never) pss_nil), ?_⟩
  refine if_d (et_not (etdB (ed_call (ead (ed_var rfl hv) ea_nil) ⟨z, rfl, (nameB_len hz).2, rfl⟩))) g (fun hb H2 x g2 => ?_) fun hb H2 x g2 => ?_
  · rw [hz] at hb
    cases hb
  · exact q _ _ _ rfl x g2 .non
theorem go_nhour (GN : Go P w K mg base T 2 "is_hour" cHour) (D : Df K mg "need_hour" sNHour ["thing"]) : Go P w K mg base T 3 "need_hour" cNHour := by
  refine go_mk (k := 2) D scNHour (fun ds R h => by obtain ⟨i, rfl, _⟩ := h; rfl) fun f cdv A outer s H vs Q E M ds R hr g a c q => ?_
  obtain ⟨z, rfl, hz, rfl⟩ := c
  obtain ⟨v, rfl, hv⟩ := a.a1
  refine ⟨_, pss_one (ps_if (pt_not (pt_val (pe_go GN hr (pa_cons (pv 0) pa_nil)))) (pss_one ps_never) pss_nil), ?_⟩
  refine if_d (et_not (etdB (ed_call (ead (ed_var rfl hv) ea_nil) ⟨z, rfl, rfl⟩))) g (fun hb H2 x g2 => ?_) fun hb H2 x g2 => ?_
  · rw [hz] at hb
    cases hb
  · exact q _ _ _ rfl x g2 .non
theorem go_nroll (GN : Go P w K mg base T 4 "is_roll" cRoll) (D : Df K mg "need_roll" sNRoll ["thing"]) : Go P w K mg base T 5 "need_roll" cNRoll := by
  refine go_mk (k := 4) D scNRoll (fun ds R h => by obtain ⟨i, rfl, _⟩ := h; rfl) fun f cdv A outer s H vs Q E M ds R hr g a c q => ?_
  obtain ⟨z, rfl, hz, rfl⟩ := c
  obtain ⟨v, rfl, hv⟩ := a.a1
  refine ⟨_, pss_one (ps_if (pt_not (pt_val (pe_go GN hr (pa_cons (pv 0) pa_nil)))) (pss_one ps_never) pss_nil), ?_⟩
  refine if_d (et_not (etdB (ed_call (ead (ed_var rfl hv) ea_nil) ⟨z, rfl, hz, rfl⟩))) g (fun hb H2 x g2 => ?_) fun hb H2 x g2 => ?_
  · cases hb
  · exact q _ _ _ rfl x g2 .non
end
end Rk
set_option Elab.async false
set_option linter.all false
set_option maxRecDepth 100000
/-! Pc: rows, rolls -/
namespace Rk
open PySem PySem.Spec PyProof.Rows L2
def fTrue : PyData → PyData := fun _ => .bool true
def fTwo : PyData → PyData
  | .tuple (a :: b :: _) => .tuple [a, b]
  | _ => .none
def kRow (r : Row) : List Key := [.inr r.1, .inl r.2.1]
theorem two_map (R : List Row) : (R.map dRow).map fTwo = (R.map kRow).map dT := by
  rw [List.map_map, List.map_map]
  rfl
theorem keys_nd {R : List Row} (h : KeysNd R) : (R.map kRow).Nodup := by
  refine List.pairwise_map.mpr ((List.pairwise_map.mp h).imp fun {a b} hne e => hne ?_)
  unfold kRow at e
  have e1 : Sum.inr (α := Int) a.1 = Sum.inr b.1 := (List.cons.inj e).1
  have e2 : Sum.inl (β := Str) a.2.1 = Sum.inl b.2.1 := (List.cons.inj (List.cons.inj e).2).1
  rw [Sum.inr.inj e1, Sum.inl.inj e2]
section
variable {P : Program} {w : World} {K : PySem.W.Frag} {mg : Str → Option Value} {base : Heap} {T : Tbs}
theorem go_row (tp : Top mg) (GN : Go P w K mg base T 1 "is_name" cName) (GH : Go P w K mg base T 2 "is_hour" cHour) (D : Df K mg "is_row" sRow ["thing"]) : Go P w K mg base T 3 "is_row" cRow := by
  refine go_mk (k := 2) D scRow (fun ds R h => by obtain ⟨i, rfl, _⟩ := h; rfl) fun f cdv A outer s H vs Q E M ds R hr g a c q => ?_
  obtain ⟨r, rfl, ok, rfl⟩ := c
  obtain ⟨v, rfl, hv⟩ := a.a1
  refine ⟨_, pss_cons (ps_if (pw_or (pt_not (pt_val (pe_callB call_isi (by rfl) tp.isi bt_isinstance (pa_cons (pv 0) (pa_cons (pe_bltn (v := .ty "tuple") (by rfl) tp.tuple bt_tuple rfl) pa_nil)))))
      (pw_or (pt_cmpR op_ne (pe_callB call_len_seq (by rfl) tp.len bt_len (pa_cons (pv 0) pa_nil)) pe_int (nomark _))
      (pw_or (pt_not (pt_val (pe_go GN hr (pa_cons (pe_ix ix_tup (pv 0) pe_int (fun _ _ => rfl)) pa_nil))))
      (pw_or1 (pt_not (pt_val (pe_go GH hr (pa_cons (pe_ix ix_tup (pv 0) pe_int (fun _ _ => rfl)) pa_nil)))))))).pt (pss_one (ps_ret pe_bl)) pss_nil)
    (pss_one (ps_ret (pe_and (pe_or (pe_go GN hr (pa_cons (pe_ix ix_tup (pv 0) pe_int (fun _ _ => rfl)) pa_nil))
      (pe_one (pe_and (pe_callB call_isi (by rfl) tp.isi bt_isinstance (pa_cons (pe_ix ix_tup (pv 0) pe_int (fun _ _ => rfl)) (pa_cons (pe_bltn (v := .ty "str") (by rfl) tp.str bt_str rfl) pa_nil))) (pe_one (pe_cmpR op_eq (pe_ix ix_tup (pv 0) pe_int (fun _ _ => rfl)) pe_str (nomark _))))))
      (pe_one (pe_go GN hr (pa_cons (pe_ix ix_tup (pv 0) pe_int (fun _ _ => rfl)) pa_nil)))))), ?_⟩
  have l3 : r.2.2.1.length ≤ 8 := by
    rcases ok.ship with h | h
    · exact (nameB_len h).2
    · rw [h]; decide
  refine sq (if_d (et_or (et_not (etdB (ed_ty (ed_var rfl hv) ty_tup (b := true) (by decide +kernel)))) fun _ => et_or (etd (ed_op (ed_cb (ead (ed_var rfl hv) ea_nil) rc_lenT) ed_int rd_neI)) fun _ =>
    et_or (et_not (etdB (ed_call (ead (ed_op (ed_var rfl hv) ed_int (rd_ixT rfl)) ea_nil) ⟨r.1, rfl, (nameB_len ok.man).2, rfl⟩))) fun _ => et_not (etdB (ed_call (ead (ed_op (ed_var rfl hv) ed_int (rd_ixT rfl)) ea_nil) ⟨r.2.1, rfl, rfl⟩))) g (fun hb H2 x g2 => ?_) fun hb H2 x g2 => ?_)
  · rw [ok.man, ok.hour] at hb
    cases hb
  · have hv2 := hv.mono x
    refine rt_d (ed_andV (ed_orV (ed_call (ead (ed_op (ed_var rfl hv2) ed_int (rd_ixT rfl)) ea_nil) ⟨r.2.2.1, rfl, l3, rfl⟩) fun _ =>
      ed_andV (ed_ty (ed_op (ed_var rfl hv2) ed_int (rd_ixT (d := .str r.2.2.1) rfl)) ty_str (b := true) (by decide +kernel)) fun _ => ed_op (ed_op (ed_var rfl hv2) ed_int (rd_ixT rfl)) ed_str rd_eqS) fun _ =>
      ed_call (ead (ed_op (ed_var rfl hv2) ed_int (rd_ixT rfl)) ea_nil) ⟨r.2.2.2, rfl, (nameB_len ok.rank).2, rfl⟩) g2 fun v2 H3 d pd x3 g3 vd => q v2 H3 d ?_ (x.trans x3) g3 vd
    rw [pd, ok.rank, Bool.true_and, Bool.and_true]
    rcases ok.ship with h | h
    · rw [h]; rfl
    · rw [h]; rfl
theorem go_roll (tp : Top mg) (GR : Go P w K mg base T 3 "is_row" cRow) (D : Df K mg "is_roll" sRoll ["thing"]) : Go P w K mg base T 4 "is_roll" cRoll := by
  refine go_mk (k := 3) D scRoll (fun ds R h => by obtain ⟨i, rfl, _⟩ := h; rfl) fun f cdv A outer s H vs Q E M ds R hr g a c q => ?_
  obtain ⟨r, rfl, ok, rfl⟩ := c
  obtain ⟨v, rfl, hv⟩ := a.a1
  refine ⟨_, pss_cons (ps_if (pw_or (pt_not (pt_val (pe_callB call_isi (by rfl) tp.isi bt_isinstance (pa_cons (pv 0) (pa_cons (pe_bltn (v := .ty "tuple") (by rfl) tp.tuple bt_tuple rfl) pa_nil)))))
      (pw_or (pt_cmpR op_gt (pe_callB call_len_seq (by rfl) tp.len bt_len (pa_cons (pv 0) pa_nil)) (pe_gcon tp.cR) (nomark _))
      (pw_or1 (pt_not (pt_val (pe_callB (cr_all rfl) (by rfl) tp.all bt_all (pa_cons (pe_lc (own := [("row", 1)]) (g := gName 1) (tt := tYes) rfl scRoll.nd (pi_tup (pv 0)) (blkOk_by (N := ["thing", "row"]) (sc := defScope sRoll) (by decide +kernel)) (fun _ _ _ _ _ => pg_name (i := 1) scRoll.nd rfl (Or.inl rfl)) (fun _ _ _ _ _ => pts_nil)
        (fun _ _ _ _ _ => pe_go GR hr (pa_cons (pv 1) pa_nil))) pa_nil))))))).pt (pss_one (ps_ret pe_bl)) pss_nil)
    (pss_one (ps_ret (pe_cmpR op_eq (pe_lenSetT rfl hr.units (by rfl) tp.len (by rfl) tp.set
      (pe_lc (own := [("row", 1)]) (g := gName 1) (tt := tYes) (te := tSl (rSlA K) (tVar 1) tNoPart (tPart (tC (.int 2)))) rfl scRoll.nd (pi_tup (pv 0)) (blkOk_by (N := ["thing", "row"]) (sc := defScope sRoll) (by decide +kernel)) (fun _ _ _ _ _ => pg_name (i := 1) scRoll.nd rfl (Or.inl rfl)) (fun _ _ _ _ _ => pts_nil)
        (fun _ _ _ _ _ => pe_slice sl_tupA (pv 1) po_none (po_some pe_int)))) (pe_callB call_len_seq (by rfl) tp.len bt_len (pa_cons (pv 0) pa_nil)) (nomark _)))), ?_⟩
  have hw : ∀ {H2}, Xq M H H2 → EW T M (iTup K (tVar 0)) (start ["thing", "row"] [v]) H2 (· = r.map dRow) := fun {H2} x => ew_tup ((ed_var rfl (hv.mono x)).imp fun d e => ⟨_, e, rfl⟩)
  have hz : (r.map dRow).length ≤ 1000 := by rw [List.length_map]; have := ok.len; omega
  have bs : (r.map dRow).map fTrue = (r.map fun _ => true).map PyData.bool := by rw [List.map_map, List.map_map]; rfl
  have ball : (r.map fun _ => true).all id = true := by rw [List.all_map]; exact List.all_eq_true.mpr fun _ _ => rfl
  refine sq (if_d (et_or (et_not (etdB (ed_ty (ed_var rfl hv) ty_tup (b := true) (by decide +kernel)))) fun _ => et_or (etd (ed_op (ed_cb (ead (ed_var rfl hv) ea_nil) rc_lenT) ed_int rd_B0)) fun _ =>
    et_not (etdB (ed_cb (ead ((ed_lcm (f := fTrue) (hw Xq.refl) hz (fun _ _ => rfl) fun d v3 H4 hd x4 g4 hv4 => ?_).to (congrArg PyData.list bs)) ea_nil) rc_all))) g (fun hb H2 x g2 => ?_) fun hb H2 x g2 => ?_)
  · obtain ⟨y, hy, rfl⟩ := List.mem_map.mp hd
    exact ed_call (ead (ed_var rfl hv4) ea_nil) ⟨y, rfl, ok.rows y hy, rfl⟩
  · rw [ball, List.length_map] at hb
    have h1 := ok.len
    rw [Bool.not_true, Bool.false_or, Bool.or_false] at hb
    have h2 := of_decide_eq_true hb
    omega
  · refine rt_d (ed_op (ed_lenSetT ((ed_lcm (f := fTwo) (hw x) hz (fun d hd => ?_) fun d v3 H4 hd x4 g4 hv4 => ?_).to (congrArg PyData.list (two_map r))) (keys_nd ok.nd) ?_) (ed_cb (ead (ed_var rfl (hv.mono x)) ea_nil) rc_lenT) rd_eqI) g2 fun v2 H3 d pd x3 g3 vd => q v2 H3 d ?_ (x.trans x3) g3 vd
    · obtain ⟨y, hy, rfl⟩ := List.mem_map.mp hd
      rfl
    · obtain ⟨y, hy, rfl⟩ := List.mem_map.mp hd
      exact ed_slT (lo := none) (hi := some 2) (ed_var rfl hv4) eo_none (eo_d ed_int)
    · rw [List.length_map]
      have := ok.len
      omega
    · rw [pd, List.length_map, List.length_map, decide_eq_true rfl]
end
end Rk
set_option Elab.async false
set_option linter.all false
set_option maxRecDepth 100000
/-! Pd: rows of a man, where he stands -/
namespace Rk
open PySem PySem.Spec PyProof.Rows L2
abbrev sRows : Stmt := topS 19
abbrev sStand : Stmt := topS 20
abbrev sWhere : Stmt := topS 21
theorem scRows : FnScope ["roll", "man", "row"] ["roll", "man"] (defScope sRows) := ⟨rfl, rfl, rfl, by decide +kernel, rfl, by decide +kernel, by decide +kernel⟩
theorem scStand : FnScope ["rows", "hour", "found", "begun", "ship", "rank", "since"] ["rows", "hour"] (defScope sStand) := ⟨rfl, rfl, rfl, by decide +kernel, rfl, by decide +kernel, by decide +kernel⟩
theorem scWhere : FnScope ["roll", "man", "hour"] ["roll", "man", "hour"] (defScope sWhere) := ⟨rfl, rfl, rfl, by decide +kernel, rfl, by decide +kernel, by decide +kernel⟩
def cRows (ds : List PyData) (R : DP) : Prop := ∃ (r : List Row) (man : Str), ds = [dRoll r, .str man] ∧ RollOk r ∧ R = (· = .list ((rows3 r man).map dR3))
def cStand (ds : List PyData) (R : DP) : Prop := ∃ (l : List R3) (h : Int), ds = [.list (l.map dR3), .int h] ∧ R = (· = dAtO (standing l h))
def cWhere (ds : List PyData) (R : DP) : Prop := ∃ (r : List Row) (man : Str) (h : Int), ds = [dRoll r, .str man, .int h] ∧ RollOk r ∧ nameB man = true ∧ hourB h = true ∧ R = (· = dAtO (whereAt r man h))
def btMan (man : Str) : PyData → Bool
  | .tuple (.str z :: _) => decide (z = man)
  | _ => false
def fTail : PyData → PyData
  | .tuple (_ :: t) => .tuple t
  | _ => .none
theorem rows_map (man : Str) (R : List Row) : ((R.map dRow).filter (btMan man)).map fTail = ((R.filter fun r => decide (r.1 = man)).map (·.2)).map dR3 := by
  rw [List.filter_map, List.map_map, List.map_map]
  rfl
abbrev sOk (z : Str) : Prop := PyData.strOk z = true
theorem lets_ok : ∀ c ∈ letters.cps.toList, c < 1114112 := by decide +kernel
theorem nameB_ok {z : Str} (h : nameB z = true) : sOk z := by
  unfold nameB at h
  rw [Bool.and_eq_true] at h
  show z.cps.all (· < 0x110000) = true
  rw [← Array.all_toList]
  exact List.all_eq_true.mpr fun c hc => decide_eq_true (lets_ok c (of_decide_eq_true (List.all_eq_true.mp h.2 c hc)))
theorem ship_ok {z : Str} (h : nameB z = true ∨ z = "") : sOk z := by
  rcases h with h | h
  · exact nameB_ok h
  · rw [h]; decide +kernel
theorem sh_r3 {a : R3} (h1 : sOk a.2.1) (h2 : sOk a.2.2) : SeqAt.shaped (dR3 a) = true ∧ (dR3 a).depth ≤ 8 := by
  refine ⟨?_, ?_⟩
  · simp only [SeqAt.shaped, dR3, PyData.canLay0, PyData.canLayAll0, PyData.depth, PyData.depthAll, h1, h2]
    decide
  · simp [dR3, PyData.depth, PyData.depthAll]
theorem sh_at {a : At} (h1 : sOk a.1) (h2 : sOk a.2.1) : SeqAt.shaped (dAt a) = true ∧ (dAt a).depth ≤ 8 := by
  refine ⟨?_, ?_⟩
  · simp only [SeqAt.shaped, dAt, PyData.canLay0, PyData.canLayAll0, PyData.depth, PyData.depthAll, h1, h2]
    decide
  · simp [dAt, PyData.depth, PyData.depthAll]
theorem so_r3 {l : List R3} (h : l.length ≤ 1000) (hs : ∀ a ∈ l, sOk a.2.1 ∧ sOk a.2.2) : SortOk (l.map dR3) where
  al := PySem.W.AllAlike.of fun b b' => by simp [dR3, PySem.W.alike, PySem.W.alikeAll]
  so := PySem.W.Sortable.tuples fun b => ⟨_, _, rfl⟩
  sh := fun d hd => by
    obtain ⟨a, ha, rfl⟩ := List.mem_map.mp hd
    exact sh_r3 (hs a ha).1 (hs a ha).2
  ln := by rw [List.length_map]; exact h
theorem so_at {l : List At} (h : l.length ≤ 1000) (hs : ∀ a ∈ l, sOk a.1 ∧ sOk a.2.1) : SortOk (l.map dAt) where
  al := PySem.W.AllAlike.of fun b b' => by simp [dAt, PySem.W.alike, PySem.W.alikeAll]
  so := PySem.W.Sortable.tuples fun b => ⟨_, _, rfl⟩
  sh := fun d hd => by
    obtain ⟨a, ha, rfl⟩ := List.mem_map.mp hd
    exact sh_at (hs a ha).1 (hs a ha).2
  ln := by rw [List.length_map]; exact h
theorem gt3 {M : Ct} {H : Hp} {K : PySem.W.Frag} {v : V} {d1 d2 d3 : PyData} {i j k : Nat} {σ : L2.St} {Q : L2.St → Hp → Prop} (h : Is M H v (.tuple [d1, d2, d3])) (q : ∀ a b c, Is M H a d1 → Is M H b d2 → Is M H c d3 → Q (((σ.set i (some a)).set j (some b)).set k (some c)) H) :
    gTup K 3 (gCons (gName i) (gCons (gName j) (gCons (gName k) gNil))) v σ H Q := by
  cases h with
  | tup ha hs =>
    obtain ⟨a, b, c, rfl, h1, h2, h3⟩ := hs.a3
    exact ⟨_, _, rfl, SqT.of ha, rfl, _, _, rfl, _, _, rfl, _, _, rfl, rfl, q a b c h1 h2 h3⟩
theorem take_snoc {α : Type} {l : List α} {i : Nat} {x : α} (h : l[i]? = some x) : l.take (i + 1) = l.take i ++ [x] := by
  rw [List.take_succ, h]
  rfl
theorem map_at {α β : Type} {f : α → β} {l : List α} {i : Nat} {d : β} (h : (l.map f)[i]? = some d) : ∃ x, l[i]? = some x ∧ d = f x := by
  rw [List.getElem?_map] at h
  cases e : l[i]? with
  | none => rw [e] at h; cases h
  | some x =>
    rw [e] at h
    exact ⟨x, rfl, (Option.some.inj h).symm⟩
section
variable {P : Program} {w : World} {K : PySem.W.Frag} {mg : Str → Option Value} {base : Heap} {T : Tbs}
theorem go_rows (tp : Top mg) (D : Df K mg "rows_of" sRows ["roll", "man"]) : Go P w K mg base T 1 "rows_of" cRows := by
  refine go_mk (k := 0) D scRows (fun ds R h => by obtain ⟨i, j, rfl, _⟩ := h; rfl) fun f cdv A outer s H vs Q E M ds R hr g a c q => ?_
  obtain ⟨r, man, rfl, ok, rfl⟩ := c
  obtain ⟨v, u, rfl, hv, hu⟩ := a.a2
  refine ⟨_, pss_one (ps_ret (pe_callB (cr_sortD hr.units) (by rfl) tp.sorted bt_sorted (pa_cons (pe_lc (own := [("row", 2)]) (g := gName 2) (tt := tTest (tOp rEq (tOp (rIxT K) (tVar 2) (tC (.int 0))) (tVar 1))) (te := tSl (rSlA K) (tVar 2) (tPart (tC (.int 1))) tNoPart) rfl scRows.nd (pi_tup (pv 0)) (blkOk_by (N := ["roll", "man", "row"]) (sc := defScope sRows) (by decide +kernel)) (fun _ _ _ _ _ => pg_name (i := 2) scRows.nd rfl (Or.inl rfl))
    (fun _ _ _ _ _ => pts_one (pt_cmpR op_eq (pe_ix ix_tup (pv 2) pe_int (fun _ _ => rfl)) (pv 1) (nomark _))) (fun _ _ _ _ _ => pe_slice sl_tupA (pv 2) (po_some pe_int) po_none)) pa_nil))), ?_⟩
  have hw : EW T M (iTup K (tVar 0)) (start ["roll", "man", "row"] [v, u]) H (· = r.map dRow) := ew_tup ((ed_var rfl hv).imp fun d e => ⟨_, e, rfl⟩)
  have hz : (r.map dRow).length ≤ 1000 := by rw [List.length_map]; have := ok.len; omega
  have hl : ((r.filter fun x => decide (x.1 = man)).map (·.2)).length ≤ 1000 := by
    rw [List.length_map]
    have h1 := List.length_filter_le (fun x : Row => decide (x.1 = man)) r
    have h2 := ok.len
    omega
  refine rt_d (ed_cb (ead ((ed_lcf (f := fTail) (bt := btMan man) hw hz (fun d hd => ?_) fun d v3 H4 hd x4 g4 hv4 => ?_).to (congrArg PyData.list (rows_map man r))) ea_nil) (rc_sortD (so_r3 hl fun a ha => ?_))) g fun v2 H3 d pd x3 g3 vd => q v2 H3 d ?_ x3 g3 vd
  · obtain ⟨y, hy, rfl⟩ := List.mem_map.mp hd
    rfl
  · obtain ⟨y, hy, rfl⟩ := List.mem_map.mp hd
    exact ⟨etd (ed_op (ed_op (ed_var rfl hv4) ed_int (rd_ixT (d := .str y.1) rfl)) (ed_var rfl (hu.mono x4)) rd_eqS), fun _ => ed_slT (lo := some 1) (hi := none) (ed_var rfl hv4) (eo_d ed_int) eo_none⟩
  · obtain ⟨y, hy, rfl⟩ := List.mem_map.mp ha
    have := ok.rows y (List.mem_filter.mp hy).1
    exact ⟨ship_ok this.ship, nameB_ok this.rank⟩
  · rw [pd, dsort_rows ok.nd]
theorem go_stand (D : Df K mg "standing" sStand ["rows", "hour"]) : Go P w K mg base T 1 "standing" cStand := by
  refine go_mk (k := 0) D scStand (fun ds R h => by obtain ⟨i, j, rfl, _⟩ := h; rfl) fun f cdv A outer s H vs Q E M ds R hr g a c q => ?_
  obtain ⟨l, hh, rfl, rfl⟩ := c
  obtain ⟨v, u, rfl, hv, hu⟩ := a.a2
  cases hu
  refine ⟨_, pss_cons (ps_set (i := 2) scStand.nd rfl (.inl rfl) pe_non)
    (pss_cons (ps_for PassesOwn.never rfl (pi_list (pv 0)) (pg_tup rfl (pgs_cons (pg_name (i := 3) scStand.nd rfl (.inl rfl)) (pgs_cons (pg_name (i := 4) scStand.nd rfl (.inl rfl)) (pgs_cons (pg_name (i := 5) scStand.nd rfl (.inl rfl)) pgs_nil))))
      (pss_one (ps_if (pt_cmpR op_le (pv 3) (pv 1) (nomark _))
        (pss_cons (ps_set (i := 6) scStand.nd rfl (.inl rfl) (pv 3))
        (pss_cons (ps_if (pw_and (pt_cmpR op_notN (pv 2) pe_non (nomark _)) (pw_and1 (pt_cmpR op_eq (pe_ix ix_tup (pv 2) pe_int (fun _ _ => rfl)) (pv 5) (nomark _)))).pt
          (pss_one (ps_set (i := 6) scStand.nd rfl (.inl rfl) (pe_ix ix_tup (pv 2) pe_int (fun _ _ => rfl)))) pss_nil)
        (pss_one (ps_set (i := 2) scStand.nd rfl (.inl rfl) (pe_tup (pa_cons (pv 4) (pa_cons (pv 5) (pa_cons (pv 6) pa_nil)))))))) pss_nil)))
    (pss_one (ps_ret (pv 2)))), ?_⟩
  refine sq (as_d ed_non g fun v0 H0 d0 p0 x0 g0 i0 => sq (fo (ew_list ((ed_var rfl (hv.mono x0)).imp fun d e => ⟨_, e, rfl⟩)) g0
    (fun H1 ds i σ' H' => ∃ fv b sh rk si, σ' = [some v, some (.int hh), some fv, b, sh, rk, si] ∧ Xq M H1 H' ∧ Xq M H H' ∧ Gd T M H' ∧ Is M H' fv (dAtO (standing (l.take i) hh)))
    (fun H1 ds e x1 g1 => ⟨v0, _, _, _, _, rfl, Xq.refl, x0.trans x1, g1, ?_⟩) (fun H1 ds i σ' H' ⟨_, _, _, _, _, _, z, _⟩ => z) (fun H1 ds i d y σ' H' e hd hp hy => ?_) fun H1 ds σ' H' e hp => ?_))
  · subst p0
    exact i0.mono x1
  · subst e
    obtain ⟨r, hr1, rfl⟩ := map_at hd
    obtain ⟨fv, b, sh, rk, si, rfl, x1, x2, g1, hf⟩ := hp
    refine gt3 hy fun b' sh' rk' hb hsh hrk => ?_
    have est : standing (l.take (i + 1)) hh = step hh (standing (l.take i) hh) r := by rw [take_snoc hr1, standing_snoc]
    refine if_d (etd (ed_op (ed_var rfl hb) (ed_var rfl (.int hh)) rd_B0)) g1 (fun hc H3 x3 g3 => ?_) fun hc H3 x3 g3 => ?_
    · have hc' := of_decide_eq_true hc
      have hstep : step hh (standing (l.take i) hh) r = some (r.2.1, r.2.2, since (standing (l.take i) hh) r.1 r.2.2) := by
        unfold step
        rw [if_pos hc']
      refine sq (as_d (ed_var rfl (hb.mono x3)) g3 fun s1 H4 d4 p4 x4 g4 hs1 => sq ?_)
      have x34 := x3.trans x4
      -- behind the inner if
      have fin : ∀ (sv : V) (H5 : Hp), Xq M H4 H5 → Gd T M H5 → Is M H5 sv (.int (since (standing (l.take i) hh) r.1 r.2.2)) → tAsg (tTup (tCons (tVar 4) (tCons (tVar 5) (tCons (tVar 6) tNil)))) (gName 2)
          { nx := fun σ' H' => ∃ fv b sh rk si, σ' = [some v, some (.int hh), some fv, b, sh, rk, si] ∧ Xq M H1 H' ∧ Xq M H H' ∧ Gd T M H' ∧ Is M H' fv (dAtO (standing (l.take (i + 1)) hh)), rt := Q,
            bk := fun σ H => tRet (tVar 2) { nx := fun _ H' => Q .non H', rt := Q } σ H, ct := fun σ' H' => ∃ fv b sh rk si, σ' = [some v, some (.int hh), some fv, b, sh, rk, si] ∧ Xq M H1 H' ∧ Xq M H H' ∧ Gd T M H' ∧ Is M H' fv (dAtO (standing (l.take (i + 1)) hh)) }
          [some v, some (.int hh), some fv, some b', some sh', some rk', some sv] H5 := fun sv H5 x5 g5 hsv => by
        refine as_d (ed_tup (ead (ed_var rfl (hsh.mono (x34.trans x5))) (ead (ed_var rfl (hrk.mono (x34.trans x5))) (ead (ed_var rfl hsv) ea_nil))) (by show 3 ≤ 1000; decide)) g5 fun t H6 d6 p6 x6 g6 ht => ?_
        subst p6
        refine ⟨t, _, _, _, _, rfl, ((x1.trans x34).trans x5).trans x6, ((x2.trans x34).trans x5).trans x6, g6, ?_⟩
        rw [est, hstep]
        exact ht
      cases ef : standing (l.take i) hh with
      | none =>
        rw [ef] at hf fin
        refine if_d (et_and (b := false) (etd (ed_op (ed_var rfl (hf.mono x34)) ed_non rd_notN)) fun z => by cases z) g4 (fun z => by cases z) fun _ H5 x5 g5 => ?_
        subst p4
        exact fin s1 H5 x5 g5 (hs1.mono x5)
      | some a =>
        rw [ef] at hf fin
        obtain ⟨s0, k0, z0⟩ := a
        refine if_d (et_and (etd (ed_op (ed_var rfl (hf.mono x34)) ed_non rd_notN)) fun _ => etd (ed_op (ed_op (ed_var rfl (hf.mono x34)) ed_int (rd_ixT (d := .str k0) rfl)) (ed_var rfl (hrk.mono x34)) rd_eqS)) g4 (fun z H5 x5 g5 => ?_) fun z H5 x5 g5 => ?_
        · have ek : k0 = r.2.2 := of_decide_eq_true (by rw [show (!isN (dAtO (some (s0, k0, z0)))) = true from rfl, Bool.true_and] at z; exact z)
          refine as_d (ed_op (ed_var rfl (hf.mono (x34.trans x5))) ed_int (rd_ixT (d := .int z0) rfl)) g5 fun s2 H6 d6 p6 x6 g6 hs2 => ?_
          subst p6
          refine fin s2 H6 (x5.trans x6) g6 ?_
          rw [show since (some (s0, k0, z0)) r.1 r.2.2 = z0 by show (if k0 = r.2.2 then z0 else r.1) = z0; rw [if_pos ek]]
          exact hs2
        · have ek : ¬ k0 = r.2.2 := of_decide_eq_false (by rw [show (!isN (dAtO (some (s0, k0, z0)))) = true from rfl, Bool.true_and] at z; exact z)
          subst p4
          refine fin s1 H5 x5 g5 ?_
          rw [show since (some (s0, k0, z0)) r.1 r.2.2 = r.1 by show (if k0 = r.2.2 then z0 else r.1) = r.1; rw [if_neg ek]]
          exact hs1.mono x5
    · have hc' := of_decide_eq_false hc
      refine ⟨fv, _, _, _, _, rfl, x1.trans x3, x2.trans x3, g3, ?_⟩
      rw [est, show step hh (standing (l.take i) hh) r = standing (l.take i) hh by unfold step; rw [if_neg hc']]
      exact hf.mono x3
  · subst e
    obtain ⟨fv, b, sh, rk, si, rfl, x1, x2, g1, hf⟩ := hp
    rw [List.length_map, List.take_length] at hf
    exact rt_d (ed_var rfl hf) g1 fun v2 H3 d pd x3 g3 vd => q v2 H3 d pd (x2.trans x3) g3 vd
theorem go_where (GR : Go P w K mg base T 5 "need_roll" cNRoll) (GN : Go P w K mg base T 2 "need_name" cNName) (GH : Go P w K mg base T 3 "need_hour" cNHour) (GO : Go P w K mg base T 1 "rows_of" cRows) (GS : Go P w K mg base T 1 "standing" cStand)
    (D : Df K mg "where_at" sWhere ["roll", "man", "hour"]) : Go P w K mg base T 6 "where_at" cWhere := by
  refine go_mk (k := 5) D scWhere (fun ds R h => by obtain ⟨i, j, k, rfl, _⟩ := h; rfl) fun f cdv A outer s H vs Q E M ds R hr g a c q => ?_
  obtain ⟨r, man, hh, rfl, ok, okm, okh, rfl⟩ := c
  obtain ⟨v, u, t, rfl, hv, hu, ht⟩ := a.a3
  refine ⟨_, pss_cons (ps_expr (pe_go GR hr (pa_cons (pv 0) pa_nil))) (pss_cons (ps_expr (pe_go GN hr (pa_cons (pv 1) pa_nil))) (pss_cons (ps_expr (pe_go GH hr (pa_cons (pv 2) pa_nil)))
    (pss_one (ps_ret (pe_go GS hr (pa_cons (pe_go GO hr (pa_cons (pv 0) (pa_cons (pv 1) pa_nil))) (pa_cons (pv 2) pa_nil))))))), ?_⟩
  refine sq (dr_d (ed_call (ead (ed_var rfl hv) ea_nil) ⟨r, rfl, ok, rfl⟩) g fun d1 H1 _ x1 g1 => sq (dr_d (ed_call (ead (ed_var rfl (hu.mono x1)) ea_nil) ⟨man, rfl, okm, rfl⟩) g1 fun d2 H2 _ x2 g2 =>
    sq (dr_d (ed_call (ead (ed_var rfl (ht.mono (x1.trans x2))) ea_nil) ⟨hh, rfl, okh, rfl⟩) g2 fun d3 H3 _ x3 g3 => ?_)))
  have x := (x1.trans x2).trans x3
  exact rt_d (ed_call (ead (ed_call (ead (ed_var rfl (hv.mono x)) (ead (ed_var rfl (hu.mono x)) ea_nil)) ⟨r, man, rfl, ok, rfl⟩) (ead (ed_var rfl (ht.mono x)) ea_nil)) ⟨_, hh, rfl, rfl⟩) g3 fun v2 H4 d pd x4 g4 vd => q v2 H4 d pd (x.trans x4) g4 vd
end
end Rk
set_option Elab.async false
set_option linter.all false
set_option maxRecDepth 100000
/-! Lx: loops that build lists -/
namespace Rk
open PySem PySem.Spec PyProof.Rows L2
/-- all but C.m, the lists L, the dicts D stays -/
structure Xl (C : Ct) (L D : List Addr) (H H' : Hp) : Prop where
  keep : ∀ b o, H b = some o → b ∉ C.m → b ∉ L → b ∉ D → (∀ ps, o ≠ .tbl ps) → H' b = some o
  tup : ∀ b xs, H b = some (.tup xs) → H' b = some (.tup xs)
  pot : ∀ p ∈ C.m, PotOk H p → PotOk H' p
section
variable {C : Ct} {L D : List Addr} {H H1 H2 H' : Hp} {T : Tbs}
theorem Xl.refl : Xl C L D H H := ⟨fun _ _ h _ _ _ _ => h, fun _ _ h => h, fun _ _ h => h⟩
theorem Xl.trans (a : Xl C L D H H1) (b : Xl C L D H1 H2) : Xl C L D H H2 := ⟨fun c o h n l d t => b.keep c o (a.keep c o h n l d t) n l d t, fun c xs h => b.tup c xs (a.tup c xs h), fun p hp h => b.pot p hp (a.pot p hp h)⟩
theorem Xl.of (x : Xq C H H') : Xl C L D H H' := ⟨fun c o h n _ _ t => x.keep c o h n t, x.tup, x.pot⟩
theorem Xl.then (a : Xl C L D H H1) (b : Xq C H1 H2) : Xl C L D H H2 := a.trans (.of b)
theorem Xl.wr {l : Addr} {xs ys : List V} (hl : l ∈ L) (hm : l ∉ C.m) (e : H l = some (.lst xs)) : Xl C L D H (upd H l (.lst ys)) := ⟨fun b o h n k d t => by rw [upd_ne (fun z => k (by rw [z]; exact hl))]; exact h, fun b xs h => by rw [upd_ne (ne_of h e (by intro z; cases z))]; exact h, fun p hp q => q.at (upd_ne fun z => hm (by rw [← z]; exact hp))⟩
theorem Xl.wd {d : Addr} {ks : List (List Key × V)} {o : HO} (hd : d ∈ D) (hm : d ∉ C.m) (e : H d = some (.dT ks)) : Xl C L D H (upd H d o) := ⟨fun b o h n k q t => by rw [upd_ne (fun z => q (by rw [z]; exact hd))]; exact h, fun b xs h => by rw [upd_ne (ne_of h e (by intro z; cases z))]; exact h, fun p hp q => q.at (upd_ne fun z => hm (by rw [← z]; exact hp))⟩
/-- seen from outside, where the lists and dicts were not yet -/
theorem Xl.out {M : Ct} (x : Xl C L D H1 H2) (a : Xq M H H1) (hm : C.m = M.m) (hL : ∀ l ∈ L, H l = none) (hD : ∀ l ∈ D, H l = none) : Xq M H H2 := by
  refine ⟨fun b o e n t => ?_, fun b xs e => x.tup b xs (a.tup b xs e), fun p hp q => x.pot p (by rw [hm]; exact hp) (a.pot p hp q)⟩
  refine x.keep b o (a.keep b o e n t) (by rw [hm]; exact n) (fun z => ?_) (fun z => ?_) t
  · rw [hL b z] at e
    cases e
  · rw [hD b z] at e
    cases e
mutual
theorem Is.xl (hL : ∀ l ∈ L, l ∈ C.n) (hD : ∀ d ∈ D, ∃ ks, H d = some (.dT ks)) (x : Xl C L D H H') : ∀ {d : PyData} {v : V}, Is C H v d → Is C H' v d
  | .none, _, h => by cases h; exact .non
  | .bool _, _, h => by cases h; exact .bl _
  | .int _, _, h => by cases h; exact .int _
  | .str _, _, h => by cases h; exact .str _
  | .list ds, _, h => by
    cases h with
    | lst n e a => exact .lst n (x.keep _ _ e (fun z => n (C.sub _ z)) (fun z => n (hL _ z)) (fun z => by
        obtain ⟨ks, q⟩ := hD _ z
        rw [e] at q
        cases q) fun ps z => by cases z) (IsA.xl hL hD x a)
  | .tuple ds, _, h => by
    cases h with
    | tup e a => exact .tup (x.tup _ _ e) (IsA.xl hL hD x a)
  | .dict kvs, _, h => by
    cases h with
    | pot a b => exact .pot a (x.pot _ a b)
theorem IsA.xl (hL : ∀ l ∈ L, l ∈ C.n) (hD : ∀ d ∈ D, ∃ ks, H d = some (.dT ks)) (x : Xl C L D H H') : ∀ {ds : List PyData} {vs : List V}, IsA C H vs ds → IsA C H' vs ds
  | [], _, h => by cases h; exact .nil
  | d :: ds, _, h => by
    cases h with
    | cons h1 h2 => exact .cons (Is.xl hL hD x h1) (IsA.xl hL hD x h2)
end
structure Wkl (C : Ct) (L D : List Addr) (J : It) (ds : List PyData) (H1 : Hp) : Prop where
  go : ∀ i H', Xl C L D H1 H' → i < ds.length → J.go i H'
  stop : ∀ H', Xl C L D H1 H' → J.stop ds.length H'
  yld : ∀ i H' x H2, Xl C L D H1 H' → J.yld i H' x H2 → H2 = H' ∧ ∀ d, ds[i]? = some d → Is C H' x d
def EWl (T : Tbs) (C : Ct) (L D : List Addr) (wi : TI) (σ : L2.St) (H : Hp) (P : List PyData → Prop) : Prop := ∀ R : It → Hp → Prop, (∀ J H2 ds, P ds → Xq C H H2 → Gd T C H2 → Wkl C L D J ds H2 → R J H2) → wi σ H R
variable {K : PySem.W.Frag} {σ : L2.St} {tl : TE}
theorem ewl_list {p : List PyData → Prop} (hL : ∀ l ∈ L, l ∈ C.n) (hD : ∀ d ∈ D, ∃ ks, H d = some (.dT ks)) (hDm : ∀ d ∈ D, d ∉ C.m) (h : EX T C tl σ H (fun d => ∃ ds, d = .list ds ∧ p ds)) (g : Gd T C H) : EWl T C L D (iList K tl) σ H p := fun R q => h H Xq.refl g _ fun v H2 d pd x2 g2 vd => by
  obtain ⟨ds, e, pds⟩ := pd
  subst e
  have hD2 : ∀ d ∈ D, ∃ ks, H2 d = some (.dT ks) := fun d hd => by
    obtain ⟨ks, e⟩ := hD d hd
    exact ⟨ks, x2.keep d _ e (hDm d hd) fun ps z => by cases z⟩
  cases vd with
  | lst n ha hs =>
    rename_i a xs
    have at' : ∀ H', Xl C L D H2 H' → H' a = some (.lst xs) := fun H' x' => x'.keep a _ ha (fun z => n (C.sub _ z)) (fun z => n (hL _ z)) (fun z => by
        obtain ⟨ks, q⟩ := hD2 _ z
        rw [ha] at q
        cases q) (fun ps z => by cases z)
    refine ⟨a, rfl, ⟨xs, SqL.of ha⟩, q _ H2 ds pds x2 g2 ⟨fun i H' x' hi => ?_, fun H' x' => ⟨xs, SqL.of (at' H' x'), by rw [hs.length]; exact Nat.le_refl _⟩, fun i H' y H3 x' hy => ?_⟩⟩
    · have hi2 : i < xs.length := by rw [hs.length]; exact hi
      exact ⟨xs, xs[i], SqL.of (at' H' x'), List.getElem?_eq_getElem hi2⟩
    · obtain ⟨e, hy⟩ := hy
      refine ⟨e, fun d hd => ?_⟩
      have q1 := hy xs (SqL.of (at' H' x'))
      obtain ⟨w, e1, e2⟩ := hs.get hd
      rw [q1] at e1
      cases e1
      exact e2.xl hL hD2 x'
theorem ewl_tup {p : List PyData → Prop} (hL : ∀ l ∈ L, l ∈ C.n) (hD : ∀ d ∈ D, ∃ ks, H d = some (.dT ks)) (hDm : ∀ d ∈ D, d ∉ C.m) (h : EX T C tl σ H (fun d => ∃ ds, d = .tuple ds ∧ p ds)) (g : Gd T C H) : EWl T C L D (iTup K tl) σ H p := fun R q => h H Xq.refl g _ fun v H2 d pd x2 g2 vd => by
  obtain ⟨ds, e, pds⟩ := pd
  subst e
  have hD2 : ∀ d ∈ D, ∃ ks, H2 d = some (.dT ks) := fun d hd => by
    obtain ⟨ks, e⟩ := hD d hd
    exact ⟨ks, x2.keep d _ e (hDm d hd) fun ps z => by cases z⟩
  cases vd with
  | tup ha hs =>
    rename_i a xs
    have at' : ∀ H', Xl C L D H2 H' → H' a = some (.tup xs) := fun H' x' => x'.tup a _ ha
    refine ⟨a, rfl, ⟨xs, SqT.of ha⟩, q _ H2 ds pds x2 g2 ⟨fun i H' x' hi => ?_, fun H' x' => ⟨xs, SqT.of (at' H' x'), by rw [hs.length]; exact Nat.le_refl _⟩, fun i H' y H3 x' hy => ?_⟩⟩
    · have hi2 : i < xs.length := by rw [hs.length]; exact hi
      exact ⟨xs, xs[i], SqT.of (at' H' x'), List.getElem?_eq_getElem hi2⟩
    · obtain ⟨e, hy⟩ := hy
      refine ⟨e, fun d hd => ?_⟩
      have q1 := hy xs (SqT.of (at' H' x'))
      obtain ⟨w, e1, e2⟩ := hs.get hd
      rw [q1] at e1
      cases e1
      exact e2.xl hL hD2 x'
theorem ewl_range {tr : TA} {p : Int → Prop} (h : EA T C tr σ H (fun ds => ∃ j : Int, ds = [.int j] ∧ p j)) (g : Gd T C H) (hp : ∀ j, p j → -1000000 ≤ j ∧ j ≤ 1000000) : EWl T C L D (iRng1 tr) σ H (fun ds => ∃ j : Int, ds = intsTo j.toNat ∧ p j) := fun R q => h H Xq.refl g _ fun vs H2 ds pd x2 g2 vd => by
  obtain ⟨j, e, pj⟩ := pd
  subst e
  have hj := hp j pj
  cases vd with
  | cons h1 h2 =>
    cases h1
    cases h2
    have hl : (intsTo j.toNat).length = j.toNat := by unfold intsTo; rw [List.length_map, List.length_range]
    refine ⟨j, rfl, by omega, by omega, q _ H2 _ ⟨j, rfl, pj⟩ x2 g2 ⟨fun i H' x' hi => by rw [hl] at hi; exact hi, fun H' x' => by show j.toNat ≤ _; rw [hl]; exact Nat.le_refl _, fun i H' y H3 x' hy => ?_⟩⟩
    obtain ⟨e, ey⟩ := hy
    refine ⟨e, fun d hd => ?_⟩
    subst ey
    unfold intsTo at hd
    obtain ⟨k, hr, rfl⟩ := map_at hd
    have hk : k = i := by
      obtain ⟨h3, h4⟩ := List.getElem?_eq_some_iff.mp hr
      rw [List.getElem_range] at h4
      exact h4.symm
    rw [hk, Int.zero_add]
    exact .int _
/-- a loop that may write L and D -/
theorem fol {wi : TI} {gt : TG} {tb : TS} {En : Ends} {p : List PyData → Prop} (hw : EWl T C L D wi σ H p) (Pv : Hp → List PyData → Nat → L2.St → Hp → Prop) (h0 : ∀ (H1 : Hp) (ds : List PyData), p ds → Xq C H H1 → Gd T C H1 → Pv H1 ds 0 σ H1) (hk : ∀ (H1 : Hp) (ds : List PyData) (i : Nat) (σ' : L2.St) (H' : Hp), Pv H1 ds i σ' H' → Xl C L D H1 H')
    (hs : ∀ (H1 : Hp) (ds : List PyData) (i : Nat) (d : PyData) (v : V) (σ' : L2.St) (H' : Hp), p ds → ds[i]? = some d → Pv H1 ds i σ' H' → Is C H' v d → gt v σ' H' fun σ2 H2 => tb { En with nx := Pv H1 ds (i + 1), ct := Pv H1 ds (i + 1), bk := En.nx } σ2 H2) (hd : ∀ (H1 : Hp) (ds : List PyData) (σ' : L2.St) (H' : Hp), p ds → Pv H1 ds ds.length σ' H' → En.nx σ' H') : tFor wi gt tb En σ H :=
  hw _ fun J H1 ds pd x1 g1 wk => by
    refine ⟨fun i m σ' H' => m = ds.length - i ∧ i ≤ ds.length ∧ Pv H1 ds i σ' H', ⟨ds.length, by omega, Nat.zero_le _, h0 H1 ds pd x1 g1⟩, ?_⟩
    rintro i m σ' H' ⟨rfl, hi, hp⟩
    have x3 := hk _ _ _ _ _ hp
    by_cases hlt : i < ds.length
    · refine .inr ⟨wk.go i H' x3 hlt, Pv H1 ds (i + 1), fun σ2 H2 h2 => ⟨ds.length - (i + 1), by omega, rfl, hlt, h2⟩, fun y H4 hy => ?_⟩
      obtain ⟨e, hy⟩ := wk.yld i H' y H4 x3 hy
      subst e
      have hd := List.getElem?_eq_getElem hlt
      exact hs H1 ds i _ y σ' H4 pd hd hp (hy _ hd)
    · have e : i = ds.length := by omega
      subst e
      exact .inl ⟨wk.stop H' x3, hd H1 ds σ' H' pd hp⟩
/-- xs.append(e), the list not named by data -/
theorem ap_d {l : Addr} {k : Nat} {te : TE} {xs : List V} {P : DP} {En : Ends} (hv : σ[k]? = some (some (.ref l))) (hn : l ∈ C.n) (hm : l ∉ C.m) (hl : H l = some (.lst xs)) (hz : xs.length ≤ 1000) (h : EX T C te σ H P) (g : Gd T C H) (q : ∀ v H2 d, P d → Xq C H H2 → Gd T C (upd H2 l (.lst (xs ++ [v]))) → Is C (upd H2 l (.lst (xs ++ [v]))) v d → H2 l = some (.lst xs) → En.nx σ (upd H2 l (.lst (xs ++ [v])))) :
    tDrop (tBM K "list" rAppend (tVar k) (tCons te tNil)) En σ H := ⟨.ref l, hv, .inl ⟨rfl, _, SqL.of hl⟩, h H Xq.refl g _ fun v H2 d pd x2 g2 vd => by
  have hl2 : H2 l = some (.lst xs) := x2.keep l _ hl hm (fun ps z => by cases z)
  exact ⟨l, xs, v, rfl, rfl, hl2, small1000 hz, q v H2 d pd x2 (g2.wr hl2) (vd.put hn hm hl2) hl2⟩⟩
end
end Rk
set_option Elab.async false
set_option linter.all false
set_option maxRecDepth 100000
/-! Pe: crews -/
namespace Rk
open PySem PySem.Spec PyProof.Rows L2
abbrev sBy : Stmt := topS 22
abbrev sCrew : Stmt := topS 23
abbrev sStays : Stmt := topS 24
theorem scBy : FnScope ["crew"] ["crew"] (defScope sBy) := ⟨rfl, rfl, rfl, by decide +kernel, rfl, by decide +kernel, by decide +kernel⟩
theorem scCrew : FnScope ["roll", "ship", "hour", "found", "man", "there", "row"] ["roll", "ship", "hour"] (defScope sCrew) := ⟨rfl, rfl, rfl, by decide +kernel, rfl, by decide +kernel, by decide +kernel⟩
theorem scStays : FnScope ["roll", "man", "found", "hour", "ship", "rank"] ["roll", "man"] (defScope sStays) := ⟨rfl, rfl, rfl, by decide +kernel, rfl, by decide +kernel, by decide +kernel⟩
def cBy (ds : List PyData) (R : DP) : Prop := ∃ es : List At, ds = [.list (es.map dAt)] ∧ es.length ≤ 1000 ∧ R = (fun d => ∃ es' : List At, d = .tuple (es'.map dAt) ∧ es'.Perm es)
def cCrew (ds : List PyData) (R : DP) : Prop := ∃ (r : List Row) (ship : Str) (h : Int), ds = [dRoll r, .str ship, .int h] ∧ RollOk r ∧ nameB ship = true ∧ hourB h = true ∧ R = (fun d => ∃ es : List At, d = .tuple (es.map dAt) ∧ CrewIs r ship h es ∧ es.length ≤ 60)
/-- a def of the top, its code known -/
structure DfC (K : PySem.W.Frag) (mg : Str → Option Value) (x : Str) (st : Stmt) (ps : List Str) (c : Addr) : Prop where
  ex : ∃ (f : Addr) (oc : Value) (od : Option Addr) (kV doc pm : Value) (an : Option Addr) (ct : Value) (osl : Array (Option Value)), K.lookup f = some ⟨oc, od, .func (PySem.W.fnOf x x (defArgs st) (defBody st) (defScope st) .none kV doc pm an (.ref c) ct), osl⟩ ∧ PySem.W.codeIn K (.ref c) x = true ∧ PySem.W.keepIn K (.ref f) = true ∧ mg x = some (.ref f) ∧ Binds K (PySem.W.fnOf x x (defArgs st) (defBody st) (defScope st) .none kV doc pm an (.ref c) ct) ps []
section
variable {P : Program} {w : World} {K : PySem.W.Frag} {mg : Str → Option Value} {base : Heap} {T : Tbs} {k : Nat} {x : Str} {C : List PyData → DP → Prop}
theorem go_mkC {st : Stmt} {N ps : List Str} {c : Addr} (D : DfC K mg x st ps c) (S : FnScope N ps (defScope st)) (len : ∀ ds R, C ds R → ds.length = ps.length)
    (body : ∀ (f : Addr) (A : Around) (outer : List Env) (s : Shared) (H : Hp) (vs : List V) (Q : VK) (E : XK) (M : Ct) (ds : List PyData) (R : DP), Room k (A.deeper (envOfC x (defScope st) s.heap.objs.size f (.ref c))) → Gd T M H → IsA M H vs ds → C ds R → Post T M H R Q →
      ∃ t, PSs (cxOf CX0 P w K mg base N x (defScope st) f (.ref c) A outer s H E).nox (defBody st) t ∧ t { nx := fun _ H' => Q .non H', rt := Q } (start N vs) H) : Go P w K mg base T (k + 1) x C := by
  obtain ⟨f, oc, od, kV, doc, pm, an, ct, osl, lk, hcd, kp, m, b⟩ := D.ex
  refine ⟨f, _, ps, fn_of lk hcd S (fun vs H Q E h => ?_) fun A outer s H vs Q E hr h => ?_, m, kp, b⟩
  · obtain ⟨M, ds, R, g, a, c, q⟩ := h
    rw [a.length]
    exact len ds R c
  · obtain ⟨M, ds, R, g, a, c, q⟩ := h
    obtain ⟨t, h1, h2⟩ := body f A outer s H vs Q E M ds R hr g a c q
    exact ⟨t, h1.nox, h2⟩
end
def unAt : PyData → At
  | .tuple [.str m, .str k, .int z] => (m, k, z)
  | _ => ("", "", 0)
theorem perm_un {ds : List PyData} {es : List At} (p : ds.Perm (es.map dAt)) : ∃ es' : List At, ds = es'.map dAt ∧ es'.Perm es := by
  have e1 : (es.map dAt).map unAt = es := by
    rw [List.map_map]
    exact List.map_id'' (fun a => rfl) es
  refine ⟨ds.map unAt, ?_, (p.map unAt).trans (List.Perm.of_eq e1)⟩
  have e2 : ds.map (dAt ∘ unAt) = ds.map id := List.map_congr_left fun d hd => by
    obtain ⟨a, _, rfl⟩ := List.mem_map.mp (p.mem_iff.mp hd)
    rfl
  rw [List.map_map, e2, List.map_id]
/-- a fresh list under a name -/
theorem new_d {σ : L2.St} {H : Hp} {k : Nat} {En : Ends} (q : ∀ l, H l = none → En.nx (σ.set k (some (.ref l))) (upd H l (.lst []))) : tAsg (tLst tNil) (gName k) En σ H := ⟨Nat.zero_le _, q⟩
section
variable {T : Tbs} {M : Ct} {H H' : Hp}
theorem Is.up {l : Addr} {v : V} {d : PyData} (h : Is M H v d) (hl : H l = none) : Is (M.add l) (upd H l (.lst [])) v d := (h.add hl).mono (Xq.new hl)
theorem Gd.upL {l : Addr} (g : Gd T M H) (hl : H l = none) : Gd T (M.add l) (upd H l (.lst [])) := (g.new hl).up upd_same
theorem ex_sortLam {te : TE} {σ : L2.St} {es : List At} (hz : es.length ≤ 1000) (h : EX T M te σ H (· = .list (es.map dAt))) : EX T M (tSortLam T te) σ H (fun d => ∃ es' : List At, d = .list (es'.map dAt) ∧ es'.Perm es) := fun H1 x g Q q => h H1 x g _ fun v H2 d pd x2 g2 vd => by
  subst pd
  cases vd with
  | lst n ha hs =>
    refine ⟨g2.tab, _, _, _, M, rfl, ha, hs, fun d hd => ?_, by rw [List.length_map]; exact hz, fun H3 p ys ds2 ex tb np pm hy => ?_⟩
    · obtain ⟨a, _, rfl⟩ := List.mem_map.mp hd
      exact ⟨a.1, a.2.1, a.2.2, rfl⟩
    · obtain ⟨es', rfl, pe⟩ := perm_un pm
      have g3 : Gd T M H3 := ⟨tb, fun p hp => by
        obtain ⟨xs, e⟩ := g2.tr p hp
        exact ⟨xs, ex p _ e fun ps z => by cases z⟩⟩
      exact q _ _ _ ⟨es', rfl, pe⟩ ((x2.trans (Xq.ofExt ex)).trans (Xq.new np)) (g3.new np) (.lst (g3.fresh np) upd_same (hy.mono (Xq.new np)))
theorem rc_tupleX {te : TE} {σ : L2.St} {P : List PyData → Prop} (h : EX T M te σ H (fun d => ∃ ds, d = .list ds ∧ P ds)) {K : PySem.W.Frag} : EX T M (tCB (fun xs H Q => ∃ p ys, xs = [.ref p] ∧ ((SqL K H p ys ∧ ∀ l, H l = none → Q (.ref l) (upd H l (.tup ys))) ∨ (SqT K H p ys ∧ Q (.ref p) H))) (tCons te tNil)) σ H (fun d => ∃ ds, d = .tuple ds ∧ P ds) := fun H1 x g Q q => h H1 x g _ fun v H2 d pd x2 g2 vd => by
  obtain ⟨ds, rfl, pd⟩ := pd
  exact rc_tupleL H2 [v] g2 (.cons vd .nil) Q fun z H4 e pe x4 g4 ze => q z H4 e ⟨ds, pe, pd⟩ (x2.trans x4) g4 ze
end
def lamQ : Str := (envOfC "by_since" (defScope sBy) 0 0 .none).qual ++ "<lambda>"
section
variable {P : Program} {w : World} {K : PySem.W.Frag} {mg : Str → Option Value} {base : Heap} {T : Tbs}
theorem go_by {c0 P0 : Addr} (tp : Top mg) (TB : LamX.TabB base mg c0 P0) (hmT : (P0, lamQ) ∈ T) (hu : ∀ p ∈ T, p.1 = P0 → p.2 = lamQ) (D : DfC K mg "by_since" sBy ["crew"] c0) : Go P w K mg base T 4 "by_since" cBy := by
  refine go_mkC (k := 3) D scBy (fun ds R h => by obtain ⟨i, rfl, _⟩ := h; rfl) fun f A outer s H vs Q E M ds R hr g a c q => ?_
  obtain ⟨es, rfl, hz, rfl⟩ := c
  obtain ⟨v, rfl, hv⟩ := a.a1
  refine ⟨_, pss_one (ps_ret (pe_callTy call_tuple_of (by rfl) tp.tuple bt_tuple (pa_cons (pe_sortLam (T := T) (x := "crew") (y := "one") (c := c0) (P := P0) hr (by rfl) tp.sorted (pv 0) TB rfl hmT hu rfl (fun _ _ _ _ _ => rfl) (by decide) rfl rfl rfl rfl) pa_nil))), ?_⟩
  refine rt_d ((rc_tupleX (P := fun ds => ∃ es2 : List At, ds = es2.map dAt ∧ es2.Perm es) ((ex_sortLam hz (ed_var rfl hv)).imp fun d h => ?_)).imp fun d h => ?_) g q
  · obtain ⟨es', e, pe⟩ := h
    exact ⟨_, e, es', rfl, pe⟩
  · obtain ⟨ds, e, es2, e2, pe⟩ := h
    exact ⟨es2, by rw [e, e2], pe⟩
end
end Rk
set_option Elab.async false
set_option linter.all false
set_option maxRecDepth 100000
/-! Pf: who is aboard -/
namespace Rk
open PySem PySem.Spec PyProof.Rows L2
theorem keys_inr : ∀ {es : List Key}, (∀ k ∈ es, ∃ x, k = .inr x) → ∃ men : List Str, es = men.map Sum.inr
  | [], _ => ⟨[], rfl⟩
  | k :: es, h => by
    obtain ⟨x, rfl⟩ := h k List.mem_cons_self
    obtain ⟨men, rfl⟩ := keys_inr (es := es) fun k hk => h k (List.mem_cons_of_mem _ hk)
    exact ⟨x :: men, rfl⟩
theorem dK_strs (men : List Str) : (men.map (Sum.inr : Str → Key)).map dK = men.map PyData.str := by
  rw [List.map_map]
  rfl
theorem nodup_inr {men : List Str} (h : (men.map (Sum.inr : Str → Key)).Nodup) : men.Nodup := (List.pairwise_map.mp h).imp fun {a b} hne e => hne (by rw [e])
/-- sorted(set(xs)) of texts -/
theorem ex_sortStrs {T : Tbs} {M : Ct} {σ : L2.St} {H : Hp} {te : TE} {p : List Str → Prop} (h : EX T M te σ H (fun d => ∃ zs : List Str, d = .list (zs.map PyData.str) ∧ p zs)) (hp : ∀ zs, p zs → zs.length ≤ 999) :
    EX T M (tSortSet te) σ H (fun d => ∃ zs men : List Str, d = .list (men.map PyData.str) ∧ p zs ∧ men.Nodup ∧ (∀ m, m ∈ men ↔ m ∈ zs) ∧ men.length ≤ zs.length) := by
  refine (ex_sortSet (p := fun ks => ∃ zs : List Str, ks = zs.map Sum.inr ∧ p zs) (h.imp fun d ⟨zs, e, pz⟩ => ⟨zs.map Sum.inr, by rw [dK_strs]; exact e, zs, rfl, pz⟩) fun ks ⟨zs, e, pz⟩ => ?_).imp fun d ⟨ks, es, e, ⟨zs, ez, pz⟩, nd, hm, hl⟩ => ?_
  · subst e
    refine ⟨.inr fun k hk => ?_, by rw [List.length_map]; exact hp zs pz⟩
    obtain ⟨x, _, rfl⟩ := List.mem_map.mp hk
    exact ⟨x, rfl⟩
  · subst ez
    obtain ⟨men, rfl⟩ := keys_inr (es := es) fun k hk => by
      obtain ⟨x, _, rfl⟩ := List.mem_map.mp ((hm k).mp hk)
      exact ⟨x, rfl⟩
    refine ⟨zs, men, by rw [e, dK_strs], pz, nodup_inr nd, fun m => ?_, by rw [List.length_map, List.length_map] at hl; exact hl⟩
    have q := hm (Sum.inr m)
    rw [List.mem_map, List.mem_map] at q
    constructor
    · intro z
      obtain ⟨y, hy, e⟩ := q.mp ⟨m, z, rfl⟩
      rw [← Sum.inr.inj e]
      exact hy
    · intro z
      obtain ⟨y, hy, e⟩ := q.mpr ⟨m, z, rfl⟩
      rw [← Sum.inr.inj e]
      exact hy
def fMan : PyData → PyData
  | .tuple (a :: _) => a
  | _ => .none
theorem men_map (R : List Row) : (R.map dRow).map fMan = (R.map (·.1)).map PyData.str := by
  rw [List.map_map, List.map_map]
  rfl
theorem strs_inj : ∀ {a b : List Str}, a.map PyData.str = b.map PyData.str → a = b
  | [], [], _ => rfl
  | [], y :: b, h => by simp at h
  | x :: a, [], h => by simp at h
  | x :: a, y :: b, h => by
    rw [List.map_cons, List.map_cons] at h
    obtain ⟨h1, h2⟩ := List.cons.inj h
    rw [PyData.str.inj h1, strs_inj h2]
theorem strs_at {l : List Str} {i : Nat} {d : PyData} (h : (l.map PyData.str)[i]? = some d) : ∃ x, l[i]? = some x ∧ d = .str x := map_at h
theorem fm_len {α β : Type} (f : α → Option β) : ∀ l : List α, (l.filterMap f).length ≤ l.length := fun l => List.length_filterMap_le f l
section
variable {P : Program} {w : World} {K : PySem.W.Frag} {mg : Str → Option Value} {base : Heap} {T : Tbs}
theorem go_crew (tp : Top mg) (GR : Go P w K mg base T 5 "need_roll" cNRoll) (GN : Go P w K mg base T 2 "need_name" cNName) (GH : Go P w K mg base T 3 "need_hour" cNHour) (GO : Go P w K mg base T 1 "rows_of" cRows) (GS : Go P w K mg base T 1 "standing" cStand) (GB : Go P w K mg base T 4 "by_since" cBy)
    (D : Df K mg "crew_at" sCrew ["roll", "ship", "hour"]) : Go P w K mg base T 6 "crew_at" cCrew := by
  refine go_mk (k := 5) D scCrew (fun ds R h => by obtain ⟨i, j, k, rfl, _⟩ := h; rfl) fun f cdv A outer s H vs Q E M ds R hr g a c q => ?_
  obtain ⟨r, ship, hh, rfl, ok, oks, okh, rfl⟩ := c
  obtain ⟨v, u, t, rfl, hv, hu, ht⟩ := a.a3
  refine ⟨_, pss_cons (ps_expr (pe_go GR hr (pa_cons (pv 0) pa_nil))) (pss_cons (ps_expr (pe_go GN hr (pa_cons (pv 1) pa_nil))) (pss_cons (ps_expr (pe_go GH hr (pa_cons (pv 2) pa_nil)))
    (pss_cons (ps_set (i := 3) scCrew.nd rfl (.inl rfl) (pe_lst pa_nil))
    (pss_cons (ps_for PassesOwn.never rfl (pi_list (pe_sortSet rfl hr.units (by rfl) tp.sorted (by rfl) tp.set (pe_lc (own := [("row", 6)]) (g := gName 6) (tt := tYes) (te := tOp (rIxT K) (tVar 6) (tC (.int 0))) rfl scCrew.nd (pi_tup (pv 0)) (blkOk_by (N := ["roll", "ship", "hour", "found", "man", "there", "row"]) (sc := defScope sCrew) (by decide +kernel)) (fun _ _ _ _ _ => pg_name (i := 6) scCrew.nd rfl (Or.inl rfl)) (fun _ _ _ _ _ => pts_nil)
        (fun _ _ _ _ _ => pe_ix ix_tup (pv 6) pe_int (fun _ _ => rfl))))) (pg_name (i := 4) scCrew.nd rfl (.inl rfl))
      (pss_cons (ps_set (i := 5) scCrew.nd rfl (.inl rfl) (pe_go GS hr (pa_cons (pe_go GO hr (pa_cons (pv 0) (pa_cons (pv 4) pa_nil))) (pa_cons (pv 2) pa_nil))))
      (pss_one (ps_if (pw_and (pt_cmpR op_notN (pv 5) pe_non (nomark _)) (pw_and1 (pt_cmpR op_eq (pe_ix ix_tup (pv 5) pe_int (fun _ _ => rfl)) (pv 1) (nomark _)))).pt
        (pss_one (ps_expr (pe_bm PySem.F.plainAttrs_list PySem.F.slot_list_append PySem.F.type_list_append mt_append (pv 3) (pa_cons (pe_tup (pa_cons (pv 4) (pa_cons (pe_ix ix_tup (pv 5) pe_int (fun _ _ => rfl)) (pa_cons (pe_ix ix_tup (pv 5) pe_int (fun _ _ => rfl)) pa_nil)))) pa_nil)))) pss_nil))))
    (pss_one (ps_ret (pe_go GB hr (pa_cons (pv 3) pa_nil)))))))), ?_⟩
  refine sq (dr_d (ed_call (ead (ed_var rfl hv) ea_nil) ⟨r, rfl, ok, rfl⟩) g fun d1 H1 _ x1 g1 => sq (dr_d (ed_call (ead (ed_var rfl (hu.mono x1)) ea_nil) ⟨ship, rfl, oks, rfl⟩) g1 fun d2 H2 _ x2 g2 =>
    sq (dr_d (ed_call (ead (ed_var rfl (ht.mono (x1.trans x2))) ea_nil) ⟨hh, rfl, okh, rfl⟩) g2 fun d3 H3 _ x3 g3 => sq (new_d fun l nl => ?_))))
  have x03 := (x1.trans x2).trans x3
  have hvC := (hv.mono x03).up nl
  have huC := (hu.mono x03).up nl
  have htC := (ht.mono x03).up nl
  have gC := g3.upL nl
  have hlm : l ∉ (M.add l).m := fun z => g3.fresh nl (M.sub _ z)
  have hlM : l ∉ M.n := g3.fresh nl
  have hL : ∀ z ∈ [l], z ∈ (M.add l).n := fun z hz => by rw [List.mem_singleton.mp hz]; exact List.mem_cons_self
  have hD : ∀ {h : Hp}, ∀ d ∈ ([] : List Addr), ∃ ks, h d = some (.dT ks) := fun d hd => by cases hd
  have hz : (r.map dRow).length ≤ 1000 := by rw [List.length_map]; have := ok.len; omega
  dsimp only
  refine sq (fol (C := M.add l) (L := [l]) (D := []) (p := fun ds => ∃ men : List Str, ds = men.map PyData.str ∧ men.Nodup ∧ (∀ m, m ∈ men ↔ ∃ x ∈ r, x.1 = m) ∧ men.length ≤ 60) (ewl_list hL hD (fun d hd => by cases hd) ?_ gC)
    (fun H4 ds i σ' H' => ∃ mv tv rv xs, ∃ men : List Str, σ' = [some v, some u, some t, some (.ref l), mv, tv, rv] ∧ ds = men.map PyData.str ∧ Xl (M.add l) [l] [] H4 H' ∧ Xl (M.add l) [l] [] (upd H3 l (.lst [])) H' ∧ Gd T (M.add l) H' ∧ H' l = some (.lst xs) ∧ IsA (M.add l) H' xs (((men.take i).filterMap (aboard r ship hh)).map dAt)) ?_ ?_ ?_ ?_)
  · refine (ex_sortStrs (p := fun zs => zs = r.map (·.1)) (((ed_lcm (f := fMan) (ew_tup ((ed_var rfl hvC).imp fun d e => ⟨_, e, rfl⟩)) hz ?_ ?_).to (congrArg PyData.list (men_map r))).imp fun d e => ⟨_, e, rfl⟩) fun zs e => ?_).imp fun d h => ?_
    · intro d hd
      obtain ⟨y, hy, rfl⟩ := List.mem_map.mp hd
      rfl
    · intro d y H4 hd x4 g4 hy
      obtain ⟨z, hz, rfl⟩ := List.mem_map.mp hd
      exact ed_op (ed_var rfl hy) ed_int (rd_ixT (d := .str z.1) rfl)
    · rw [e, List.length_map]
      have := ok.len
      omega
    · obtain ⟨zs, men, e, rfl, nd, hm, hl⟩ := h
      refine ⟨men.map PyData.str, e, men, rfl, nd, fun m => ?_, ?_⟩
      · rw [hm m, List.mem_map]
      · rw [List.length_map] at hl
        have := ok.len
        omega
  · rintro H4 ds ⟨men, rfl, nd, hm, hl⟩ x4 g4
    exact ⟨_, _, _, [], men, rfl, rfl, .refl, .of x4, g4, x4.keep l _ upd_same hlm (fun ps z => by cases z), .nil⟩
  · rintro H4 ds i σ' H' ⟨mv, tv, rv, xs, men, _, _, z, _⟩
    exact z
  · rintro H4 ds i d y σ' H' ⟨men0, rfl, nd, hm, hlen⟩ hd ⟨mv, tv, rv, xs, men, rfl, e, x4, x0, g4, hl4, hxs⟩ hy
    obtain rfl := strs_inj e
    obtain ⟨m, hm1, rfl⟩ := strs_at hd
    have hv4 := hvC.xl hL hD x0
    have hu4 := huC.xl hL hD x0
    have ht4 := htC.xl hL hD x0
    show tSeq _ _ _ _ _
    refine sq (as_d (ed_call (ead (ed_call (ead (ed_var rfl hv4) (ead (ed_var rfl hy) ea_nil)) ⟨r, m, rfl, ok, rfl⟩) (ead (ed_var rfl ht4) ea_nil)) ⟨_, hh, rfl, rfl⟩) g4 fun tv2 H5 d5 p5 x5 g5 ht5 => ?_)
    subst p5
    have hl5 : H5 l = some (.lst xs) := x5.keep l _ hl4 hlm (fun ps z => by cases z)
    have hxs5 := hxs.mono x5
    have esn : (men0.take (i + 1)).filterMap (aboard r ship hh) = (men0.take i).filterMap (aboard r ship hh) ++ (aboard r ship hh m).toList := by
      rw [take_snoc hm1, List.filterMap_append]
      cases ea : aboard r ship hh m with
      | none => rw [List.filterMap_cons_none ea] <;> rfl
      | some b => rw [List.filterMap_cons_some ea] <;> rfl
    have hlx : xs.length ≤ 1000 := by
      rw [hxs.length, List.length_map]
      have h1 := fm_len (aboard r ship hh) (men0.take i)
      have h2 := List.length_take_le i men0
      have h3 : (men0.take i).length ≤ men0.length := by rw [List.length_take]; omega
      omega
    cases ew : whereAt r m hh with
    | none =>
      have ea : aboard r ship hh m = none := by unfold aboard; rw [ew]
      have ht5' : Is (M.add l) H5 tv2 (dAtO none) := by rw [← ew]; exact ht5
      refine if_d (et_and (b := false) (etd (ed_op (ed_var rfl ht5') ed_non rd_notN)) fun z => by cases z) g5 (fun z => by cases z) fun _ H6 x6 g6 => ?_
      refine ⟨_, _, _, xs, men0, rfl, rfl, (x4.then x5).then x6, (x0.then x5).then x6, g6, x6.keep l _ hl5 hlm (fun ps z => by cases z), ?_⟩
      rw [esn, ea, Option.toList_none, List.append_nil]
      exact hxs5.mono x6
    | some b =>
      obtain ⟨s0, k0, z0⟩ := b
      have ht5' : Is (M.add l) H5 tv2 (dAtO (some (s0, k0, z0))) := by rw [← ew]; exact ht5
      refine if_d (et_and (etd (ed_op (ed_var rfl ht5') ed_non rd_notN)) fun _ => etd (ed_op (ed_op (ed_var rfl ht5') ed_int (rd_ixT (d := .str s0) rfl)) (ed_var rfl (hu4.mono x5)) rd_eqS)) g5 (fun z H6 x6 g6 => ?_) fun z H6 x6 g6 => ?_
      · have ek : s0 = ship := of_decide_eq_true (by rw [show (!isN (dAtO (some (s0, k0, z0)))) = true from rfl, Bool.true_and] at z; exact z)
        have ea : aboard r ship hh m = some (m, k0, z0) := by unfold aboard; rw [ew]; exact if_pos ek
        have hl6 : H6 l = some (.lst xs) := x6.keep l _ hl5 hlm (fun ps z => by cases z)
        refine ap_d rfl List.mem_cons_self hlm hl6 hlx (ed_tup (ead (ed_var rfl (hy.mono (x5.trans x6))) (ead (ed_op (ed_var rfl (ht5'.mono x6)) ed_int (rd_ixT (d := .str k0) rfl)) (ead (ed_op (ed_var rfl (ht5'.mono x6)) ed_int (rd_ixT (d := .int z0) rfl)) ea_nil))) (by show 3 ≤ 1000; decide)) g6 fun tu H7 d7 p7 x7 g7 htu hl7 => ?_
        subst p7
        refine ⟨_, _, _, _, men0, rfl, rfl, (((x4.then x5).then x6).then x7).trans (.wr List.mem_cons_self hlm hl7), (((x0.then x5).then x6).then x7).trans (.wr List.mem_cons_self hlm hl7), g7, upd_same, ?_⟩
        rw [esn, ea, List.map_append]
        exact ((hxs5.mono (x6.trans x7)).put List.mem_cons_self hlm hl7).app (.cons htu .nil)
      · have ek : ¬ s0 = ship := of_decide_eq_false (by rw [show (!isN (dAtO (some (s0, k0, z0)))) = true from rfl, Bool.true_and] at z; exact z)
        have ea : aboard r ship hh m = none := by unfold aboard; rw [ew]; exact if_neg ek
        refine ⟨_, _, _, xs, men0, rfl, rfl, (x4.then x5).then x6, (x0.then x5).then x6, g6, x6.keep l _ hl5 hlm (fun ps z => by cases z), ?_⟩
        rw [esn, ea, Option.toList_none, List.append_nil]
        exact hxs5.mono x6
  · rintro H4 ds σ' H' ⟨men0, rfl, nd, hm, hlen⟩ ⟨mv, tv, rv, xs, men, rfl, e, x4, x0, g4, hl4, hxs⟩
    obtain rfl := strs_inj e
    rw [List.length_map, List.take_length] at hxs
    have hL' : Is M H' (.ref l) (.list ((men0.filterMap (aboard r ship hh)).map dAt)) := .lst hlM hl4 hxs.off
    have xo : Xq M H H' := x03.trans (x0.out (Xq.new nl) rfl (fun z hz => by rw [List.mem_singleton.mp hz]; exact nl) (fun z hz => by cases hz))
    have hlen2 : (men0.filterMap (aboard r ship hh)).length ≤ 1000 := by
      have h1 := fm_len (aboard r ship hh) men0
      omega
    refine rt_d (ed_call (ead (ed_var rfl hL') ea_nil) ⟨men0.filterMap (aboard r ship hh), rfl, hlen2, rfl⟩) g4.drop fun v2 H5 d pd x5 g5 vd => q v2 H5 d ?_ (xo.trans x5) g5 vd
    obtain ⟨es', e, pe⟩ := pd
    have h1 := fm_len (aboard r ship hh) men0
    exact ⟨es', e, ⟨men0, nd, hm, pe⟩, by rw [pe.length_eq]; omega⟩
end
end Rk
set_option Elab.async false
set_option linter.all false
set_option maxRecDepth 100000
/-! Pg: stays -/
namespace Rk
open PySem PySem.Spec PyProof.Rows L2
def cStays (ds : List PyData) (R : DP) : Prop := ∃ (r : List Row) (man : Str), ds = [dRoll r, .str man] ∧ RollOk r ∧ nameB man = true ∧ R = (· = .tuple ((staysOf (rows3 r man)).map dStay))
theorem sh_all : ∀ {ds : List PyData}, (∀ d ∈ ds, SeqAt.shaped d = true ∧ d.depth ≤ 8) → PyData.canLayAll0 ds = true ∧ PyData.depthAll ds ≤ 8
  | [], _ => ⟨by unfold PyData.canLayAll0; rfl, by unfold PyData.depthAll; omega⟩
  | d :: ds, h => by
    obtain ⟨h1, h2⟩ := h d List.mem_cons_self
    obtain ⟨h3, h4⟩ := sh_all (ds := ds) fun e he => h e (List.mem_cons_of_mem _ he)
    constructor
    · unfold PyData.canLayAll0
      rw [canLay_of h1, h3] <;> rfl
    · unfold PyData.depthAll
      omega
theorem sh_list {ds : List PyData} (h : ∀ d ∈ ds, SeqAt.shaped d = true ∧ d.depth ≤ 8) : SeqAt.shaped (.list ds) = true := by
  obtain ⟨h1, h2⟩ := sh_all h
  unfold SeqAt.shaped PyData.canLay0 PyData.depth
  rw [h1, Bool.true_and]
  exact decide_eq_true (by omega)
theorem sh_tup {ds : List PyData} (h : ∀ d ∈ ds, SeqAt.shaped d = true ∧ d.depth ≤ 8) : SeqAt.shaped (.tuple ds) = true := by
  obtain ⟨h1, h2⟩ := sh_all h
  unfold SeqAt.shaped PyData.canLay0 PyData.depth
  rw [h1, Bool.true_and]
  exact decide_eq_true (by omega)
theorem sh_s {z : Str} (h : sOk z) : SeqAt.shaped (.str z) = true ∧ (PyData.str z).depth ≤ 8 := by
  refine ⟨?_, ?_⟩
  · simp only [SeqAt.shaped, PyData.canLay0, PyData.depth, h]
    rfl
  · simp [PyData.depth]
theorem sh_i (i : Int) : SeqAt.shaped (.int i) = true ∧ (PyData.int i).depth ≤ 8 := by
  refine ⟨?_, ?_⟩
  · simp [SeqAt.shaped, PyData.canLay0, PyData.depth]
  · simp [PyData.depth]
theorem sh_2 {a b : PyData} (h1 : SeqAt.shaped a = true ∧ a.depth ≤ 8) (h2 : SeqAt.shaped b = true ∧ b.depth ≤ 8) : SeqAt.shaped (.tuple [a, b]) = true := sh_tup fun d hd => by
  rcases List.mem_cons.mp hd with rfl | hd
  · exact h1
  · rw [List.mem_singleton.mp hd]; exact h2
theorem sh_stay {s : Stay} (h1 : sOk s.2.2.1) (h2 : sOk s.2.2.2) : SeqAt.shaped (dStay s) = true ∧ (dStay s).depth ≤ 8 := by
  obtain ⟨a, b, c, d⟩ := s
  cases b with
  | none =>
    refine ⟨?_, ?_⟩
    · simp only [SeqAt.shaped, dStay, dIO, PyData.canLay0, PyData.canLayAll0, PyData.depth, PyData.depthAll, h1, h2]
      decide
    · simp [dStay, dIO, PyData.depth, PyData.depthAll]
  | some b =>
    refine ⟨?_, ?_⟩
    · simp only [SeqAt.shaped, dStay, dIO, PyData.canLay0, PyData.canLayAll0, PyData.depth, PyData.depthAll, h1, h2]
      decide
    · simp [dStay, dIO, PyData.depth, PyData.depthAll]
theorem eqv_nil (ds : List PyData) : PyData.eqv (.list ds) (.list []) = ds.isEmpty := by
  cases ds with
  | nil => simp [PyData.eqv, PyData.eqvAll]
  | cons d ds => simp [PyData.eqv, PyData.eqvAll]
theorem eqv_ss (a b c d : Str) : PyData.eqv (.tuple [.str a, .str b]) (.tuple [.str c, .str d]) = decide ((a, b) = (c, d)) := by
  by_cases h1 : a = c
  · by_cases h2 : b = d
    · subst h1 h2
      simp [PyData.eqv, PyData.eqvAll]
    · simp [PyData.eqv, PyData.eqvAll, h1, h2]
  · simp [PyData.eqv, PyData.eqvAll, h1]
theorem ed_neg1 {T : Tbs} {M : Ct} {σ : L2.St} {H : Hp} : EX T M (tUn (rU fun i => .int (-i)) (tC (.int 1))) σ H (· = .int (-1)) := ex_un ed_int fun d e => by subst e; exact ru_I
/-- xs[-1] = e, the list not named by data -/
theorem set_d {C : Ct} {T : Tbs} {σ : L2.St} {H : Hp} {l : Addr} {k n : Nat} {te : TE} {xs : List V} {P : DP} {En : Ends} (hv : σ[k]? = some (some (.ref l))) (hm : l ∉ C.m) (hl : H l = some (.lst xs)) (hz : xs.length = n + 1) (h : EX T C te σ H P) (g : Gd T C H) (q : ∀ v H2 d, P d → Xq C H H2 → Gd T C H2 → Is C H2 v d → H2 l = some (.lst xs) → En.nx σ (upd H2 l (.lst (xs.set n v)))) :
    tAsg te (gSub (tVar k) (tUn (rU fun i => .int (-i)) (tC (.int 1))) rSetL) En σ H := h H Xq.refl g _ fun v H2 d pd x2 g2 vd => by
  have hl2 : H2 l = some (.lst xs) := x2.keep l _ hl hm (fun ps z => by cases z)
  refine ⟨.ref l, hv, 1, rfl, l, xs, -1, n, rfl, rfl, hl2, ?_, q v H2 d pd x2 g2 vd hl2⟩
  rw [hz]
  unfold ixN
  rw [if_neg (by decide), if_pos (by omega)]
  congr 1
  omega
theorem stay_cat (D : List Stay) (s : Stay) (r : R3) : stayStep (D ++ [s]) r = if s.2.2 = r.2 then D ++ [s] else D ++ [(s.1, some r.1, s.2.2)] ++ [(r.1, none, r.2.1, r.2.2)] := by
  unfold stayStep
  rw [List.getLast?_concat]
  dsimp only
  rw [List.dropLast_concat]
theorem stay_ok {r : R3} (hr : sOk r.2.1 ∧ sOk r.2.2) : ∀ {S : List Stay}, (∀ s ∈ S, sOk s.2.2.1 ∧ sOk s.2.2.2) → ∀ s ∈ stayStep S r, sOk s.2.2.1 ∧ sOk s.2.2.2 := fun {S} h s hs => by
  rcases List.eq_nil_or_concat S with rfl | ⟨D, x, rfl⟩
  · have e : s = (r.1, none, r.2.1, r.2.2) := by simpa [stayStep] using hs
    rw [e]
    exact hr
  · rw [List.concat_eq_append] at hs h
    rw [stay_cat] at hs
    by_cases c : x.2.2 = r.2
    · rw [if_pos c] at hs
      exact h s hs
    · rw [if_neg c] at hs
      rcases List.mem_append.mp hs with hs | hs
      · rcases List.mem_append.mp hs with hs | hs
        · exact h s (List.mem_append_left _ hs)
        · rw [List.mem_singleton.mp hs]
          exact h x (List.mem_append_right _ List.mem_cons_self)
      · rw [List.mem_singleton.mp hs]
        exact hr
theorem stay_len {S : List Stay} {r : R3} : (stayStep S r).length ≤ S.length + 1 := by
  rcases List.eq_nil_or_concat S with rfl | ⟨D, x, rfl⟩
  · simp [stayStep]
  · rw [List.concat_eq_append, stay_cat]
    by_cases c : x.2.2 = r.2
    · rw [if_pos c]; omega
    · rw [if_neg c]; simp
section
variable {P : Program} {w : World} {K : PySem.W.Frag} {mg : Str → Option Value} {base : Heap} {T : Tbs}
theorem go_stays (tp : Top mg) (GR : Go P w K mg base T 5 "need_roll" cNRoll) (GN : Go P w K mg base T 2 "need_name" cNName) (GO : Go P w K mg base T 1 "rows_of" cRows)
    (D : Df K mg "stays_of" sStays ["roll", "man"]) : Go P w K mg base T 6 "stays_of" cStays := by
  refine go_mk (k := 5) D scStays (fun ds R h => by obtain ⟨i, j, rfl, _⟩ := h; rfl) fun f cdv A outer s H vs Q E M ds R hr g a c q => ?_
  obtain ⟨r, man, rfl, ok, okm, rfl⟩ := c
  obtain ⟨v, u, rfl, hv, hu⟩ := a.a2
  refine ⟨_, pss_cons (ps_expr (pe_go GR hr (pa_cons (pv 0) pa_nil))) (pss_cons (ps_expr (pe_go GN hr (pa_cons (pv 1) pa_nil)))
    (pss_cons (ps_set (i := 2) scStays.nd rfl (.inl rfl) (pe_lst pa_nil))
    (pss_cons (ps_for PassesOwn.never rfl (pi_list (pe_go GO hr (pa_cons (pv 0) (pa_cons (pv 1) pa_nil)))) (pg_tup rfl (pgs_cons (pg_name (i := 3) scStays.nd rfl (.inl rfl)) (pgs_cons (pg_name (i := 4) scStays.nd rfl (.inl rfl)) (pgs_cons (pg_name (i := 5) scStays.nd rfl (.inl rfl)) pgs_nil))))
      (pss_cons (ps_if (pw_and (pt_cmpR (op_neD hr.units) (pv 2) (pe_lst pa_nil) (nomark _)) (pw_and1 (pt_cmpR (op_eqD hr.units) (pe_slice sl_tupA (pe_ix ix_list (pv 2) (pe_un un_neg pe_int) (fun _ _ => rfl)) (po_some pe_int) po_none) (pe_tup (pa_cons (pv 4) (pa_cons (pv 5) pa_nil))) (nomark _)))).pt (pss_one ps_continue) pss_nil)
      (pss_cons (ps_if (pt_cmpR (op_neD hr.units) (pv 2) (pe_lst pa_nil) (nomark _))
        (pss_one (ps_asg (pe_op op_catA (pe_tup (pa_cons (pe_ix ix_tup (pe_ix ix_list (pv 2) (pe_un un_neg pe_int) (fun _ _ => rfl)) pe_int (fun _ _ => rfl)) (pa_cons (pv 3) pa_nil))) (pe_slice sl_tupA (pe_ix ix_list (pv 2) (pe_un un_neg pe_int) (fun _ _ => rfl)) (po_some pe_int) po_none)) (pg_sub (pv 2) (pe_un un_neg pe_int) set_list))) pss_nil)
      (pss_one (ps_expr (pe_bm PySem.F.plainAttrs_list PySem.F.slot_list_append PySem.F.type_list_append mt_append (pv 2) (pa_cons (pe_tup (pa_cons (pv 3) (pa_cons pe_non (pa_cons (pv 4) (pa_cons (pv 5) pa_nil))))) pa_nil)))))))
    (pss_one (ps_ret (pe_callTy call_tuple_of (by rfl) tp.tuple bt_tuple (pa_cons (pv 2) pa_nil))))))), ?_⟩
  refine sq (dr_d (ed_call (ead (ed_var rfl hv) ea_nil) ⟨r, rfl, ok, rfl⟩) g fun d1 H1 _ x1 g1 => sq (dr_d (ed_call (ead (ed_var rfl (hu.mono x1)) ea_nil) ⟨man, rfl, okm, rfl⟩) g1 fun d2 H3 _ x2 g3 => sq (new_d fun l nl => ?_)))
  have x03 := x1.trans x2
  have hvC := (hv.mono x03).up nl
  have huC := (hu.mono x03).up nl
  have gC := g3.upL nl
  have hlm : l ∉ (M.add l).m := fun z => g3.fresh nl (M.sub _ z)
  have hlM : l ∉ M.n := g3.fresh nl
  have hL : ∀ z ∈ [l], z ∈ (M.add l).n := fun z hz => by rw [List.mem_singleton.mp hz]; exact List.mem_cons_self
  have hD : ∀ {h : Hp}, ∀ d ∈ ([] : List Addr), ∃ ks, h d = some (.dT ks) := fun d hd => by cases hd
  have rok : ∀ x ∈ rows3 r man, sOk x.2.1 ∧ sOk x.2.2 := fun x hx => by
    obtain ⟨y, hy, e⟩ := List.mem_map.mp ((rows3_perm r man).mem_iff.mp hx)
    have h1 := ok.rows y (List.mem_filter.mp hy).1
    rw [← e]
    exact ⟨ship_ok h1.ship, nameB_ok h1.rank⟩
  have rlen : (rows3 r man).length ≤ 60 := by
    rw [(rows3_perm r man).length_eq, List.length_map]
    have h1 := List.length_filter_le (fun x : Row => decide (x.1 = man)) r
    have h2 := ok.len
    omega
  dsimp only
  refine sq (fol (C := M.add l) (L := [l]) (D := []) (p := fun ds => ds = (rows3 r man).map dR3) (ewl_list hL hD (fun d hd => by cases hd) ((ed_call (ead (ed_var rfl hvC) (ead (ed_var rfl huC) ea_nil)) ⟨r, man, rfl, ok, rfl⟩).imp fun d e => ⟨_, e, rfl⟩) gC)
    (fun H4 ds i σ' H' => ∃ b sh rk xs, ∃ es : List Stay, σ' = [some v, some u, some (.ref l), b, sh, rk] ∧ Xl (M.add l) [l] [] H4 H' ∧ Xl (M.add l) [l] [] (upd H3 l (.lst [])) H' ∧ Gd T (M.add l) H' ∧ H' l = some (.lst xs) ∧ IsA (M.add l) H' xs (es.map dStay) ∧ es = staysOf ((rows3 r man).take i) ∧ es.length ≤ i ∧ ∀ s ∈ es, sOk s.2.2.1 ∧ sOk s.2.2.2) ?_ ?_ ?_ ?_)
  · rintro H4 ds rfl x4 g4
    exact ⟨_, _, _, [], [], rfl, .refl, .of x4, g4, x4.keep l _ upd_same hlm (fun ps z => by cases z), .nil, rfl, Nat.le_refl _, fun s hs => by cases hs⟩
  · rintro H4 ds i σ' H' ⟨b, sh, rk, xs, es, _, z, _⟩
    exact z
  · rintro H4 ds i d y σ' H' rfl hd ⟨b0, sh0, rk0, xs, es, rfl, x4, x0, g4, hl4, hxs, ees, eln, eok⟩ hy
    obtain ⟨rw3, hr1, rfl⟩ := map_at hd
    have hi : i < (rows3 r man).length := (List.getElem?_eq_some_iff.mp hr1).1
    have est : staysOf ((rows3 r man).take (i + 1)) = stayStep es rw3 := by rw [take_snoc hr1, staysOf_snoc, ees]
    have hro := rok rw3 (List.mem_of_getElem? hr1)
    have hxl : xs.length = es.length := by rw [hxs.length, List.length_map]
    refine gt3 hy fun b sh rk hb hsh hrk => ?_
    have hbM : Is M H' b (.int rw3.1) := hb.ft rfl
    have hsM : Is M H' sh (.str rw3.2.1) := hsh.ft rfl
    have hkM : Is M H' rk (.str rw3.2.2) := hrk.ft rfl
    have hF : Is M H' (.ref l) (.list (es.map dStay)) := .lst hlM hl4 hxs.off
    have gM := g4.drop
    have shF : SeqAt.shaped (.list (es.map dStay)) = true := sh_list fun d hd => by
      obtain ⟨s, hs, rfl⟩ := List.mem_map.mp hd
      exact sh_stay (eok s hs).1 (eok s hs).2
    have sh0' : SeqAt.shaped (.list []) = true := sh_list fun d hd => by cases hd
    have lk : ∀ {H5 : Hp}, Xq M H' H5 → H5 l = some (.lst xs) := fun x5 => x5.keep l _ hl4 hlm (fun ps z => by cases z)
    have gk : ∀ {H5 : Hp}, Xq M H' H5 → Gd T M H5 → Gd T (M.add l) H5 := fun x5 g5 => g5.up (lk x5)
    -- the end of a turn that appends
    have fin : ∀ (H6 : Hp) (ys : List V) (fs : List Stay), Xl (M.add l) [l] [] H' H6 → Gd T (M.add l) H6 → H6 l = some (.lst ys) → IsA (M.add l) H6 ys (fs.map dStay) → fs.length ≤ i → (fs ++ [(rw3.1, none, rw3.2.1, rw3.2.2)] = stayStep es rw3) → 
        tDrop (tBM K "list" rAppend (tVar 2) (tCons (tTup (tCons (tVar 3) (tCons (tC .non) (tCons (tVar 4) (tCons (tVar 5) tNil))))) tNil))
          { nx := fun σ' H' => ∃ b sh rk xs, ∃ es : List Stay, σ' = [some v, some u, some (.ref l), b, sh, rk] ∧ Xl (M.add l) [l] [] H4 H' ∧ Xl (M.add l) [l] [] (upd H3 l (.lst [])) H' ∧ Gd T (M.add l) H' ∧ H' l = some (.lst xs) ∧ IsA (M.add l) H' xs (es.map dStay) ∧ es = staysOf ((rows3 r man).take (i + 1)) ∧ es.length ≤ i + 1 ∧ ∀ s ∈ es, sOk s.2.2.1 ∧ sOk s.2.2.2, rt := Q,
            bk := fun σ H => tRet (tCB (fun xs H Q => ∃ p ys, xs = [.ref p] ∧ ((SqL K H p ys ∧ ∀ l, H l = none → Q (.ref l) (upd H l (.tup ys))) ∨ (SqT K H p ys ∧ Q (.ref p) H))) (tCons (tVar 2) tNil)) { nx := fun _ H' => Q .non H', rt := Q } σ H,
            ct := fun σ' H' => ∃ b sh rk xs, ∃ es : List Stay, σ' = [some v, some u, some (.ref l), b, sh, rk] ∧ Xl (M.add l) [l] [] H4 H' ∧ Xl (M.add l) [l] [] (upd H3 l (.lst [])) H' ∧ Gd T (M.add l) H' ∧ H' l = some (.lst xs) ∧ IsA (M.add l) H' xs (es.map dStay) ∧ es = staysOf ((rows3 r man).take (i + 1)) ∧ es.length ≤ i + 1 ∧ ∀ s ∈ es, sOk s.2.2.1 ∧ sOk s.2.2.2 }
          [some v, some u, some (.ref l), some b, some sh, some rk] H6 := fun H6 ys fs x6 g6 hl6 hys fln hf => by
      have hyl : ys.length ≤ 1000 := by rw [hys.length, List.length_map]; omega
      refine ap_d rfl List.mem_cons_self hlm hl6 hyl (ed_tup (ead (ed_var rfl (hb.xl hL hD x6)) (ead ed_non (ead (ed_var rfl (hsh.xl hL hD x6)) (ead (ed_var rfl (hrk.xl hL hD x6)) ea_nil)))) (by show 4 ≤ 1000; decide)) g6 fun tu H7 d7 p7 x7 g7 htu hl7 => ?_
      subst p7
      refine ⟨_, _, _, _, fs ++ [(rw3.1, none, rw3.2.1, rw3.2.2)], rfl, ((x4.trans x6).then x7).trans (.wr List.mem_cons_self hlm hl7), ((x0.trans x6).then x7).trans (.wr List.mem_cons_self hlm hl7), g7, upd_same, ?_, by rw [est, hf], by rw [List.length_append]; show fs.length + 1 ≤ _; omega, by rw [hf]; exact stay_ok hro eok⟩
      rw [List.map_append]
      exact ((hys.mono x7).put List.mem_cons_self hlm hl7).app (.cons htu .nil)
    rcases List.eq_nil_or_concat es with rfl | ⟨S, s0, e⟩
    · have tn : ∀ {H5 : Hp}, Xq M H' H5 → ET T M (tTest (tOp (rNeD K) (tVar 2) (tLst tNil))) [some v, some u, some (.ref l), some b, some sh, some rk] H5 (· = false) := fun x5 => (etd (ed_op (ed_var rfl (hF.mono x5)) (ed_lst ea_nil (Nat.zero_le _)) (rd_neD shF sh0'))).to (by rw [eqv_nil] <;> rfl)
      refine sq (if_d (et_and (b := false) (tn Xq.refl) fun z => by cases z) gM (fun z => by cases z) fun _ H5 x5 g5 => ?_)
      refine sq (if_d (tn x5) g5 (fun z => by cases z) fun _ H6 x6 g6 => ?_)
      have x56 := x5.trans x6
      exact fin H6 xs [] (.of x56.add) (gk x56 g6) (lk x56) (hxs.mono x56.add) (Nat.zero_le _) rfl
    · rw [List.concat_eq_append] at e
      subst e
      have hne : (!PyData.eqv (.list ((S ++ [s0]).map dStay)) (.list [])) = true := by rw [eqv_nil]; simp
      have tn : ∀ {H5 : Hp}, Xq M H' H5 → ET T M (tTest (tOp (rNeD K) (tVar 2) (tLst tNil))) [some v, some u, some (.ref l), some b, some sh, some rk] H5 (· = true) := fun x5 => (etd (ed_op (ed_var rfl (hF.mono x5)) (ed_lst ea_nil (Nat.zero_le _)) (rd_neD shF sh0'))).to hne
      have atl : L2.atI ((S ++ [s0]).map dStay) (-1) = some (dStay s0) := by rw [List.map_append]; exact atI_last _ _
      have s0k := eok s0 (List.mem_append_right _ List.mem_cons_self)
      have last : ∀ {H5 : Hp}, Xq M H' H5 → EX T M (tOp (rIxL K) (tVar 2) (tUn (rU fun i => .int (-i)) (tC (.int 1)))) [some v, some u, some (.ref l), some b, some sh, some rk] H5 (· = dStay s0) := fun x5 => ed_op (ed_var rfl (hF.mono x5)) ed_neg1 (rd_ixL atl)
      have tail : ∀ {H5 : Hp}, Xq M H' H5 → EX T M (tSl (rSlA K) (tOp (rIxL K) (tVar 2) (tUn (rU fun i => .int (-i)) (tC (.int 1)))) (tPart (tC (.int 2))) tNoPart) [some v, some u, some (.ref l), some b, some sh, some rk] H5 (· = .tuple [.str s0.2.2.1, .str s0.2.2.2]) := fun x5 => ed_slT (lo := some 2) (hi := none) (last x5) (eo_d ed_int) eo_none
      refine sq (if_d (et_and (tn Xq.refl) fun _ => (etd (ed_op (tail Xq.refl) (ed_tup (ead (ed_var rfl hsM) (ead (ed_var rfl hkM) ea_nil)) (by show 2 ≤ 1000; decide)) (rd_eqD (sh_2 (sh_s s0k.1) (sh_s s0k.2)) (sh_2 (sh_s hro.1) (sh_s hro.2))))).to (eqv_ss _ _ _ _)) gM (fun z H5 x5 g5 => ?_) fun z H5 x5 g5 => ?_)
      · have ek : s0.2.2 = rw3.2 := of_decide_eq_true (by rw [Bool.true_and] at z; exact z)
        refine ⟨_, _, _, xs, _, rfl, x4.then x5.add, x0.then x5.add, gk x5 g5, lk x5, hxs.mono x5.add, ?_, by omega, eok⟩
        rw [est, stay_cat, if_pos ek]
      · have ek : ¬ s0.2.2 = rw3.2 := of_decide_eq_false (by rw [Bool.true_and] at z; exact z)
        refine sq (if_d (tn x5) g5 (fun _ H6 x6 g6 => ?_) (fun z => by cases z))
        have x56 := x5.trans x6
        refine set_d (C := M) (n := S.length) rfl hlm (lk x56) (by rw [hxl]; simp) (ed_op (ed_tup (ead (ed_op (last x56) ed_int (rd_ixT (d := .int s0.1) rfl)) (ead (ed_var rfl (hbM.mono x56)) ea_nil)) (by show 2 ≤ 1000; decide)) (tail x56) (rd_catT (by show 2 + 2 ≤ 1000; decide))) g6 fun t7 H7 d7 p7 x7 g7 ht7 hl7 => ?_
        subst p7
        have x57 := x56.trans x7
        have ht7C : Is (M.add l) H7 t7 (dStay (s0.1, some rw3.1, s0.2.2)) := ht7.ft rfl
        have ht8 : Is (M.add l) (upd H7 l (.lst (xs.set S.length t7))) t7 (dStay (s0.1, some rw3.1, s0.2.2)) := ht7C.put List.mem_cons_self hlm hl7
        refine fin _ (xs.set S.length t7) (S ++ [(s0.1, some rw3.1, s0.2.2)]) ((Xl.of x57.add).trans (.wr List.mem_cons_self hlm hl7)) ((gk x57 g7).wr hl7) upd_same ?_ ?_ ?_
        · have h8 : IsA (M.add l) (upd H7 l (.lst (xs.set S.length t7))) (xs.set S.length t7) (((S ++ [s0]).map dStay).set S.length (dStay (s0.1, some rw3.1, s0.2.2))) := ((hxs.mono x57.add).put List.mem_cons_self hlm hl7).set ht8 _
          have e8 : ((S ++ [s0]).map dStay).set S.length (dStay (s0.1, some rw3.1, s0.2.2)) = (S ++ [(s0.1, some rw3.1, s0.2.2)]).map dStay := by
            rw [List.map_append, List.map_append, List.set_append_right _ _ (by rw [List.length_map]; exact Nat.le_refl _), List.length_map, Nat.sub_self]
            rfl
          rw [← e8]
          exact h8
        · rw [List.length_append] at eln ⊢
          exact eln
        · rw [stay_cat, if_neg ek]
  · rintro H4 ds σ' H' rfl ⟨b0, sh0, rk0, xs, es, rfl, x4, x0, g4, hl4, hxs, ees, eln, eok⟩
    rw [List.length_map, List.take_length] at ees
    subst ees
    have hF : Is M H' (.ref l) (.list ((staysOf (rows3 r man)).map dStay)) := .lst hlM hl4 hxs.off
    have xo : Xq M H H' := x03.trans (x0.out (Xq.new nl) rfl (fun z hz => by rw [List.mem_singleton.mp hz]; exact nl) (fun z hz => by cases hz))
    exact rt_d (ed_cb (ead (ed_var rfl hF) ea_nil) rc_tupleL) g4.drop fun v2 H5 d pd x5 g5 vd => q v2 H5 d pd (xo.trans x5) g5 vd
end
end Rk
set_option Elab.async false
set_option linter.all false
set_option maxRecDepth 100000
/-! Ph: pots -/
namespace Rk
open PySem PySem.Spec PyProof.Rows L2
abbrev sPot : Stmt := topS 26
abbrev sTake : Stmt := topS 27
theorem scPot : FnScope ["_law_script", "_law_k", "_law_cell"] ["_law_script", "_law_k"] (defScope sPot) := ⟨rfl, rfl, rfl, by decide +kernel, rfl, by decide +kernel, by decide +kernel⟩
theorem scTake : FnScope ["_law_pot_here", "_law_many", "_law_found"] ["_law_pot_here", "_law_many"] (defScope sTake) := ⟨rfl, rfl, rfl, by decide +kernel, rfl, by decide +kernel, by decide +kernel⟩
def CPowB (i j : Int) : Prop := 0 ≤ j ∧ (Builtin.Int.intBits i : Int) * j ≤ 2 ^ 27
theorem op_powB {X : Cx} : OpR X (binaryOp .Pow) (rI CPowB fun i j => .int (i ^ j.toNat)) := opI fun _ _ _ _ _ _ _ hc q => pow_int hc.1 hc.2 q
def E0c : Ct := ⟨[], [], fun a h => h⟩
theorem sql_keep {K : PySem.W.Frag} {H H' : Hp} {a : Addr} {xs : List V} (h : SqL K H a xs) (x : Xq E0c H H') : SqL K H' a xs := by
  rcases h with (h | ⟨o, h⟩) | h
  · exact .inl (.inl (x.keep a _ h (fun z => by cases z) (fun ps z => by cases z)))
  · exact .inl (.inr ⟨o, x.keep a _ h (fun z => by cases z) (fun ps z => by cases z)⟩)
  · exact .inr h
def spPot (K : PySem.W.Frag) (T : Tbs) : Sp := fun vs H Q _ => ∃ (a : Addr) (ns : List Int) (k : Nat), vs = [.ref a, .int (k : Int)] ∧ SqL K H a (ns.map V.int) ∧ Gd T E0c H ∧ k < 64 ∧
  ∀ (x y : Int) (p : Addr) (H' : Hp), 0 ≤ x → x < potB → 0 ≤ y → y < 2147483647 → Xq E0c H H' → Gd T E0c H' → H' p = none → Q (.ref p) (upd H' p (.lst [.int x, .int y]))
def cTake (ds : List PyData) (R : DP) : Prop := ∃ m : Int, ds = [.dict [], .int m] ∧ 0 < m ∧ m < 1073741824 ∧ R = (fun d => ∃ r, d = .int r ∧ 0 ≤ r ∧ r < m)
theorem big_eq : ((10 : Int) ^ (60 : Int).toNat) ^ (10 : Int).toNat = potB := by decide +kernel
theorem big_pos : (0 : Int) < potB := by decide +kernel
theorem big_bits : CPowB ((10 : Int) ^ (60 : Int).toNat) 10 := ⟨by decide, by decide +kernel⟩
theorem Xq.potw {M : Ct} {H : Hp} {p : Addr} {x y x' y' : Int} (h : H p = some (.lst [.int x, .int y])) (hm : p ∈ M.m) (h1 : 0 ≤ x') (h2 : x' < potB) (h3 : 0 ≤ y') (h4 : y' < 2147483647) : Xq M H (upd H p (.lst [.int x', .int y'])) := by
  refine ⟨fun b o e n t => ?_, fun b xs e => ?_, fun q hq e => ?_⟩
  · rw [upd_ne (fun z => n (by rw [z]; exact hm))]
    exact e
  · rw [upd_ne (ne_of e h (by intro z; cases z))]
    exact e
  · by_cases c : q = p
    · subst c
      exact ⟨x', y', upd_same, h1, h2, h3, h4⟩
    · exact e.at (upd_ne c)
section
variable {P : Program} {w : World} {K : PySem.W.Frag} {mg : Str → Option Value} {base : Heap} {T : Tbs}
theorem pot_spec (tp : Top mg) {f : Addr} {fd : FuncData} (F : Fun K "_law_pot" "_law_pot" sPot f fd) : FnOk P w K mg base CX0 1 f fd ["_law_script", "_law_k"] (spPot K T) := by
  refine F.ok scPot (fun vs H Q E h => by obtain ⟨a, ns, k, rfl, _⟩ := h; rfl) fun cdv A outer s H vs Q E hr h => ?_
  obtain ⟨a, ns, k, rfl, hS, g, hk, q⟩ := h
  refine ⟨_, pss_cons (ps_set (i := 2) scPot.nd rfl (.inl rfl) pe_int)
    (pss_cons (ps_if (pt_cmpR op_lt (pv 1) (pe_callB call_len_seq (by rfl) tp.len bt_len (pa_cons (pv 0) pa_nil)) (nomark _))
      (pss_one (ps_set (i := 2) scPot.nd rfl (.inl rfl) (pe_op op_mod (pe_callB call_abs (by rfl) tp.abs bt_abs (pa_cons (pe_ix ix_list (pv 0) (pv 1) (fun _ _ => rfl)) pa_nil)) (pe_op op_powB (pe_op op_pow pe_int pe_int) pe_int)))) pss_nil)
    (pss_one (ps_ret (pe_lst (pa_cons (pe_op op_mul (pv 2) (pe_callTy call_int1 (by rfl) tp.int bt_int (pa_cons (pe_cmpR op_ge (pv 2) (pe_op op_pow pe_int pe_int) (nomark _)) pa_nil)))
      (pa_cons (pe_op op_mod (pe_op op_pow (pe_op op_add (pe_op op_add (pe_op op_mod (pv 2) pe_int) (pe_op op_mul pe_int (pv 1))) pe_int) pe_int) pe_int) pa_nil)))))), ?_⟩
  -- the end, by the cell
  have fin : ∀ (c : Int) (H2 : Hp), 0 ≤ c → c < potB → Xq E0c H H2 → Gd T E0c H2 → tRet (tLst (tCons (tOp (rI CMul fun i j => .int (i * j)) (tVar 2) (tCB (fun xs H Q => (∃ i, xs = [.int i] ∧ Q (.int i) H) ∨ ∃ k, xs = [.bl k] ∧ Q (.int (if k then 1 else 0)) H) (tCons (tOp (rI0 fun i j => .bl (decide (j ≤ i))) (tVar 2) (tOp (rI CPow fun i j => .int (i ^ j.toNat)) (tC (.int 10)) (tC (.int 18)))) tNil)))
      (tCons (tOp (rI (fun _ j => 0 < j) fun i j => .int (i % j)) (tOp (rI CPow fun i j => .int (i ^ j.toNat)) (tOp (rI0 fun i j => .int (i + j)) (tOp (rI0 fun i j => .int (i + j)) (tOp (rI (fun _ j => 0 < j) fun i j => .int (i % j)) (tVar 2) (tC (.int 2147483629))) (tOp (rI CMul fun i j => .int (i * j)) (tC (.int 7919)) (tVar 1))) (tC (.int 1))) (tC (.int 5))) (tC (.int 2147483647))) tNil)))
      { nx := fun _ H' => Q .non H', rt := Q } [some (.ref a), some (.int (k : Int)), some (.int c)] H2 := fun c H2 h0 h1 x2 g2 => by
    have e1 : EX T E0c (tOp (rI CMul fun i j => .int (i * j)) (tVar 2) (tCB (fun xs H Q => (∃ i, xs = [.int i] ∧ Q (.int i) H) ∨ ∃ k, xs = [.bl k] ∧ Q (.int (if k then 1 else 0)) H) (tCons (tOp (rI0 fun i j => .bl (decide (j ≤ i))) (tVar 2) (tOp (rI CPow fun i j => .int (i ^ j.toNat)) (tC (.int 10)) (tC (.int 18)))) tNil))) [some (.ref a), some (.int (k : Int)), some (.int c)] H2 (fun d => ∃ x, d = .int x ∧ 0 ≤ x ∧ x < potB) :=
      ed_op (ed_var rfl (.int c)) (ed_cb (ead (ed_op (ed_var rfl (.int c)) (ed_op ed_int ed_int (rd_I ⟨by decide, by decide, by decide⟩)) rd_B0) ea_nil) rc_intB) (by
        intro H3 u v g3 hu hv Q' q'
        refine rd_I (j := if decide ((10 : Int) ^ (18 : Int).toNat ≤ c) then 1 else 0) ?_ H3 u v g3 hu hv Q' fun z H4 d p x4 g4 zd => q' z H4 d ?_ x4 g4 zd
        · exact .inr (by split <;> decide)
        · refine ⟨_, p, ?_⟩
          have := big_pos
          split <;> omega)
    have e2 : EX T E0c (tOp (rI (fun _ j => 0 < j) fun i j => .int (i % j)) (tOp (rI CPow fun i j => .int (i ^ j.toNat)) (tOp (rI0 fun i j => .int (i + j)) (tOp (rI0 fun i j => .int (i + j)) (tOp (rI (fun _ j => 0 < j) fun i j => .int (i % j)) (tVar 2) (tC (.int 2147483629))) (tOp (rI CMul fun i j => .int (i * j)) (tC (.int 7919)) (tVar 1))) (tC (.int 1))) (tC (.int 5))) (tC (.int 2147483647))) [some (.ref a), some (.int (k : Int)), some (.int c)] H2 (fun d => ∃ y, d = .int y ∧ 0 ≤ y ∧ y < 2147483647) := by
      have b1 := Int.emod_nonneg c (b := 2147483629) (by decide)
      have b2 := Int.emod_lt_of_pos c (b := 2147483629) (by decide)
      refine (ed_op (ed_op (ed_op (ed_op (ed_op (ed_var rfl (.int c)) ed_int (rd_I (by decide))) (ed_op ed_int (ed_var rfl (.int (k : Int))) (rd_I (.inl (by decide)))) rd_I0) ed_int rd_I0) ed_int (rd_I ⟨by decide, by decide, by omega⟩)) ed_int (rd_I (by decide))).imp fun d e => ⟨_, e, Int.emod_nonneg _ (by decide), Int.emod_lt_of_pos _ (by decide)⟩
    refine e1 H2 Xq.refl g2 _ fun v1 H3 d1 p1 x3 g3 hv1 => e2 H3 x3 g3 _ fun v2 H4 d2 p2 x4 g4 hv2 => ?_
    obtain ⟨x, rfl, hx0, hx1⟩ := p1
    obtain ⟨y, rfl, hy0, hy1⟩ := p2
    cases hv1
    cases hv2
    exact ⟨by show 2 ≤ sizeLine; decide, fun p np => q x y p H4 hx0 hx1 hy0 hy1 ((x2.trans x3).trans x4) g4 np⟩
  have hlen : (ns.map V.int).length = ns.length := List.length_map _
  refine ⟨.int (k : Int), rfl, .ref a, rfl, a, _, rfl, .inl hS, (k : Int), _, rfl, rfl, _, rfl, ite2 (fun hc => ?_) fun hc => fin 0 H (by decide) big_pos Xq.refl g⟩
  have hc' := of_decide_eq_true hc
  rw [hlen] at hc'
  have hk2 : k < ns.length := by omega
  have hat : L2.atI (ns.map V.int) (k : Int) = some (.int ns[k]) := atI_nat (by rw [List.getElem?_map, List.getElem?_eq_getElem hk2] <;> rfl)
  have e3 : EX T E0c (tOp (rI (fun _ j => 0 < j) fun i j => .int (i % j)) (tCB (fun xs H Q => ∃ i, xs = [.int i] ∧ Q (.int (if i < 0 then -i else i)) H) (tCons (tOp (rIxL K) (tVar 0) (tVar 1)) tNil)) (tOp (rI CPowB fun i j => .int (i ^ j.toNat)) (tOp (rI CPow fun i j => .int (i ^ j.toNat)) (tC (.int 10)) (tC (.int 60))) (tC (.int 10)))) [some (.ref a), some (.int (k : Int)), some (.int 0)] H (fun d => ∃ x, d = .int x ∧ 0 ≤ x ∧ x < potB) := by
    have ea : EX T E0c (tCB (fun xs H Q => ∃ i, xs = [.int i] ∧ Q (.int (if i < 0 then -i else i)) H) (tCons (tOp (rIxL K) (tVar 0) (tVar 1)) tNil)) [some (.ref a), some (.int (k : Int)), some (.int 0)] H (· = .int (if ns[k] < 0 then -ns[k] else ns[k])) := fun H1 x g1 Q1 q1 =>
      ⟨.ref a, rfl, .int (k : Int), rfl, a, _, (k : Int), .int ns[k], rfl, rfl, sql_keep hS x, hat, ns[k], rfl, q1 _ H1 _ rfl Xq.refl g1 (.int _)⟩
    refine (ed_op ea (ed_op (ed_op ed_int ed_int (rd_I ⟨by decide, by decide, by decide⟩)) ed_int (rd_I big_bits)) (rd_I (by rw [big_eq]; exact big_pos))).imp fun d e => ⟨_, e, ?_, ?_⟩
    · exact Int.emod_nonneg _ (by rw [big_eq]; exact Int.ne_of_gt big_pos)
    · rw [big_eq]
      exact Int.emod_lt_of_pos _ big_pos
  refine as_d e3 g fun v1 H1 d1 p1 x1 g1 hv1 => ?_
  obtain ⟨x, rfl, hx0, hx1⟩ := p1
  cases hv1
  exact fin x H1 hx0 hx1 x1 g1
theorem go_take (D : Df K mg "_law_take" sTake ["_law_pot_here", "_law_many"]) : Go P w K mg base T 1 "_law_take" cTake := by
  refine go_mk (k := 0) D scTake (fun ds R h => by obtain ⟨i, rfl, _⟩ := h; rfl) fun f cdv A outer s H vs Q E M ds R hr g a c q => ?_
  obtain ⟨m, rfl, hm0, hm1, rfl⟩ := c
  obtain ⟨v, u, rfl, hv, hu⟩ := a.a2
  cases hu
  cases hv with
  | pot hp hok =>
  rename_i p
  obtain ⟨x, y, hH, hx0, hx1, hy0, hy1⟩ := hok
  refine ⟨_, pss_cons (ps_if (pt_cmpR op_gt (pe_ix ix_list (pv 0) pe_int (fun _ _ => rfl)) pe_int (nomark _))
      (pss_cons (ps_set (i := 2) scTake.nd rfl (.inl rfl) (pe_op op_mod (pe_ix ix_list (pv 0) pe_int (fun _ _ => rfl)) (pv 1)))
      (pss_cons (ps_asg (pe_op op_fdiv (pe_ix ix_list (pv 0) pe_int (fun _ _ => rfl)) (pv 1)) (pg_sub (pv 0) pe_int set_list))
      (pss_one (ps_ret (pv 2))))) pss_nil)
    (pss_cons (ps_asg (pe_op op_mod (pe_op op_add (pe_op op_mul (pe_ix ix_list (pv 0) pe_int (fun _ _ => rfl)) pe_int) pe_int) pe_int) (pg_sub (pv 0) pe_int set_list))
    (pss_one (ps_ret (pe_op op_mod (pe_op op_fdiv (pe_op op_mod (pe_op op_mul (pe_ix ix_list (pv 0) pe_int (fun _ _ => rfl)) (pe_ix ix_list (pv 0) pe_int (fun _ _ => rfl))) pe_int) pe_int) (pv 1))))), ?_⟩
  refine ⟨.ref p, rfl, p, _, 0, .int x, rfl, rfl, SqL.of hH, rfl, x, 0, rfl, rfl, _, rfl, ite2 (fun hc => ?_) fun hc => ?_⟩
  · refine ⟨.ref p, rfl, p, _, 0, .int x, rfl, rfl, SqL.of hH, rfl, .int m, rfl, x, m, rfl, rfl, hm0, ?_⟩
    refine ⟨.ref p, rfl, p, _, 0, .int x, rfl, rfl, SqL.of hH, rfl, .int m, rfl, x, m, rfl, rfl, ⟨hm0, hm1⟩, ?_⟩
    refine ⟨.ref p, rfl, p, _, 0, 0, rfl, rfl, hH, rfl, ?_⟩
    refine ⟨.int (x % m), rfl, ?_⟩
    have h1 : 0 ≤ x / m := Int.ediv_nonneg hx0 (Int.le_of_lt hm0)
    have h2 : x / m < potB := Int.lt_of_le_of_lt (Int.ediv_le_self m hx0) hx1
    exact q _ _ _ ⟨_, rfl, Int.emod_nonneg _ (Int.ne_of_gt hm0), Int.emod_lt_of_pos _ hm0⟩ (Xq.potw hH hp h1 h2 hy0 hy1) (g.wr hH) (.int _)
  · have h1 : 0 ≤ (y * 69621 + 12345) % 2147483647 := Int.emod_nonneg _ (by decide)
    have h2 : (y * 69621 + 12345) % 2147483647 < 2147483647 := Int.emod_lt_of_pos _ (by decide)
    refine ⟨.ref p, rfl, p, _, 1, .int y, rfl, rfl, SqL.of hH, rfl, y, 69621, rfl, rfl, .inl (by omega), _, 12345, rfl, rfl, _, 2147483647, rfl, rfl, (by show (0 : Int) < 2147483647; decide), ?_⟩
    refine ⟨.ref p, rfl, p, _, 1, 1, rfl, rfl, hH, rfl, ?_⟩
    have hH2 : (upd H p (.lst [.int x, .int ((y * 69621 + 12345) % 2147483647)])) p = some (.lst [.int x, .int ((y * 69621 + 12345) % 2147483647)]) := upd_same
    refine ⟨.ref p, rfl, p, _, 1, .int ((y * 69621 + 12345) % 2147483647), rfl, rfl, SqL.of hH2, rfl, .ref p, rfl, p, _, 1, .int ((y * 69621 + 12345) % 2147483647), rfl, rfl, SqL.of hH2, rfl, _, _, rfl, rfl, .inl (by omega), _, 2147483629, rfl, rfl, (by show (0 : Int) < 2147483629; decide), _, 64, rfl, rfl, ⟨by decide, by decide⟩, .int m, rfl, _, m, rfl, rfl, hm0, ?_⟩
    exact q _ _ _ ⟨_, rfl, Int.emod_nonneg _ (Int.ne_of_gt hm0), Int.emod_lt_of_pos _ hm0⟩ (Xq.potw hH hp hx0 hx1 h1 h2) (g.wr hH) (.int _)
end
end Rk
set_option Elab.async false
set_option linter.all false
set_option maxRecDepth 100000
/-! Pj: names drawn -/
namespace Rk
open PySem PySem.Spec PyProof.Rows L2
abbrev sDName : Stmt := topS 28
abbrev sDNames : Stmt := topS 29
theorem scDName : FnScope ["_law_pot_here", "_law_way", "_law_size", "_law_sign"] ["_law_pot_here"] (defScope sDName) := ⟨rfl, rfl, rfl, by decide +kernel, rfl, by decide +kernel, by decide +kernel⟩
theorem scDNames : FnScope ["_law_pot_here", "_law_most", "_law_k"] ["_law_pot_here", "_law_most"] (defScope sDNames) := ⟨rfl, rfl, rfl, by decide +kernel, rfl, by decide +kernel, by decide +kernel⟩
def cDName (ds : List PyData) (R : DP) : Prop := ds = [.dict []] ∧ R = (fun d => ∃ z : Str, d = .str z ∧ nameB z = true)
structure NamesOk (zs : List Str) : Prop where
  nd : zs.Nodup
  ok : ∀ z ∈ zs, nameB z = true
  ne : zs ≠ []
def cDNames (ds : List PyData) (R : DP) : Prop := ∃ m : Int, ds = [.dict [], .int m] ∧ 0 < m ∧ m ≤ 60 ∧ R = (fun d => ∃ zs : List Str, d = .list (zs.map PyData.str) ∧ NamesOk zs ∧ (zs.length : Int) ≤ m)
section
variable {T : Tbs} {M : Ct} {K : PySem.W.Frag}
theorem atI_of {α : Type} {xs : List α} {i : Int} (h0 : 0 ≤ i) (h1 : i < xs.length) : ∃ x ∈ xs, L2.atI xs i = some x := by
  obtain ⟨j, rfl⟩ := Int.eq_ofNat_of_zero_le h0
  have hj : j < xs.length := by omega
  exact ⟨xs[j], List.getElem_mem hj, atI_nat (List.getElem?_eq_getElem hj)⟩
theorem rd_anyL {ds : List PyData} {i : Int} {P : DP} (h0 : 0 ≤ i) (h1 : i < ds.length) (hp : ∀ d ∈ ds, P d) : RD T M (rIxL K) (.list ds) (.int i) P := by
  obtain ⟨d, hd, e⟩ := atI_of h0 h1
  exact fun H x y g hx hy Q q => rd_ixL e H x y g hx hy Q fun v H2 d2 p2 => q v H2 d2 (by subst p2; exact hp _ hd)
end
theorem lits_ok : ∀ z ∈ (["a", "b", "ab", "ba", "z", "aa", "zzzzzzzz"] : List Str), nameB z = true := by decide +kernel
theorem chars_name {cs : List Nat} (h1 : 1 ≤ cs.length) (h2 : cs.length ≤ 8) (hc : ∀ c ∈ cs, c ∈ letters.cps.toList) : nameB (SX.S cs) = true := by
  have hl : (SX.S cs).length = cs.length := SX.S_len cs
  unfold nameB
  rw [hl, decide_eq_true (show (1 : Int) ≤ (cs.length : Int) by omega), decide_eq_true (show (cs.length : Int) ≤ 8 by omega), Bool.true_and, Bool.true_and]
  exact List.all_eq_true.mpr fun c h => decide_eq_true (hc c h)
theorem joinL_one : ∀ cs : List Nat, TL.joinL [] (cs.map fun c => [c]) = cs
  | [] => rfl
  | [c] => rfl
  | c :: d :: cs => by
    have ih := joinL_one (d :: cs)
    show [c] ++ ([] ++ TL.joinL [] ((d :: cs).map fun c => [c])) = c :: d :: cs
    rw [ih]
    rfl
theorem join_chars (cs : List Nat) : Txt.join "" (cs.map fun c => (⟨#[c]⟩ : Str)) = SX.S cs := by
  have e := SX.join_S [] (cs.map fun c => [c])
  rw [joinL_one, List.map_map] at e
  exact e
/-- as many items as turns -/
theorem paired_chars : ∀ {ds es : List PyData}, Paired (fun _ e => ∃ c, c ∈ letters.cps.toList ∧ e = sgn c) ds es → ∃ cs : List Nat, es = (cs.map fun c => (⟨#[c]⟩ : Str)).map PyData.str ∧ cs.length = ds.length ∧ ∀ c ∈ cs, c ∈ letters.cps.toList
  | [], _, .nil => ⟨[], rfl, rfl, fun c h => by cases h⟩
  | d :: ds, _, .cons r t => by
    obtain ⟨c, hc, rfl⟩ := r
    obtain ⟨cs, rfl, hl, hm⟩ := paired_chars t
    refine ⟨c :: cs, rfl, by rw [List.length_cons, List.length_cons, hl], fun x hx => ?_⟩
    rcases List.mem_cons.mp hx with rfl | hx
    · exact hc
    · exact hm x hx
theorem paired_names : ∀ {ds es : List PyData}, Paired (fun _ e => ∃ z : Str, e = .str z ∧ nameB z = true) ds es → ∃ zs : List Str, es = zs.map PyData.str ∧ zs.length = ds.length ∧ ∀ z ∈ zs, nameB z = true
  | [], _, .nil => ⟨[], rfl, rfl, fun c h => by cases h⟩
  | d :: ds, _, .cons r t => by
    obtain ⟨z, rfl, hz⟩ := r
    obtain ⟨zs, rfl, hl, hm⟩ := paired_names t
    refine ⟨z :: zs, rfl, by rw [List.length_cons, List.length_cons, hl], fun x hx => ?_⟩
    rcases List.mem_cons.mp hx with rfl | hx
    · exact hz
    · exact hm x hx
theorem one_sum : ∀ cs : List Nat, (cs.map ((fun x : Str => x.length) ∘ fun c => (⟨#[c]⟩ : Str))).sum = cs.length
  | [] => rfl
  | c :: cs => by
    rw [List.map_cons, List.sum_cons, one_sum cs, List.length_cons]
    show 1 + cs.length = _
    omega
theorem ints_len (n : Nat) : (intsTo n).length = n := by unfold intsTo; rw [List.length_map, List.length_range]
theorem filt_all (ds : List PyData) : ds.filter (fun _ => true) = ds := List.filter_eq_self.mpr fun _ _ => rfl
section
variable {P : Program} {w : World} {K : PySem.W.Frag} {mg : Str → Option Value} {base : Heap} {T : Tbs}
theorem go_dname (tp : Top mg) (GT : Go P w K mg base T 1 "_law_take" cTake) (D : Df K mg "_law_name" sDName ["_law_pot_here"]) : Go P w K mg base T 2 "_law_name" cDName := by
  refine go_mk (k := 1) D scDName (fun ds R h => by obtain ⟨rfl, _⟩ := h; rfl) fun f cdv A outer s H vs Q E M ds R hr g a c q => ?_
  obtain ⟨rfl, rfl⟩ := c
  obtain ⟨v, rfl, hv⟩ := a.a1
  refine ⟨_, pss_cons (ps_set (i := 1) scDName.nd rfl (.inl rfl) (pe_go GT hr (pa_cons (pv 0) (pa_cons pe_int pa_nil))))
    (pss_cons (ps_if (pt_cmpR op_eq (pv 1) pe_int (nomark _)) (pss_one (ps_ret (pe_ix ix_list (pe_lst (pa_cons pe_str (pa_cons pe_str (pa_cons pe_str (pa_cons pe_str (pa_cons pe_str (pa_cons pe_str (pa_cons pe_str pa_nil)))))))) (pe_go GT hr (pa_cons (pv 0) (pa_cons pe_int pa_nil))) (fun _ _ => rfl)))) pss_nil)
    (pss_cons (ps_set (i := 2) scDName.nd rfl (.inl rfl) (pe_ix ix_list (pe_lst (pa_cons pe_int (pa_cons pe_int (pa_cons pe_int pa_nil)))) (pe_op op_sub (pv 1) pe_int) (fun _ _ => rfl)))
    (pss_one (ps_ret (pe_join pe_str (pe_lc (own := [("_law_sign", 3)]) (g := gName 3) (tt := tYes) (te := tOp rIxS (tC (.str "abcdefghijklmnopqrstuvwxyz")) (tCall (spC T cTake) [] E0 (tCons (tVar 0) (tCons (tC (.int 26)) tNil)))) rfl scDName.nd (pi_range1 (by rfl) tp.range (pa_cons (pv 2) pa_nil)) (blkOk_by (N := ["_law_pot_here", "_law_way", "_law_size", "_law_sign"]) (sc := defScope sDName) (by decide +kernel)) (fun _ _ _ _ _ => pg_name (i := 3) scDName.nd rfl (Or.inl rfl)) (fun _ _ _ _ _ => pts_nil)
      (fun _ _ _ _ _ => pe_ix ix_str pe_str (pe_go GT hr (pa_cons (pv 0) (pa_cons pe_int pa_nil))) (fun _ _ => rfl)))))))), ?_⟩
  have take : ∀ {σ : L2.St} {H2 : Hp} (m : Int) (h0 : 0 < m) (h1 : m < 1073741824), σ[0]? = some (some v) → Xq M H H2 → EX T M (tCall (spC T cTake) [] E0 (tCons (tVar 0) (tCons (tC (.int m)) tNil))) σ H2 (fun d => ∃ r, d = .int r ∧ 0 ≤ r ∧ r < m) := fun {σ H2} m h0 h1 e x => ed_call (ead (ed_var e (hv.mono x)) (ead ed_int ea_nil)) ⟨m, rfl, h0, h1, rfl⟩
  refine sq (as_d (take 4 (by decide) (by decide) rfl Xq.refl) g fun wv H1 d1 p1 x1 g1 hw => ?_)
  obtain ⟨way, rfl, hw0, hw1⟩ := p1
  dsimp only
  refine sq (if_d (etd (ed_op (ed_var rfl hw) ed_int rd_eqI)) g1 (fun hb H2 x2 g2 => ?_) fun hb H2 x2 g2 => ?_)
  · refine rt_d (ex_op (Pb := fun _ d => ∃ r, d = .int r ∧ 0 ≤ r ∧ r < 7) (ed_lst (ead ed_str (ead ed_str (ead ed_str (ead ed_str (ead ed_str (ead ed_str (ead ed_str ea_nil))))))) (by show 7 ≤ 1000; decide)) (fun _ _ => take 7 (by decide) (by decide) rfl (x1.trans x2)) (P := fun d => ∃ z : Str, d = .str z ∧ nameB z = true) fun da db ea hd => ?_) g2 fun v2 H3 d pd x3 g3 vd => q v2 H3 d pd ((x1.trans x2).trans x3) g3 vd
    subst ea
    obtain ⟨r, rfl, h0, h1⟩ := hd
    refine rd_anyL h0 h1 fun d hd => ?_
    have hd2 : d ∈ (["a", "b", "ab", "ba", "z", "aa", "zzzzzzzz"] : List Str).map PyData.str := hd
    obtain ⟨z, hz, rfl⟩ := List.mem_map.mp hd2
    exact ⟨z, rfl, lits_ok z hz⟩
  · have hw2 := of_decide_eq_false hb
    have x12 := x1.trans x2
    refine sq (as_d (P := fun d => ∃ n : Int, d = .int n ∧ 1 ≤ n ∧ n ≤ 8) (ed_op (ed_lst (ead ed_int (ead ed_int (ead ed_int ea_nil))) (by show 3 ≤ 1000; decide)) (ed_op (ed_var rfl (hw.mono x2)) ed_int rd_I0) (rd_anyL (by omega) (by show way - 1 < 3; omega) fun d hd => ?_)) g2 fun sv H3 d3 p3 x3 g3 hs => ?_)
    · rcases List.mem_cons.mp hd with rfl | hd
      · exact ⟨1, rfl, by decide, by decide⟩
      · rcases List.mem_cons.mp hd with rfl | hd
        · exact ⟨8, rfl, by decide, by decide⟩
        · rw [List.mem_singleton.mp hd]
          exact ⟨2, rfl, by decide, by decide⟩
    · obtain ⟨n, rfl, hn0, hn1⟩ := p3
      have x13 := x12.trans x3
      dsimp only
      refine rt_d ((ed_join (a := "") (p := fun ys => ∃ cs : List Nat, ys = cs.map (fun c => (⟨#[c]⟩ : Str)) ∧ 1 ≤ cs.length ∧ cs.length ≤ 8 ∧ ∀ c ∈ cs, c ∈ letters.cps.toList) (ys := []) ed_str ((ex_lc (p := fun ds => ∃ j : Int, ds = intsTo j.toNat ∧ j = n) (bt := fun _ => true) (Q := fun _ e => ∃ c, c ∈ letters.cps.toList ∧ e = sgn c) (ew_range ((ead (ed_var rfl hs) ea_nil).imp fun ds e => ⟨n, e, rfl⟩) fun j e => by omega) ?_ ?_ ?_).imp fun d h => ?_) fun ys h => ?_).imp fun d h => ?_) g3 fun v2 H4 d pd x4 g4 vd => q v2 H4 d pd (x13.trans x4) g4 vd
      · rintro ds ⟨j, rfl, rfl⟩
        rw [ints_len]
        omega
      · rintro d e ⟨c, _, rfl⟩
        rfl
      · rintro ds i d y H5 hp hd x5 g5 hy
        refine ⟨fun H6 x6 g6 Q' q' => q' true H6 rfl Xq.refl g6, fun _ => ?_⟩
        refine ex_op (Pb := fun _ d => ∃ r, d = .int r ∧ 0 ≤ r ∧ r < 26) ed_str (fun _ _ => take 26 (by decide) (by decide) rfl (x13.trans x5)) fun da db ea hd => ?_
        subst ea
        obtain ⟨r, rfl, h0, h1⟩ := hd
        obtain ⟨c, hc, e⟩ := atI_of (xs := letters.cps.toList) h0 (by show r < 26; exact h1)
        exact fun H7 x y g7 hx hy Q' q' => rd_ixS (by decide +kernel) e H7 x y g7 hx hy Q' fun v H8 d2 p2 => q' v H8 d2 ⟨c, hc, p2⟩
      · obtain ⟨ds, es, e, ⟨j, rfl, rfl⟩, hp⟩ := h
        rw [filt_all] at hp
        obtain ⟨cs, rfl, hl, hm⟩ := paired_chars hp
        rw [ints_len] at hl
        exact ⟨_, e, cs, rfl, by omega, by omega, hm⟩
      · obtain ⟨cs, rfl, h1, h2, _⟩ := h
        rw [List.map_map, List.length_map]
        have e := one_sum cs
        rw [e]
        show cs.length + cs.length * 0 ≤ _
        omega
      · obtain ⟨ys, e, cs, rfl, h1, h2, h3⟩ := h
        rw [join_chars] at e
        exact ⟨_, e, chars_name h1 h2 h3⟩
theorem go_dnames (tp : Top mg) (GT : Go P w K mg base T 1 "_law_take" cTake) (GN : Go P w K mg base T 2 "_law_name" cDName) (D : Df K mg "_law_names" sDNames ["_law_pot_here", "_law_most"]) : Go P w K mg base T 3 "_law_names" cDNames := by
  refine go_mk (k := 2) D scDNames (fun ds R h => by obtain ⟨m, rfl, _⟩ := h; rfl) fun f cdv A outer s H vs Q E M ds R hr g a c q => ?_
  obtain ⟨m, rfl, hm0, hm1, rfl⟩ := c
  obtain ⟨v, u, rfl, hv, hu⟩ := a.a2
  refine ⟨_, pss_one (ps_ret (pe_sortSet rfl hr.units (by rfl) tp.sorted (by rfl) tp.set (pe_lc (own := [("_law_k", 2)]) (g := gName 2) (tt := tYes) rfl scDNames.nd (pi_range1 (by rfl) tp.range (pa_cons (pe_op op_add pe_int (pe_go GT hr (pa_cons (pv 0) (pa_cons (pv 1) pa_nil)))) pa_nil)) (blkOk_by (N := ["_law_pot_here", "_law_most", "_law_k"]) (sc := defScope sDNames) (by decide +kernel)) (fun _ _ _ _ _ => pg_name (i := 2) scDNames.nd rfl (Or.inl rfl)) (fun _ _ _ _ _ => pts_nil)
      (fun _ _ _ _ _ => pe_go GN hr (pa_cons (pv 0) pa_nil))))), ?_⟩
  refine rt_d ((ex_sortStrs (p := fun zs => (∀ z ∈ zs, nameB z = true) ∧ 1 ≤ zs.length ∧ (zs.length : Int) ≤ m) ((ex_lc (p := fun ds => ∃ j : Int, ds = intsTo j.toNat ∧ 1 ≤ j ∧ j ≤ m) (bt := fun _ => true) (Q := fun _ e => ∃ z : Str, e = .str z ∧ nameB z = true) (ew_range (ea_cons (Pr := fun _ l => l = []) (ex_op (Pa := (· = .int 1)) (Pb := fun _ d => ∃ r, d = .int r ∧ 0 ≤ r ∧ r < m) (P := fun d => ∃ j : Int, d = .int j ∧ 1 ≤ j ∧ j ≤ m) ed_int (fun _ _ => ed_call (ead (ed_var rfl hv) (ead (ed_var rfl hu) ea_nil)) ⟨m, rfl, hm0, by omega, rfl⟩) ?_) (fun _ _ => ea_nil) |>.imp ?_) ?_) ?_ ?_ ?_).imp ?_) ?_).imp ?_) g q
  · rintro da db rfl ⟨r, rfl, h0, h1⟩
    exact fun H7 x y g7 hx hy Q' q' => rd_I0 H7 x y g7 hx hy Q' fun v H8 d2 p2 => q' v H8 d2 ⟨_, p2, by omega, by omega⟩
  · rintro ds ⟨d, ds', rfl, ⟨j, rfl, h0, h1⟩, rfl⟩
    exact ⟨j, rfl, h0, h1⟩
  · rintro j ⟨h0, h1⟩
    omega
  · rintro ds ⟨j, rfl, h0, h1⟩
    rw [ints_len]
    omega
  · rintro d e ⟨z, rfl, _⟩
    rfl
  · rintro ds i d y H5 hp hd x5 g5 hy
    exact ⟨fun H6 x6 g6 Q' q' => q' true H6 rfl Xq.refl g6, fun _ => ed_call (ead (ed_var rfl (hv.mono x5)) ea_nil) ⟨rfl, rfl⟩⟩
  · rintro d ⟨ds, es, rfl, ⟨j, rfl, h0, h1⟩, hp⟩
    rw [filt_all] at hp
    obtain ⟨zs, rfl, hl, hm⟩ := paired_names hp
    rw [ints_len] at hl
    exact ⟨zs, rfl, hm, by omega, by omega⟩
  · rintro zs ⟨_, _, h⟩
    omega
  · rintro d ⟨zs, men, rfl, ⟨h1, h2, h3⟩, nd, hm, hl⟩
    refine ⟨men, rfl, ⟨nd, fun z hz => h1 z ((hm z).mp hz), fun e => ?_⟩, by omega⟩
    subst e
    cases zs with
    | nil => simp at h2
    | cons z zs =>
      have := (hm z).mpr List.mem_cons_self
      cases this
end
end Rk
set_option Elab.async false
set_option linter.all false
set_option maxRecDepth 100000
/-! Pk: rolls drawn -/
namespace Rk
open PySem PySem.Spec PyProof.Rows L2
abbrev sDRoll : Stmt := topS 30
def nDRoll : List Str := ["_law_pot_here", "_law_most", "_law_men", "_law_ships", "_law_ranks", "_law_top", "_law_rows", "_law_told", "_law_k", "_law_man", "_law_hour", "_law_ship", "_law_row"]
theorem scDRoll : FnScope ["_law_pot_here", "_law_most", "_law_men", "_law_ships", "_law_ranks", "_law_top", "_law_rows", "_law_told", "_law_k", "_law_man", "_law_hour", "_law_ship", "_law_row"] ["_law_pot_here", "_law_most"] (defScope sDRoll) := ⟨rfl, rfl, rfl, by decide +kernel, rfl, by decide +kernel, by decide +kernel⟩
def RowIn (men ships : List Str) (r : Row) : Prop := RowOk r ∧ r.1 ∈ men ∧ (r.2.2.1 ∈ ships ∨ r.2.2.1 = "")
structure DrawOk (most : Int) (R : List Row) (men ships ranks : List Str) : Prop where
  m : NamesOk men
  mlen : men.length ≤ 6
  s : NamesOk ships
  slen : ships.length ≤ 6
  k : NamesOk ranks
  klen : ranks.length ≤ 6
  rows : ∀ r ∈ R, RowIn men ships r
  nd : KeysNd R
  len : (R.length : Int) ≤ most
def dDraw (R : List Row) (men ships ranks : List Str) : PyData := .tuple [dRoll R, .list (men.map PyData.str), .list (ships.map PyData.str), .list (ranks.map PyData.str)]
def cDRoll (ds : List PyData) (R : DP) : Prop := ∃ m : Int, ds = [.dict [], .int m] ∧ 8 ≤ m ∧ m ≤ 59 ∧ R = (fun d => ∃ R men ships ranks, d = dDraw R men ships ranks ∧ DrawOk m R men ships ranks)
theorem sh_row {r : Row} (h1 : sOk r.1) (h2 : sOk r.2.2.1) (h3 : sOk r.2.2.2) : SeqAt.shaped (dRow r) = true ∧ (dRow r).depth ≤ 8 := by
  refine ⟨?_, ?_⟩
  · simp only [SeqAt.shaped, dRow, PyData.canLay0, PyData.canLayAll0, PyData.depth, PyData.depthAll, h1, h2, h3]
    decide
  · simp [dRow, PyData.depth, PyData.depthAll]
/-! slices -/
def cutX {α : Type} (xs : List α) (lo hi : Option Int) : List α := (xs.drop (HT.sIx xs.length 0 lo)).take (HT.sIx xs.length xs.length hi - HT.sIx xs.length 0 lo)
theorem cutD_map {α : Type} (f : α → PyData) (xs : List α) (lo hi : Option Int) : cutD (xs.map f) lo hi = (cutX xs lo hi).map f := by
  unfold cutD cutX
  rw [List.length_map, List.map_take, List.map_drop]
theorem cutX_to {α : Type} (xs : List α) (k : Nat) : cutX xs none (some (k : Int)) = xs.take k := by
  unfold cutX
  rw [HT.sIx_none, HT.sIx_nat, List.drop_zero, Nat.sub_zero]
  by_cases h : k ≤ xs.length
  · rw [Nat.min_eq_left h]
  · rw [Nat.min_eq_right (by omega), List.take_of_length_le (Nat.le_refl _), List.take_of_length_le (by omega)]
theorem cutX_from {α : Type} (xs : List α) (k : Nat) : cutX xs (some (k : Int)) none = xs.drop k := by
  unfold cutX
  rw [HT.sIx_none, HT.sIx_nat]
  by_cases h : k ≤ xs.length
  · rw [Nat.min_eq_left h, List.take_of_length_le (by rw [List.length_drop]; omega)]
  · rw [Nat.min_eq_right (by omega), List.drop_of_length_le (Nat.le_refl _), List.drop_of_length_le (show xs.length ≤ k by omega)]
    simp
theorem cutX_back {α : Type} (xs : List α) : cutX xs (some (-2)) none = xs.drop (xs.length - 2) := by
  unfold cutX
  have e : HT.sIx xs.length 0 (some (-2)) = xs.length - 2 := by
    show (if (-2 : Int) < 0 then ((-2 : Int) + (xs.length : Int)).toNat else min (-2 : Int).toNat xs.length) = _
    rw [if_pos (by decide)]
    omega
  rw [HT.sIx_none, e, List.take_of_length_le (by rw [List.length_drop]; omega)]
theorem NamesOk.take2 {zs : List Str} (h : NamesOk zs) : NamesOk (zs.take 2) := ⟨h.nd.sublist (List.take_sublist _ _), fun z hz => h.ok z (List.mem_of_mem_take hz), fun e => by
  have := congrArg List.length e
  have h2 := List.length_pos_iff.mpr h.ne
  rw [List.length_take] at this
  simp only [List.length_nil] at this
  omega⟩
theorem NamesOk.drop2 {zs : List Str} (h : NamesOk zs) : NamesOk (zs.drop (zs.length - 2)) := ⟨h.nd.sublist (List.drop_sublist _ _), fun z hz => h.ok z (List.mem_of_mem_drop hz), fun e => by
  have := congrArg List.length e
  have h2 := List.length_pos_iff.mpr h.ne
  rw [List.length_drop] at this
  simp only [List.length_nil] at this
  omega⟩
/-! choices -/
section
variable {T : Tbs} {M : Ct} {K : PySem.W.Frag} {σ : L2.St} {H : Hp} {ta tb tc te ti : TE} {tr : TA} {P Pa Pb Pc : DP}
def Eal (T : Tbs) (M : Ct) (tr : TA) (σ : L2.St) (H : Hp) (n : Nat) (P : DP) : Prop := EA T M tr σ H (fun ds => ds.length = n ∧ ∀ d ∈ ds, P d)
theorem eal_nil : Eal T M tNil σ H 0 P := ea_nil.imp fun ds e => by subst e; exact ⟨rfl, fun d h => by cases h⟩
theorem eal_cons {n : Nat} (h : EX T M te σ H P) (hr : Eal T M tr σ H n P) : Eal T M (tCons te tr) σ H (n + 1) P := (ea_cons h fun _ _ => hr).imp fun ds h => by
  obtain ⟨d, es, rfl, h1, h2, h3⟩ := h
  refine ⟨by rw [List.length_cons, h2], fun x hx => ?_⟩
  rcases List.mem_cons.mp hx with rfl | hx
  · exact h1
  · exact h3 x hx
def Rng (n : Nat) : DP := fun d => ∃ r, d = .int r ∧ 0 ≤ r ∧ r < (n : Int)
/-- [..][r] -/
theorem ex_pick {n : Nat} (hn : n ≤ 1000) (h : Eal T M tr σ H n P) (hi : EX T M ti σ H (Rng n)) : EX T M (tOp (rIxL K) (tLst tr) ti) σ H P := by
  refine ex_op (ex_lst h fun ds e => by omega) (fun _ _ => hi) fun da db ha hb => ?_
  obtain ⟨ds, rfl, hl, hp⟩ := ha
  obtain ⟨r, rfl, h0, h1⟩ := hb
  exact rd_anyL h0 (by rw [hl]; exact h1) hp
/-- xs[r] -/
theorem ex_from {ds : List PyData} (h : EX T M te σ H (· = .list ds)) (hi : EX T M ti σ H (Rng ds.length)) (hp : ∀ d ∈ ds, P d) : EX T M (tOp (rIxL K) te ti) σ H P := by
  refine ex_op h (fun _ _ => hi) fun da db ha hb => ?_
  subst ha
  obtain ⟨r, rfl, h0, h1⟩ := hb
  exact rd_anyL h0 h1 hp
theorem ea3 (h1 : EX T M ta σ H Pa) (h2 : EX T M tb σ H Pb) (h3 : EX T M tc σ H Pc) : EA T M (tCons ta (tCons tb (tCons tc tNil))) σ H (fun l => ∃ x y z, l = [x, y, z] ∧ Pa x ∧ Pb y ∧ Pc z) := (ea_cons h1 fun _ _ => ea_cons h2 fun _ _ => ea_cons h3 fun _ _ => ea_nil).imp fun l h => by
  obtain ⟨x, _, rfl, hx, y, _, rfl, hy, z, _, rfl, hz, rfl⟩ := h
  exact ⟨x, y, z, rfl, hx, hy, hz⟩
theorem et_any {t u : TT} {a : Bool} {p : Bool → Prop} (h1 : ET T M t σ H (· = a)) (h2 : a = true → ET T M u σ H p) : ET T M (tAnd t u) σ H (fun b => b = true → a = true) := fun H1 x g Q q => h1 H1 x g _ fun c H2 pc x2 g2 => by
  subst pc
  cases c with
  | true => exact iteT (h2 rfl H2 (x.trans x2) g2 Q fun d H3 pd x3 g3 => q d H3 (fun _ => rfl) (x2.trans x3) g3)
  | false => exact iteF (q false H2 (fun z => z) x2 g2)
theorem if_any {t : TT} {p : Bool → Prop} {D : Ends} {sa sb : TS} (h : ET T M t σ H p) (g : Gd T M H) (k1 : p true → ∀ H2, Xq M H H2 → Gd T M H2 → sa D σ H2) (k2 : p false → ∀ H2, Xq M H H2 → Gd T M H2 → sb D σ H2) : tIfS t sa sb D σ H := h H Xq.refl g _ fun c H2 pc x g2 => by
  cases c with
  | true => exact iteT (k1 pc H2 x g2)
  | false => exact iteF (k2 pc H2 x g2)
theorem et_eqI {i : Int} {a : Int} (h : EX T M ta σ H (fun d => ∃ r, d = .int r ∧ 0 ≤ r ∧ r < a)) : ET T M (tTest (tOp rEq ta (tC (.int i)))) σ H (fun _ => True) := et_test (ex_op (Pb := fun _ d => d = .int i) h (fun _ _ => ed_int) fun da db ha hb => by
  obtain ⟨r, rfl, _⟩ := ha
  subst hb
  exact fun H x y g hx hy Q q => rd_eqI H x y g hx hy Q fun v H2 d e => q v H2 d ⟨_, e, trivial⟩)
/-- {} under a name -/
theorem newd_d {k : Nat} {En : Ends} (q : ∀ l, H l = none → En.nx (σ.set k (some (.ref l))) (upd H l (.dT []))) : tAsg tDNewT (gName k) En σ H := q
end
def hourD : DP := fun d => ∃ h, d = .int h ∧ hourB h = true
theorem hour_ok {h : Int} (h0 : 0 ≤ h) (h1 : h ≤ 100000) : hourB h = true := by
  unfold hourB
  rw [decide_eq_true h0, decide_eq_true h1] <;> rfl
def kPair (m : Str) (h : Int) : List Key := [.inr m, .inl h]
section
variable {P : Program} {w : World} {K : PySem.W.Frag} {mg : Str → Option Value} {base : Heap} {T : Tbs}
theorem take_of {M : Ct} {σ : L2.St} {H : Hp} {te : TE} {v : V} {m : Int} (k : Nat) (e : σ[k]? = some (some v)) (hv : Is M H v (.dict [])) (h0 : 0 < m) (h1 : m < 1073741824) (h : EX T M te σ H (· = .int m)) : EX T M (tCall (spC T cTake) [] E0 (tCons (tVar k) (tCons te tNil))) σ H (fun d => ∃ r, d = .int r ∧ 0 ≤ r ∧ r < m) := ed_call (ead (ed_var e hv) (ead h ea_nil)) ⟨m, rfl, h0, h1, rfl⟩
end
section
variable {T : Tbs} {M : Ct} {σ : L2.St} {H : Hp} {D : Ends} {t : TT} {p : Bool → Prop} {te ta tb : TE} {P Pa Pb : DP} {i j l : Nat}
theorem par3_d {tr : TA} {Pl : List PyData → Prop} (h : EA T M tr σ H Pl) (g : Gd T M H) (k : ∀ vs H2 ds, Pl ds → Xq M H H2 → Gd T M H2 → IsA M H2 vs ds → ∃ u v w, vs = [u, v, w] ∧ D.nx (((σ.set i (some u)).set j (some v)).set l (some w)) H2) : tPar3 i j l tr D σ H := h H Xq.refl g _ k
theorem if_as {v0 : V} {d0 : PyData} (h : ET T M t σ H p) (g : Gd T M H) (h1 : p true → EX T M te σ H P) (h0 : Is M H v0 d0) (p0 : P d0) (e : σ.set i (some v0) = σ) (k : ∀ v H2 d, P d → Xq M H H2 → Gd T M H2 → Is M H2 v d → D.nx (σ.set i (some v)) H2) : tIfS t (tAsg te (gName i)) tNext D σ H :=
  if_any h g (fun pt H2 x2 g2 => as_d ((h1 pt).mono x2) g2 fun v H3 d pd x3 g3 hv => k v H3 d pd (x2.trans x3) g3 hv) fun _ H2 x2 g2 => by
    have := k v0 H2 d0 p0 x2 g2 (h0.mono x2)
    rw [e] at this
    exact this
theorem if_as2 {v0 w0 : V} {d0 e0 : PyData} (h : ET T M t σ H p) (g : Gd T M H) (h1 : EX T M ta σ H Pa) (h2 : ∀ v H2 d, Pa d → Xq M H H2 → Gd T M H2 → Is M H2 v d → EX T M tb (σ.set i (some v)) H2 Pb) (h0 : Is M H v0 d0) (k0 : Is M H w0 e0) (p0 : Pa d0) (q0 : Pb e0) (e : (σ.set i (some v0)).set j (some w0) = σ)
    (k : ∀ v w H2 d f, Pa d → Pb f → Xq M H H2 → Gd T M H2 → Is M H2 v d → Is M H2 w f → D.nx ((σ.set i (some v)).set j (some w)) H2) : tIfS t (tSeq (tAsg ta (gName i)) (tAsg tb (gName j))) tNext D σ H :=
  if_any h g (fun pt H2 x2 g2 => sq (as_d (h1.mono x2) g2 fun v H3 d pd x3 g3 hv => as_d (h2 v H3 d pd (x2.trans x3) g3 hv) g3 fun w H4 f pf x4 g4 hw => k v w H4 d f pd pf ((x2.trans x3).trans x4) g4 (hv.mono x4) hw)) fun _ H2 x2 g2 => by
    have := k v0 w0 H2 d0 e0 p0 q0 x2 g2 (h0.mono x2) (k0.mono x2)
    rw [e] at this
    exact this
theorem ex_slTn {K : PySem.W.Frag} {tl th : TO} {lo hi : Option Int} {q : List PyData → Prop} (h : EX T M te σ H (fun d => ∃ ds, d = .tuple ds ∧ q ds)) (h1 : EO T M tl σ H (· = lo)) (h2 : EO T M th σ H (· = hi)) : EX T M (tSl (rSlA K) te tl th) σ H (fun d => ∃ ds, d = .tuple (cutD ds lo hi) ∧ q ds) := fun H1 x g Q k =>
  h H1 x g _ fun v H2 d pd x2 g2 vd => by
    obtain ⟨ds, rfl, qd⟩ := pd
    exact ed_slT (te := fun _ H Q => Q v H) (ds := ds) (fun H3 x3 g3 Q3 q3 => q3 v H3 _ rfl Xq.refl g3 (vd.mono x3)) (fun H3 x3 g3 Q3 q3 => h1 H3 (((x.trans x2).trans x3)) g3 Q3 q3) (fun H3 x3 g3 Q3 q3 => h2 H3 (((x.trans x2).trans x3)) g3 Q3 q3) H2 Xq.refl g2 Q fun z H4 e pe x4 g4 ze => k z H4 e ⟨ds, pe, qd⟩ (x2.trans x4) g4 ze
theorem Gd.wrD {d : Addr} {ks : List (List Key × V)} {o : HO} (g : Gd T M H) (h : H d = some (.dT ks)) : Gd T M (upd H d o) := by
  refine ⟨fun p hp => ?_, fun q hq => ?_⟩
  · obtain ⟨ps, h1, h2, h3⟩ := g.tab p hp
    refine ⟨ps, by rw [upd_ne (ne_of h1 h (by intro z; cases z))]; exact h1, h2, fun pos cv hc => ?_⟩
    obtain ⟨c, e1, e2⟩ := h3 pos cv hc
    exact ⟨c, e1, by rw [upd_ne (ne_of e2 h (by intro z; unfold LamX.CodeO at z; cases z))]; exact e2⟩
  · obtain ⟨xs, e⟩ := g.tr q hq
    exact ⟨xs, by rw [upd_ne (ne_of e h (by intro z; cases z))]; exact e⟩
theorem Is.key {H : Hp} {v : V} {ks : List Key} (h : Is M H v (.tuple (ks.map dK))) : ∃ b, v = .ref b ∧ H b = some (.tup (ks.map kV)) := by
  cases h with
  | tup ha hs =>
    have e := hs.keys
    subst e
    exact ⟨_, rfl, ha⟩
end
section
variable {P : Program} {w : World} {K : PySem.W.Frag} {mg : Str → Option Value} {base : Heap} {T : Tbs}
theorem go_droll (tp : Top mg) (GT : Go P w K mg base T 1 "_law_take" cTake) (GN : Go P w K mg base T 3 "_law_names" cDNames) (D : Df K mg "_law_roll" sDRoll ["_law_pot_here", "_law_most"]) : Go P w K mg base T 4 "_law_roll" cDRoll := by
  refine go_mk (k := 3) D scDRoll (fun ds R h => by obtain ⟨m, rfl, _⟩ := h; rfl) fun f cdv A outer s H vs Q E M ds R hr g a c q => ?_
  obtain ⟨m, rfl, hm0, hm1, rfl⟩ := c
  obtain ⟨v, u, rfl, hv, hu⟩ := a.a2
  refine ⟨_, pss_cons (ps_par3 (i := 2) (j := 3) (l := 4) rfl scDRoll.nd rfl rfl rfl (by decide) (by decide) (by decide) rfl rfl rfl (pa_cons (pe_go GN hr (pa_cons (pv 0) (pa_cons pe_int pa_nil))) (pa_cons (pe_go GN hr (pa_cons (pv 0) (pa_cons pe_int pa_nil))) (pa_cons (pe_go GN hr (pa_cons (pv 0) (pa_cons pe_int pa_nil))) pa_nil))) rfl)
    (pss_cons (ps_if (pt_cmpR op_eq (pe_go GT hr (pa_cons (pv 0) (pa_cons pe_int pa_nil))) pe_int (nomark _))
      (pss_cons (ps_set (i := 3) scDRoll.nd rfl (.inl rfl) (pe_slice sl_list (pv 2) po_none (po_some pe_int))) (pss_one (ps_set (i := 4) scDRoll.nd rfl (.inl rfl) (pe_slice sl_list (pv 2) (po_some (pe_un un_neg pe_int)) po_none)))) pss_nil)
    (pss_cons (ps_set (i := 5) scDRoll.nd rfl (.inl rfl) (pe_ix ix_list (pe_lst (pa_cons pe_int (pa_cons pe_int (pa_cons pe_int pa_nil)))) (pe_go GT hr (pa_cons (pv 0) (pa_cons pe_int pa_nil))) (fun _ _ => rfl)))
    (pss_cons (ps_set (i := 6) scDRoll.nd rfl (.inl rfl) (pe_lst pa_nil))
    (pss_cons (ps_set (i := 7) scDRoll.nd rfl (.inl rfl) pe_dnewT)
    (pss_cons (ps_for PassesOwn.never rfl (pi_range1 (by rfl) tp.range (pa_cons (pe_ix ix_list (pe_lst (pa_cons (pe_go GT hr (pa_cons (pv 0) (pa_cons pe_int pa_nil))) (pa_cons (pe_go GT hr (pa_cons (pv 0) (pa_cons (pe_op op_add (pv 1) pe_int) pa_nil))) (pa_cons (pv 1) pa_nil)))) (pe_go GT hr (pa_cons (pv 0) (pa_cons pe_int pa_nil))) (fun _ _ => rfl)) pa_nil)) (pg_name (i := 8) scDRoll.nd rfl (.inl rfl))
      (pss_cons (ps_set (i := 9) scDRoll.nd rfl (.inl rfl) (pe_ix ix_list (pv 2) (pe_go GT hr (pa_cons (pv 0) (pa_cons (pe_callB call_len_seq (by rfl) tp.len bt_len (pa_cons (pv 2) pa_nil)) pa_nil))) (fun _ _ => rfl)))
      (pss_cons (ps_set (i := 10) scDRoll.nd rfl (.inl rfl) (pe_ix ix_list (pe_lst (pa_cons pe_int (pa_cons (pv 5) (pa_cons (pe_go GT hr (pa_cons (pv 0) (pa_cons (pe_op op_add (pv 5) pe_int) pa_nil))) (pa_cons (pe_go GT hr (pa_cons (pv 0) (pa_cons (pe_op op_add (pv 5) pe_int) pa_nil))) pa_nil))))) (pe_go GT hr (pa_cons (pv 0) (pa_cons pe_int pa_nil))) (fun _ _ => rfl)))
      (pss_cons (ps_set (i := 11) scDRoll.nd rfl (.inl rfl) (pe_ix ix_list (pe_op op_cat (pv 3) (pe_lst (pa_cons pe_str pa_nil))) (pe_go GT hr (pa_cons (pv 0) (pa_cons (pe_op op_add (pe_callB call_len_seq (by rfl) tp.len bt_len (pa_cons (pv 3) pa_nil)) pe_int) pa_nil))) (fun _ _ => rfl)))
      (pss_cons (ps_set (i := 12) scDRoll.nd rfl (.inl rfl) (pe_tup (pa_cons (pv 9) (pa_cons (pv 10) (pa_cons (pv 11) (pa_cons (pe_ix ix_list (pv 4) (pe_go GT hr (pa_cons (pv 0) (pa_cons (pe_callB call_len_seq (by rfl) tp.len bt_len (pa_cons (pv 4) pa_nil)) pa_nil))) (fun _ _ => rfl)) pa_nil))))))
      (pss_cons (ps_if (pw_and (pt_cmpR (op_neD hr.units) (pv 6) (pe_lst pa_nil) (nomark _)) (pw_and1 (pt_cmpR op_eq (pe_go GT hr (pa_cons (pv 0) (pa_cons pe_int pa_nil))) pe_int (nomark _)))).pt
        (pss_one (ps_set (i := 12) scDRoll.nd rfl (.inl rfl) (pe_op op_catA (pe_tup (pa_cons (pv 9) (pa_cons (pv 10) pa_nil))) (pe_slice sl_tupA (pe_ix ix_list (pv 6) (pe_go GT hr (pa_cons (pv 0) (pa_cons (pe_callB call_len_seq (by rfl) tp.len bt_len (pa_cons (pv 6) pa_nil)) pa_nil))) (fun _ _ => rfl)) (po_some pe_int) po_none)))) pss_nil)
      (pss_one (ps_if (pt_cmp (pc_dnotin (hu_of hr) (pe_slice sl_tupA (pv 12) po_none (po_some pe_int)) (pv 7)))
        (pss_cons (ps_expr (pe_bm PySem.F.plainAttrs_list PySem.F.slot_list_append PySem.F.type_list_append mt_append (pv 6) (pa_cons (pv 12) pa_nil)))
        (pss_one (ps_dput (hu_of hr) (pv 7) (pe_slice sl_tupA (pv 12) po_none (po_some pe_int)) pe_bl rfl))) pss_nil))))))))
    (pss_one (ps_ret (pe_tup (pa_cons (pe_callTy call_tuple_of (by rfl) tp.tuple bt_tuple (pa_cons (pv 6) pa_nil)) (pa_cons (pv 2) (pa_cons (pv 3) (pa_cons (pv 4) pa_nil)))))))))))), ?_⟩
  have names : ∀ {H2 : Hp} {σ : L2.St} (k : Int), 0 < k → k ≤ 60 → σ[0]? = some (some v) → Xq M H H2 → EX T M (tCall (spC T cDNames) [] E0 (tCons (tVar 0) (tCons (tC (.int k)) tNil))) σ H2 (fun d => ∃ zs : List Str, d = .list (zs.map PyData.str) ∧ NamesOk zs ∧ (zs.length : Int) ≤ k) := fun {H2 σ} k h0 h1 e x => ed_call (ead (ed_var e (hv.mono x)) (ead ed_int ea_nil)) ⟨k, rfl, h0, h1, rfl⟩
  refine sq (par3_d (ea3 (names 6 (by decide) (by decide) rfl Xq.refl) (names 3 (by decide) (by decide) rfl Xq.refl) (names 4 (by decide) (by decide) rfl Xq.refl)) g fun vs3 H1 ds3 pds x1 g1 hvs => ?_)
  obtain ⟨_, _, _, rfl, ⟨men, rfl, okm, lm⟩, ⟨ships0, rfl, oks0, ls0⟩, ⟨ranks0, rfl, okk0, lk0⟩⟩ := pds
  obtain ⟨mv, sv0, kv0, rfl, hmen, hsh0, hrk0⟩ := hvs.a3
  refine ⟨mv, sv0, kv0, rfl, ?_⟩
  dsimp only
  refine sq (if_as2 (v0 := sv0) (w0 := kv0) (Pa := fun d => ∃ zs : List Str, d = .list (zs.map PyData.str) ∧ NamesOk zs ∧ zs.length ≤ 6) (Pb := fun d => ∃ zs : List Str, d = .list (zs.map PyData.str) ∧ NamesOk zs ∧ zs.length ≤ 6) (et_eqI (take_of 0 rfl (hv.mono x1) (by decide) (by decide) ed_int)) g1 ((ed_slL (lo := none) (hi := some 2) (ed_var rfl hmen) eo_none (eo_d ed_int)).imp fun d e => ?_) (fun v2 H2 d2 p2 x2 g2 hv2 => (ed_slL (lo := some (-2)) (hi := none) (ed_var rfl (hmen.mono x2)) (eo_d (ex_un ed_int fun d e => by subst e; exact ru_I)) eo_none).imp fun d e => ?_) hsh0 hrk0 ⟨ships0, rfl, oks0, by omega⟩ ⟨ranks0, rfl, okk0, by omega⟩ rfl fun sv kv H2 ds2 dk2 ps2 pk2 x2 g2 hsh hrk => ?_)
  · rw [cutD_map, show (some (2 : Int)) = some ((2 : Nat) : Int) from rfl, cutX_to] at e
    exact ⟨_, e, okm.take2, by rw [List.length_take]; omega⟩
  · rw [cutD_map, cutX_back] at e
    exact ⟨_, e, okm.drop2, by rw [List.length_drop]; omega⟩
  obtain ⟨ships, rfl, oks, ls⟩ := ps2
  obtain ⟨ranks, rfl, okk, lk⟩ := pk2
  have x12 := x1.trans x2
  dsimp only
  refine sq (as_d (P := fun d => ∃ t : Int, d = .int t ∧ 6 ≤ t ∧ t ≤ 100000) (ex_pick (n := 3) (by decide) (eal_cons (ed_int.imp fun d e => ⟨6, e, by decide, by decide⟩) (eal_cons (ed_int.imp fun d e => ⟨30, e, by decide, by decide⟩) (eal_cons (ed_int.imp fun d e => ⟨100000, e, by decide, by decide⟩) eal_nil))) (take_of 0 rfl (hv.mono x12) (by decide) (by decide) ed_int)) g2 fun tv H3 d3 p3 x3 g3 htv => ?_)
  obtain ⟨top, rfl, ht0, ht1⟩ := p3
  have x13 := x12.trans x3
  dsimp only
  refine sq (new_d fun l nl => ?_)
  dsimp only
  refine sq (newd_d fun d nd => ?_)
  have hld : l ≠ d := fun z => by
    rw [← z, upd_same] at nd
    cases nd
  have nd3 : H3 d = none := by
    rw [upd_ne hld.symm] at nd
    exact nd
  have gU := g3.upL nl
  have gC : Gd T (M.add l) (upd (upd H3 l (.lst [])) d (.dT [])) := gU.new nd
  have toC : ∀ {v : V} {e : PyData}, Is M H3 v e → Is (M.add l) (upd (upd H3 l (.lst [])) d (.dT [])) v e := fun h => (h.up nl).mono (Xq.new nd)
  have hvC := toC (hv.mono x13)
  have huC := toC (hu.mono x13)
  have hmC := toC (hmen.mono (x2.trans x3))
  have hsC := toC (hsh.mono x3)
  have hkC := toC (hrk.mono x3)
  have htC := toC htv
  have hlm : l ∉ (M.add l).m := fun z => g3.fresh nl (M.sub _ z)
  have hlM : l ∉ M.n := g3.fresh nl
  have hdm : d ∉ (M.add l).m := fun z => gU.fresh nd ((M.add l).sub _ z)
  have hL : ∀ z ∈ [l], z ∈ (M.add l).n := fun z hz => by rw [List.mem_singleton.mp hz]; exact List.mem_cons_self
  have hD : ∀ z ∈ [d], ∃ ks, (upd (upd H3 l (.lst [])) d (.dT [])) z = some (.dT ks) := fun z hz => by rw [List.mem_singleton.mp hz]; exact ⟨[], upd_same⟩
  have hmz : (1 : Int) ≤ ((men.map PyData.str).length : Int) := by
    rw [List.length_map]
    have := List.length_pos_iff.mpr okm.ne
    omega
  have hml : (men.map PyData.str).length ≤ 6 := by rw [List.length_map]; omega
  have hsl : (ships.map PyData.str).length ≤ 6 := by rw [List.length_map]; omega
  have hkz : (1 : Int) ≤ ((ranks.map PyData.str).length : Int) := by
    rw [List.length_map]
    have := List.length_pos_iff.mpr okk.ne
    omega
  have hkl : (ranks.map PyData.str).length ≤ 6 := by rw [List.length_map]; omega
  dsimp only
  refine sq (fol (C := M.add l) (L := [l]) (D := [d]) (p := fun ds => ∃ j : Int, ds = intsTo j.toNat ∧ 0 ≤ j ∧ j ≤ m) (ewl_range ((ea_cons (Pr := fun _ l => l = []) (ex_pick (n := 3) (P := fun d => ∃ j : Int, d = .int j ∧ 0 ≤ j ∧ j ≤ m) (by decide) (eal_cons ((take_of 0 rfl hvC (by decide) (by decide) ed_int).imp ?_) (eal_cons ((take_of (m := m + 1) 0 rfl hvC (by omega) (by omega) (ed_op (ed_var rfl huC) ed_int rd_I0)).imp ?_) (eal_cons ((ed_var rfl huC).imp ?_) eal_nil))) (take_of 0 rfl hvC (by decide) (by decide) ed_int)) fun _ _ => ea_nil).imp ?_) gC ?_)
    (fun H4 ds i σ' H' => ∃ k9 a9 b9 c9 e9 xs kvs, ∃ R : List Row, σ' = [some v, some u, some mv, some sv, some kv, some tv, some (.ref l), some (.ref d), k9, a9, b9, c9, e9] ∧ Xl (M.add l) [l] [d] H4 H' ∧ Xl (M.add l) [l] [d] (upd (upd H3 l (.lst [])) d (.dT [])) H' ∧ Gd T (M.add l) H' ∧ H' l = some (.lst xs) ∧ IsA (M.add l) H' xs (R.map dRow) ∧ H' d = some (.dT kvs) ∧ kvs.map (·.1) = R.map kRow ∧ (∀ r ∈ R, RowIn men ships r) ∧ KeysNd R ∧ R.length ≤ i) ?_ ?_ ?_ ?_)
  · rintro d ⟨r, rfl, h0, h1⟩
    exact ⟨r, rfl, h0, by omega⟩
  · rintro d ⟨r, rfl, h0, h1⟩
    exact ⟨r, rfl, h0, by omega⟩
  · rintro d rfl
    exact ⟨m, rfl, by omega, by omega⟩
  · rintro ds ⟨_, _, rfl, ⟨j, rfl, h0, h1⟩, rfl⟩
    exact ⟨j, rfl, h0, h1⟩
  · rintro j ⟨h0, h1⟩
    omega
  · rintro H4 ds ⟨j, rfl, hj0, hj1⟩ x4 g4
    exact ⟨_, _, _, _, _, [], [], [], rfl, .refl, .of x4, g4, x4.keep l _ (by rw [upd_ne hld]; exact upd_same) hlm (fun ps z => by cases z), .nil, x4.keep d _ upd_same hdm (fun ps z => by cases z), rfl, fun r h => (by cases h), List.Pairwise.nil, Nat.le_refl _⟩
  · rintro H4 ds i σ' H' ⟨k9, a9, b9, c9, e9, xs, kvs, R, _, z, _⟩
    exact z
  · rintro H4 ds i d1 y σ' H' ⟨j, rfl, hj0, hj1⟩ hd1 ⟨k9, a9, b9, c9, e9, xs, kvs, R, rfl, x4, x0, g4, hl4, hxs, hd4, hkeys, hrows, hnd, hlen⟩ hy
    have hi : i < j.toNat := by
      have := (List.getElem?_eq_some_iff.mp hd1).1
      rw [ints_len] at this
      exact this
    have gM := g4.drop
    have toM : ∀ {v : V} {e : PyData}, Is (M.add l) (upd (upd H3 l (.lst [])) d (.dT [])) v e → Is M H' v e := fun h => (h.xl hL hD x0).drop
    have hv4 := toM hvC
    have hm4 := toM hmC
    have hs4 := toM hsC
    have hk4 := toM hkC
    have ht4 := toM htC
    have hF : Is M H' (.ref l) (.list (R.map dRow)) := .lst hlM hl4 hxs.off
    have lk' : ∀ {H5 : Hp}, Xq M H' H5 → H5 l = some (.lst xs) := fun x5 => x5.keep l _ hl4 hlm (fun ps z => by cases z)
    have dk' : ∀ {H5 : Hp}, Xq M H' H5 → H5 d = some (.dT kvs) := fun x5 => x5.keep d _ hd4 hdm (fun ps z => by cases z)
    show tSeq _ _ _ _ _
    refine sq (as_d (P := fun d => ∃ z : Str, d = .str z ∧ z ∈ men) (ex_from (ed_var rfl hm4) (take_of 0 rfl hv4 (by omega) (by omega) (ed_cb (ead (ed_var rfl hm4) ea_nil) rc_lenL)) fun d hd => ?_) gM fun av H5 d5 p5 x5 g5 ha5 => ?_)
    · obtain ⟨z, hz, rfl⟩ := List.mem_map.mp hd
      exact ⟨z, rfl, hz⟩
    obtain ⟨man, rfl, hman⟩ := p5
    dsimp only
    refine sq (as_d (P := fun d => ∃ h : Int, d = .int h ∧ hourB h = true) (ex_pick (n := 4) (by decide) (eal_cons (ed_int.imp fun d e => ⟨0, e, by decide⟩) (eal_cons ((ed_var rfl (ht4.mono x5)).imp fun d e => ⟨top, e, hour_ok (by omega) ht1⟩) (eal_cons ((take_of (m := top + 1) 0 rfl (hv4.mono x5) (by omega) (by omega) (ed_op (ed_var rfl (ht4.mono x5)) ed_int rd_I0)).imp ?_) (eal_cons ((take_of (m := top + 1) 0 rfl (hv4.mono x5) (by omega) (by omega) (ed_op (ed_var rfl (ht4.mono x5)) ed_int rd_I0)).imp ?_) eal_nil)))) (take_of 0 rfl (hv4.mono x5) (by decide) (by decide) ed_int)) g5 fun bv H6 d6 p6 x6 g6 hb6 => ?_)
    · rintro d ⟨r, rfl, h0, h1⟩
      exact ⟨r, rfl, hour_ok h0 (by omega)⟩
    · rintro d ⟨r, rfl, h0, h1⟩
      exact ⟨r, rfl, hour_ok h0 (by omega)⟩
    obtain ⟨hh, rfl, hhh⟩ := p6
    have x46 := x5.trans x6
    dsimp only
    refine sq (as_d (P := fun d => ∃ z : Str, d = .str z ∧ (z ∈ ships ∨ z = "")) (ex_from (ed_op (ed_var rfl (hs4.mono x46)) (ed_lst (ead ed_str ea_nil) (by show 1 ≤ 1000; decide)) (rd_catL (by show (ships.map PyData.str).length + 1 ≤ 1000; omega))) ((take_of (m := (ships.map PyData.str).length + 1) 0 rfl (hv4.mono x46) (by omega) (by omega) (ed_op (ed_cb (ead (ed_var rfl (hs4.mono x46)) ea_nil) rc_lenL) ed_int rd_I0)).imp ?_) fun d hd => ?_) g6 fun cv H7 d7 p7 x7 g7 hc7 => ?_)
    · rintro d ⟨r, rfl, h0, h1⟩
      refine ⟨r, rfl, h0, ?_⟩
      rw [List.length_append]
      show r < (((ships.map PyData.str).length + 1 : Nat) : Int)
      omega
    · rcases List.mem_append.mp hd with hd | hd
      · obtain ⟨z, hz, rfl⟩ := List.mem_map.mp hd
        exact ⟨z, rfl, .inl hz⟩
      · rw [List.mem_singleton.mp hd]
        exact ⟨"", rfl, .inr rfl⟩
    obtain ⟨ship, rfl, hship⟩ := p7
    have nmS : ∀ {z : Str}, (z ∈ ships ∨ z = "") → nameB z = true ∨ z = "" := fun h => h.imp (oks.ok _) id
    have x47 := x46.trans x7
    dsimp only
    refine sq (as_d (P := fun d => ∃ r : Row, d = dRow r ∧ RowOk r ∧ (r.2.2.1 ∈ ships ∨ r.2.2.1 = "") ∧ r.1 = man ∧ r.2.1 = hh) ((ex_tup (p := fun ds => ∃ z : Str, ds = [.str man, .int hh, .str ship, .str z] ∧ nameB z = true) ((ea_cons (ed_var rfl (ha5.mono (x6.trans x7))) fun _ _ => ea_cons (ed_var rfl (hb6.mono x7)) fun _ _ => ea_cons (ed_var rfl hc7) fun _ _ => ea_cons (Pa := fun d => ∃ z : Str, d = .str z ∧ nameB z = true) (ex_from (ed_var rfl (hk4.mono x47)) (take_of 0 rfl (hv4.mono x47) (by omega) (by omega) (ed_cb (ead (ed_var rfl (hk4.mono x47)) ea_nil) rc_lenL)) fun d hd => ?_) fun _ _ => ea_nil).imp ?_) ?_).imp ?_) g7 fun rv0 H8 d8 p8 x8 g8 hr8 => ?_)
    · obtain ⟨z, hz, rfl⟩ := List.mem_map.mp hd
      exact ⟨z, rfl, okk.ok z hz⟩
    · rintro ds ⟨_, _, rfl, rfl, _, _, rfl, rfl, _, _, rfl, rfl, _, _, rfl, ⟨z, rfl, hz⟩, rfl⟩
      exact ⟨z, rfl, hz⟩
    · rintro ds ⟨z, rfl, _⟩
      show 4 ≤ 1000
      decide
    · rintro d ⟨ds, rfl, z, rfl, hz⟩
      exact ⟨(man, hh, ship, z), rfl, ⟨okm.ok man hman, hhh, nmS hship, hz⟩, hship, rfl, rfl⟩
    have x48 := x47.trans x8
    have ha8 := ha5.mono ((x6.trans x7).trans x8)
    have hb8 := hb6.mono (x7.trans x8)
    have hF8 := hF.mono x48
    have shF : SeqAt.shaped (.list (R.map dRow)) = true := sh_list fun d hd => by
      obtain ⟨r, hr1, rfl⟩ := List.mem_map.mp hd
      have o := (hrows r hr1).1
      exact sh_row (nameB_ok o.man) (ship_ok o.ship) (nameB_ok o.rank)
    have sh0' : SeqAt.shaped (.list []) = true := sh_list fun d hd => by cases hd
    dsimp only
    refine sq (if_as (v0 := rv0) (P := fun d => ∃ r : Row, d = dRow r ∧ RowOk r ∧ (r.2.2.1 ∈ ships ∨ r.2.2.1 = "") ∧ r.1 = man ∧ r.2.1 = hh) (et_any (etd (ed_op (ed_var rfl hF8) (ed_lst ea_nil (Nat.zero_le _)) (rd_neD shF sh0'))) fun _ => et_eqI (take_of 0 rfl (hv4.mono x48) (by decide) (by decide) ed_int)) g8 (fun hne => ?_) hr8 p8 rfl fun rv H9 d9 p9 x9 g9 hr9 => ?_)
    · have hR : R ≠ [] := fun e => by
        subst e
        have := hne rfl
        rw [eqv_nil] at this
        cases this
      have hRz : (1 : Int) ≤ ((R.map dRow).length : Int) := by
        rw [List.length_map]
        have := List.length_pos_iff.mpr hR
        omega
      have hRl : (R.map dRow).length ≤ 60 := by rw [List.length_map]; omega
      refine ex_op (Pa := (· = .tuple [.str man, .int hh])) (Pb := fun _ d => ∃ z k : Str, d = .tuple [.str z, .str k] ∧ (z ∈ ships ∨ z = "") ∧ nameB k = true) (ed_tup (ead (ed_var rfl ha8) (ead (ed_var rfl hb8) ea_nil)) (by show 2 ≤ 1000; decide)) (fun _ _ => ((ex_slTn (lo := some 2) (hi := none) (q := fun ds => ∃ r : Row, .tuple ds = dRow r ∧ RowIn men ships r) (ex_from (ed_var rfl hF8) (take_of 0 rfl (hv4.mono x48) (by omega) (by omega) (ed_cb (ead (ed_var rfl hF8) ea_nil) rc_lenL)) fun d hd => ?_) (eo_d ed_int) eo_none).imp ?_)) ?_
      · obtain ⟨r, hr1, rfl⟩ := List.mem_map.mp hd
        exact ⟨_, rfl, r, rfl, hrows r hr1⟩
      · rintro d ⟨ds, rfl, r, e, o⟩
        unfold dRow at e
        cases e
        exact ⟨r.2.2.1, r.2.2.2, rfl, o.2.2, o.1.rank⟩
      · rintro da db rfl ⟨z, k, rfl, hz, hk⟩
        exact fun Ha xa ya ga hxa hya Qa qa => rd_catT (by show 2 + 2 ≤ 1000; decide) Ha xa ya ga hxa hya Qa fun va Hb da pa => qa va Hb da ⟨(man, hh, z, k), pa, ⟨okm.ok man hman, hhh, nmS hz, hk⟩, hz, rfl, rfl⟩
    obtain ⟨r, rfl, hro, hrs, hrm, hrh⟩ := p9
    have x49 := x48.trans x9
    have hrC : Is (M.add l) H9 rv (dRow r) := hr9.ft rfl
    have hl9 := lk' x49
    have hd9 := dk' x49
    have g9C : Gd T (M.add l) H9 := g9.up hl9
    have hxs9 := hxs.mono x49.add
    dsimp only
    refine ed_slT (M := M.add l) (lo := none) (hi := some 2) (ed_var rfl hrC) eo_none (eo_d ed_int) H9 Xq.refl g9C _ fun kv9 H10 d10 p10 x10 g10 hk10 => ?_
    subst p10
    obtain ⟨b10, rfl, hb10⟩ := Is.key (ks := kPair r.1 r.2.1) hk10
    have hl10 := x10.keep l _ hl9 hlm (fun ps z => by cases z)
    have hd10 := x10.keep d _ hd9 hdm (fun ps z => by cases z)
    have hxs10 := hxs9.mono x10
    have hr10 := hrC.mono x10
    have x4a := (x4.then x49.add).then x10
    have x0a := (x0.then x49.add).then x10
    refine ⟨.ref d, rfl, d, valV kvs (kPair r.1 r.2.1), rfl, DGet.t hd10 hb10, _, rfl, ?_⟩
    cases ev : valV kvs (kPair r.1 r.2.1) with
    | some z =>
      exact iteF ⟨_, _, _, _, _, xs, kvs, R, rfl, x4a, x0a, g10, hl10, hxs10, hd10, hkeys, hrows, hnd, by omega⟩
    | none =>
      refine iteT (sq (ap_d rfl List.mem_cons_self hlm hl10 (by rw [hxs10.length, List.length_map]; omega) (ed_var rfl hr10) g10 fun rv2 H11 d11 p11 x11 g11 hr11 hl11 => ?_))
      subst p11
      have hr11' : Is (M.add l) (upd H11 l (.lst (xs ++ [rv2]))) rv (dRow r) := ((hr10.mono x11).put List.mem_cons_self hlm hl11)
      have hxs11 : IsA (M.add l) (upd H11 l (.lst (xs ++ [rv2]))) (xs ++ [rv2]) ((R ++ [r]).map dRow) := by
        rw [List.map_append]
        exact ((hxs10.mono x11).put List.mem_cons_self hlm hl11).app (.cons hr11 .nil)
      have hd11 : (upd H11 l (.lst (xs ++ [rv2]))) d = some (.dT kvs) := by
        rw [upd_ne hld.symm]
        exact x11.keep d _ hd10 hdm (fun ps z => by cases z)
      dsimp only
      refine ⟨.ref d, rfl, ed_slT (M := M.add l) (lo := none) (hi := some 2) (ed_var rfl hr11') eo_none (eo_d ed_int) _ Xq.refl g11 _ fun kv12 H12 d12 p12 x12' g12 hk12 => ?_⟩
      subst p12
      obtain ⟨b12, rfl, hb12⟩ := Is.key (ks := kPair r.1 r.2.1) hk12
      have hd12 := x12'.keep d _ hd11 hdm (fun ps z => by cases z)
      have hl12 := x12'.keep l _ upd_same hlm (fun ps z => by cases z)
      have hkl2 : kvs.length = R.length := by
        have := congrArg List.length hkeys
        rw [List.length_map, List.length_map] at this
        exact this
      have xw : Xl (M.add l) [l] [d] H10 (upd H12 d (.dT (putK kvs (kPair r.1 r.2.1) (.bl true)))) := ((((Xl.of x11).trans (.wr List.mem_cons_self hlm hl11)).then x12').trans (.wd List.mem_cons_self hdm hd12))
      refine ⟨d, _, rfl, DPut.t hd12 hb12 (small1000 (by omega)), _, _, _, _, _, xs ++ [rv2], _, R ++ [r], rfl, x4a.trans xw, x0a.trans xw, g12.wrD hd12, by rw [upd_ne hld]; exact hl12, (hxs11.mono x12').xl hL (fun z hz => by rw [List.mem_singleton.mp hz]; exact ⟨_, hd12⟩) (.wd List.mem_cons_self hdm hd12), upd_same, ?_, ?_, ?_, ?_⟩
      · rw [putK_new _ ev, List.map_append, List.map_append, hkeys]
        rfl
      · intro x hx
        rcases List.mem_append.mp hx with hx | hx
        · exact hrows x hx
        · rw [List.mem_singleton.mp hx]
          exact ⟨hro, by rw [hrm]; exact hman, hrs⟩
      · refine keysNd_perm List.perm_append_comm (keysNd_cons hnd fun x hx e => ?_)
        have nk := valV_not ev
        rw [hkeys] at nk
        exact nk (List.mem_map.mpr ⟨x, hx, by unfold kRow kPair; rw [e.1, e.2]⟩)
      · rw [List.length_append]
        show R.length + 1 ≤ _
        omega
  · rintro H4 ds σ' H' ⟨j, rfl, hj0, hj1⟩ ⟨k9, a9, b9, c9, e9, xs, kvs, R, rfl, x4, x0, g4, hl4, hxs, hd4, hkeys, hrows, hnd, hlen⟩
    rw [ints_len] at hlen
    have toM : ∀ {v : V} {e : PyData}, Is (M.add l) (upd (upd H3 l (.lst [])) d (.dT [])) v e → Is M H' v e := fun h => (h.xl hL hD x0).drop
    have hF : Is M H' (.ref l) (.list (R.map dRow)) := .lst hlM hl4 hxs.off
    have xo : Xq M H H' := x13.trans (x0.out ((Xq.new nl).trans (Xq.new nd)) rfl (fun z hz => by rw [List.mem_singleton.mp hz]; exact nl) (fun z hz => by rw [List.mem_singleton.mp hz]; exact nd3))
    exact rt_d (ed_tup (ead (ed_cb (ead (ed_var rfl hF) ea_nil) rc_tupleL) (ead (ed_var rfl (toM hmC)) (ead (ed_var rfl (toM hsC)) (ead (ed_var rfl (toM hkC)) ea_nil)))) (by show 4 ≤ 1000; decide)) g4.drop fun v2 H5 d5 p5 x5 g5 vd => q v2 H5 d5 ⟨R, men, ships, ranks, p5, okm, by omega, oks, ls, okk, lk, hrows, hnd, by omega⟩ (xo.trans x5) g5 vd
end
end Rk
set_option Elab.async false
set_option linter.all false
set_option maxRecDepth 100000
/-! Pm: hours, names changed -/
namespace Rk
open PySem PySem.Spec PyProof.Rows L2
abbrev sDHours : Stmt := topS 31
abbrev sCalled : Stmt := topS 34
theorem scDHours : FnScope ["_law_pot_here", "_law_roll_here", "_law_found", "_law_row"] ["_law_pot_here", "_law_roll_here"] (defScope sDHours) := ⟨rfl, rfl, rfl, by decide +kernel, rfl, by decide +kernel, by decide +kernel⟩
theorem scCalled : FnScope ["_law_roll_here", "_law_men", "_law_names_here", "_law_row"] ["_law_roll_here", "_law_men", "_law_names_here"] (defScope sCalled) := ⟨rfl, rfl, rfl, by decide +kernel, rfl, by decide +kernel, by decide +kernel⟩
structure HoursOk (hs : List Int) : Prop where
  ok : ∀ h ∈ hs, hourB h = true
  ne : hs ≠ []
  len : hs.length ≤ 200
def cDHours (ds : List PyData) (R : DP) : Prop := ∃ r : List Row, ds = [.dict [], dRoll r] ∧ RollOk r ∧ R = (fun d => ∃ hs : List Int, d = .list (hs.map PyData.int) ∧ HoursOk hs)
def nmOf (men names : List Str) (z : Str) : Str := names.getD (men.idxOf z) ""
def cCalled (ds : List PyData) (R : DP) : Prop := ∃ (r : List Row) (men names : List Str), ds = [dRoll r, .list (men.map PyData.str), .list (names.map PyData.str)] ∧ r.length ≤ 60 ∧ men.length = names.length ∧ (∀ x ∈ r, x.1 ∈ men) ∧ R = (· = dRoll (call (nmOf men names) r))
theorem keys_inl : ∀ {es : List Key}, (∀ k ∈ es, ∃ x, k = .inl x) → ∃ hs : List Int, es = hs.map Sum.inl
  | [], _ => ⟨[], rfl⟩
  | k :: es, h => by
    obtain ⟨x, rfl⟩ := h k List.mem_cons_self
    obtain ⟨men, rfl⟩ := keys_inl (es := es) fun k hk => h k (List.mem_cons_of_mem _ hk)
    exact ⟨x :: men, rfl⟩
theorem dK_ints (hs : List Int) : (hs.map (Sum.inl : Int → Key)).map dK = hs.map PyData.int := by
  rw [List.map_map]
  rfl
theorem ex_sortInts {T : Tbs} {M : Ct} {σ : L2.St} {H : Hp} {te : TE} {p : List Int → Prop} (h : EX T M te σ H (fun d => ∃ zs : List Int, d = .list (zs.map PyData.int) ∧ p zs)) (hp : ∀ zs, p zs → zs.length ≤ 999) :
    EX T M (tSortSet te) σ H (fun d => ∃ zs hs : List Int, d = .list (hs.map PyData.int) ∧ p zs ∧ (∀ m, m ∈ hs ↔ m ∈ zs) ∧ hs.length ≤ zs.length) := by
  refine (ex_sortSet (p := fun ks => ∃ zs : List Int, ks = zs.map Sum.inl ∧ p zs) (h.imp fun d ⟨zs, e, pz⟩ => ⟨zs.map Sum.inl, by rw [dK_ints]; exact e, zs, rfl, pz⟩) fun ks ⟨zs, e, pz⟩ => ?_).imp fun d ⟨ks, es, e, ⟨zs, ez, pz⟩, nd, hm, hl⟩ => ?_
  · subst e
    refine ⟨.inl fun k hk => ?_, by rw [List.length_map]; exact hp zs pz⟩
    obtain ⟨x, _, rfl⟩ := List.mem_map.mp hk
    exact ⟨x, rfl⟩
  · subst ez
    obtain ⟨men, rfl⟩ := keys_inl (es := es) fun k hk => by
      obtain ⟨x, _, rfl⟩ := List.mem_map.mp ((hm k).mp hk)
      exact ⟨x, rfl⟩
    refine ⟨zs, men, by rw [e, dK_ints], pz, fun m => ?_, by rw [List.length_map, List.length_map] at hl; exact hl⟩
    have q := hm (Sum.inl m)
    rw [List.mem_map, List.mem_map] at q
    constructor
    · intro z
      obtain ⟨y, hy, e⟩ := q.mp ⟨m, z, rfl⟩
      rw [← Sum.inl.inj e]
      exact hy
    · intro z
      obtain ⟨y, hy, e⟩ := q.mpr ⟨m, z, rfl⟩
      rw [← Sum.inl.inj e]
      exact hy
def fCall (f : Str → Str) : PyData → PyData
  | .tuple (.str z :: t) => .tuple (.str (f z) :: t)
  | d => d
theorem call_map (f : Str → Str) (R : List Row) : (R.map dRow).map (fCall f) = (call f R).map dRow := by
  unfold call
  rw [List.map_map, List.map_map]
  rfl
theorem nm_at {men names : List Str} (e : men.length = names.length) {z : Str} (hz : z ∈ men) : ∃ j : Nat, men[j]? = some z ∧ (∀ m, m < j → men[m]? ≠ some z) ∧ L2.atI (names.map PyData.str) (j : Int) = some (.str (nmOf men names z)) := by
  have hj := List.idxOf_lt_length_of_mem hz
  refine ⟨men.idxOf z, ?_, fun m hm e2 => ?_, ?_⟩
  · rw [List.getElem?_eq_getElem hj, List.getElem_idxOf]
  · obtain ⟨hm2, e3⟩ := List.getElem?_eq_some_iff.mp e2
    have := List.not_of_lt_findIdx (xs := men) (p := fun a => a == z) (by exact hm)
    rw [e3] at this
    simp at this
  · refine atI_nat ?_
    have h2 : men.idxOf z < names.length := by omega
    rw [List.getElem?_map, List.getElem?_eq_getElem h2]
    unfold nmOf
    rw [List.getD_eq_getElem?_getD, List.getElem?_eq_getElem h2]
    rfl
section
variable {P : Program} {w : World} {K : PySem.W.Frag} {mg : Str → Option Value} {base : Heap} {T : Tbs}
theorem go_dhours (tp : Top mg) (GT : Go P w K mg base T 1 "_law_take" cTake) (D : Df K mg "_law_hours" sDHours ["_law_pot_here", "_law_roll_here"]) : Go P w K mg base T 2 "_law_hours" cDHours := by
  refine go_mk (k := 1) D scDHours (fun ds R h => by obtain ⟨m, rfl, _⟩ := h; rfl) fun f cdv A outer s H vs Q E M ds R hr g a c q => ?_
  obtain ⟨r, rfl, ok, rfl⟩ := c
  obtain ⟨v, u, rfl, hv, hu⟩ := a.a2
  refine ⟨_, pss_cons (ps_set (i := 2) scDHours.nd rfl (.inl rfl) (pe_lst (pa_cons pe_int (pa_cons (pe_op op_pow pe_int pe_int) (pa_cons (pe_go GT hr (pa_cons (pv 0) (pa_cons (pe_op op_add (pe_op op_pow pe_int pe_int) pe_int) pa_nil))) (pa_cons (pe_go GT hr (pa_cons (pv 0) (pa_cons pe_int pa_nil))) pa_nil))))))
    (pss_cons (ps_for PassesOwn.never rfl (pi_tup (pv 1)) (pg_name (i := 3) scDHours.nd rfl (.inl rfl))
      (pss_one (ps_set (i := 2) scDHours.nd rfl (.inl rfl) (pe_op op_cat (pv 2) (pe_lst (pa_cons (pe_callB (call_max2 rfl) (by rfl) tp.max bt_max (pa_cons pe_int (pa_cons (pe_op op_sub (pe_ix ix_tup (pv 3) pe_int (fun _ _ => rfl)) pe_int) pa_nil)))
        (pa_cons (pe_ix ix_tup (pv 3) pe_int (fun _ _ => rfl)) (pa_cons (pe_callB (call_min2 rfl) (by rfl) tp.min bt_min (pa_cons (pe_op op_pow pe_int pe_int) (pa_cons (pe_op op_add (pe_ix ix_tup (pv 3) pe_int (fun _ _ => rfl)) pe_int) pa_nil))) pa_nil))))))))
    (pss_one (ps_ret (pe_sortSet rfl hr.units (by rfl) tp.sorted (by rfl) tp.set (pv 2))))), ?_⟩
  have e5 : ∀ {σ : L2.St} {H2 : Hp}, EX T M (tOp (rI CPow fun i j => .int (i ^ j.toNat)) (tC (.int 10)) (tC (.int 5))) σ H2 (· = .int 100000) := fun {σ H2} => ed_op ed_int ed_int (rd_I ⟨by decide, by decide, by decide⟩)
  refine sq (as_d (P := fun d => ∃ zs : List Int, d = .list (zs.map PyData.int) ∧ (∀ z ∈ zs, hourB z = true) ∧ zs.length = 4) ((ex_lst (ea_cons (Pa := (· = .int 0)) ed_int fun _ _ => ea_cons e5 fun _ _ => ea_cons (take_of (m := 100001) 0 rfl hv (by decide) (by decide) (ed_op e5 ed_int rd_I0)) fun _ _ => ea_cons (take_of (m := 40) 0 rfl hv (by decide) (by decide) ed_int) fun _ _ => ea_nil) ?_).imp ?_) g fun fv H1 d1 p1 x1 g1 hf1 => ?_)
  · rintro ds ⟨_, _, rfl, rfl, _, _, rfl, rfl, _, _, rfl, _, _, _, rfl, _, rfl⟩
    show 4 ≤ 1000
    decide
  · rintro d ⟨ds, rfl, _, _, rfl, rfl, _, _, rfl, rfl, _, _, rfl, ⟨a, rfl, a0, a1⟩, _, _, rfl, ⟨b, rfl, b0, b1⟩, rfl⟩
    refine ⟨[0, 100000, a, b], rfl, fun z hz => ?_, rfl⟩
    simp only [List.mem_cons, List.not_mem_nil, or_false] at hz
    rcases hz with rfl | rfl | rfl | rfl
    · decide
    · decide
    · exact hour_ok a0 (by omega)
    · exact hour_ok b0 (by omega)
  dsimp only
  refine sq (fo (ew_tup ((ed_var rfl (hu.mono x1)).imp fun d e => ⟨_, e, rfl⟩)) g1
    (fun H2 ds i σ' H' => ∃ fv c, ∃ zs : List Int, σ' = [some v, some u, some fv, c] ∧ Xq M H2 H' ∧ Xq M H H' ∧ Gd T M H' ∧ Is M H' fv (.list (zs.map PyData.int)) ∧ (∀ z ∈ zs, hourB z = true) ∧ 4 ≤ zs.length ∧ zs.length ≤ 4 + 3 * i) ?_ ?_ ?_ ?_)
  · rintro H2 ds rfl x2 g2
    obtain ⟨zs, rfl, hz, hl⟩ := p1
    exact ⟨fv, _, zs, rfl, .refl, x1.trans x2, g2, hf1.mono x2, hz, by omega, by omega⟩
  · rintro H2 ds i σ' H' ⟨fv, c, zs, _, z, _⟩
    exact z
  · rintro H2 ds i d y σ' H' rfl hd ⟨fv2, c, zs, rfl, x2, x0, g2, hf2, hz, hl0, hl1⟩ hy
    obtain ⟨x, hx1, rfl⟩ := map_at hd
    have hxm := ok.rows x (List.mem_of_getElem? hx1)
    have hh := hxm.hour
    unfold hourB at hh
    rw [Bool.and_eq_true, decide_eq_true_eq, decide_eq_true_eq] at hh
    have hi : i < 60 := by
      have h1 := (List.getElem?_eq_some_iff.mp hx1).1
      have h2 := ok.len
      omega
    show tAsg _ _ _ _ _
    have row1 : EX T M (tOp (rIxT K) (tVar 3) (tC (.int 1))) [some v, some u, some fv2, some y] H' (· = .int x.2.1) := ed_op (ed_var rfl hy) ed_int (rd_ixT rfl)
    refine as_d (ed_op (ed_var rfl hf2) (ed_lst (ead (ed_cb (ead ed_int (ead (ed_op row1 ed_int rd_I0) ea_nil)) rc_2I) (ead row1 (ead (ed_cb (ead e5 (ead (ed_op row1 ed_int rd_I0) ea_nil)) rc_2I) ea_nil))) (by show 3 ≤ 1000; decide)) (rd_catL (by rw [List.length_map]; show zs.length + 3 ≤ 1000; omega))) g2 fun fv3 H3 d3 p3 x3 g3 hf3 => ?_
    subst p3
    refine ⟨fv3, _, zs ++ [if x.2.1 - 1 > 0 then x.2.1 - 1 else 0, x.2.1, if x.2.1 + 1 < 100000 then x.2.1 + 1 else 100000], rfl, x2.trans x3, x0.trans x3, g3, ?_, fun z hz2 => ?_, ?_, ?_⟩
    · rw [List.map_append]
      exact hf3
    · rcases List.mem_append.mp hz2 with hz2 | hz2
      · exact hz z hz2
      · simp only [List.mem_cons, List.not_mem_nil, or_false] at hz2
        rcases hz2 with rfl | rfl | rfl
        · split <;> exact hour_ok (by omega) (by omega)
        · exact hour_ok hh.1 hh.2
        · split <;> exact hour_ok (by omega) (by omega)
    · rw [List.length_append]; omega
    · rw [List.length_append]; show zs.length + 3 ≤ _; omega
  · rintro H2 ds σ' H' rfl ⟨fv2, c, zs, rfl, x2, x0, g2, hf2, hz, hl0, hl1⟩
    rw [List.length_map] at hl1
    have hrl := ok.len
    refine rt_d ((ex_sortInts (p := fun ys => ys = zs) ((ed_var rfl hf2).imp fun d e => ⟨zs, e, rfl⟩) fun ys e => by subst e; omega).imp ?_) g2 fun v2 H5 d5 p5 x5 g5 vd => q v2 H5 d5 p5 (x0.trans x5) g5 vd
    rintro d ⟨ys, hs, rfl, rfl, hm, hl⟩
    refine ⟨hs, rfl, fun h hh => hz h ((hm h).mp hh), fun e => ?_, by omega⟩
    subst e
    cases ys with
    | nil => simp at hl0
    | cons z ys =>
      have := (hm z).mpr List.mem_cons_self
      cases this
theorem go_called (tp : Top mg) (D : Df K mg "_law_called" sCalled ["_law_roll_here", "_law_men", "_law_names_here"]) : Go P w K mg base T 1 "_law_called" cCalled := by
  refine go_mk (k := 0) D scCalled (fun ds R h => by obtain ⟨m, a, b, rfl, _⟩ := h; rfl) fun f cdv A outer s H vs Q E M ds R hr g a c q => ?_
  obtain ⟨r, men, names, rfl, hrl, hnl, hrm, rfl⟩ := c
  obtain ⟨v, u, t, rfl, hv, hu, ht⟩ := a.a3
  refine ⟨_, pss_one (ps_ret (pe_callTy call_tuple_of (by rfl) tp.tuple bt_tuple (pa_cons (pe_lc (own := [("_law_row", 3)]) (g := gName 3) (tt := tYes) (te := tOp (rCatA K) (tTup (tCons (tOp (rIxL K) (tVar 2) (tBM K "list" (rIndex K) (tVar 1) (tCons (tOp (rIxT K) (tVar 3) (tC (.int 0))) tNil))) tNil)) (tSl (rSlA K) (tVar 3) (tPart (tC (.int 1))) tNoPart)) rfl scCalled.nd (pi_tup (pv 0)) (blkOk_by (N := ["_law_roll_here", "_law_men", "_law_names_here", "_law_row"]) (sc := defScope sCalled) (by decide +kernel)) (fun _ _ _ _ _ => pg_name (i := 3) scCalled.nd rfl (Or.inl rfl)) (fun _ _ _ _ _ => pts_nil)
    (fun _ _ _ _ _ => pe_op op_catA (pe_tup (pa_cons (pe_ix ix_list (pv 2) (pe_bm PySem.F.plainAttrs_list PySem.F.slot_list_index PySem.F.type_list_index mt_index (pv 1) (pa_cons (pe_ix ix_tup (pv 3) pe_int (fun _ _ => rfl)) pa_nil)) (fun _ _ => rfl)) pa_nil)) (pe_slice sl_tupA (pv 3) (po_some pe_int) po_none))) pa_nil))), ?_⟩
  refine rt_d (ed_cb (ead ((ed_lcm (f := fCall (nmOf men names)) (ew_tup ((ed_var rfl hv).imp fun d e => ⟨_, e, rfl⟩)) ?_ ?_ ?_).to (congrArg PyData.list (call_map _ r))) ea_nil) rc_tupleL) g q
  · rw [List.length_map]
    omega
  · intro d hd
    obtain ⟨x, _, rfl⟩ := List.mem_map.mp hd
    rfl
  · intro d y H2 hd x2 g2 hy
    obtain ⟨x, hx, rfl⟩ := List.mem_map.mp hd
    obtain ⟨j, h1, h2, h3⟩ := nm_at hnl (hrm x hx)
    exact ed_op (ed_tup (ead (ed_op (ed_var rfl (ht.mono x2)) (ed_index (ed_var rfl (hu.mono x2)) (ead (ed_op (ed_var rfl hy) ed_int (rd_ixT (d := .str x.1) rfl)) ea_nil) h1 h2) (rd_ixL h3)) ea_nil) (by show 1 ≤ 1000; decide)) (ed_slT (lo := some 1) (hi := none) (ed_var rfl hy) (eo_d ed_int) eo_none) (rd_catT (by show 1 + 3 ≤ 1000; decide))
end
end Rk
set_option Elab.async false
set_option linter.all false
set_option maxRecDepth 100000
/-! Pn: one man, one hour -/
namespace Rk
open PySem PySem.Spec PyProof.Rows L2
abbrev sOne : Stmt := topS 32
theorem scOne : FnScope ["_law_roll_here", "_law_ships", "_law_man", "_law_hour", "_law_there", "_law_found", "_law_ship", "_law_stays", "_law_one", "_law_stay"] ["_law_roll_here", "_law_ships", "_law_man", "_law_hour"] (defScope sOne) := ⟨rfl, rfl, rfl, by decide +kernel, rfl, by decide +kernel, by decide +kernel⟩
def cOne (ds : List PyData) (R : DP) : Prop := ∃ (r : List Row) (ships : List Str) (man : Str) (h : Int), ds = [dRoll r, .list (ships.map PyData.str), .str man, .int h] ∧ RollOk r ∧ NamesOk ships ∧ ships.length ≤ 6 ∧ nameB man = true ∧ hourB h = true ∧ (∀ x ∈ r, x.2.2.1 ∈ ships ∨ x.2.2.1 = "") ∧ R = (· = .bool true)
def dF (p : Str × At) : PyData := .tuple [.str p.1, dAt p.2]
def btHas (h : Int) : PyData → Bool
  | .tuple [.int a, .none, _, _] => decide (a ≤ h) && true
  | .tuple [.int a, .int b, _, _] => decide (a ≤ h) && decide (h < b)
  | _ => false
def fTwoOff : PyData → PyData
  | .tuple (_ :: _ :: t) => .tuple t
  | _ => .none
theorem bt_has (h : Int) (s : Stay) : btHas h (dStay s) = has h s := by
  obtain ⟨a, b, c, d⟩ := s
  cases b <;> rfl
theorem flat_stay (s : Stay) : flat (dStay s) = true := by
  obtain ⟨a, b, c, d⟩ := s
  cases b <;> rfl
theorem stays_filter (h : Int) (S : List Stay) : ((S.map dStay).filter (btHas h)).map id = (S.filter (has h)).map dStay := by
  rw [List.map_id, List.filter_map]
  congr 1
  exact List.filter_congr fun s _ => bt_has h s
theorem off_map (S : List Stay) : (S.map dStay).map fTwoOff = (S.map fun s => s.2.2).map fun p : Str × Str => PyData.tuple [.str p.1, .str p.2] := by
  rw [List.map_map, List.map_map]
  rfl
theorem ofMan_len (R : List Row) (sh : Str) (h : Int) (man : Str) : (ofMan R sh h man).length ≤ 1 := by
  unfold ofMan
  cases aboard R sh h man <;> simp
theorem found_len (R : List Row) (h : Int) (man : Str) : ∀ ships : List Str, (found R ships h man).length ≤ ships.length
  | [] => Nat.le_refl _
  | s :: ships => by
    have ih := found_len R h man ships
    have h1 := ofMan_len R s h man
    unfold found at ih ⊢
    rw [List.flatMap_cons, List.length_append, List.length_map, List.length_cons]
    omega
theorem found_snoc (R : List Row) (h : Int) (man : Str) (ships : List Str) (s : Str) : found R (ships ++ [s]) h man = found R ships h man ++ (ofMan R s h man).map fun a => (s, a) := by
  unfold found
  rw [List.flatMap_append]
  simp
theorem crew_filter (man sh : Str) (es : List At) : (es.map dAt).filter (btMan man) = (es.filter fun a => decide (a.1 = man)).map dAt := by
  rw [List.filter_map]
  rfl
theorem stays_len_of : ∀ (n : Nat) (l : List R3), l.length = n → (staysOf l).length ≤ n
  | 0, l, h => by
    rw [List.length_eq_zero_iff.mp h]
    exact Nat.le_refl _
  | n + 1, l, h => by
    rcases List.eq_nil_or_concat l with rfl | ⟨m, x, rfl⟩
    · simp at h
    · rw [List.concat_eq_append] at h ⊢
      rw [List.length_append] at h
      have ih := stays_len_of n m (by simpa using h)
      rw [staysOf_snoc]
      have := stay_len (S := staysOf m) (r := x)
      omega
theorem rows3_len {r : List Row} (ok : RollOk r) (man : Str) : (rows3 r man).length ≤ 60 := by
  rw [(rows3_perm r man).length_eq, List.length_map]
  have h1 := List.length_filter_le (fun x : Row => decide (x.1 = man)) r
  have h2 := ok.len
  omega
theorem stays_len60 {r : List Row} (ok : RollOk r) (man : Str) : (staysOf (rows3 r man)).length ≤ 1000 := by
  have h1 := stays_len_of _ _ (rfl : (rows3 r man).length = (rows3 r man).length)
  have h2 := rows3_len ok man
  omega
section
variable {T : Tbs} {M : Ct} {K : PySem.W.Frag} {σ : L2.St} {H : Hp} {En : Ends}
/-- xs.extend(ys), the list not named by data -/
theorem xt_d {C : Ct} {l : Addr} {k : Nat} {te : TE} {xs : List V} {es : List PyData} (hv : σ[k]? = some (some (.ref l))) (hn : l ∈ C.n) (hm : l ∉ C.m) (hl : H l = some (.lst xs)) (hz : xs.length + es.length ≤ 1000) (h : EX T C te σ H (· = .list es)) (g : Gd T C H) (q : ∀ zs H2, Xq C H H2 → Gd T C (upd H2 l (.lst (xs ++ zs))) → IsA C (upd H2 l (.lst (xs ++ zs))) zs es → H2 l = some (.lst xs) → En.nx σ (upd H2 l (.lst (xs ++ zs)))) :
    tDrop (tBM K "list" rExtend (tVar k) (tCons te tNil)) En σ H := ⟨.ref l, hv, .inl ⟨rfl, _, SqL.of hl⟩, h H Xq.refl g _ fun v H2 d pd x2 g2 vd => by
  have hl2 : H2 l = some (.lst xs) := x2.keep l _ hl hm (fun ps z => by cases z)
  subst pd
  cases vd with
  | lst n ha hs =>
    rename_i a zs
    exact ⟨l, a, xs, zs, rfl, rfl, hl2, ha, by rw [hs.length]; exact Nat.le_of_lt (small1000 hz), q zs H2 x2 (g2.wr hl2) (hs.put hn hm hl2) hl2⟩⟩
theorem if_two {t t2 t3 : TT} {s1 s2 : TS} {a : Bool} (h : ET T M t σ H (· = a)) (g : Gd T M H) (h2 : a = true → ET T M t2 σ H (· = false)) (h3 : a = false → ET T M t3 σ H (· = false)) (k : ∀ H2, Xq M H H2 → Gd T M H2 → En.nx σ H2) : tIfS t (tIfS t2 s1 tNext) (tIfS t3 s2 tNext) En σ H :=
  if_d h g (fun e H2 x2 g2 => if_d ((h2 e).mono x2) g2 (fun z => by cases z) fun _ H3 x3 g3 => k H3 (x2.trans x3) g3) fun e H2 x2 g2 => if_d ((h3 e).mono x2) g2 (fun z => by cases z) fun _ H3 x3 g3 => k H3 (x2.trans x3) g3
end
section
variable {P : Program} {w : World} {K : PySem.W.Frag} {mg : Str → Option Value} {base : Heap} {T : Tbs}
theorem go_one (tp : Top mg) (GW : Go P w K mg base T 6 "where_at" cWhere) (GC : Go P w K mg base T 6 "crew_at" cCrew) (GS : Go P w K mg base T 6 "stays_of" cStays) (D : Df K mg "_law_one_right" sOne ["_law_roll_here", "_law_ships", "_law_man", "_law_hour"]) : Go P w K mg base T 7 "_law_one_right" cOne := by
  refine go_mk (k := 6) D scOne (fun ds R h => by obtain ⟨m, a, b, c, rfl, _⟩ := h; rfl) fun f cdv A outer s H vs Q E M ds R hr g a c q => ?_
  obtain ⟨r, ships, man, hh, rfl, ok, oks, ls, okm, okh, hshp, rfl⟩ := c
  obtain ⟨v, u, mn, hv, rfl, iv, iu, imn, ihv⟩ := a.a4
  refine ⟨_, pss_cons (ps_set (i := 4) scOne.nd rfl (.inl rfl) (pe_go GW hr (pa_cons (pv 0) (pa_cons (pv 2) (pa_cons (pv 3) pa_nil)))))
    (pss_cons (ps_set (i := 5) scOne.nd rfl (.inl rfl) (pe_lst pa_nil))
    (pss_cons (ps_for PassesOwn.never rfl (pi_list (pv 1)) (pg_name (i := 6) scOne.nd rfl (.inr rfl))
      (pss_one (ps_expr (pe_bm PySem.F.plainAttrs_list PySem.F.slot_list_extend PySem.F.type_list_extend mt_extend (pv 5) (pa_cons (pe_lc (own := [("_law_one", 8)]) (g := gName 8) (tt := tTest (tOp rEq (tOp (rIxT K) (tVar 8) (tC (.int 0))) (tVar 2))) (te := tTup (tCons (tVar 6) (tCons (tVar 8) tNil))) rfl scOne.nd (pi_tup (pe_go GC hr (pa_cons (pv 0) (pa_cons (pv 6) (pa_cons (pv 3) pa_nil))))) (blkOk_by (N := ["_law_roll_here", "_law_ships", "_law_man", "_law_hour", "_law_there", "_law_found", "_law_ship", "_law_stays", "_law_one", "_law_stay"]) (sc := defScope sOne) (by decide +kernel)) (fun _ _ _ _ _ => pg_name (i := 8) scOne.nd rfl (Or.inl rfl))
        (fun _ _ _ _ _ => pts_one (pt_cmpR op_eq (pe_ix ix_tup (pv 8) pe_int (fun _ _ => rfl)) (pv 2) (nomark _))) (fun _ _ _ _ _ => pe_tup (pa_cons (pv 6) (pa_cons (pv 8) pa_nil)))) pa_nil)))))
    (pss_cons (ps_if (pw_or (pt_cmpR op_isN (pv 4) pe_non (nomark _)) (pw_or1 (pt_cmpR op_eq (pe_ix ix_tup (pv 4) pe_int (fun _ _ => rfl)) pe_str (nomark _)))).pt
      (pss_one (ps_if (pt_cmpR (op_neD hr.units) (pv 5) (pe_lst pa_nil) (nomark _)) (pss_one (ps_ret pe_bl)) pss_nil))
      (pss_one (ps_if (pt_cmpR (op_neD hr.units) (pv 5) (pe_lst (pa_cons (pe_tup (pa_cons (pe_ix ix_tup (pv 4) pe_int (fun _ _ => rfl)) (pa_cons (pe_tup (pa_cons (pv 2) (pa_cons (pe_ix ix_tup (pv 4) pe_int (fun _ _ => rfl)) (pa_cons (pe_ix ix_tup (pv 4) pe_int (fun _ _ => rfl)) pa_nil)))) pa_nil))) pa_nil)) (nomark _)) (pss_one (ps_ret pe_bl)) pss_nil)))
    (pss_cons (ps_setLc (i := 7) (own := [("_law_stay", 9)]) (g := gName 9) (tt := tAnd (tTest (tOp (rI0 fun i j => .bl (decide (i ≤ j))) (tOp (rIxT K) (tVar 9) (tC (.int 0))) (tVar 3))) (tOr (tTest (tOp (fun x y H Q => y = .non ∧ Q (.bl (decide (x = .non))) H) (tOp (rIxT K) (tVar 9) (tC (.int 1))) (tC .non))) (tTest (tOp (rI0 fun i j => .bl (decide (i < j))) (tVar 3) (tOp (rIxT K) (tVar 9) (tC (.int 1))))))) (te := tVar 9) rfl scOne.nd rfl rfl (sw_true rfl rfl rfl (by decide +kernel)) (pi_tup (pe_go GS hr (pa_cons (pv 0) (pa_cons (pv 2) pa_nil)))) (blkOk_by (N := ["_law_roll_here", "_law_ships", "_law_man", "_law_hour", "_law_there", "_law_found", "_law_ship", "_law_stays", "_law_one", "_law_stay"]) (sc := defScope sOne) (by decide +kernel)) (fun _ _ _ _ _ => pg_name (i := 9) scOne.nd rfl (Or.inl rfl))
        (fun _ _ _ _ _ => pts_one (pw_and (pt_cmpR op_le (pe_ix ix_tup (pv 9) pe_int (fun _ _ => rfl)) (pv 3) (nomark _)) (pw_and1 (pw_or (pt_cmpR op_isN (pe_ix ix_tup (pv 9) pe_int (fun _ _ => rfl)) pe_non (nomark _)) (pw_or1 (pt_cmpR op_lt (pv 3) (pe_ix ix_tup (pv 9) pe_int (fun _ _ => rfl)) (nomark _)))).pt)).pt) (fun _ _ _ _ _ => pv 9))
    (pss_cons (ps_if (pt_cmpR op_isN (pv 4) pe_non (nomark _)) (pss_one (ps_ret (pe_cmpR (op_eqD hr.units) (pv 7) (pe_lst pa_nil) (nomark _)))) pss_nil)
    (pss_one (ps_ret (pe_and (pe_cmpR (op_eqD hr.units) (pe_lc (own := [("_law_stay", 9)]) (g := gName 9) (tt := tYes) (te := tSl (rSlA K) (tVar 9) (tPart (tC (.int 2))) tNoPart) rfl scOne.nd (pi_list (pv 7)) (blkOk_by (N := ["_law_roll_here", "_law_ships", "_law_man", "_law_hour", "_law_there", "_law_found", "_law_ship", "_law_stays", "_law_one", "_law_stay"]) (sc := defScope sOne) (by decide +kernel)) (fun _ _ _ _ _ => pg_name (i := 9) scOne.nd rfl (Or.inl rfl)) (fun _ _ _ _ _ => pts_nil)
        (fun _ _ _ _ _ => pe_slice sl_tupA (pv 9) (po_some pe_int) po_none)) (pe_lst (pa_cons (pe_slice sl_tupA (pv 4) po_none (po_some pe_int)) pa_nil)) (nomark _)) (pe_one (pe_cmpR op_le (pe_ix ix_tup (pv 4) pe_int (fun _ _ => rfl)) (pv 3) (nomark _))))))))))), ?_⟩
  refine sq (as_d (ed_call (ead (ed_var rfl iv) (ead (ed_var rfl imn) (ead (ed_var rfl ihv) ea_nil))) ⟨r, man, hh, rfl, ok, okm, okh, rfl⟩) g fun tv H1 d1 p1 x1 g1 itv => ?_)
  subst p1
  dsimp only
  refine sq (new_d fun l nl => ?_)
  have toC : ∀ {v : V} {e : PyData}, Is M H1 v e → Is (M.add l) (upd H1 l (.lst [])) v e := fun h => h.up nl
  have vC := toC (iv.mono x1)
  have uC := toC (iu.mono x1)
  have mC := toC (imn.mono x1)
  have hC := toC (ihv.mono x1)
  have tC' := toC itv
  have gC := g1.upL nl
  have hlm : l ∉ (M.add l).m := fun z => g1.fresh nl (M.sub _ z)
  have hlM : l ∉ M.n := g1.fresh nl
  have hL : ∀ z ∈ [l], z ∈ (M.add l).n := fun z hz => by rw [List.mem_singleton.mp hz]; exact List.mem_cons_self
  have hD : ∀ {h : Hp}, ∀ d ∈ ([] : List Addr), ∃ ks, h d = some (.dT ks) := fun d hd => by cases hd
  dsimp only
  refine sq (fol (C := M.add l) (L := [l]) (D := []) (p := fun ds => ds = ships.map PyData.str) (ewl_list hL hD (fun d hd => by cases hd) ((ed_var rfl uC).imp fun d e => ⟨_, e, rfl⟩) gC)
    (fun H4 ds i σ' H' => ∃ sx xs, σ' = [some v, some u, some mn, some hv, some tv, some (.ref l), sx, none, none, none] ∧ Xl (M.add l) [l] [] H4 H' ∧ Xl (M.add l) [l] [] (upd H1 l (.lst [])) H' ∧ Gd T (M.add l) H' ∧ H' l = some (.lst xs) ∧ IsA (M.add l) H' xs ((found r (ships.take i) hh man).map dF)) ?_ ?_ ?_ ?_)
  · rintro H4 ds rfl x4 g4
    exact ⟨_, [], rfl, .refl, .of x4, g4, x4.keep l _ upd_same hlm (fun ps z => by cases z), .nil⟩
  · rintro H4 ds i σ' H' ⟨sx, xs, _, z, _⟩
    exact z
  · rintro H4 ds i d y σ' H' rfl hd ⟨sx, xs, rfl, x4, x0, g4, hl4, hxs⟩ hy
    obtain ⟨sh, hs1, rfl⟩ := strs_at hd
    have hsm := oks.ok sh (List.mem_of_getElem? hs1)
    have v4 := vC.xl hL hD x0
    have h4 := hC.xl hL hD x0
    have m4 := mC.xl hL hD x0
    have hxl : xs.length ≤ 6 := by
      rw [hxs.length, List.length_map]
      have h1 := found_len r hh man (ships.take i)
      rw [List.length_take] at h1
      omega
    have hol := ofMan_len r sh hh man
    show tDrop _ _ _ _
    refine xt_d (es := ((ofMan r sh hh man).map fun a => (sh, a)).map dF) rfl List.mem_cons_self hlm hl4 (by rw [List.length_map, List.length_map]; omega) ((ex_lc (p := fun ds => ∃ es : List At, ds = es.map dAt ∧ CrewIs r sh hh es ∧ es.length ≤ 60) (bt := btMan man) (Q := fun d e => (∃ a : At, d = dAt a) ∧ e = .tuple [.str sh, d]) (ew_tup ((ed_call (ead (ed_var rfl v4) (ead (ed_var rfl hy) (ead (ed_var rfl h4) ea_nil))) ⟨r, sh, hh, rfl, ok, hsm, okh, rfl⟩).imp fun d ⟨es, e, h1, h2⟩ => ⟨_, e, es, rfl, h1, h2⟩)) ?_ ?_ ?_).imp ?_) g4 fun zs H5 x5 g5 hzs hl5 => ?_
    · rintro ds ⟨es, rfl, _, hl⟩
      rw [List.length_map]
      omega
    · rintro d e ⟨⟨a, rfl⟩, rfl⟩
      rfl
    · rintro ds j d y2 H5 ⟨es, rfl, _, _⟩ hd x5 g5 hy2
      obtain ⟨a, ha, rfl⟩ := map_at hd
      refine ⟨etd (ed_op (ed_op (ed_var rfl hy2) ed_int (rd_ixT (d := .str a.1) rfl)) (ed_var rfl (m4.mono x5)) rd_eqS), fun _ => (ed_tup (ead (ed_var rfl (hy.mono x5)) (ead (ed_var rfl hy2) ea_nil)) (by show 2 ≤ 1000; decide)).imp fun e he => ⟨⟨a, rfl⟩, he⟩⟩
    · rintro d ⟨ds, es2, rfl, ⟨es, rfl, hcr, _⟩, hp⟩
      have e2 := Paired.toMap (L2.Paired.mapP hp fun a b z => z.2)
      rw [crew_filter man sh, crew_of hcr man, List.map_map] at e2
      rw [e2, List.map_map]
      rfl
    · refine ⟨_, xs ++ zs, rfl, (x4.then x5).trans (.wr List.mem_cons_self hlm hl5), (x0.then x5).trans (.wr List.mem_cons_self hlm hl5), g5, upd_same, ?_⟩
      rw [take_snoc hs1, found_snoc, List.map_append]
      exact ((hxs.mono x5).put List.mem_cons_self hlm hl5).app hzs
  · rintro H4 ds σ' H' rfl ⟨sx, xs, rfl, x4, x0, g4, hl4, hxs⟩
    rw [List.length_map, List.take_length] at hxs
    have gM := g4.drop
    have toM : ∀ {v : V} {e : PyData}, Is (M.add l) (upd H1 l (.lst [])) v e → Is M H' v e := fun h => (h.xl hL hD x0).drop
    have v4 := toM vC
    have m4 := toM mC
    have h4 := toM hC
    have t4 := toM tC'
    have hF : Is M H' (.ref l) (.list ((found r ships hh man).map dF)) := .lst hlM hl4 hxs.off
    have xo : Xq M H H' := x1.trans (x0.out (Xq.new nl) rfl (fun z hz => by rw [List.mem_singleton.mp hz]; exact nl) (fun z hz => by cases hz))
    have sh0' : SeqAt.shaped (.list []) = true := sh_list fun d hd => by cases hd
    have stlen : (staysOf (rows3 r man)).length ≤ 1000 := stays_len60 ok man
    have pair := stays_pair ok.nd man hh
    have stays : ∀ {H5 : Hp}, Xq M H' H5 → EX T M (tLc (iTup K (tCall (spC T cStays) [] E0 (tCons (tVar 0) (tCons (tVar 2) tNil)))) (gName 9) (tAnd (tTest (tOp (rI0 fun i j => .bl (decide (i ≤ j))) (tOp (rIxT K) (tVar 9) (tC (.int 0))) (tVar 3))) (tOr (tTest (tOp (fun x y H Q => y = .non ∧ Q (.bl (decide (x = .non))) H) (tOp (rIxT K) (tVar 9) (tC (.int 1))) (tC .non))) (tTest (tOp (rI0 fun i j => .bl (decide (i < j))) (tVar 3) (tOp (rIxT K) (tVar 9) (tC (.int 1))))))) (tVar 9) [9]) [some v, some u, some mn, some hv, some tv, some (.ref l), sx, none, none, none] H5 (· = .list (((staysOf (rows3 r man)).filter (has hh)).map dStay)) := fun {H5} x5 => by
      refine (ed_lcf (f := id) (bt := btHas hh) (ew_tup ((ed_call (ead (ed_var rfl (v4.mono x5)) (ead (ed_var rfl (m4.mono x5)) ea_nil)) ⟨r, man, rfl, ok, okm, rfl⟩).imp fun d e => ⟨_, e, rfl⟩)) (by rw [List.length_map]; exact stlen) (fun d hd => ?_) fun d y H6 hd x6 g6 hy => ?_).to (congrArg PyData.list (stays_filter hh _))
      · obtain ⟨s, _, rfl⟩ := List.mem_map.mp hd
        exact flat_stay s
      · obtain ⟨s, _, rfl⟩ := List.mem_map.mp hd
        have h6 := h4.mono (x5.trans x6)
        refine ⟨?_, fun _ => ed_var rfl hy⟩
        obtain ⟨sa, sb, sc, sd⟩ := s
        cases sb with
        | none => exact et_and (etd (ed_op (ed_op (ed_var rfl hy) ed_int (rd_ixT (d := .int sa) rfl)) (ed_var rfl h6) rd_B0)) fun _ => (et_or (b := false) (etd (ed_op (ed_op (ed_var rfl hy) ed_int (rd_ixT (d := .none) rfl)) ed_non rd_isN)) fun z => by cases z)
        | some sb => exact et_and (etd (ed_op (ed_op (ed_var rfl hy) ed_int (rd_ixT (d := .int sa) rfl)) (ed_var rfl h6) rd_B0)) fun _ => (et_or (etd (ed_op (ed_op (ed_var rfl hy) ed_int (rd_ixT (d := .int sb) rfl)) ed_non rd_isN)) fun z => etd (ed_op (ed_var rfl h6) (ed_op (ed_var rfl hy) ed_int (rd_ixT (d := .int sb) rfl)) rd_B0))
    cases ew : whereAt r man hh with
    | none =>
      rw [ew] at t4 pair
      have hF0 : Is M H' (.ref l) (.list []) := by
        rw [found_none (fun a e => by rw [ew] at e; cases e)] at hF
        exact hF
      have st0 : (staysOf (rows3 r man)).filter (has hh) = [] := List.map_eq_nil_iff.mp pair
      refine sq (if_two (et_or (b := false) (etd (ed_op (ed_var rfl t4) ed_non rd_isN)) fun z => by cases z) gM (fun _ => (etd (ed_op (ed_var rfl hF0) (ed_lst ea_nil (Nat.zero_le _)) (rd_neD sh0' sh0'))).to (by rw [eqv_nil] <;> rfl)) (fun z => by cases z) fun H5 x5 g5 => ?_)
      dsimp only
      refine sq (as_d (stays x5) g5 fun sv H6 d6 p6 x6 g6 hs6 => ?_)
      rw [st0] at p6
      subst p6
      dsimp only
      refine sq (if_d (etd (ed_op (ed_var rfl (t4.mono (x5.trans x6))) ed_non rd_isN)) g6 (fun _ H7 x7 g7 => ?_) fun z => by cases z)
      refine rt_d (ed_op (ed_var rfl (hs6.mono x7)) (ed_lst ea_nil (Nat.zero_le _)) (rd_eqD sh0' sh0')) g7 fun v2 H8 d8 p8 x8 g8 hv8 => q v2 H8 d8 ?_ ((((xo.trans x5).trans x6).trans x7).trans x8) g8 hv8
      rw [p8]
      exact congrArg PyData.bool (eqv_nil [])
    | some b =>
      obtain ⟨s0, k0, z0⟩ := b
      rw [ew] at t4 pair
      obtain ⟨row, hrow, hrm, hrs, hrk⟩ := whereAt_row ew
      have hs0 : s0 ∈ ships ∨ s0 = "" := by
        have := hshp row hrow
        rw [hrs] at this
        exact this
      have ks0 : sOk s0 := ship_ok (hs0.imp (oks.ok _) id)
      have kk0 : sOk k0 := nameB_ok (by have := (ok.rows row hrow).rank; rw [hrk] at this; exact this)
      have there0 : ∀ {H5 : Hp} {σ : L2.St} (e : σ[4]? = some (some tv)), Xq M H' H5 → EX T M (tOp (rIxT K) (tVar 4) (tC (.int 0))) σ H5 (· = .str s0) := fun e x5 => ed_op (ed_var e (t4.mono x5)) ed_int (rd_ixT rfl)
      have there1 : ∀ {H5 : Hp} {σ : L2.St} (e : σ[4]? = some (some tv)), Xq M H' H5 → EX T M (tOp (rIxT K) (tVar 4) (tC (.int 1))) σ H5 (· = .str k0) := fun e x5 => ed_op (ed_var e (t4.mono x5)) ed_int (rd_ixT rfl)
      have there2 : ∀ {H5 : Hp} {σ : L2.St} (e : σ[4]? = some (some tv)), Xq M H' H5 → EX T M (tOp (rIxT K) (tVar 4) (tC (.int 2))) σ H5 (· = .int z0) := fun e x5 => ed_op (ed_var e (t4.mono x5)) ed_int (rd_ixT rfl)
      refine sq (if_two (et_or (etd (ed_op (ed_var rfl t4) ed_non rd_isN)) fun _ => etd (ed_op (there0 rfl Xq.refl) ed_str rd_eqS)) gM (fun e => ?_) (fun e => ?_) fun H5 x5 g5 => ?_)
      · have e0 : s0 = "" := of_decide_eq_true (by rw [show isN (dAtO (some (s0, k0, z0))) = false from rfl, Bool.false_or] at e; exact e)
        have hF0 : Is M H' (.ref l) (.list []) := by
          rw [found_none (fun a e2 hm => by
            rw [ew] at e2
            cases e2
            have := (nameB_len (oks.ok _ hm)).1
            rw [e0] at this
            exact absurd (show 1 ≤ ("" : Str).length from this) (by decide +kernel))] at hF
          exact hF
        exact (etd (ed_op (ed_var rfl hF0) (ed_lst ea_nil (Nat.zero_le _)) (rd_neD sh0' sh0'))).to (by rw [eqv_nil] <;> rfl)
      · have e0 : ¬ s0 = "" := of_decide_eq_false (by rw [show isN (dAtO (some (s0, k0, z0))) = false from rfl, Bool.false_or] at e; exact e)
        have hin : s0 ∈ ships := hs0.resolve_right e0
        have hF1 : Is M H' (.ref l) (.list [.tuple [.str s0, .tuple [.str man, .str k0, .int z0]]]) := by
          rw [found_one ew hin oks.nd] at hF
          exact hF
        have shp : SeqAt.shaped (.list [.tuple [.str s0, .tuple [.str man, .str k0, .int z0]]]) = true := sh_list fun d hd => by
          rw [List.mem_singleton.mp hd]
          refine ⟨sh_2 (sh_s ks0) ?_, ?_⟩
          · exact sh_at (a := (man, k0, z0)) (nameB_ok okm) kk0
          · simp [PyData.depth, PyData.depthAll]
        refine (etd (ed_op (ed_var rfl hF1) (ed_lst (ead (ed_tup (ead (there0 rfl Xq.refl) (ead (ed_tup (ead (ed_var rfl m4) (ead (there1 rfl Xq.refl) (ead (there2 rfl Xq.refl) ea_nil))) (by show 3 ≤ 1000; decide)) ea_nil)) (by show 2 ≤ 1000; decide)) ea_nil) (by show 1 ≤ 1000; decide)) (rd_neD shp shp))).to ?_
        rw [PySem.SeqAt.eqv_refl _ (canLay_of shp)]
        rfl
      · dsimp only
        refine sq (as_d (stays x5) g5 fun sv H6 d6 p6 x6 g6 hs6 => ?_)
        subst p6
        dsimp only
        have x56 := x5.trans x6
        refine sq (if_d (etd (ed_op (ed_var rfl (t4.mono x56)) ed_non rd_isN)) g6 (fun z => by cases z) fun _ H7 x7 g7 => ?_)
        have x57 := x56.trans x7
        have shl : SeqAt.shaped (.list [.tuple [.str s0, .str k0]]) = true := sh_list fun d hd => by
          rw [List.mem_singleton.mp hd]
          exact ⟨sh_2 (sh_s ks0) (sh_s kk0), by simp [PyData.depth, PyData.depthAll]⟩
        have eoff : (((staysOf (rows3 r man)).filter (has hh)).map dStay).map fTwoOff = [.tuple [.str s0, .str k0]] := by
          rw [off_map, pair]
          rfl
        have hsince := whereAt_since ew
        refine rt_d (ed_andV (a := true) (b := true) ((ed_op ((ed_lcm (f := fTwoOff) (ew_list ((ed_var rfl (hs6.mono x7)).imp fun d e => ⟨_, e, rfl⟩)) ?_ ?_ ?_).to (congrArg PyData.list eoff)) (ed_lst (ead (ed_slT (lo := none) (hi := some 2) (ed_var rfl (t4.mono x57)) eo_none (eo_d ed_int)) ea_nil) (by show 1 ≤ 1000; decide)) (rd_eqD shl shl)).to (congrArg PyData.bool (PySem.SeqAt.eqv_refl _ (canLay_of shl)))) fun _ => (ed_op (there2 rfl x57) (ed_var rfl (h4.mono x57)) rd_B0).to (congrArg PyData.bool (decide_eq_true hsince))) g7 fun v2 H8 d8 p8 x8 g8 hv8 => q v2 H8 d8 p8 ((xo.trans x57).trans x8) g8 hv8
        · rw [List.length_map]
          exact Nat.le_trans (List.length_filter_le _ _) stlen
        · intro d hd
          obtain ⟨s, _, rfl⟩ := List.mem_map.mp hd
          rfl
        · intro d y H9 hd x9 g9 hy
          obtain ⟨s, _, rfl⟩ := List.mem_map.mp hd
          exact ed_slT (lo := some 2) (hi := none) (ed_var rfl hy) (eo_d ed_int) eo_none
end
end Rk
set_option Elab.async false
set_option linter.all false
set_option maxRecDepth 100000
/-! Pq: one row more -/
namespace Rk
open PySem PySem.Spec PyProof.Rows L2
abbrev sMore : Stmt := topS 33
theorem scMore : FnScope ["_law_pot_here", "_law_roll_here", "_law_men", "_law_hours_here", "_law_ships", "_law_ranks", "_law_man", "_law_hour", "_law_there", "_law_again", "_law_place", "_law_at", "_law_other", "_law_one", "_law_here", "_law_row"] ["_law_pot_here", "_law_roll_here", "_law_men", "_law_hours_here", "_law_ships", "_law_ranks"] (defScope sMore) := ⟨rfl, rfl, rfl, by decide +kernel, rfl, by decide +kernel, by decide +kernel⟩
def cMore (ds : List PyData) (R : DP) : Prop := ∃ (r : List Row) (men : List Str) (hs : List Int) (ships ranks : List Str), ds = [.dict [], dRoll r, .list (men.map PyData.str), .list (hs.map PyData.int), .list (ships.map PyData.str), .list (ranks.map PyData.str)] ∧ RollOk r ∧ r.length ≤ 59 ∧ NamesOk men ∧ men.length ≤ 6 ∧ HoursOk hs ∧ NamesOk ships ∧ ships.length ≤ 6 ∧ NamesOk ranks ∧ ranks.length ≤ 6 ∧ R = (· = .bool true)
def btKey (m : Str) (h : Int) : PyData → Bool
  | .tuple (.str a :: .int b :: _) => decide ((a, b) = (m, h))
  | _ => false
theorem eqv_si (a : Str) (b : Int) (c : Str) (d : Int) : PyData.eqv (.tuple [.str a, .int b]) (.tuple [.str c, .int d]) = decide ((a, b) = (c, d)) := by
  by_cases h1 : a = c
  · by_cases h2 : b = d
    · subst h1 h2
      simp [PyData.eqv, PyData.eqvAll]
    · simp [PyData.eqv, PyData.eqvAll, h1, h2]
  · simp [PyData.eqv, PyData.eqvAll, h1]
theorem key_filter (m : Str) (h : Int) (R : List Row) : ((R.map dRow).filter (btKey m h)).map id = (R.filter fun x => decide ((x.1, x.2.1) = (m, h))).map dRow := by
  rw [List.map_id, List.filter_map]
  rfl
theorem stays_str : ∀ (n : Nat) (l : List R3), l.length = n → (∀ x ∈ l, sOk x.2.1 ∧ sOk x.2.2) → ∀ s ∈ staysOf l, sOk s.2.2.1 ∧ sOk s.2.2.2
  | 0, l, h, _ => by
    rw [List.length_eq_zero_iff.mp h]
    intro s hs
    cases hs
  | n + 1, l, h, hx => by
    rcases List.eq_nil_or_concat l with rfl | ⟨m, x, rfl⟩
    · simp at h
    · rw [List.concat_eq_append] at h hx ⊢
      rw [List.length_append] at h
      have ih := stays_str n m (by simpa using h) fun y hy => hx y (List.mem_append_left _ hy)
      rw [staysOf_snoc]
      exact stay_ok (hx x (List.mem_append_right _ List.mem_cons_self)) ih
theorem rows3_str {r : List Row} (ok : RollOk r) (man : Str) : ∀ x ∈ rows3 r man, sOk x.2.1 ∧ sOk x.2.2 := fun x hx => by
  obtain ⟨y, hy, e⟩ := List.mem_map.mp ((rows3_perm r man).mem_iff.mp hx)
  have h1 := ok.rows y (List.mem_filter.mp hy).1
  rw [← e]
  exact ⟨ship_ok h1.ship, nameB_ok h1.rank⟩
theorem sh_stays {r : List Row} (ok : RollOk r) (man : Str) : SeqAt.shaped (.tuple ((staysOf (rows3 r man)).map dStay)) = true := sh_tup fun d hd => by
  obtain ⟨s, hs, rfl⟩ := List.mem_map.mp hd
  have h := stays_str _ _ rfl (rows3_str ok man) s hs
  exact sh_stay h.1 h.2
theorem there_ok {r : List Row} (ok : RollOk r) {man : Str} {h : Int} {a : At} (e : whereAt r man h = some a) : (nameB a.1 = true ∨ a.1 = "") ∧ nameB a.2.1 = true := by
  obtain ⟨row, hrow, hrm, hrs, hrk⟩ := whereAt_row e
  have := ok.rows row hrow
  rw [← hrs, ← hrk]
  exact ⟨this.ship, this.rank⟩
theorem sh_there {r : List Row} (ok : RollOk r) (man : Str) (h : Int) : SeqAt.shaped (dAtO (whereAt r man h)) = true := by
  cases e : whereAt r man h with
  | none => decide +kernel
  | some a =>
    have := there_ok ok e
    exact (sh_at (ship_ok this.1) (nameB_ok this.2)).1
section
variable {T : Tbs} {M : Ct} {σ : L2.St} {H : Hp} {D : Ends} {t : TT} {b : Bool} {te : TE} {P : DP} {i : Nat}
theorem if_asF {v0 : V} {d0 : PyData} (h : ET T M t σ H (· = b)) (g : Gd T M H) (h1 : b = true → EX T M te σ H P) (h0 : Is M H v0 d0) (p0 : b = false → P d0) (e : σ.set i (some v0) = σ) (k : ∀ v H2 d, P d → Xq M H H2 → Gd T M H2 → Is M H2 v d → D.nx (σ.set i (some v)) H2) : tIfS t (tAsg te (gName i)) tNext D σ H :=
  if_d h g (fun pt H2 x2 g2 => as_d ((h1 pt).mono x2) g2 fun v H3 d pd x3 g3 hv => k v H3 d pd (x2.trans x3) g3 hv) fun pf H2 x2 g2 => by
    have := k v0 H2 d0 (p0 pf) x2 g2 (h0.mono x2)
    rw [e] at this
    exact this
end
section
variable {P : Program} {w : World} {K : PySem.W.Frag} {mg : Str → Option Value} {base : Heap} {T : Tbs}
theorem go_more (tp : Top mg) (GT : Go P w K mg base T 1 "_law_take" cTake) (GW : Go P w K mg base T 6 "where_at" cWhere) (GS : Go P w K mg base T 6 "stays_of" cStays) (D : Df K mg "_law_row_more" sMore ["_law_pot_here", "_law_roll_here", "_law_men", "_law_hours_here", "_law_ships", "_law_ranks"]) : Go P w K mg base T 7 "_law_row_more" cMore := by
  refine go_mk (k := 6) D scMore (fun ds R h => by obtain ⟨m, a, b, c, d, rfl, _⟩ := h; rfl) fun f cdv A outer s H vs Q E M ds R hr g a c q => ?_
  obtain ⟨r, men, hs, ships, ranks, rfl, ok, rl, okm, ml, okh, oks, sl, okk, kl, rfl⟩ := c
  obtain ⟨v0, v1, v2, v3, v4, v5, rfl, i0, i1, i2, i3, i4, i5⟩ := a.a6
  refine ⟨_, pss_cons (ps_set (i := 6) scMore.nd rfl (.inr rfl) (pe_ix ix_list (pv 2) (pe_go GT hr (pa_cons (pv 0) (pa_cons (pe_callB call_len_seq (by rfl) tp.len bt_len (pa_cons (pv 2) pa_nil)) pa_nil))) (fun _ _ => rfl)))
    (pss_cons (ps_set (i := 7) scMore.nd rfl (.inr rfl) (pe_ix ix_list (pv 3) (pe_go GT hr (pa_cons (pv 0) (pa_cons (pe_callB call_len_seq (by rfl) tp.len bt_len (pa_cons (pv 3) pa_nil)) pa_nil))) (fun _ _ => rfl)))
    (pss_cons (ps_set (i := 8) scMore.nd rfl (.inl rfl) (pe_go GW hr (pa_cons (pv 1) (pa_cons (pv 6) (pa_cons (pv 7) pa_nil)))))
    (pss_cons (ps_set (i := 9) scMore.nd rfl (.inl rfl) (pe_cmpR op_eq (pe_go GT hr (pa_cons (pv 0) (pa_cons pe_int pa_nil))) pe_int (nomark _)))
    (pss_cons (ps_if (pw_or (pt_cmpR (op_neD hr.units) (pe_lc (own := [("_law_row", 15)]) (g := gName 15) (tt := tTest (tOp (rEqD K) (tSl (rSlA K) (tVar 15) tNoPart (tPart (tC (.int 2)))) (tTup (tCons (tVar 6) (tCons (tVar 7) tNil))))) (te := tVar 15) rfl scMore.nd (pi_tup (pv 1)) (blkOk_by (N := ["_law_pot_here", "_law_roll_here", "_law_men", "_law_hours_here", "_law_ships", "_law_ranks", "_law_man", "_law_hour", "_law_there", "_law_again", "_law_place", "_law_at", "_law_other", "_law_one", "_law_here", "_law_row"]) (sc := defScope sMore) (by decide +kernel)) (fun _ _ _ _ _ => pg_name (i := 15) scMore.nd rfl (Or.inl rfl))
        (fun _ _ _ _ _ => pts_one (pt_cmpR (op_eqD hr.units) (pe_slice sl_tupA (pv 15) po_none (po_some pe_int)) (pe_tup (pa_cons (pv 6) (pa_cons (pv 7) pa_nil))) (nomark _))) (fun _ _ _ _ _ => pv 15)) (pe_lst pa_nil) (nomark _))
      (pw_or1 (pw_and (pt_cmpR op_isN (pv 8) pe_non (nomark _)) (pw_and1 (pt_val (pv 9)))).pt)).pt (pss_one (ps_ret pe_bl)) pss_nil)
    (pss_cons (ps_set (i := 10) scMore.nd rfl (.inl rfl) (pe_tup (pa_cons (pe_ix ix_list (pv 4) (pe_go GT hr (pa_cons (pv 0) (pa_cons (pe_callB call_len_seq (by rfl) tp.len bt_len (pa_cons (pv 4) pa_nil)) pa_nil))) (fun _ _ => rfl)) (pa_cons (pe_ix ix_list (pv 5) (pe_go GT hr (pa_cons (pv 0) (pa_cons (pe_callB call_len_seq (by rfl) tp.len bt_len (pa_cons (pv 5) pa_nil)) pa_nil))) (fun _ _ => rfl)) pa_nil))))
    (pss_cons (ps_if (pt_val (pv 9)) (pss_one (ps_set (i := 10) scMore.nd rfl (.inl rfl) (pe_slice sl_tupA (pv 8) po_none (po_some pe_int)))) pss_nil)
    (pss_cons (ps_set (i := 11) scMore.nd rfl (.inl rfl) (pe_go GT hr (pa_cons (pv 0) (pa_cons (pe_op op_add (pe_callB call_len_seq (by rfl) tp.len bt_len (pa_cons (pv 1) pa_nil)) pe_int) pa_nil))))
    (pss_cons (ps_set (i := 12) scMore.nd rfl (.inl rfl) (pe_op op_catA (pe_op op_catA (pe_slice sl_tupA (pv 1) po_none (po_some (pv 11))) (pe_tup (pa_cons (pe_op op_catA (pe_tup (pa_cons (pv 6) (pa_cons (pv 7) pa_nil))) (pv 10)) pa_nil))) (pe_slice sl_tupA (pv 1) (po_some (pv 11)) po_none)))
    (pss_cons (ps_if (pw_and (pt_val (pv 9)) (pw_and1 (pt_cmpR (op_neD hr.units) (pe_go GS hr (pa_cons (pv 12) (pa_cons (pv 6) pa_nil))) (pe_go GS hr (pa_cons (pv 1) (pa_cons (pv 6) pa_nil))) (nomark _)))).pt (pss_one (ps_ret pe_bl)) pss_nil)
    (pss_cons (ps_for PassesOwn.never rfl (pi_list (pv 2)) (pg_name (i := 13) scMore.nd rfl (.inl rfl))
      (pss_one (ps_for PassesOwn.never rfl (pi_list (pv 3)) (pg_name (i := 14) scMore.nd rfl (.inl rfl))
        (pss_one (ps_if (pw_or (pt_cmpR op_ne (pv 13) (pv 6) (nomark _)) (pw_or (pt_cmpR op_lt (pv 14) (pv 7) (nomark _)) (pw_or1 (pt_val (pv 9))))).pt
          (pss_one (ps_if (pt_cmpR (op_neD hr.units) (pe_go GW hr (pa_cons (pv 12) (pa_cons (pv 13) (pa_cons (pv 14) pa_nil)))) (pe_go GW hr (pa_cons (pv 1) (pa_cons (pv 13) (pa_cons (pv 14) pa_nil)))) (nomark _)) (pss_one (ps_ret pe_bl)) pss_nil)) pss_nil)))))
    (pss_one (ps_ret (pe_cmpR (op_eqD hr.units) (pe_slice sl_tupA (pe_go GW hr (pa_cons (pv 12) (pa_cons (pv 6) (pa_cons (pv 7) pa_nil)))) po_none (po_some pe_int)) (pv 10) (nomark _)))))))))))))), ?_⟩
  have lenge : ∀ {zs : List PyData}, zs ≠ [] → (0 : Int) < (zs.length : Int) := fun h => by
    have := List.length_pos_iff.mpr h
    omega
  have nn : ∀ {zs : List Str}, zs ≠ [] → zs.map PyData.str ≠ [] := fun h e => h (List.map_eq_nil_iff.mp e)
  have strl : ∀ zs : List Str, (zs.map PyData.str).length = zs.length := fun zs => List.length_map _
  have hl2 := okh.len
  -- man
  refine sq (as_d (P := fun d => ∃ z : Str, d = .str z ∧ z ∈ men) (ex_from (ed_var rfl i2) (take_of 0 rfl i0 (lenge (nn okm.ne)) (by rw [strl]; omega) (ed_cb (ead (ed_var rfl i2) ea_nil) rc_lenL)) fun d hd => ?_) g fun v6 H1 d1 p1 x1 g1 i6 => ?_)
  · obtain ⟨z, hz, rfl⟩ := List.mem_map.mp hd
    exact ⟨z, rfl, hz⟩
  obtain ⟨man, rfl, hman⟩ := p1
  dsimp only
  -- hour
  refine sq (as_d (P := fun d => ∃ z : Int, d = .int z ∧ z ∈ hs) (ex_from (ed_var rfl (i3.mono x1)) (take_of 0 rfl (i0.mono x1) (lenge (fun e => okh.ne (List.map_eq_nil_iff.mp e))) (by rw [List.length_map]; omega) (ed_cb (ead (ed_var rfl (i3.mono x1)) ea_nil) rc_lenL)) fun d hd => ?_) g1 fun v7 H2 d2 p2 x2 g2 i7 => ?_)
  · obtain ⟨z, hz, rfl⟩ := List.mem_map.mp hd
    exact ⟨z, rfl, hz⟩
  obtain ⟨hh, rfl, hhm⟩ := p2
  have x12 := x1.trans x2
  have mok := okm.ok man hman
  have hok := okh.ok hh hhm
  dsimp only
  -- there
  refine sq (as_d (ed_call (ead (ed_var rfl (i1.mono x12)) (ead (ed_var rfl (i6.mono x2)) (ead (ed_var rfl i7) ea_nil))) ⟨r, man, hh, rfl, ok, mok, hok, rfl⟩) g2 fun v8 H3 d3 p3 x3 g3 i8 => ?_)
  subst p3
  have x13 := x12.trans x3
  dsimp only
  -- again
  refine sq (as_d (P := fun d => ∃ b : Bool, d = .bool b) (ex_op (Pb := fun _ d => d = .int 0) (take_of (m := 2) 0 rfl (i0.mono x13) (by decide) (by decide) ed_int) (fun _ _ => ed_int) ?_) g3 fun v9 H4 d4 p4 x4 g4 i9 => ?_)
  · rintro da db ⟨n, rfl, _⟩ rfl
    exact fun Ha xa ya ga hxa hya Qa qa => rd_eqI Ha xa ya ga hxa hya Qa fun va Hb da pa => qa va Hb da ⟨_, pa⟩
  obtain ⟨again', rfl⟩ := p4
  have x14 := x13.trans x4
  have j1 := i1.mono x14
  have j6 := i6.mono ((x2.trans x3).trans x4)
  have j7 := i7.mono (x3.trans x4)
  have j8 := i8.mono x4
  have shS : SeqAt.shaped (.list ((r.filter fun x => decide ((x.1, x.2.1) = (man, hh))).map dRow)) = true := sh_list fun d hd => by
    obtain ⟨x, hx, rfl⟩ := List.mem_map.mp hd
    have o := ok.rows x (List.mem_filter.mp hx).1
    exact sh_row (nameB_ok o.man) (ship_ok o.ship) (nameB_ok o.rank)
  have sh0' : SeqAt.shaped (.list []) = true := sh_list fun d hd => by cases hd
  have sm : SeqAt.shaped (.tuple [.str man, .int hh]) = true := sh_2 (sh_s (nameB_ok mok)) (sh_i hh)
  dsimp only
  refine sq (if_d (et_or (etd (ed_op ((ed_lcf (f := id) (bt := btKey man hh) (ew_tup ((ed_var rfl j1).imp fun d e => ⟨_, e, rfl⟩)) (by rw [List.length_map]; omega) (fun d hd => ?_) fun d y H5 hd x5 g5 hy => ?_).to (congrArg PyData.list (key_filter man hh r))) (ed_lst ea_nil (Nat.zero_le _)) (rd_neD shS sh0'))) fun _ => et_and (etd (ed_op (ed_var rfl j8) ed_non rd_isN)) fun _ => etdB (ed_var rfl i9)) g4 (fun _ H5 x5 g5 => rt_d ed_bl g5 fun w1 H6 d6 p6 x6 g6 h6 => q w1 H6 d6 p6 ((x14.trans x5).trans x6) g6 h6) fun hb H5 x5 g5 => ?_)
  · obtain ⟨x, _, rfl⟩ := List.mem_map.mp hd
    rfl
  · obtain ⟨x, hx, rfl⟩ := List.mem_map.mp hd
    have o := ok.rows x hx
    refine ⟨(etd (ed_op (ed_slT (lo := none) (hi := some 2) (ed_var rfl hy) eo_none (eo_d ed_int)) (ed_tup (ead (ed_var rfl (j6.mono x5)) (ead (ed_var rfl (j7.mono x5)) ea_nil)) (by show 2 ≤ 1000; decide)) (rd_eqD (sh_2 (sh_s (nameB_ok o.man)) (sh_i x.2.1)) sm))).to (eqv_si _ _ _ _), fun _ => ed_var rfl hy⟩
  rw [eqv_nil, Bool.or_eq_false_iff, Bool.not_eq_false', Bool.and_eq_false_iff] at hb
  have hno : ∀ x ∈ r, ¬ (x.1 = man ∧ x.2.1 = hh) := fun x hx e => by
    have h1 := List.isEmpty_iff.mp hb.1
    have h2 := List.map_eq_nil_iff.mp h1
    have h3 := List.filter_eq_nil_iff.mp h2 x hx
    exact h3 (decide_eq_true (by rw [e.1, e.2]))
  have x15 := x14.trans x5
  dsimp only
  -- place
  refine sq (as_d (P := fun d => ∃ a b : Str, d = .tuple [.str a, .str b] ∧ nameB a = true ∧ nameB b = true) ((ex_tup (p := fun ds => ∃ a b : Str, ds = [.str a, .str b] ∧ nameB a = true ∧ nameB b = true) ((ea_cons (Pa := fun d => ∃ z : Str, d = .str z ∧ nameB z = true) (ex_from (ed_var rfl (i4.mono x15)) (take_of 0 rfl (i0.mono x15) (lenge (nn oks.ne)) (by rw [strl]; omega) (ed_cb (ead (ed_var rfl (i4.mono x15)) ea_nil) rc_lenL)) fun d hd => ?_) fun _ _ => ea_cons (Pa := fun d => ∃ z : Str, d = .str z ∧ nameB z = true) (ex_from (ed_var rfl (i5.mono x15)) (take_of 0 rfl (i0.mono x15) (lenge (nn okk.ne)) (by rw [strl]; omega) (ed_cb (ead (ed_var rfl (i5.mono x15)) ea_nil) rc_lenL)) fun d hd => ?_) fun _ _ => ea_nil).imp ?_) ?_).imp ?_) g5 fun v10 H6 d6 p6 x6 g6 i10 => ?_)
  · obtain ⟨z, hz, rfl⟩ := List.mem_map.mp hd
    exact ⟨z, rfl, oks.ok z hz⟩
  · obtain ⟨z, hz, rfl⟩ := List.mem_map.mp hd
    exact ⟨z, rfl, okk.ok z hz⟩
  · rintro ds ⟨_, _, rfl, ⟨a, rfl, ha⟩, _, _, rfl, ⟨b, rfl, hb⟩, rfl⟩
    exact ⟨a, b, rfl, ha, hb⟩
  · rintro ds ⟨a, b, rfl, _⟩
    show 2 ≤ 1000
    decide
  · rintro d ⟨ds, rfl, a, b, rfl, ha, hb⟩
    exact ⟨a, b, rfl, ha, hb⟩
  have x16 := x15.trans x6
  have k8 := j8.mono (x5.trans x6)
  have k9 := i9.mono (x5.trans x6)
  dsimp only
  refine sq (if_asF (v0 := v10) (P := fun d => ∃ a b : Str, d = .tuple [.str a, .str b] ∧ (nameB a = true ∨ a = "") ∧ nameB b = true ∧ (again' = true → ∃ z, whereAt r man hh = some (a, b, z))) (etdB (ed_var rfl k9)) g6 (fun ea => ?_) i10 (fun ea => ?_) rfl fun v10 H7 d7 p7 x7 g7 i10 => ?_)
  · have hn : isN (dAtO (whereAt r man hh)) = false := hb.2.resolve_right (by rw [ea]; decide)
    cases ew : whereAt r man hh with
    | none => rw [ew] at hn; cases hn
    | some a0 =>
      obtain ⟨a, b, z⟩ := a0
      have k8' : Is M H6 v8 (dAtO (some (a, b, z))) := by rw [← ew]; exact k8
      have t := there_ok ok ew
      exact (ed_slT (lo := none) (hi := some 2) (ed_var rfl k8') eo_none (eo_d ed_int)).imp fun d e => ⟨a, b, e, t.1, t.2, fun _ => ⟨z, rfl⟩⟩
  · obtain ⟨a, b, e, ha, hb⟩ := p6
    exact ⟨a, b, e, .inl ha, hb, fun z => by rw [ea] at z; cases z⟩
  obtain ⟨pa, pb, rfl, hpa, hpb, hag⟩ := p7
  have x17 := x16.trans x7
  dsimp only
  -- at
  refine sq (as_d (take_of (m := ((r.map dRow).length : Int) + 1) 0 rfl (i0.mono x17) (by omega) (by rw [List.length_map]; omega) (ed_op (ed_cb (ead (ed_var rfl (i1.mono x17)) ea_nil) rc_lenT) ed_int rd_I0)) g7 fun v11 H8 d8 p8 x8 g8 i11 => ?_)
  obtain ⟨at0, rfl, ha0, ha1⟩ := p8
  obtain ⟨n, rfl⟩ := Int.eq_ofNat_of_zero_le ha0
  have x18 := x17.trans x8
  have l1 := i1.mono x18
  have l6 := j6.mono ((((x5.trans x6).trans x7)).trans x8)
  have l7 := j7.mono ((((x5.trans x6).trans x7)).trans x8)
  have l10 := i10.mono x8
  have hrow : RowOk (man, hh, pa, pb) := ⟨mok, hok, hpa, hpb⟩
  have cutA : cutD (r.map dRow) none (some (n : Int)) = (r.take n).map dRow := by rw [cutD_map, cutX_to]
  have cutB : cutD (r.map dRow) (some (n : Int)) none = (r.drop n).map dRow := by rw [cutD_map, cutX_from]
  have hR' : RollOk (r.take n ++ ((man, hh, pa, pb) :: r.drop n)) ∧ (r.take n ++ ((man, hh, pa, pb) :: r.drop n)).Perm ((man, hh, pa, pb) :: r) := by
    have pm : (r.take n ++ ((man, hh, pa, pb) :: r.drop n)).Perm ((man, hh, pa, pb) :: r) := by
      refine List.perm_middle.trans ?_
      rw [List.take_append_drop]
    refine ⟨⟨by rw [pm.length_eq, List.length_cons]; omega, fun x hx => ?_, keysNd_perm pm (keysNd_cons ok.nd hno)⟩, pm⟩
    rcases List.mem_cons.mp (pm.mem_iff.mp hx) with rfl | hx
    · exact hrow
    · exact ok.rows x hx
  obtain ⟨ok', pm⟩ := hR'
  have nd' : KeysNd ((man, hh, pa, pb) :: r) := keysNd_cons ok.nd hno
  have eroll : cutD (r.map dRow) none (some (n : Int)) ++ [dRow (man, hh, pa, pb)] ++ cutD (r.map dRow) (some (n : Int)) none = (r.take n ++ ((man, hh, pa, pb) :: r.drop n)).map dRow := by
    rw [cutA, cutB, List.map_append, List.map_cons, List.append_assoc]
    rfl
  have la : (cutD (r.map dRow) none (some (n : Int))).length ≤ 60 := by rw [cutA, List.length_map, List.length_take]; omega
  have lb : (cutD (r.map dRow) (some (n : Int)) none).length ≤ 60 := by rw [cutB, List.length_map, List.length_drop]; omega
  dsimp only
  refine sq (as_d ((ed_op (ed_op (ed_slT (ed_var rfl l1) eo_none (eo_d (ed_var rfl i11))) (ed_tup (ead (ed_op (ed_tup (ead (ed_var rfl l6) (ead (ed_var rfl l7) ea_nil)) (by show 2 ≤ 1000; decide)) (ed_var rfl l10) (rd_catT (by show 2 + 2 ≤ 1000; decide))) ea_nil) (by show 1 ≤ 1000; decide)) (rd_catT (by show _ + 1 ≤ 1000; omega))) (ed_slT (ed_var rfl l1) (eo_d (ed_var rfl i11)) eo_none) (rd_catT (by rw [List.length_append]; show _ + 1 + _ ≤ 1000; omega))).to (congrArg PyData.tuple eroll)) g8 fun v12 H9 d9 p9 x9 g9 i12 => ?_)
  subst p9
  have x19 := x18.trans x9
  have m1 := l1.mono x9
  have m2 := i2.mono x19
  have m3 := i3.mono x19
  have m6 := l6.mono x9
  have m7 := l7.mono x9
  have m9 := k9.mono ((x7.trans x8).trans x9)
  have m10 := l10.mono x9
  have i12' : Is M H9 v12 (dRoll (r.take n ++ ((man, hh, pa, pb) :: r.drop n))) := i12
  have same : ∀ one here, (one ≠ man ∨ here < hh ∨ again' = true) → whereAt (r.take n ++ ((man, hh, pa, pb) :: r.drop n)) one here = whereAt r one here := fun one here hc => by
    have e1 : whereAt (r.take n ++ ((man, hh, pa, pb) :: r.drop n)) one here = whereAt ((man, hh, pa, pb) :: r) one here := by
      unfold whereAt
      rw [rows3_congr pm nd' one]
    rw [e1]
    by_cases c : one = man
    · subst c
      rcases hc with h | h | h
      · exact absurd rfl h
      · exact whereAt_ahead nd' h
      · obtain ⟨z, ez⟩ := hag h
        exact (again nd' ez rfl).1 here
    · unfold whereAt
      rw [rows3_other (fun e => c e.symm)]
  have sameS : again' = true → staysOf (rows3 (r.take n ++ ((man, hh, pa, pb) :: r.drop n)) man) = staysOf (rows3 r man) := fun h => by
    rw [rows3_congr pm nd' man]
    obtain ⟨z, ez⟩ := hag h
    exact (again nd' ez rfl).2
  dsimp only
  refine sq (if_d (et_and (b := false) (etdB (ed_var rfl m9)) fun ea => (etd (ed_op (ed_call (ead (ed_var rfl i12') (ead (ed_var rfl m6) ea_nil)) ⟨_, man, rfl, ok', mok, rfl⟩) (ed_call (ead (ed_var rfl m1) (ead (ed_var rfl m6) ea_nil)) ⟨r, man, rfl, ok, mok, rfl⟩) (rd_neD (sh_stays ok' man) (sh_stays ok man)))).to (by rw [sameS ea, PySem.SeqAt.eqv_refl _ (canLay_of (sh_stays ok man))]; rfl)) g9 (fun z => by rw [Bool.and_false] at z; cases z) fun _ H10 x10 g10 => ?_)
  have x1a := x19.trans x10
  dsimp only
  refine sq (fo (ew_list ((ed_var rfl (m2.mono x10)).imp fun d e => ⟨_, e, rfl⟩)) g10
    (fun H11 ds i σ' H' => ∃ s13 s14, σ' = [some v0, some v1, some v2, some v3, some v4, some v5, some v6, some v7, some v8, some v9, some v10, some v11, some v12, s13, s14, none] ∧ Xq M H11 H' ∧ Xq M H10 H' ∧ Gd T M H') ?_ ?_ ?_ ?_)
  · rintro H11 ds rfl x11 g11
    exact ⟨_, _, rfl, .refl, x11, g11⟩
  · rintro H11 ds i σ' H' ⟨s13, s14, _, z, _⟩
    exact z
  · rintro H11 ds i d y σ' H' rfl hd ⟨s13, s14, rfl, x11, x0, g11⟩ hy
    obtain ⟨one, ho1, rfl⟩ := strs_at hd
    have ook := okm.ok one (List.mem_of_getElem? ho1)
    show tFor _ _ _ _ _ _
    refine fo (ew_list ((ed_var rfl (m3.mono (x10.trans x0))).imp fun d e => ⟨_, e, rfl⟩)) g11
      (fun H12 ds i σ2 H2' => ∃ s14, σ2 = [some v0, some v1, some v2, some v3, some v4, some v5, some v6, some v7, some v8, some v9, some v10, some v11, some v12, some y, s14, none] ∧ Xq M H12 H2' ∧ Xq M H' H2' ∧ Gd T M H2') ?_ ?_ ?_ ?_
    · rintro H12 ds rfl x12 g12
      exact ⟨_, rfl, .refl, x12, g12⟩
    · rintro H12 ds i σ' H' ⟨s14, _, z, _⟩
      exact z
    · rintro H12 ds i2' d y2 σ2 H2' rfl hd2 ⟨s14', rfl, x12, x02, g12⟩ hy2
      obtain ⟨here, hh1, rfl⟩ := map_at hd2
      have hok2 := okh.ok here (List.mem_of_getElem? hh1)
      have xx : Xq M H9 H2' := (x10.trans x0).trans x02
      have y2' := hy.mono x02
      show tIfS _ _ _ _ _ _
      refine if_d (et_or (etd (ed_op (ed_var rfl y2') (ed_var rfl (m6.mono xx)) rd_neS)) fun _ => et_or (etd (ed_op (ed_var rfl hy2) (ed_var rfl (m7.mono xx)) rd_B0)) fun _ => etdB (ed_var rfl (m9.mono xx))) g12 (fun hc H3' x3' g3' => ?_) fun hc H3' x3' g3' => ⟨_, rfl, x12.trans x3', x02.trans x3', g3'⟩
      have hc' : one ≠ man ∨ here < hh ∨ again' = true := by
        rw [Bool.or_eq_true, Bool.or_eq_true] at hc
        rcases hc with h | h | h
        · rw [Bool.not_eq_true'] at h
          exact .inl (of_decide_eq_false h)
        · exact .inr (.inl (of_decide_eq_true h))
        · exact .inr (.inr h)
      have xx3 := xx.trans x3'
      refine if_d ((etd (ed_op (ed_call (ead (ed_var rfl (i12'.mono xx3)) (ead (ed_var rfl (y2'.mono x3')) (ead (ed_var rfl (hy2.mono x3')) ea_nil))) ⟨_, one, here, rfl, ok', ook, hok2, rfl⟩) (ed_call (ead (ed_var rfl (m1.mono xx3)) (ead (ed_var rfl (y2'.mono x3')) (ead (ed_var rfl (hy2.mono x3')) ea_nil))) ⟨r, one, here, rfl, ok, ook, hok2, rfl⟩) (rd_neD (sh_there ok' one here) (sh_there ok one here)))).to (by rw [same one here hc', PySem.SeqAt.eqv_refl _ (canLay_of (sh_there ok one here))] <;> rfl)) g3' (fun z => by cases z) fun _ H4' x4' g4' => ⟨_, rfl, (x12.trans x3').trans x4', (x02.trans x3').trans x4', g4'⟩
    · rintro H12 ds σ2 H2' rfl ⟨s14', rfl, x12, x02, g12⟩
      exact ⟨_, _, rfl, x11.trans x02, x0.trans x02, g12⟩
  · rintro H11 ds σ' H' rfl ⟨s13, s14, rfl, x11, x0, g11⟩
    have xx := x10.trans x0
    obtain ⟨z, ez⟩ := whereAt_new nd'
    have ew : whereAt (r.take n ++ ((man, hh, pa, pb) :: r.drop n)) man hh = some (pa, pb, z) := by
      unfold whereAt at ez ⊢
      rw [rows3_congr pm nd' man]
      exact ez
    have sp : SeqAt.shaped (.tuple [.str pa, .str pb]) = true := sh_2 (sh_s (ship_ok hpa)) (sh_s (nameB_ok hpb))
    refine rt_d (ed_op (ed_slT (ds := [.str pa, .str pb, .int z]) (lo := none) (hi := some 2) ((ed_call (ead (ed_var rfl (i12'.mono xx)) (ead (ed_var rfl (m6.mono xx)) (ead (ed_var rfl (m7.mono xx)) ea_nil))) ⟨_, man, hh, rfl, ok', mok, hok, rfl⟩).to (by rw [ew] <;> rfl)) eo_none (eo_d ed_int)) (ed_var rfl (m10.mono xx)) (rd_eqD sp sp)) g11 fun v13 H12 d12 p12 x12' g12 hv12 => q v13 H12 d12 ?_ ((x1a.trans x0).trans x12') g12 hv12
    rw [p12]
    exact congrArg PyData.bool (PySem.SeqAt.eqv_refl _ (canLay_of sp))
end
end Rk
set_option Elab.async false
set_option linter.all false
set_option maxRecDepth 100000
set_option maxHeartbeats 4000000
/-! Pr: sorted over a tuple of data -/
namespace Rk
open PySem PySem.Spec PyProof.Rows L2
open PySem.W (EachIs dataLe AllAlike Sortable sortingHeap sortingHeap_old)
section
variable {P : Program} {w : World} {A : Around} {E : Value → Shared → Prop} {s : Shared} {β : Type} {R : Value → β → Prop} {enc : β → PyData} {bs : List β}
theorem sort_new {a : Addr} {n : Nat} {vs : List Value} {Q : Value → Shared → Prop} (ho : s.heap.get? a = some (seqObj "list" vs.toArray n)) (e : EachIs R vs bs) (er : EachIs (fun v b => ∃ as, Reads (sortingHeap s.heap a vs) v (enc b) as) vs bs) (hal : AllAlike (bs.map enc)) (hk : Sortable (bs.map enc)) (hL : bs.length ≤ sizeLine)
    (hu : ∀ b, b ∈ bs → A.units + 1 + (enc b).depth < cLine) (h : ∀ out, out.length = bs.length → EachIs R out (bs.mergeSort (dataLe false enc)) → Q .none { s with heap := sortedHeap s.heap a vs (List.toArray out) }) :
    wpAny (model P w) A (PySem.call (.builtin "list.sort") [.ref a]) Q E s := by
  refine wpAny_call_entry PyProof.Rows.slot_list_sort ⟨_, ho, rfl⟩ PyProof.Rows.entry_list_sort (PySem.W.list_sort_vals (κ := PySem.W.dataKind (sortingHeap s.heap a vs) (bs.map enc)) ho (PySem.W.SortsAt.data (s := { s with heap := sortingHeap s.heap a vs }) (PySem.W.each_map (R := fun v d => ∃ as, Reads (sortingHeap s.heap a vs) v d as) enc er) hal hk (PySem.W.bound_map hu)) (by rw [e.length]; exact hL) ⟨.none, rfl, ?_⟩) (PyProof.Rows.args_list_sort _)
  exact h _ (by rw [PySem.W.sortVals_length false rfl]; exact e.length) (PySem.W.sortVals_data false e er hal)
theorem sorted_tup {a : Addr} {o : Obj} {items : Array Value} {n : Nat} {Q : Value → Shared → Prop} (ho : s.heap.get? a = some o) (hc : o.cls = .type "tuple") (hd : o.data = .seq items n) (hsz : items.size ≤ 1000) (e : EachIs R items.toList bs) (er : EachIs (fun v b => ∃ as, Reads s.heap v (enc b) as) items.toList bs) (hal : AllAlike (bs.map enc)) (hk : Sortable (bs.map enc))
    (hu : ∀ b, b ∈ bs → A.units + 16 + (enc b).depth < cLine)
    (hQ : ∀ (h1 h' : Heap) (p : Addr) (out : List Value) (c : Nat), (∀ b u, s.heap.get? b = some u → h1.get? b = some u) → (∀ b u, h1.get? b = some u → h'.get? b = some u) → h1.objs.size ≤ p → h'.get? p = some (seqObj "list" out.toArray c) → EachIs R out (bs.mergeSort (dataLe false enc)) → Q (.ref p) { s with heap := h' }) :
    wpAny (model P w) A (PySem.call (.builtin "sorted") [.ref a]) Q E s := by
  refine Calls.call_function_entry kind_sorted plain_sorted entry_sorted (args_sorted1 _) ?_
  unfold Builtin.«sorted»
  refine wpAny_bind (m := checkCount "sorted" 1 1 _) (wpAny_pure ?_)
  have hbl : items.toList.length = bs.length := e.length
  have hbz : bs.length ≤ 1000 := by rw [← hbl, Array.length_toList]; exact hsz
  refine wpAny_bind (wpAny_collect_seq (A := A.in1) a (.inr rfl) ho hc hd (fun h1 k1 => ?_) (Nat.le_of_lt (small1000 hsz)))
  refine wpAny_bind (wpAny_newList ?_ (by rw [hbl]; exact Nat.le_of_lt (small1000 hbz)))
  have hoL : (h1.push (seqObj "list" items.toList.toArray 0)).get? h1.objs.size = some (seqObj "list" items.toList.toArray 0) := Heap.get?_push_size _ rfl
  have k2 : ∀ b u, s.heap.get? b = some u → (sortingHeap (h1.push (seqObj "list" items.toList.toArray 0)) h1.objs.size items.toList).get? b = some u := fun b u q => by
    have q1 := k1 b u q
    have hlt := Heap.lt_size q1
    rw [sortingHeap_old (Nat.ne_of_lt hlt) (by exact Heap.get?_push_of_some _ q1)]
  have er2 : EachIs (fun v b => ∃ as, Reads (sortingHeap (h1.push (seqObj "list" items.toList.toArray 0)) h1.objs.size items.toList) v (enc b) as) items.toList bs := er.mono fun _ _ ⟨as, r⟩ => ⟨as, PyProof.Rows.Reads.keeps k2 r⟩
  refine wpAny_bind (wpAny_holding (sort_new (s := { s with heap := h1.push (seqObj "list" items.toList.toArray 0) }) (R := R) (enc := enc) hoL e er2 hal hk (Nat.le_of_lt (small1000 hbz)) (fun b hb => ?_) fun out hol ho' => ?_))
  · have := hu b hb
    simp only [Around.in1]
    omega
  · obtain ⟨c, hc'⟩ := sortedHeap_at (vs := items.toList) (out := out.toArray) hoL
    refine wpAny_pure ⟨_, rfl, hQ h1 _ h1.objs.size out c k1 (fun b u q1 => ?_) (Nat.le_refl _) hc' ho'⟩
    have hlt := Heap.lt_size q1
    show (sortedHeap (h1.push (seqObj "list" items.toList.toArray 0)) h1.objs.size items.toList out.toArray).get? b = some u
    rw [sortedHeap_old (Nat.ne_of_lt hlt) (by rw [size_push']; exact Nat.lt_succ_of_lt hlt)]
    exact Heap.get?_push_of_some _ q1
end
section
variable {X : Cx} {pins : List (Addr × Obj)} {σ : L2.St} {H : Hp} {s : Shared}
def rSortT' : List V → Hp → VK → Prop := fun vs H Q => ∃ (a : Addr) (xs : List V) (ds : List PyData) (C : Ct), vs = [.ref a] ∧ H a = some (.tup xs) ∧ IsA C H xs ds ∧ SortOk ds ∧ ∀ p ys, H p = none → IsA C H ys (dsort ds) → Q (.ref p) (upd H p (.lst ys))
theorem cr_sortT' (hu : X.A.units + 64 < cLine) : CallR X (.builtin "sorted") rSortT' := by
  intro pins s σ H vs us Q I r h
  obtain ⟨a, xs, ds, C, rfl, ha, hds, ok, q⟩ := h
  obtain rfl := Vals.ref1 r
  obtain ⟨hz, its, rv, o, ho, hc, n, hd⟩ := (show ObjOk X.prog X.w H s.heap a (.tup xs) from I.hok a _ ha)
  have hlen := hds.length
  have e1 := each_rel rv hlen
  have e2 := each_reads I hds rv fun d hd => (ok.sh d hd).1
  have hzl : (xs.zip ds).length = ds.length := by rw [List.length_zip, hlen, Nat.min_self]
  have em : (xs.zip ds).map (fun p : V × PyData => p.2) = ds := zip_snd hlen
  have hits : its.length = ds.length := by rw [← rv.length, hlen]
  refine sorted_tup (items := its.toArray) (R := fun u (p : V × PyData) => RelV p.1 u) (enc := fun p : V × PyData => p.2) ho hc hd (by rw [List.size_toArray, hits]; exact ok.ln) e1 e2 (by rw [em]; exact ok.al) (by rw [em]; exact ok.so) (fun p hp => ?_) fun h1 h' pp out c k1 k2 hpp hgp ho' => ?_
  · have := (ok.sh p.2 (List.of_mem_zip hp).2).2
    omega
  · have pm : ((xs.zip ds).mergeSort (dataLe false (·.2))).Perm (xs.zip ds) := List.mergeSort_perm _ _
    have hI : IsA C H (((xs.zip ds).mergeSort (dataLe false (·.2))).map (·.1)) (dsort ds) := by
      rw [← zip_sorted hlen]
      exact IsA.of_mem fun p hp => hds.mem p (pm.mem_iff.mp hp)
    have hll : (((xs.zip ds).mergeSort (dataLe false (·.2))).map (·.1)).length ≤ sizeLine := by
      rw [List.length_map, pm.length_eq, hzl]
      exact Nat.le_of_lt (small1000 ok.ln)
    have I1 : Inv X pins σ H { s with heap := h1 } := I.kept (t' := s.toks) k1
    exact ⟨.ref pp, upd H pp (.lst (((xs.zip ds).mergeSort (dataLe false (·.2))).map (·.1))), I1.laid (t' := s.toks) k2 hpp ⟨hll, out, c, vals_each ho', hgp⟩, rfl, q _ _ (I1.hok.fresh hpp) hI⟩
end
section
variable {T : Tbs} {M : Ct}
theorem rc_sortT' {ds : List PyData} (ok : SortOk ds) : RC T M rSortT' [.tuple ds] (· = .list (dsort ds)) := fun H vs g h Q q => by
  cases h with
  | cons h1 h2 =>
    cases h2
    cases h1 with
    | tup ha hs => exact ⟨_, _, ds, M, rfl, ha, hs, ok, fun p ys np hy => q _ _ _ rfl (Xq.new np) (g.new np) (.lst (g.fresh np) upd_same (hy.mono (Xq.new np)))⟩
end
end Rk
set_option Elab.async false
set_option linter.all false
set_option maxRecDepth 100000
/-! Ps: the law -/
namespace Rk
open PySem PySem.Spec PyProof.Rows L2
abbrev sLaw : Stmt := topS 35
theorem scLaw : FnScope ["_law_script", "_law_k", "_law_pot_here", "_law_roll_here", "_law_men", "_law_ships", "_law_ranks", "_law_hours_here", "_law_some", "_law_man", "_law_hour", "_law_names_here", "_law_other", "_law_ship", "_law_due", "_law_at", "_law_one"] ["_law_script"] (defScope sLaw) := ⟨rfl, rfl, rfl, by decide +kernel, rfl, by decide +kernel, by decide +kernel⟩
def spLaw (K : PySem.W.Frag) (T : Tbs) : Sp := fun vs H Q _ => ∃ (a : Addr) (ns : List Int), vs = [.ref a] ∧ SqL K H a (ns.map V.int) ∧ ns.length ≤ 63 ∧ Gd T E0c H ∧ ∀ H', Q (.bl true) H'
/-! names given anew -/
def nmS (j : Nat) : Str := ("qqqqqq" : Str) ++ (⟨#[97 + j]⟩ : Str)
def newNames (n : Nat) : List Str := (List.range n).map fun k => nmS (n - 1 - k)
theorem nmS_ok : ∀ j, j < 6 → nameB (nmS j) = true := by decide +kernel
theorem nmS_inj : ∀ j, j < 6 → ∀ k, k < 6 → nmS j = nmS k → j = k := by decide +kernel
theorem abc_at : ∀ j, j < 6 → ("abcdef" : Str).cps.toList[j]? = some (97 + j) := by decide +kernel
theorem newNames_len (n : Nat) : (newNames n).length = n := by unfold newNames; rw [List.length_map, List.length_range]
theorem newNames_ok {n : Nat} (h : n ≤ 6) : ∀ z ∈ newNames n, nameB z = true := fun z hz => by
  unfold newNames at hz
  obtain ⟨k, hk, rfl⟩ := List.mem_map.mp hz
  rw [List.mem_range] at hk
  exact nmS_ok _ (by omega)
theorem newNames_get {n k : Nat} (hk : k < n) : (newNames n).getD k "" = nmS (n - 1 - k) := by
  unfold newNames
  rw [List.getD_eq_getElem?_getD, List.getElem?_map, List.getElem?_range hk]
  rfl
theorem nm_mem {men : List Str} {z : Str} (hz : z ∈ men) : ∃ k, k < men.length ∧ men[k]? = some z ∧ nmOf men (newNames men.length) z = nmS (men.length - 1 - k) := by
  have hj := List.idxOf_lt_length_of_mem hz
  refine ⟨men.idxOf z, hj, by rw [List.getElem?_eq_getElem hj, List.getElem_idxOf], ?_⟩
  unfold nmOf
  exact newNames_get hj
theorem nm_inj {men : List Str} (h6 : men.length ≤ 6) {x y : Str} (hx : x ∈ men) (hy : y ∈ men) (e : nmOf men (newNames men.length) x = nmOf men (newNames men.length) y) : x = y := by
  obtain ⟨k, k1, k2, k3⟩ := nm_mem hx
  obtain ⟨j, j1, j2, j3⟩ := nm_mem hy
  rw [k3, j3] at e
  have := nmS_inj _ (by omega) _ (by omega) e
  have e2 : k = j := by omega
  rw [e2, j2] at k2
  exact (Option.some.inj k2).symm
theorem nm_ok {men : List Str} (h6 : men.length ≤ 6) {x : Str} (hx : x ∈ men) : nameB (nmOf men (newNames men.length) x) = true := by
  obtain ⟨k, k1, k2, k3⟩ := nm_mem hx
  rw [k3]
  exact nmS_ok _ (by omega)
theorem roll_call {men : List Str} (h6 : men.length ≤ 6) {R : List Row} (ok : RollOk R) (hm : ∀ r ∈ R, r.1 ∈ men) : RollOk (call (nmOf men (newNames men.length)) R) := by
  refine ⟨?_, fun x hx => ?_, keysNd_call (fun r hr q hq e => nm_inj h6 (hm r hr) (hm q hq) e) ok.nd⟩
  · unfold call
    rw [List.length_map]
    exact ok.len
  · unfold call at hx
    obtain ⟨r, hr, rfl⟩ := List.mem_map.mp hx
    have o := ok.rows r hr
    exact ⟨nm_ok h6 (hm r hr), o.hour, o.ship, o.rank⟩
theorem crew_ok {R : List Row} (ok : RollOk R) {sh : Str} {h : Int} {es : List At} (C : CrewIs R sh h es) : ∀ a ∈ es, (∃ r ∈ R, r.1 = a.1) ∧ nameB a.1 = true ∧ nameB a.2.1 = true := fun a ha => by
  obtain ⟨men, nd, hm, p⟩ := C
  obtain ⟨m, hm1, e⟩ := List.mem_filterMap.mp (p.mem_iff.mp ha)
  have em := aboard_man e
  have hr := (hm m).mp hm1
  obtain ⟨r, hr1, hr2⟩ := hr
  refine ⟨⟨r, hr1, by rw [em, hr2]⟩, by rw [em, ← hr2]; exact (ok.rows r hr1).man, ?_⟩
  unfold aboard at e
  cases ew : whereAt R m h with
  | none => rw [ew] at e; cases e
  | some b =>
    rw [ew] at e
    dsimp only at e
    by_cases c : b.1 = sh
    · rw [if_pos c] at e
      cases e
      exact (there_ok ok ew).2
    · rw [if_neg c] at e
      cases e
theorem crew_map (f : Str → Str) (es : List At) : (es.map dAt).map (fCall f) = (es.map fun a => (f a.1, a.2)).map dAt := by
  rw [List.map_map, List.map_map]
  rfl
theorem sh_dsort {es : List At} (h : ∀ a ∈ es, sOk a.1 ∧ sOk a.2.1) : SeqAt.shaped (.list (dsort (es.map dAt))) = true := sh_list fun d hd => by
  have pm : (dsort (es.map dAt)).Perm (es.map dAt) := List.mergeSort_perm _ _
  obtain ⟨a, ha, rfl⟩ := List.mem_map.mp (pm.mem_iff.mp hd)
  exact sh_at (h a ha).1 (h a ha).2
theorem ints_at {n i : Nat} {d : PyData} (h : (intsTo n)[i]? = some d) : d = .int (i : Int) ∧ i < n := by
  have hl := (List.getElem?_eq_some_iff.mp h).1
  rw [ints_len] at hl
  unfold intsTo at h
  obtain ⟨k, hr, rfl⟩ := map_at h
  obtain ⟨h3, h4⟩ := List.getElem?_eq_some_iff.mp hr
  rw [List.getElem_range] at h4
  exact ⟨by rw [h4], hl⟩
theorem cutX_mem {α : Type} {xs : List α} {lo hi : Option Int} {z : α} (h : z ∈ cutX xs lo hi) : z ∈ xs := List.mem_of_mem_drop (List.mem_of_mem_take h)
section
variable {T : Tbs} {M : Ct} {K : PySem.W.Frag} {σ : L2.St} {H : Hp} {D : Ends} {te tb : TE} {P : DP}
theorem gt4 {v : V} {d1 d2 d3 d4 : PyData} {i j k l : Nat} {Q : L2.St → Hp → Prop} (h : Is M H v (.tuple [d1, d2, d3, d4])) (q : ∀ a b c e, Is M H a d1 → Is M H b d2 → Is M H c d3 → Is M H e d4 → Q ((((σ.set i (some a)).set j (some b)).set k (some c)).set l (some e)) H) :
    gTup K 4 (gCons (gName i) (gCons (gName j) (gCons (gName k) (gCons (gName l) gNil)))) v σ H Q := by
  cases h with
  | tup ha hs =>
    obtain ⟨a, b, c, e, rfl, h1, h2, h3, h4⟩ := hs.a4
    exact ⟨_, _, rfl, SqT.of ha, rfl, _, _, rfl, _, _, rfl, _, _, rfl, _, _, rfl, rfl, q a b c e h1 h2 h3 h4⟩
theorem asg_d {gt : TG} (h : EX T M te σ H P) (g : Gd T M H) (k : ∀ v H2 d, P d → Xq M H H2 → Gd T M H2 → Is M H2 v d → gt v σ H2 D.nx) : tAsg te gt D σ H := h H Xq.refl g _ k
theorem ex_slLn {tl th : TO} {q : List PyData → Prop} {Pl Ph : Option Int → Prop} (h : EX T M te σ H (fun d => ∃ ds, d = .list ds ∧ q ds)) (h1 : ∀ ds, q ds → EO T M tl σ H Pl) (h2 : ∀ ds, q ds → EO T M th σ H Ph) : EX T M (tSl (rSlL K) te tl th) σ H (fun d => ∃ ds lo hi, d = .list (cutD ds lo hi) ∧ q ds ∧ Pl lo ∧ Ph hi) := fun H1 x g Q k =>
  h H1 x g _ fun v H2 d pd x2 g2 vd => by
    obtain ⟨ds, rfl, qd⟩ := pd
    exact ex_slL (te := fun _ H Q => Q v H) (ds := ds) (Pl := Pl) (Ph := Ph) (fun H3 x3 g3 Q3 q3 => q3 v H3 _ rfl Xq.refl g3 (vd.mono x3)) (fun H3 x3 g3 Q3 q3 => h1 ds qd H3 (((x.trans x2).trans x3)) g3 Q3 q3) (fun H3 x3 g3 Q3 q3 => h2 ds qd H3 (((x.trans x2).trans x3)) g3 Q3 q3) H2 Xq.refl g2 Q fun z H4 e pe x4 g4 ze => by
      obtain ⟨lo, hi, e1, e2, e3⟩ := pe
      exact k z H4 e ⟨ds, lo, hi, e1, qd, e2, e3⟩ (x2.trans x4) g4 ze
/-- [a, b][int(k == 0)] -/
theorem ed_two {i : Int} {a b : Int} (e : σ[1]? = some (some (.int i))) : EX T M (tOp (rIxL K) (tLst (tCons (tC (.int a)) (tCons (tC (.int b)) tNil))) (tCB (fun xs H Q => (∃ i, xs = [.int i] ∧ Q (.int i) H) ∨ ∃ k, xs = [.bl k] ∧ Q (.int (if k then 1 else 0)) H) (tCons (tOp rEq (tVar 1) (tC (.int 0))) tNil))) σ H (· = .int (if i = 0 then b else a)) := by
  refine ed_op (ed_lst (ead ed_int (ead ed_int ea_nil)) (by show 2 ≤ 1000; decide)) (ed_cb (ead (ed_op (ed_var e (.int i)) ed_int rd_eqI) ea_nil) rc_intB) (rd_ixL ?_)
  by_cases c : i = 0
  · rw [if_pos c, decide_eq_true c]
    rfl
  · rw [if_neg c, decide_eq_false c]
    rfl
theorem EW.imp {wi : TI} {p p' : List PyData → Prop} (h : EW T M wi σ H p) (i : ∀ ds, p ds → p' ds) : EW T M wi σ H p' := fun H1 x g R q => h H1 x g R fun J H2 ds pd => q J H2 ds (i ds pd)
theorem pot_out {p : Addr} {o : HO} {H2 : Hp} {C : Ct} (hC : C.m = [p]) (np : H p = none) (x : Xq C (upd H p o) H2) : Xq E0c H H2 := ⟨fun b u e _ t => x.keep b u (by rw [upd_ne (ne_of_none e np)]; exact e) (by rw [hC]; intro z; rw [List.mem_singleton.mp z, np] at e; cases e) t, fun b xs e => x.tup b xs (by rw [upd_ne (ne_of_none e np)]; exact e), fun q hq => by cases hq⟩
end
end Rk
set_option Elab.async false
set_option linter.all false
set_option maxRecDepth 100000
/-! Pt: the law's body -/
namespace Rk
open PySem PySem.Spec PyProof.Rows L2
section
variable {P : Program} {w : World} {K : PySem.W.Frag} {mg : Str → Option Value} {base : Heap} {T : Tbs}
theorem law_spec (tp : Top mg) {fP : Addr} {fdP : FuncData} (FP : FnOk P w K mg base CX0 1 fP fdP ["_law_script", "_law_k"] (spPot K T)) (mP : mg "_law_pot" = some (.ref fP)) (kP : PySem.W.keepIn K (.ref fP) = true) (bP : Binds K fdP ["_law_script", "_law_k"] [])
    (GT : Go P w K mg base T 1 "_law_take" cTake) (GR : Go P w K mg base T 4 "_law_roll" cDRoll) (GH : Go P w K mg base T 2 "_law_hours" cDHours) (GO : Go P w K mg base T 7 "_law_one_right" cOne) (GM : Go P w K mg base T 7 "_law_row_more" cMore) (GA : Go P w K mg base T 1 "_law_called" cCalled) (GC : Go P w K mg base T 6 "crew_at" cCrew)
    {f : Addr} {fd : FuncData} (F : Fun K "law" "law" sLaw f fd) : FnOk P w K mg base CX0 8 f fd ["_law_script"] (spLaw K T) := by
  refine F.ok scLaw (fun vs H Q E h => by obtain ⟨a, ns, rfl, _⟩ := h; rfl) fun cdv A outer s H vs Q E hr h => ?_
  obtain ⟨a, ns, rfl, hS, hlen, g, q⟩ := h
  refine ⟨_, pss_cons (ps_for PassesOwn.never rfl (pi_range1 (by rfl) tp.range (pa_cons (pe_callB (call_max2 rfl) (by rfl) tp.max bt_max (pa_cons pe_int (pa_cons (pe_callB (call_min2 rfl) (by rfl) tp.min bt_min (pa_cons pe_int (pa_cons (pe_callB call_len_seq (by rfl) tp.len bt_len (pa_cons (pv 0) pa_nil)) pa_nil))) pa_nil))) pa_nil)) (pg_name (i := 1) scLaw.nd rfl (.inl rfl))
      (pss_cons (ps_set (i := 2) scLaw.nd rfl (.inl rfl) (pe_call FP (hr.mono (by decide)) (by rfl) mP kP bP .nil pass0 (pa_cons (pv 0) (pa_cons (pv 1) pa_nil))))
      (pss_cons (ps_asg (pe_go GR hr (pa_cons (pv 2) (pa_cons (pe_ix ix_list (pe_lst (pa_cons pe_int (pa_cons pe_int pa_nil))) (pe_callTy call_int1 (by rfl) tp.int bt_int (pa_cons (pe_cmpR op_eq (pv 1) pe_int (nomark _)) pa_nil)) (fun _ _ => rfl)) pa_nil))) (pg_tup rfl (pgs_cons (pg_name (i := 3) scLaw.nd rfl (.inl rfl)) (pgs_cons (pg_name (i := 4) scLaw.nd rfl (.inr rfl)) (pgs_cons (pg_name (i := 5) scLaw.nd rfl (.inl rfl)) (pgs_cons (pg_name (i := 6) scLaw.nd rfl (.inl rfl)) pgs_nil))))))
      (pss_cons (ps_set (i := 7) scLaw.nd rfl (.inl rfl) (pe_go GH hr (pa_cons (pv 2) (pa_cons (pv 3) pa_nil))))
      (pss_cons (ps_set (i := 8) scLaw.nd rfl (.inl rfl) (pe_slice sl_list (pe_slice sl_list (pv 7) (po_some (pe_go GT hr (pa_cons (pv 2) (pa_cons (pe_callB call_len_seq (by rfl) tp.len bt_len (pa_cons (pv 7) pa_nil)) pa_nil)))) po_none) po_none (po_some (pe_ix ix_list (pe_lst (pa_cons pe_int (pa_cons pe_int pa_nil))) (pe_callTy call_int1 (by rfl) tp.int bt_int (pa_cons (pe_cmpR op_eq (pv 1) pe_int (nomark _)) pa_nil)) (fun _ _ => rfl)))))
      (pss_cons (ps_for PassesOwn.never rfl (pi_list (pe_slice sl_list (pv 4) po_none (po_some (pe_ix ix_list (pe_lst (pa_cons pe_int (pa_cons pe_int pa_nil))) (pe_callTy call_int1 (by rfl) tp.int bt_int (pa_cons (pe_cmpR op_eq (pv 1) pe_int (nomark _)) pa_nil)) (fun _ _ => rfl))))) (pg_name (i := 9) scLaw.nd rfl (.inl rfl))
        (pss_one (ps_for PassesOwn.never rfl (pi_list (pv 8)) (pg_name (i := 10) scLaw.nd rfl (.inl rfl))
          (pss_one (ps_if (pt_not (pt_val (pe_go GO hr (pa_cons (pv 3) (pa_cons (pv 5) (pa_cons (pv 9) (pa_cons (pv 10) pa_nil))))))) (pss_one (ps_ret pe_bl)) pss_nil)))))
      (pss_cons (ps_if (pt_not (pt_val (pe_go GM hr (pa_cons (pv 2) (pa_cons (pv 3) (pa_cons (pv 4) (pa_cons (pv 8) (pa_cons (pv 5) (pa_cons (pv 6) pa_nil))))))))) (pss_one (ps_ret pe_bl)) pss_nil)
      (pss_cons (ps_set (i := 11) scLaw.nd rfl (.inr rfl) (pe_lc (own := [("_law_at", 15)]) (g := gName 15) (tt := tYes) (te := tOp (fun x y H Q => ∃ i j, x = .str i ∧ y = .str j ∧ i.length + j.length ≤ sizeLine ∧ Q (.str (i ++ j)) H) (tC (.str "qqqqqq")) (tOp rIxS (tC (.str "abcdef")) (tOp (rI0 fun i j => .int (i - j)) (tOp (rI0 fun i j => .int (i - j)) (tCB (fun xs H Q => ∃ p ys, xs = [.ref p] ∧ (SqL K H p ys ∨ SqT K H p ys) ∧ Q (.int ys.length) H) (tCons (tVar 4) tNil)) (tC (.int 1))) (tVar 15)))) rfl scLaw.nd (pi_range1 (by rfl) tp.range (pa_cons (pe_callB call_len_seq (by rfl) tp.len bt_len (pa_cons (pv 4) pa_nil)) pa_nil)) (blkOk_by (N := ["_law_script", "_law_k", "_law_pot_here", "_law_roll_here", "_law_men", "_law_ships", "_law_ranks", "_law_hours_here", "_law_some", "_law_man", "_law_hour", "_law_names_here", "_law_other", "_law_ship", "_law_due", "_law_at", "_law_one"]) (sc := defScope sLaw) (by decide +kernel)) (fun _ _ _ _ _ => pg_name (i := 15) scLaw.nd rfl (Or.inl rfl)) (fun _ _ _ _ _ => pts_nil)
        (fun _ _ _ _ _ => pe_op op_add_str pe_str (pe_ix ix_str pe_str (pe_op op_sub (pe_op op_sub (pe_callB call_len_seq (by rfl) tp.len bt_len (pa_cons (pv 4) pa_nil)) pe_int) (pv 15)) (fun _ _ => rfl)))))
      (pss_cons (ps_set (i := 12) scLaw.nd rfl (.inl rfl) (pe_go GA hr (pa_cons (pv 3) (pa_cons (pv 4) (pa_cons (pv 11) pa_nil)))))
      (pss_one (ps_for PassesOwn.never rfl (pi_list (pe_slice sl_list (pv 8) po_none (po_some pe_int))) (pg_name (i := 10) scLaw.nd rfl (.inl rfl))
        (pss_one (ps_for PassesOwn.never rfl (pi_list (pv 5)) (pg_name (i := 13) scLaw.nd rfl (.inl rfl))
          (pss_cons (ps_set (i := 14) scLaw.nd rfl (.inl rfl) (pe_callB (cr_sortD hr.units) (by rfl) tp.sorted bt_sorted (pa_cons (pe_lc (own := [("_law_one", 16)]) (g := gName 16) (tt := tYes) (te := tOp (rCatA K) (tTup (tCons (tOp (rIxL K) (tVar 11) (tBM K "list" (rIndex K) (tVar 4) (tCons (tOp (rIxT K) (tVar 16) (tC (.int 0))) tNil))) tNil)) (tSl (rSlA K) (tVar 16) (tPart (tC (.int 1))) tNoPart)) rfl scLaw.nd (pi_tup (pe_go GC hr (pa_cons (pv 3) (pa_cons (pv 13) (pa_cons (pv 10) pa_nil))))) (blkOk_by (N := ["_law_script", "_law_k", "_law_pot_here", "_law_roll_here", "_law_men", "_law_ships", "_law_ranks", "_law_hours_here", "_law_some", "_law_man", "_law_hour", "_law_names_here", "_law_other", "_law_ship", "_law_due", "_law_at", "_law_one"]) (sc := defScope sLaw) (by decide +kernel)) (fun _ _ _ _ _ => pg_name (i := 16) scLaw.nd rfl (Or.inl rfl)) (fun _ _ _ _ _ => pts_nil)
              (fun _ _ _ _ _ => pe_op op_catA (pe_tup (pa_cons (pe_ix ix_list (pv 11) (pe_bm PySem.F.plainAttrs_list PySem.F.slot_list_index PySem.F.type_list_index mt_index (pv 4) (pa_cons (pe_ix ix_tup (pv 16) pe_int (fun _ _ => rfl)) pa_nil)) (fun _ _ => rfl)) pa_nil)) (pe_slice sl_tupA (pv 16) (po_some pe_int) po_none))) pa_nil)))
          (pss_one (ps_if (pt_cmpR (op_neD hr.units) (pe_callB (cr_sortT' hr.units) (by rfl) tp.sorted bt_sorted (pa_cons (pe_go GC hr (pa_cons (pv 12) (pa_cons (pv 13) (pa_cons (pv 10) pa_nil)))) pa_nil)) (pv 14) (nomark _)) (pss_one (ps_ret pe_bl)) pss_nil))))))))))))))))
    (pss_one (ps_ret pe_bl)), ?_⟩
  have slen : ∀ {σ : L2.St} {H1 : Hp}, σ[0]? = some (some (.ref a)) → Xq E0c H H1 → EX T E0c (tCB (fun xs H Q => ∃ p ys, xs = [.ref p] ∧ (SqL K H p ys ∨ SqT K H p ys) ∧ Q (.int ys.length) H) (tCons (tVar 0) tNil)) σ H1 (· = .int ns.length) := fun {σ H1} e x H2 x2 g2 Q' q' => ⟨.ref a, e, a, _, rfl, .inl (sql_keep hS (x.trans x2)), by rw [List.length_map]; exact q' _ H2 _ rfl Xq.refl g2 (.int _)⟩
  refine sq (fo (M := E0c) (p := fun ds => ∃ j : Int, ds = intsTo j.toNat ∧ 1 ≤ j ∧ j ≤ 63) (ew_range ((ead (ed_cb (ead ed_int (ead (ed_cb (ead ed_int (ead (slen rfl Xq.refl) ea_nil)) rc_2I) ea_nil)) rc_2I) ea_nil).imp ?_) ?_) g
    (fun H1 ds i σ' H' => ∃ s1 s2 s3 s4 s5 s6 s7 s8 s9 s10 s11 s12 s13 s14, σ' = [some (.ref a), s1, s2, s3, s4, s5, s6, s7, s8, s9, s10, s11, s12, s13, s14, none, none] ∧ Xq E0c H1 H' ∧ Xq E0c H H' ∧ Gd T E0c H') ?_ ?_ ?_ ?_)
  · rintro ds rfl
    refine ⟨_, rfl, ?_, ?_⟩
    · split <;> omega
    · split <;> split <;> omega
  · rintro j ⟨h0, h1⟩
    omega
  · rintro H1 ds ⟨j, rfl, _⟩ x1 g1
    exact ⟨_, _, _, _, _, _, _, _, _, _, _, _, _, _, rfl, .refl, x1, g1⟩
  · rintro H1 ds i σ' H' ⟨s1, s2, s3, s4, s5, s6, s7, s8, s9, s10, s11, s12, s13, s14, _, z, _⟩
    exact z
  · rintro H1 ds i d y σ' H' ⟨j, rfl, hj0, hj1⟩ hd ⟨s1, s2, s3, s4, s5, s6, s7, s8, s9, s10, s11, s12, s13, s14, rfl, x1, x0, g1⟩ hy
    obtain ⟨rfl, hij⟩ := ints_at hd
    cases hy
    show tSeq _ _ _ _ _
    refine sq ⟨.ref a, rfl, .int (i : Int), rfl, a, ns, i, rfl, sql_keep hS x0, g1, by omega, fun px py p H2 hx0 hx1 hy0 hy1 x2 g2 np => ?_⟩
    have np0 := np
    have gP : Gd T ⟨[p], [p], fun a h => h⟩ (upd H2 p (.lst [.int px, .int py])) := ⟨(g2.new np).tab, fun q hq => ⟨[.int px, .int py], by rw [List.mem_singleton.mp hq]; exact upd_same⟩⟩
    have iP : Is ⟨[p], [p], fun a h => h⟩ (upd H2 p (.lst [.int px, .int py])) (.ref p) (.dict []) := .pot List.mem_cons_self ⟨px, py, upd_same, hx0, hx1, hy0, hy1⟩
    have xin : Xq E0c H1 H2 := x1.trans x2
    have xin0 : Xq E0c H H2 := x0.trans x2
    generalize hMp : (⟨[p], [p], fun a h => h⟩ : Ct) = Mp at gP iP
    have hMm : Mp.m = [p] := by rw [← hMp]
    clear hMp
    generalize hHb : upd H2 p (.lst [.int px, .int py]) = Hb at gP iP
    have out1 : ∀ {H' : Hp}, Xq Mp Hb H' → Xq E0c H2 H' := fun x => by
      rw [← hHb] at x
      exact pot_out hMm np x
    have outg : ∀ {H' : Hp}, Gd T Mp H' → Gd T E0c H' := fun g => ⟨g.tab, fun q hq => by cases hq⟩
    show tSeq _ _ _ _ Hb
    -- the roll
    have hm8 : (8 : Int) ≤ (if (i : Int) = 0 then 30 else 12) := by split <;> decide
    have hm30 : (if (i : Int) = 0 then 30 else 12) ≤ (30 : Int) := by split <;> decide
    refine sq (asg_d (ed_call (ead (ed_var rfl iP) (ead (ed_two rfl) ea_nil)) ⟨_, rfl, hm8, by omega, rfl⟩) gP fun v3 H3 d3 p3 x3 g3 i3 => ?_)
    obtain ⟨R, men, ships, ranks, rfl, dok⟩ := p3
    refine gt4 i3 fun vr vm vs vk ir im is ik => ?_
    have ok : RollOk R := ⟨by have := dok.len; omega, fun r hr => (dok.rows r hr).1, dok.nd⟩
    have rlen : R.length ≤ 30 := by have := dok.len; omega
    have rmen : ∀ r ∈ R, r.1 ∈ men := fun r hr => (dok.rows r hr).2.1
    have iP3 := iP.mono x3
    dsimp only
    -- hours
    refine sq (as_d (ed_call (ead (ed_var rfl iP3) (ead (ed_var rfl ir) ea_nil)) ⟨R, rfl, ok, rfl⟩) g3 fun vh H4 d4 p4 x4 g4 ih => ?_)
    obtain ⟨hs, rfl, hok⟩ := p4
    have iP4 := iP3.mono x4
    have hhl := hok.len
    dsimp only
    -- some of them
    refine sq (as_d (P := fun d => ∃ zs : List Int, d = .list (zs.map PyData.int) ∧ HoursOk zs) ((ex_slLn (q := fun ds => ∃ zs : List Int, ds = zs.map PyData.int ∧ HoursOk zs) (Pl := (· = none)) (Ph := fun o => o = some (if (i : Int) = 0 then 20 else 6)) ((ex_slLn (q := fun ds => ds = hs.map PyData.int) (Pl := fun o => ∃ r : Int, o = some r ∧ 0 ≤ r ∧ r < hs.length) (Ph := (· = none)) ((ed_var rfl ih).imp fun d e => ⟨_, e, rfl⟩) (fun _ _ => eo_some ((take_of (m := (hs.map PyData.int).length) 2 rfl iP4 (by rw [List.length_map]; have := List.length_pos_iff.mpr hok.ne; omega) (by rw [List.length_map]; omega) (ed_cb (ead (ed_var rfl ih) ea_nil) rc_lenL)).imp fun d ⟨r, e, h0, h1⟩ => ⟨r, e, h0, by rw [List.length_map] at h1; exact h1⟩)) fun _ _ => eo_none).imp ?_) (fun _ _ => eo_none) fun _ _ => eo_d (ed_two rfl)).imp ?_) g4 fun vo H5 d5 p5 x5 g5 io => ?_)
    · rintro d ⟨_, lo, hi, rfl, rfl, ⟨r, rfl, h0, h1⟩, rfl⟩
      obtain ⟨n, rfl⟩ := Int.eq_ofNat_of_zero_le h0
      rw [cutD_map, cutX_from]
      refine ⟨_, rfl, _, rfl, fun h hh => hok.ok h (List.mem_of_mem_drop hh), fun e => ?_, by rw [List.length_drop]; omega⟩
      have := congrArg List.length e
      rw [List.length_drop] at this
      simp only [List.length_nil] at this
      omega
    · rintro d ⟨_, lo, hi, rfl, ⟨zs, rfl, zok⟩, rfl, rfl⟩
      have : ∃ n : Nat, 1 ≤ n ∧ (if (i : Int) = 0 then (20 : Int) else 6) = (n : Int) := by
        split
        · exact ⟨20, by decide, rfl⟩
        · exact ⟨6, by decide, rfl⟩
      obtain ⟨n, hn, e⟩ := this
      rw [e, cutD_map, cutX_to]
      refine ⟨_, rfl, fun h hh => zok.ok h (List.mem_of_mem_take hh), fun e => ?_, by rw [List.length_take]; have := zok.len; omega⟩
      have h1 := congrArg List.length e
      have h2 := List.length_pos_iff.mpr zok.ne
      rw [List.length_take] at h1
      simp only [List.length_nil] at h1
      omega
    obtain ⟨zs, rfl, zok⟩ := p5
    have x35 := x4.trans x5
    have x05 := x3.trans x35
    have iP5 := iP4.mono x5
    have ir5 := ir.mono x35
    have im5 := im.mono x35
    have is5 := is.mono x35
    have ik5 := ik.mono x35
    dsimp only
    -- one man, one hour
    refine sq (fo (M := Mp) (p := fun ds => ∃ ys : List Str, ds = ys.map PyData.str ∧ ∀ z ∈ ys, z ∈ men) (ew_list ((ed_slL (lo := none) (hi := some (if (i : Int) = 0 then 6 else 2)) (ed_var rfl im5) eo_none (eo_d (ed_two rfl))).imp fun d e => ⟨_, e, cutX men none (some (if (i : Int) = 0 then 6 else 2)), by rw [cutD_map], fun z hz => cutX_mem hz⟩)) g5
      (fun H6 ds i2 σ' H' => ∃ s9 s10, σ' = [some (.ref a), some (.int (i : Int)), some (.ref p), some vr, some vm, some vs, some vk, some vh, some vo, s9, s10, s11, s12, s13, s14, none, none] ∧ Xq Mp H6 H' ∧ Xq Mp H5 H' ∧ Gd T Mp H') ?_ ?_ ?_ ?_)
    · rintro H6 ds ⟨ys, rfl, hys⟩ x6 g6
      exact ⟨_, _, rfl, .refl, x6, g6⟩
    · rintro H6 ds i2 σ' H' ⟨s9, s10, _, z, _⟩
      exact z
    · rintro H6 ds i2 d y2 σ' H' ⟨ys, rfl, hys⟩ hd2 ⟨s9, s10, rfl, x6, x56, g6⟩ hy2
      obtain ⟨man, hm1, rfl⟩ := strs_at hd2
      have hman := hys man (List.mem_of_getElem? hm1)
      show tFor _ _ _ _ _ _
      refine fo (ew_list ((ed_var rfl (io.mono x56)).imp fun d e => ⟨_, e, rfl⟩)) g6
        (fun H7 ds i3 σ2 H2' => ∃ s10, σ2 = [some (.ref a), some (.int (i : Int)), some (.ref p), some vr, some vm, some vs, some vk, some vh, some vo, some y2, s10, s11, s12, s13, s14, none, none] ∧ Xq Mp H7 H2' ∧ Xq Mp H' H2' ∧ Gd T Mp H2') ?_ ?_ ?_ ?_
      · rintro H7 ds rfl x7 g7
        exact ⟨_, rfl, .refl, x7, g7⟩
      · rintro H7 ds i3 σ' H' ⟨s10, _, z, _⟩
        exact z
      · rintro H7 ds i3 d y3 σ2 H2' rfl hd3 ⟨s10', rfl, x7, x07, g7⟩ hy3
        obtain ⟨here, hh1, rfl⟩ := map_at hd3
        have hok2 := zok.ok here (List.mem_of_getElem? hh1)
        have xx := x56.trans x07
        show tIfS _ _ _ _ _ _
        refine if_d (et_not (etdB (ed_call (ead (ed_var rfl (ir5.mono xx)) (ead (ed_var rfl (is5.mono xx)) (ead (ed_var rfl (hy2.mono x07)) (ead (ed_var rfl hy3) ea_nil)))) ⟨R, ships, man, here, rfl, ok, dok.s, dok.slen, dok.m.ok man hman, hok2, fun x hx => (dok.rows x hx).2.2, rfl⟩))) g7 (fun z => by cases z) fun _ H8 x8 g8 => ⟨_, rfl, x7.trans x8, x07.trans x8, g8⟩
      · rintro H7 ds σ2 H2' rfl ⟨s10', rfl, x7, x07, g7⟩
        exact ⟨_, _, rfl, x6.trans x07, x56.trans x07, g7⟩
    · rintro H6 ds σ' H' ⟨ys, rfl, hys⟩ ⟨s9, s10, rfl, x6, x56, g6⟩
      -- one row more
      show tSeq _ _ _ _ _
      refine sq (if_d (et_not (etdB (ed_call (ead (ed_var rfl (iP5.mono x56)) (ead (ed_var rfl (ir5.mono x56)) (ead (ed_var rfl (im5.mono x56)) (ead (ed_var rfl (io.mono x56)) (ead (ed_var rfl (is5.mono x56)) (ead (ed_var rfl (ik5.mono x56)) ea_nil)))))) ⟨R, men, zs, ships, ranks, rfl, ok, by omega, dok.m, dok.mlen, zok, dok.s, dok.slen, dok.k, dok.klen, rfl⟩))) g6 (fun z => by cases z) fun _ H8 x8 g8 => ?_)
      have x58 := x56.trans x8
      have im8 := im5.mono x58
      have hmp : (men.map PyData.str).length = men.length := List.length_map _
      have ml := dok.mlen
      dsimp only
      -- new names
      refine sq (as_d ((ed_lcm (ds := intsTo men.length) (f := fun d => match d with | .int k => .str (nmS ((men.length : Int) - 1 - k).toNat) | _ => .none) (EW.imp (ew_range ((ead (ed_cb (ead (ed_var rfl im8) ea_nil) rc_lenL) ea_nil).imp fun ds e => ⟨((men.map PyData.str).length : Int), e, rfl⟩) fun j e => by subst e; rw [hmp]; omega) fun ds ⟨j, e, e2⟩ => by subst e2; rw [e, hmp, Int.toNat_natCast]) (by rw [ints_len]; omega) (fun d hd => ?_) fun d y3 H9 hd x9 g9 hy3 => ?_).to (db := .list ((newNames men.length).map PyData.str)) ?_) g8 fun vn H9 d9 p9 x9 g9 inn => ?_)
      · obtain ⟨k, hk⟩ := List.getElem?_of_mem hd
        obtain ⟨rfl, hk2⟩ := ints_at hk
        rfl
      · obtain ⟨k, hk⟩ := List.getElem?_of_mem hd
        obtain ⟨rfl, hk2⟩ := ints_at hk
        have ej : ((men.length : Int) - 1 - (k : Int)).toNat = men.length - 1 - k := by omega
        have hj6 : men.length - 1 - k < 6 := by omega
        have hat : L2.atI ("abcdef" : Str).cps.toList ((men.length : Int) - 1 - (k : Int)) = some (97 + (men.length - 1 - k)) := by
          have e : (men.length : Int) - 1 - (k : Int) = ((men.length - 1 - k : Nat) : Int) := by omega
          rw [e]
          exact atI_nat (abc_at _ hj6)
        refine (ed_op ed_str (ed_op ed_str (ed_op (ed_op (ed_cb (ead (ed_var rfl (im8.mono x9)) ea_nil) rc_lenL) ed_int rd_I0) (ed_var rfl hy3) rd_I0) (rd_ixS (by decide +kernel) (by rw [hmp]; exact hat))) (rd_catS ?_)).to ?_
        · show (6 : Nat) + 1 ≤ 1000
          decide
        · show _ = PyData.str (nmS ((men.length : Int) - 1 - (k : Int)).toNat)
          rw [ej]
          rfl
      · congr 1
        unfold newNames intsTo
        rw [List.map_map, List.map_map]
        refine List.map_congr_left fun k hk => ?_
        rw [List.mem_range] at hk
        show PyData.str (nmS ((men.length : Int) - 1 - (k : Int)).toNat) = PyData.str (nmS (men.length - 1 - k))
        rw [show ((men.length : Int) - 1 - (k : Int)).toNat = men.length - 1 - k by omega]
      subst p9
      have x59 := x58.trans x9
      dsimp only
      -- the roll, the men called otherwise
      refine sq (as_d (ed_call (ead (ed_var rfl (ir5.mono x59)) (ead (ed_var rfl (im5.mono x59)) (ead (ed_var rfl inn) ea_nil))) ⟨R, men, newNames men.length, rfl, by omega, (newNames_len _).symm, rmen, rfl⟩) g9 fun vt H10 d10 p10 x10 g10 it => ?_)
      subst p10
      have x5a := x59.trans x10
      have ok2 := roll_call ml ok rmen
      have inn' := inn.mono x10
      dsimp only
      refine fo (M := Mp) (p := fun ds => ∃ ys : List Int, ds = ys.map PyData.int ∧ ∀ z ∈ ys, hourB z = true) (ew_list ((ed_slL (lo := none) (hi := some 4) (ed_var rfl (io.mono x5a)) eo_none (eo_d ed_int)).imp fun d e => ⟨_, e, cutX zs none (some 4), by rw [cutD_map], fun z hz => zok.ok z (cutX_mem hz)⟩)) g10
        (fun H11 ds i2 σ' H' => ∃ s10 s13 s14, σ' = [some (.ref a), some (.int (i : Int)), some (.ref p), some vr, some vm, some vs, some vk, some vh, some vo, s9, s10, some vn, some vt, s13, s14, none, none] ∧ Xq Mp H11 H' ∧ Xq Mp H10 H' ∧ Gd T Mp H') ?_ ?_ ?_ ?_
      · rintro H11 ds ⟨ys, rfl, hys⟩ x11 g11
        exact ⟨_, _, _, rfl, .refl, x11, g11⟩
      · rintro H11 ds i2 σ' H' ⟨s10, s13, s14, _, z, _⟩
        exact z
      · rintro H11 ds i2 d y2 σ' H' ⟨ys, rfl, hys⟩ hd2 ⟨s10', s13', s14', rfl, x11, x0b, g11⟩ hy2
        obtain ⟨hour, hm1, rfl⟩ := map_at hd2
        have hhour := hys hour (List.mem_of_getElem? hm1)
        show tFor _ _ _ _ _ _
        refine fo (ew_list ((ed_var rfl (is5.mono (x5a.trans x0b))).imp fun d e => ⟨_, e, rfl⟩)) g11
          (fun H12 ds i3 σ2 H2' => ∃ s13 s14, σ2 = [some (.ref a), some (.int (i : Int)), some (.ref p), some vr, some vm, some vs, some vk, some vh, some vo, s9, some y2, some vn, some vt, s13, s14, none, none] ∧ Xq Mp H12 H2' ∧ Xq Mp H' H2' ∧ Gd T Mp H2') ?_ ?_ ?_ ?_
        · rintro H12 ds rfl x12 g12
          exact ⟨_, _, rfl, .refl, x12, g12⟩
        · rintro H12 ds i3 σ' H' ⟨s13, s14, _, z, _⟩
          exact z
        · rintro H12 ds i3 d y3 σ2 H2' rfl hd3 ⟨s13'', s14'', rfl, x12, x02, g12⟩ hy3
          obtain ⟨ship, hs1, rfl⟩ := strs_at hd3
          have hsm := List.mem_of_getElem? hs1
          have hsok := dok.s.ok ship hsm
          have xx := (x5a.trans x0b).trans x02
          have xa := x0b.trans x02
          have hy2' := hy2.mono x02
          show tSeq _ _ _ _ _
          -- what is due
          refine sq (as_d (P := fun d => ∃ es : List At, CrewIs R ship hour es ∧ es.length ≤ 60 ∧ d = .list (dsort ((es.map fun b => (nmOf men (newNames men.length) b.1, b.2)).map dAt))) (ex_cb (p := fun ds => ∃ es : List At, CrewIs R ship hour es ∧ es.length ≤ 60 ∧ ds = [.list ((es.map fun b => (nmOf men (newNames men.length) b.1, b.2)).map dAt)]) ((ea_cons (Pr := fun _ l => l = []) (ex_lc (p := fun ds => ∃ es : List At, ds = es.map dAt ∧ CrewIs R ship hour es ∧ es.length ≤ 60) (bt := fun _ => true) (Q := fun d e => (∃ b : At, d = dAt b) ∧ e = fCall (nmOf men (newNames men.length)) d) (ew_tup ((ed_call (ead (ed_var rfl (ir5.mono xx)) (ead (ed_var rfl hy3) (ead (ed_var rfl hy2') ea_nil))) ⟨R, ship, hour, rfl, ok, hsok, hhour, rfl⟩).imp fun d ⟨es, e, h1, h2⟩ => ⟨_, e, es, rfl, h1, h2⟩)) ?_ ?_ ?_) fun _ _ => ea_nil).imp ?_) ?_) g12 fun vd H13 d13 p13 x13 g13 idd => ?_)
          · rintro ds ⟨es, rfl, _, hl⟩
            rw [List.length_map]
            omega
          · rintro d e ⟨⟨b, rfl⟩, rfl⟩
            rfl
          · rintro ds j3 d y4 H14 ⟨es, rfl, hcr, _⟩ hd4 x14 g14 hy4
            obtain ⟨b, hb, rfl⟩ := map_at hd4
            refine ⟨fun H15 x15 g15 Q' q' => q' true H15 rfl Xq.refl g15, fun _ => ?_⟩
            obtain ⟨⟨r0, hr0, er0⟩, _, _⟩ := crew_ok ok hcr b (List.mem_of_getElem? hb)
            have hbm : b.1 ∈ men := by rw [← er0]; exact rmen r0 hr0
            obtain ⟨jj, h1, h2, h3⟩ := nm_at (newNames_len men.length).symm hbm
            refine (ed_op (ed_tup (ead (ed_op (ed_var rfl (inn'.mono (xa.trans x14))) (ed_index (ed_var rfl (im5.mono (xx.trans x14))) (ead (ed_op (ed_var rfl hy4) ed_int (rd_ixT (d := .str b.1) rfl)) ea_nil) h1 h2) (rd_ixL h3)) ea_nil) (by show 1 ≤ 1000; decide)) (ed_slT (lo := some 1) (hi := none) (ed_var rfl hy4) (eo_d ed_int) eo_none) (rd_catT (by show 1 + 2 ≤ 1000; decide))).imp fun e he => ⟨⟨b, rfl⟩, he⟩
          · rintro ds ⟨_, _, rfl, ⟨ds2, es2, rfl, ⟨es, rfl, hcr, hl⟩, hp⟩, rfl⟩
            rw [filt_all] at hp
            have e2 := Paired.toMap (L2.Paired.mapP hp fun a b z => z.2)
            rw [crew_map] at e2
            exact ⟨es, hcr, hl, by rw [e2]⟩
          · rintro ds ⟨es, hcr, hl, rfl⟩
            have so : SortOk ((es.map fun b => (nmOf men (newNames men.length) b.1, b.2)).map dAt) := so_at (by rw [List.length_map]; omega) fun b hb => by
              obtain ⟨b0, hb0, rfl⟩ := List.mem_map.mp hb
              obtain ⟨⟨r0, hr0, er0⟩, _, h2⟩ := crew_ok ok hcr b0 hb0
              exact ⟨nameB_ok (nm_ok ml (by rw [← er0]; exact rmen r0 hr0)), nameB_ok h2⟩
            exact fun Hx ws gx hx Qx qx => rc_sortD so Hx ws gx hx Qx fun z Hz dz pz => qx z Hz dz ⟨es, hcr, hl, pz⟩
          obtain ⟨es, hcr, hl, rfl⟩ := p13
          dsimp only
          -- .. is so
          refine if_d (et_test ((ex_op (Pa := fun d => ∃ es' : List At, CrewIs (call (nmOf men (newNames men.length)) R) ship hour es' ∧ d = .list (dsort (es'.map dAt))) (Pb := fun _ d => d = .list (dsort ((es.map fun b => (nmOf men (newNames men.length) b.1, b.2)).map dAt))) (P := fun d => d = .bool false) (ex_cb (p := fun ds => ∃ es' : List At, CrewIs (call (nmOf men (newNames men.length)) R) ship hour es' ∧ es'.length ≤ 60 ∧ ds = [.tuple (es'.map dAt)]) ((ea_cons (Pr := fun _ l => l = []) (ed_call (ead (ed_var rfl (it.mono (xa.trans x13))) (ead (ed_var rfl (hy3.mono x13)) (ead (ed_var rfl (hy2'.mono x13)) ea_nil))) ⟨_, ship, hour, rfl, ok2, hsok, hhour, rfl⟩) fun _ _ => ea_nil).imp ?_) ?_) (fun _ _ => ed_var rfl idd) ?_).imp fun d e => ⟨false, e, rfl⟩)) g13 (fun z => by cases z) fun _ H14 x14 g14 => ⟨_, _, rfl, (x12.trans x13).trans x14, (x02.trans x13).trans x14, g14⟩
          · rintro ds ⟨_, _, rfl, ⟨es', rfl, h1, h2⟩, rfl⟩
            exact ⟨es', h1, h2, rfl⟩
          · rintro ds ⟨es', h1, h2, rfl⟩
            have so : SortOk (es'.map dAt) := so_at (by omega) fun b hb => ⟨nameB_ok (crew_ok ok2 h1 b hb).2.1, nameB_ok (crew_ok ok2 h1 b hb).2.2⟩
            exact fun Hx ws gx hx Qx qx => rc_sortT' so Hx ws gx hx Qx fun z Hz dz pz => qx z Hz dz ⟨es', h1, pz⟩
          · rintro da db ⟨es', h1, rfl⟩ rfl
            have pe := crew_call (fun r hr q hq e => nm_inj ml (rmen r hr) (rmen q hq) e) hcr h1
            have sh := sh_dsort fun b hb => ⟨nameB_ok (crew_ok ok2 h1 b hb).2.1, nameB_ok (crew_ok ok2 h1 b hb).2.2⟩
            rw [← dsort_perm pe]
            exact fun Hx xa ya gx hx hy Qx qx => rd_neD sh sh Hx xa ya gx hx hy Qx fun z Hz dz pz => qx z Hz dz (by rw [pz, PySem.SeqAt.eqv_refl _ (canLay_of sh)] <;> rfl)
        · rintro H12 ds σ2 H2' rfl ⟨s13'', s14'', rfl, x12, x02, g12⟩
          exact ⟨_, _, _, rfl, x11.trans x02, x0b.trans x02, g12⟩
      · rintro H11 ds σ' H' ⟨ys, rfl, hys⟩ ⟨s10', s13', s14', rfl, x11, x0b, g11⟩
        have xe := x05.trans (x5a.trans x0b)
        exact ⟨_, _, _, _, _, _, _, _, _, _, _, _, _, _, rfl, xin.trans (out1 xe), xin0.trans (out1 xe), outg g11⟩
  · rintro H1 ds σ' H' ⟨j, rfl, _⟩ ⟨s1, s2, s3, s4, s5, s6, s7, s8, s9, s10, s11, s12, s13, s14, rfl, x1, x0, g1⟩
    exact q H'
end
end Rk
set_option Elab.async false
set_option linter.all false
set_option maxRecDepth 100000
/-! Pu: the end -/
namespace Rk
open PySem PySem.Spec PyProof.Rows L2
theorem df_of {K : PySem.W.Frag} {h : Heap} {mg : Str → Option Value} (X : K.In h) (G : h.Ns mainGlobals mg) {x : Str} {st : Stmt} {ps : List Str} {f : Addr} {oc : Value} {od an : Option Addr} {osl : Array (Option Value)} {kV doc pm cdv ct : Value}
    (a : PySem.W.nsIn K mainGlobals x = some (some (.ref f))) (l : K.lookup f = some ⟨oc, od, .func (PySem.W.fnOf x x (defArgs st) (defBody st) (defScope st) .none kV doc pm an cdv ct), osl⟩) (c : PySem.W.codeIn K cdv x = true) (k : PySem.W.keepIn K (.ref f) = true)
    (hb : ∀ (kV doc pm : Value) (an : Option Addr) (cdv ct : Value) (us : List Value), us.length = ps.length → bindArgs (PySem.W.fnOf x x (defArgs st) (defBody st) (defScope st) .none kV doc pm an cdv ct) ⟨us, []⟩ = pure (ps.zip us)) : Df K mg x st ps :=
  ⟨⟨f, _, fun_mk l c k, PySem.W.mg_of X G a, (fun_mk l c k).binds hb⟩⟩
theorem dfC_of {K : PySem.W.Frag} {h : Heap} {mg : Str → Option Value} (X : K.In h) (G : h.Ns mainGlobals mg) {x : Str} {st : Stmt} {ps : List Str} {f c0 : Addr} {oc : Value} {od an : Option Addr} {osl : Array (Option Value)} {kV doc pm ct : Value}
    (a : PySem.W.nsIn K mainGlobals x = some (some (.ref f))) (l : K.lookup f = some ⟨oc, od, .func (PySem.W.fnOf x x (defArgs st) (defBody st) (defScope st) .none kV doc pm an (.ref c0) ct), osl⟩) (c : PySem.W.codeIn K (.ref c0) x = true) (k : PySem.W.keepIn K (.ref f) = true)
    (hb : ∀ (kV doc pm : Value) (an : Option Addr) (cdv ct : Value) (us : List Value), us.length = ps.length → bindArgs (PySem.W.fnOf x x (defArgs st) (defBody st) (defScope st) .none kV doc pm an cdv ct) ⟨us, []⟩ = pure (ps.zip us)) : DfC K mg x st ps c0 :=
  ⟨⟨f, oc, od, kV, doc, pm, an, ct, osl, l, c, k, PySem.W.mg_of X G a, (fun_mk l c k).binds hb⟩⟩
/-- the law itself -/
structure DfL (K : PySem.W.Frag) (fa : Addr) : Prop where
  ex : ∃ fd, Fun K "law" "law" sLaw fa fd ∧ ∀ (s : Shared) (u : Value), BindsTo s fd ⟨[u], []⟩ [("_law_script", u)]
theorem dfL_of {K : PySem.W.Frag} {h : Heap} {mg : Str → Option Value} {fa : Addr} (X : K.In h) (G : h.Ns mainGlobals mg) (hfa : mg "law" = some (.ref fa)) {f : Addr} {oc : Value} {od an : Option Addr} {osl : Array (Option Value)} {kV doc pm cdv ct : Value}
    (a : PySem.W.nsIn K mainGlobals "law" = some (some (.ref f))) (l : K.lookup f = some ⟨oc, od, .func (PySem.W.fnOf "law" "law" (defArgs sLaw) (defBody sLaw) (defScope sLaw) .none kV doc pm an cdv ct), osl⟩) (c : PySem.W.codeIn K cdv "law" = true) (k : PySem.W.keepIn K (.ref f) = true) : DfL K fa := by
  have e := hfa.symm.trans (PySem.W.mg_of X G a)
  cases e
  exact ⟨⟨_, fun_mk l c k, fun s u => .of_eq rfl⟩⟩
theorem con_of {K : PySem.W.Frag} {h : Heap} {mg : Str → Option Value} {x : Str} {u : Value} {v : V} (X : K.In h) (G : h.Ns mainGlobals mg) (a : PySem.W.nsIn K mainGlobals x = some (some u)) (r : RelV v u) : ∃ u, mg x = some u ∧ RelV v u := ⟨u, PySem.W.mg_of X G a, r⟩
theorem law_at {l : PySem.W.OpenLaw} {w : World} {K : PySem.W.Frag} {mg : Str → Option Value} {fa : Addr} {h : Heap} {c0 P0 : Addr} (tp : Top mg) (hP : h.get? P0 = some { cls := .none, data := .fields #[] }) (nP : K.lookup P0 = none) (hC : PySem.W.CodeHd h c0 P0)
    (d1 : Df K mg "is_whole" sWhole ["thing"]) (d2 : Df K mg "is_name" sName ["thing"]) (d3 : Df K mg "is_hour" sHour ["thing"]) (d4 : Df K mg "is_row" sRow ["thing"]) (d5 : Df K mg "is_roll" sRoll ["thing"]) (d6 : Df K mg "need_roll" sNRoll ["thing"]) (d7 : Df K mg "need_name" sNName ["thing"]) (d8 : Df K mg "need_hour" sNHour ["thing"])
    (d9 : Df K mg "rows_of" sRows ["roll", "man"]) (d10 : Df K mg "standing" sStand ["rows", "hour"]) (d11 : Df K mg "where_at" sWhere ["roll", "man", "hour"]) (d12 : DfC K mg "by_since" sBy ["crew"] c0) (d13 : Df K mg "crew_at" sCrew ["roll", "ship", "hour"]) (d14 : Df K mg "stays_of" sStays ["roll", "man"])
    (e1 : Df K mg "_law_pot" sPot ["_law_script", "_law_k"]) (e2 : Df K mg "_law_take" sTake ["_law_pot_here", "_law_many"]) (e3 : Df K mg "_law_name" sDName ["_law_pot_here"]) (e4 : Df K mg "_law_names" sDNames ["_law_pot_here", "_law_most"]) (e5 : Df K mg "_law_roll" sDRoll ["_law_pot_here", "_law_most"]) (e6 : Df K mg "_law_hours" sDHours ["_law_pot_here", "_law_roll_here"])
    (e7 : Df K mg "_law_one_right" sOne ["_law_roll_here", "_law_ships", "_law_man", "_law_hour"]) (e8 : Df K mg "_law_row_more" sMore ["_law_pot_here", "_law_roll_here", "_law_men", "_law_hours_here", "_law_ships", "_law_ranks"]) (e9 : Df K mg "_law_called" sCalled ["_law_roll_here", "_law_men", "_law_names_here"]) (dl : DfL K fa) : LamX.LawAtS l w K CX0 8 63 "_law_script" mg fa h := by
  obtain ⟨fd, F, hb⟩ := dl.ex
  refine ⟨fd, [(c0, P0)], spLaw K [(P0, lamQ)], fun p hp => ?_, fun p hp => ?_, fun p hp => ?_, hb, fun H a ns hl _ hT hS => ⟨a, ns, rfl, hS, hl, ⟨fun p hp => ?_, fun q hq => by cases hq⟩, fun _ => rfl⟩, fun base X G TB => ?_⟩
  · rw [List.mem_singleton.mp hp]; exact hP
  · rw [List.mem_singleton.mp hp]; exact nP
  · rw [List.mem_singleton.mp hp]; exact hC
  · rw [List.mem_singleton.mp hp]
    exact LamX.TabS.nil (hT (c0, P0) List.mem_cons_self)
  · have tb : LamX.TabB base mg c0 P0 := TB (c0, P0) List.mem_cons_self
    have hmT : (P0, lamQ) ∈ [(P0, lamQ)] := List.mem_cons_self
    have hu : ∀ p ∈ [(P0, lamQ)], p.1 = P0 → p.2 = lamQ := fun p hp _ => by rw [List.mem_singleton.mp hp]
    have g1 := go_whole (P := l.prog) (w := w) (base := base) (T := [(P0, lamQ)]) tp d1
    have g2 := go_name (P := l.prog) (w := w) (base := base) (T := [(P0, lamQ)]) tp d2
    have g3 := go_hour tp g1 d3
    have g4 := go_row tp g2 g3 d4
    have g5 := go_roll tp g4 d5
    have g6 := go_nroll g5 d6
    have g7 := go_nname g2 d7
    have g8 := go_nhour g3 d8
    have g9 := go_rows (P := l.prog) (w := w) (base := base) (T := [(P0, lamQ)]) tp d9
    have g10 := go_stand (P := l.prog) (w := w) (base := base) (T := [(P0, lamQ)]) d10
    have g11 := go_where g6 g7 g8 g9 g10 d11
    have g12 := go_by (P := l.prog) (w := w) (base := base) (T := [(P0, lamQ)]) tp tb hmT hu d12
    have g13 := go_crew tp g6 g7 g8 g9 g10 g12 d13
    have g14 := go_stays tp g6 g7 g9 d14
    obtain ⟨fP, fdP, FP, mP, bP⟩ := e1.ex
    have k1 := pot_spec (P := l.prog) (w := w) (base := base) (T := [(P0, lamQ)]) tp FP
    have k2 := go_take (P := l.prog) (w := w) (base := base) (T := [(P0, lamQ)]) e2
    have k3 := go_dname tp k2 e3
    have k4 := go_dnames tp k2 k3 e4
    have k5 := go_droll tp k2 k4 e5
    have k6 := go_dhours tp k2 e6
    have k7 := go_one tp g11 g13 g14 e7
    have k8 := go_more tp k2 g11 g14 e8
    have k9 := go_called (P := l.prog) (w := w) (base := base) (T := [(P0, lamQ)]) tp e9
    exact law_spec tp k1 mP FP.kp bP k2 k5 k6 k7 k8 k9 g13 F
theorem last_of {p : Program} {lv : List (Str × PySem.W.WData)} {mg : Str → Option Value} {h : Heap} (X : PySem.W.XL p lv mg h) (hm : (("LAST_HOUR" : Str), PySem.W.WData.int 100000) ∈ lv) : ∃ u, mg "LAST_HOUR" = some u ∧ RelV (.int 100000) u := by
  obtain ⟨v, e, r⟩ := X.2.val _ hm
  refine ⟨v, e, ?_⟩
  cases r with
  | int i t => exact ⟨t, rfl⟩
/-- the walk's end: what the top reads loosely is handed on -/
theorem ends {l : PySem.W.OpenLaw} {n k : Nat} {q : Program} {loose : List Str} {XP : (Str → Option Value) → Heap → Prop} {YP : World → Heap → Prop} {d : DefRec} {K : Params → PySem.W.Frag} {x : Str} (hn : l.most = some n) (hn2 : n ≤ sizeLine) (hdf : d.params.defaults = []) (hr : Room k callerA) (hY : ∀ (w : World) (h : Heap), YP w h → (K w.params).In h)
    (F : ∀ (w : World) (mg : Str → Option Value) (fa : Addr) (h : Heap), XP mg h → YP w h → (K w.params).In h → h.Ns mainGlobals mg → mg d.name = some (.ref fa) → LamX.LawAtS l w (K w.params) CX0 k n x mg fa h) : PySem.W.WalkO q loose XP YP l.row.toRowW d [] (fun f vs => PySem.call f vs) := by
  refine Att.attach_callB hn hdf fun w s₀ s₁ mg mb fa o pm cd doc a vs ns G Y ho hd hcd hmg hobj hints hlen hbits hg => ?_
  have KX := hY w _ Y
  obtain ⟨fd, cs, sp, hT, nT, C, hb, hsp, hF⟩ := F w mg fa _ G.X Y KX G.T.g hmg
  exact LamX.law_callTs KX G.T.g G.T.b G.T.builtins G.T.nolimit hg hT nT C G.T.bmain hobj hints (Nat.le_trans hlen hn2) hr hF hb (fun H hH hS => hsp H a ns hlen hbits hH hS) fun H e s' z => z
end Rk
open PySem PySem.W PyProof.Rows
set_option maxRecDepth 100000 in
set_option maxHeartbeats 0 in
theorem PySem.Challenge.cw_prizelog_k35_whole_rolls_holds : PySem.Challenge.rw_prizelog_k35_whole_rolls.Holds := by
  w_on; o_law; k_head; (case hw => w_witness2)
  k_fill
  refine Rk.ends (l := PySem.Challenge.rw_prizelog_k35_whole_rolls) (n := 63) (k := 8) (x := "_law_script") rfl (by decide) rfl ⟨rfl, by decide, by decide⟩ (fun w h Y => PySem.W.km_in_of Y) ?F
  case F =>
    intro w mg fa h X Y KX G hmg
    refine' Rk.law_at (P0 := 136) ?tp ((PySem.W.km_tabs_of Y) 136 (by simp)) ?nP ?hC ?d1 ?d2 ?d3 ?d4 ?d5 ?d6 ?d7 ?d8 ?d9 ?d10 ?d11 ?d12 ?d13 ?d14 ?e1 ?e2 ?e3 ?e4 ?e5 ?e6 ?e7 ?e8 ?e9 ?dl
    case d12 =>
      refine' Rk.dfC_of KX G ?a ?l ?c ?k (fun _ _ _ _ _ _ us hl => match us, hl with | [_], _ => rfl)
      (case a => k_is)
      (case l => k_is)
      (case c => k_is)
      (case k => k_is)
    case nP => kernel_rfl
    case hC => exact PySem.W.codeHd_of_K KX (by kernel_rfl)
    case d1 =>
      refine' Rk.df_of KX G ?a ?l ?c ?k (fun _ _ _ _ _ _ us hl => match us, hl with | [_], _ => rfl)
      (case a => k_is)
      (case l => k_is)
      (case c => k_is)
      (case k => k_is)
    case d2 =>
      refine' Rk.df_of KX G ?a ?l ?c ?k (fun _ _ _ _ _ _ us hl => match us, hl with | [_], _ => rfl)
      (case a => k_is)
      (case l => k_is)
      (case c => k_is)
      (case k => k_is)
    case d3 =>
      refine' Rk.df_of KX G ?a ?l ?c ?k (fun _ _ _ _ _ _ us hl => match us, hl with | [_], _ => rfl)
      (case a => k_is)
      (case l => k_is)
      (case c => k_is)
      (case k => k_is)
    case d4 =>
      refine' Rk.df_of KX G ?a ?l ?c ?k (fun _ _ _ _ _ _ us hl => match us, hl with | [_], _ => rfl)
      (case a => k_is)
      (case l => k_is)
      (case c => k_is)
      (case k => k_is)
    case d5 =>
      refine' Rk.df_of KX G ?a ?l ?c ?k (fun _ _ _ _ _ _ us hl => match us, hl with | [_], _ => rfl)
      (case a => k_is)
      (case l => k_is)
      (case c => k_is)
      (case k => k_is)
    case d6 =>
      refine' Rk.df_of KX G ?a ?l ?c ?k (fun _ _ _ _ _ _ us hl => match us, hl with | [_], _ => rfl)
      (case a => k_is)
      (case l => k_is)
      (case c => k_is)
      (case k => k_is)
    case d7 =>
      refine' Rk.df_of KX G ?a ?l ?c ?k (fun _ _ _ _ _ _ us hl => match us, hl with | [_], _ => rfl)
      (case a => k_is)
      (case l => k_is)
      (case c => k_is)
      (case k => k_is)
    case d8 =>
      refine' Rk.df_of KX G ?a ?l ?c ?k (fun _ _ _ _ _ _ us hl => match us, hl with | [_], _ => rfl)
      (case a => k_is)
      (case l => k_is)
      (case c => k_is)
      (case k => k_is)
    case d9 =>
      refine' Rk.df_of KX G ?a ?l ?c ?k (fun _ _ _ _ _ _ us hl => match us, hl with | [_, _], _ => rfl)
      (case a => k_is)
      (case l => k_is)
      (case c => k_is)
      (case k => k_is)
    case d10 =>
      refine' Rk.df_of KX G ?a ?l ?c ?k (fun _ _ _ _ _ _ us hl => match us, hl with | [_, _], _ => rfl)
      (case a => k_is)
      (case l => k_is)
      (case c => k_is)
      (case k => k_is)
    case d11 =>
      refine' Rk.df_of KX G ?a ?l ?c ?k (fun _ _ _ _ _ _ us hl => match us, hl with | [_, _, _], _ => rfl)
      (case a => k_is)
      (case l => k_is)
      (case c => k_is)
      (case k => k_is)
    case d13 =>
      refine' Rk.df_of KX G ?a ?l ?c ?k (fun _ _ _ _ _ _ us hl => match us, hl with | [_, _, _], _ => rfl)
      (case a => k_is)
      (case l => k_is)
      (case c => k_is)
      (case k => k_is)
    case d14 =>
      refine' Rk.df_of KX G ?a ?l ?c ?k (fun _ _ _ _ _ _ us hl => match us, hl with | [_, _], _ => rfl)
      (case a => k_is)
      (case l => k_is)
      (case c => k_is)
      (case k => k_is)
    case e1 =>
      refine' Rk.df_of KX G ?a ?l ?c ?k (fun _ _ _ _ _ _ us hl => match us, hl with | [_, _], _ => rfl)
      (case a => k_is)
      (case l => k_is)
      (case c => k_is)
      (case k => k_is)
    case e2 =>
      refine' Rk.df_of KX G ?a ?l ?c ?k (fun _ _ _ _ _ _ us hl => match us, hl with | [_, _], _ => rfl)
      (case a => k_is)
      (case l => k_is)
      (case c => k_is)
      (case k => k_is)
    case e3 =>
      refine' Rk.df_of KX G ?a ?l ?c ?k (fun _ _ _ _ _ _ us hl => match us, hl with | [_], _ => rfl)
      (case a => k_is)
      (case l => k_is)
      (case c => k_is)
      (case k => k_is)
    case e4 =>
      refine' Rk.df_of KX G ?a ?l ?c ?k (fun _ _ _ _ _ _ us hl => match us, hl with | [_, _], _ => rfl)
      (case a => k_is)
      (case l => k_is)
      (case c => k_is)
      (case k => k_is)
    case e5 =>
      refine' Rk.df_of KX G ?a ?l ?c ?k (fun _ _ _ _ _ _ us hl => match us, hl with | [_, _], _ => rfl)
      (case a => k_is)
      (case l => k_is)
      (case c => k_is)
      (case k => k_is)
    case e6 =>
      refine' Rk.df_of KX G ?a ?l ?c ?k (fun _ _ _ _ _ _ us hl => match us, hl with | [_, _], _ => rfl)
      (case a => k_is)
      (case l => k_is)
      (case c => k_is)
      (case k => k_is)
    case e7 =>
      refine' Rk.df_of KX G ?a ?l ?c ?k (fun _ _ _ _ _ _ us hl => match us, hl with | [_, _, _, _], _ => rfl)
      (case a => k_is)
      (case l => k_is)
      (case c => k_is)
      (case k => k_is)
    case e8 =>
      refine' Rk.df_of KX G ?a ?l ?c ?k (fun _ _ _ _ _ _ us hl => match us, hl with | [_, _, _, _, _, _], _ => rfl)
      (case a => k_is)
      (case l => k_is)
      (case c => k_is)
      (case k => k_is)
    case e9 =>
      refine' Rk.df_of KX G ?a ?l ?c ?k (fun _ _ _ _ _ _ us hl => match us, hl with | [_, _, _], _ => rfl)
      (case a => k_is)
      (case l => k_is)
      (case c => k_is)
      (case k => k_is)
    case dl =>
      refine' Rk.dfL_of KX G hmg ?a ?l ?c ?k
      (case a => k_is)
      (case l => k_is)
      (case c => k_is)
      (case k => k_is)
    case tp =>
      refine' Rk.Top.mk (PySem.W.mg_none_of KX G ?z0) (PySem.W.mg_none_of KX G ?z1) (PySem.W.mg_none_of KX G ?z2) (PySem.W.mg_none_of KX G ?z3) (PySem.W.mg_none_of KX G ?z4) (PySem.W.mg_none_of KX G ?z5) (PySem.W.mg_none_of KX G ?z6) (PySem.W.mg_none_of KX G ?z7) (PySem.W.mg_none_of KX G ?z8) (PySem.W.mg_none_of KX G ?z9) (PySem.W.mg_none_of KX G ?z10) (PySem.W.mg_none_of KX G ?z11) (PySem.W.mg_none_of KX G ?z12) (Rk.con_of KX G ?c1 ?r1) (Rk.con_of KX G ?c2 ?r2) (Rk.last_of X (by simp)) (Rk.con_of KX G ?c4 ?r4)
      (case z0 => k_is)
      (case z1 => k_is)
      (case z2 => k_is)
      (case z3 => k_is)
      (case z4 => k_is)
      (case z5 => k_is)
      (case z6 => k_is)
      (case z7 => k_is)
      (case z8 => k_is)
      (case z9 => k_is)
      (case z10 => k_is)
      (case z11 => k_is)
      (case z12 => k_is)
      (case c1 => k_is)
      (case r1 => exact ⟨_, rfl⟩)
      (case c2 => k_is)
      (case r2 => exact ⟨_, rfl⟩)
      (case c4 => k_is)
      (case r4 => exact ⟨_, rfl⟩)
