import PyProof.Rows.All
import Wide.All
import OpenK.AllK
import Wide.FinOn
import HandS.ForMost
import HandS.Wide
import HandS.WideBits
import HandS.WideMore
import HandS.IsInst
import HandS.Flow
import HandS.Exc
import HandS.TryOnly
import HandS.Style
import HandS.Zip
import HandS.Head0
import HandS.Head1
import HandS.Head2
import HandS.HeadEnd
import HandS.HeadHook1
import HandS.HeadHook2
import HandS.Defaults
import HandS.MakeKwOnly
import HandS.EndBits
import KE.KStateDown
import Lean
import HandS.More
import PySem.Challenge.RW_monochord_k72_blocks_of_audio
set_option Elab.async false
set_option linter.all false
set_option maxRecDepth 100000
set_option maxHeartbeats 4000000
/-! The small frame over the hand layer: data (D), what stands for it (Rp), a state (Hd) of frozen things (B) and owned things (M), growth (Gr). -/
namespace Mc
open PySem PySem.Spec PyProof.Rows L2

inductive D where
  | non | bl (b : Bool) | int (i : Int) | str (x : Str) | lst (ds : List D) | tup (ds : List D) | obj (C : Addr) (ns : List Str) (ds : List D)

mutual
inductive Rp (B : Hp) : V → D → Prop
  | non : Rp B .non .non
  | bl (b : Bool) : Rp B (.bl b) (.bl b)
  | int (i : Int) : Rp B (.int i) (.int i)
  | str (x : Str) : Rp B (.str x) (.str x)
  | lst {a : Addr} {vs : List V} {ds : List D} : B a = some (.lst vs) → RpA B vs ds → Rp B (.ref a) (.lst ds)
  | tup {a : Addr} {vs : List V} {ds : List D} : B a = some (.tup vs) → RpA B vs ds → Rp B (.ref a) (.tup ds)
  | obj {a C dx : Addr} {ns : List Str} {vs : List V} {ds : List D} : B a = some (.ins C dx (ns.zip vs)) → RpA B vs ds → Rp B (.ref a) (.obj C ns ds)
inductive RpA (B : Hp) : List V → List D → Prop
  | nil : RpA B [] []
  | cons {v : V} {vs : List V} {d : D} {ds : List D} : Rp B v d → RpA B vs ds → RpA B (v :: vs) (d :: ds)
end
mutual
theorem Rp.mono {B B' : Hp} (k : Same B B') : ∀ (d : D) (v : V), Rp B v d → Rp B' v d
  | .non, _, h => by cases h; exact .non
  | .bl _, _, h => by cases h; exact .bl _
  | .int _, _, h => by cases h; exact .int _
  | .str _, _, h => by cases h; exact .str _
  | .lst ds, _, h => by cases h with | lst e r => exact .lst (k _ _ e) (RpA.mono k ds _ r)
  | .tup ds, _, h => by cases h with | tup e r => exact .tup (k _ _ e) (RpA.mono k ds _ r)
  | .obj C ns ds, _, h => by cases h with | obj e r => exact .obj (k _ _ e) (RpA.mono k ds _ r)
theorem RpA.mono {B B' : Hp} (k : Same B B') : ∀ (ds : List D) (vs : List V), RpA B vs ds → RpA B' vs ds
  | [], _, h => by cases h; exact .nil
  | d :: ds, _, h => by cases h with | cons x y => exact .cons (Rp.mono k d _ x) (RpA.mono k ds _ y)
end
section
variable {B B' B1 B2 : Hp} {v : V} {vs ws : List V} {d : D} {ds es : List D} {a : Addr}
theorem Rp.up (h : Rp B v d) (k : Same B B') : Rp B' v d := Rp.mono k d v h
theorem RpA.up (h : RpA B vs ds) (k : Same B B') : RpA B' vs ds := RpA.mono k ds vs h
theorem Rp.eInt {i : Int} (h : Rp B v (.int i)) : v = .int i := by cases h; rfl
theorem Rp.eBl {b : Bool} (h : Rp B v (.bl b)) : v = .bl b := by cases h; rfl
theorem Rp.eStr {x : Str} (h : Rp B v (.str x)) : v = .str x := by cases h; rfl
theorem Rp.eNon (h : Rp B v .non) : v = .non := by cases h; rfl
theorem Rp.eLst (h : Rp B v (.lst ds)) : ∃ a vs, v = .ref a ∧ B a = some (.lst vs) ∧ RpA B vs ds := by cases h with | lst e r => exact ⟨_, _, rfl, e, r⟩
theorem Rp.eTup (h : Rp B v (.tup ds)) : ∃ a vs, v = .ref a ∧ B a = some (.tup vs) ∧ RpA B vs ds := by cases h with | tup e r => exact ⟨_, _, rfl, e, r⟩
theorem Rp.eObj {C : Addr} {ns : List Str} (h : Rp B v (.obj C ns ds)) : ∃ a dx vs, v = .ref a ∧ B a = some (.ins C dx (ns.zip vs)) ∧ RpA B vs ds := by cases h with | obj e r => exact ⟨_, _, _, rfl, e, r⟩
theorem RpA.eNil (h : RpA B vs []) : vs = [] := by cases h; rfl
theorem RpA.eCons (h : RpA B vs (d :: ds)) : ∃ v ws, vs = v :: ws ∧ Rp B v d ∧ RpA B ws ds := by cases h with | cons x y => exact ⟨_, _, rfl, x, y⟩
theorem RpA.len : ∀ {ds : List D} {vs : List V}, RpA B vs ds → vs.length = ds.length
  | [], _, h => by cases h; rfl
  | d :: ds, _, h => by cases h with | cons x y => rw [List.length_cons, List.length_cons, RpA.len y]
theorem RpA.app : ∀ {ds : List D} {vs : List V}, RpA B vs ds → RpA B ws es → RpA B (vs ++ ws) (ds ++ es)
  | [], _, h, g => by cases h; exact g
  | d :: ds, _, h, g => by cases h with | cons x y => exact .cons x (RpA.app y g)
theorem RpA.snoc (h : RpA B vs ds) (x : Rp B v d) : RpA B (vs ++ [v]) (ds ++ [d]) := h.app (.cons x .nil)
theorem RpA.get : ∀ {ds : List D} {vs : List V} {i : Nat} {d : D}, RpA B vs ds → ds[i]? = some d → ∃ v, vs[i]? = some v ∧ Rp B v d
  | [], _, _, _, _, e => by simp at e
  | c :: ds, _, 0, d, h, e => by cases h with | cons x y => exact ⟨_, rfl, by have := Option.some.inj e; subst this; exact x⟩
  | c :: ds, _, i + 1, d, h, e => by cases h with | cons x y => obtain ⟨v, h1, h2⟩ := RpA.get (i := i) y (by simpa using e); exact ⟨v, by simpa using h1, h2⟩
theorem RpA.getV : ∀ {ds : List D} {vs : List V} {i : Nat} {v : V}, RpA B vs ds → vs[i]? = some v → ∃ d, ds[i]? = some d ∧ Rp B v d
  | [], _, _, _, h, e => by cases h; simp at e
  | c :: ds, _, 0, v, h, e => by cases h with | cons x y => exact ⟨_, rfl, by have := Option.some.inj e; subst this; exact x⟩
  | c :: ds, _, i + 1, v, h, e => by cases h with | cons x y => obtain ⟨d, h1, h2⟩ := RpA.getV (i := i) y (by simpa using e); exact ⟨d, by simpa using h1, h2⟩
theorem RpA.take : ∀ {ds : List D} {vs : List V} (n : Nat), RpA B vs ds → RpA B (vs.take n) (ds.take n)
  | [], _, n, h => by cases h; cases n <;> exact .nil
  | d :: ds, _, 0, h => .nil
  | d :: ds, _, n + 1, h => by cases h with | cons x y => exact .cons x (RpA.take n y)
theorem RpA.drop : ∀ {ds : List D} {vs : List V} (n : Nat), RpA B vs ds → RpA B (vs.drop n) (ds.drop n)
  | [], _, n, h => by cases h; cases n <;> exact .nil
  | d :: ds, _, 0, h => h
  | d :: ds, _, n + 1, h => by cases h with | cons x y => exact RpA.drop n y
theorem RpA.ints : ∀ {xs : List Int} {vs : List V}, RpA B vs (xs.map D.int) → vs = xs.map V.int
  | [], _, h => by cases h; rfl
  | x :: xs, _, h => by cases h with | cons e r => rw [e.eInt, RpA.ints r]; rfl
theorem RpA.ofInts : ∀ (xs : List Int), RpA B (xs.map V.int) (xs.map D.int)
  | [] => .nil
  | x :: xs => .cons (.int x) (RpA.ofInts xs)
theorem RpA.bls : ∀ {xs : List Bool} {vs : List V}, RpA B vs (xs.map D.bl) → vs = xs.map V.bl
  | [], _, h => by cases h; rfl
  | x :: xs, _, h => by cases h with | cons e r => rw [e.eBl, RpA.bls r]; rfl
theorem RpA.ofBls : ∀ (xs : List Bool), RpA B (xs.map V.bl) (xs.map D.bl)
  | [] => .nil
  | x :: xs => .cons (.bl x) (RpA.ofBls xs)
abbrev D.ints (xs : List Int) : D := .lst (xs.map D.int)
theorem Rp.eInts {xs : List Int} (h : Rp B v (D.ints xs)) : ∃ a, v = .ref a ∧ B a = some (.lst (xs.map V.int)) := by
  obtain ⟨a, vs, rfl, e, r⟩ := h.eLst
  rw [r.ints] at e
  exact ⟨a, rfl, e⟩
theorem Rp.ints {xs : List Int} (e : B a = some (.lst (xs.map V.int))) : Rp B (.ref a) (D.ints xs) := .lst e (RpA.ofInts xs)
theorem RpA.set : ∀ {ds : List D} {vs : List V} (i : Nat), RpA B vs ds → Rp B v d → RpA B (vs.set i v) (ds.set i d)
  | [], _, _, h, _ => by cases h; exact .nil
  | c :: ds, _, 0, h, x => by cases h with | cons _ y => exact .cons x y
  | c :: ds, _, i + 1, h, x => by cases h with | cons z y => exact .cons z (RpA.set i y x)
end

/-! ### the model's data -/
mutual
def D.py : D → PyData
  | .non => .none
  | .bl b => .bool b
  | .int i => .int i
  | .str x => .str x
  | .lst ds => .list (D.pys ds)
  | .tup ds => .tuple (D.pys ds)
  | .obj _ _ _ => .none
def D.pys : List D → List PyData
  | [] => []
  | d :: ds => d.py :: D.pys ds
end
mutual
def D.plain : D → Bool
  | .obj _ _ _ => false
  | .lst ds => D.plains ds
  | .tup ds => D.plains ds
  | _ => true
def D.plains : List D → Bool
  | [] => true
  | d :: ds => d.plain && D.plains ds
end
mutual
theorem Rp.dp {K : PySem.W.Frag} {B : Hp} : ∀ (d : D) (v : V), d.plain = true → Rp B v d → Dp K B v d.py
  | .non, _, _, h => by cases h; exact .non
  | .bl _, _, _, h => by cases h; exact .bl _
  | .int _, _, _, h => by cases h; exact .int _
  | .str _, _, _, h => by cases h; exact .str _
  | .lst ds, _, p, h => by cases h with | lst e r => exact .lst (.inl (.inl e)) (RpA.dp ds _ p r)
  | .tup ds, _, p, h => by cases h with | tup e r => exact .tup (.inl (.inl e)) (RpA.dp ds _ p r)
  | .obj C ns ds, _, p, h => by cases p
theorem RpA.dp {K : PySem.W.Frag} {B : Hp} : ∀ (ds : List D) (vs : List V), D.plains ds = true → RpA B vs ds → DpAll K B vs (D.pys ds)
  | [], _, _, h => by cases h; exact .nil
  | d :: ds, _, p, h => by
    have p2 : (d.plain && D.plains ds) = true := p
    rw [Bool.and_eq_true] at p2
    cases h with | cons x y => exact .cons (Rp.dp d _ p2.1 x) (RpA.dp ds _ p2.2 y)
end
theorem canLayAll_iff : ∀ ds : List PyData, PyData.canLayAll0 ds = true ↔ ∀ d ∈ ds, PyData.canLay0 d = true
  | [] => by simp [PyData.canLayAll0]
  | d :: ds => by
    have h := canLayAll_iff ds
    simp [PyData.canLayAll0, h]

/-! ### a state -/
structure Hd (B : Hp) (M : List (Addr × HO)) (H : Hp) : Prop where
  same : Same B H
  own : ∀ p ∈ M, H p.1 = some p.2 ∧ B p.1 = none
  nd : (M.map (·.1)).Nodup
structure Gr (B H B' H' : Hp) : Prop where
  s : Same B B'
  dom : ∀ a, H a ≠ none → H' a ≠ none
  old : ∀ a, H a ≠ none → B a = none → B' a = none
section
variable {B B' B1 B2 H H' H1 H2 : Hp} {M M' : List (Addr × HO)} {a p : Addr} {o o' : HO} {K : PySem.W.Frag}
theorem Gr.refl : Gr B H B H := ⟨Same.refl _, fun _ h => h, fun _ _ h => h⟩
theorem Gr.trans (x : Gr B H B1 H1) (y : Gr B1 H1 B2 H2) : Gr B H B2 H2 := ⟨x.s.trans y.s, fun a h => y.dom a (x.dom a h), fun a h n => y.old a (x.dom a h) (x.old a h n)⟩
theorem same_upd {H : Hp} {p : Addr} {o : HO} (h : H p = none) : Same H (upd H p o) := fun b x e => by rw [upd_ne (ne_of_none e h)]; exact e
theorem dom_upd {H : Hp} {p : Addr} {o : HO} : ∀ a, H a ≠ none → upd H p o a ≠ none := fun a h => by
  by_cases e : a = p
  · rw [e, upd_same]; exact fun z => nomatch z
  · rw [upd_ne e]; exact h
theorem Hd.rd (S : Hd B M H) (e : B a = some o) : H a = some o := S.same _ _ e
theorem Hd.rl {vs : List V} (S : Hd B M H) (e : B a = some (.lst vs)) : SqL K H a vs := .inl (.inl (S.same _ _ e))
theorem Hd.rt {vs : List V} (S : Hd B M H) (e : B a = some (.tup vs)) : SqT K H a vs := .inl (.inl (S.same _ _ e))
theorem Hd.fr (S : Hd B M H) (n : H p = none) : B p = none := S.same.free n
theorem Hd.at (S : Hd B M H) (i : Nat) (e : M[i]? = some (a, o)) : H a = some o := (S.own _ (List.mem_of_getElem? e)).1
theorem Hd.out (S : Hd B M H) (i : Nat) (e : M[i]? = some (a, o)) : B a = none := (S.own _ (List.mem_of_getElem? e)).2
/-- a new frozen object -/
theorem Hd.new (S : Hd B M H) (n : H p = none) : Hd (upd B p o) M (upd H p o) := by
  refine ⟨fun b x e => ?_, fun q hq => ?_, S.nd⟩
  · by_cases hb : b = p
    · rw [hb, upd_same] at e ⊢; exact e
    · rw [upd_ne hb] at e ⊢; exact S.same _ _ e
  · have h := S.own q hq
    have ne : q.1 ≠ p := ne_of_none h.1 n
    rw [upd_ne ne, upd_ne ne]; exact h
theorem Gr.new (n : H p = none) : Gr B H (upd B p o) (upd H p o) ∨ True := .inr trivial
theorem Hd.gnew (S : Hd B M H) (n : H p = none) : Gr B H (upd B p o) (upd H p o) :=
  ⟨same_upd (S.fr n), dom_upd, fun a h e => by
    have ne : a ≠ p := fun z => h (by rw [z]; exact n)
    rw [upd_ne ne]; exact e⟩
/-- a new owned object -/
theorem Hd.mut (S : Hd B M H) (n : H p = none) : Hd B ((p, o) :: M) (upd H p o) := by
  refine ⟨fun b x e => ?_, fun q hq => ?_, ?_⟩
  · have e2 := S.same _ _ e
    rw [upd_ne (ne_of_none e2 n)]; exact e2
  · cases List.mem_cons.mp hq with
    | inl h => subst h; exact ⟨upd_same, S.fr n⟩
    | inr h =>
      have h2 := S.own q h
      rw [upd_ne (ne_of_none h2.1 n)]; exact h2
  · rw [List.map_cons, List.nodup_cons]
    refine ⟨fun hm => ?_, S.nd⟩
    obtain ⟨q, hq, e⟩ := List.mem_map.mp hm
    have h2 := (S.own q hq).1
    rw [e, n] at h2; cases h2
theorem Hd.gmut (S : Hd B M H) (n : H p = none) : Gr B H B (upd H p o) := ⟨Same.refl _, dom_upd, fun _ _ e => e⟩
theorem nodup_get : ∀ {l : List Addr}, l.Nodup → ∀ {i j : Nat} {x : Addr}, l[i]? = some x → l[j]? = some x → i = j
  | [], _, i, j, x, hi, _ => by simp at hi
  | y :: r, h, 0, 0, x, _, _ => rfl
  | y :: r, h, 0, j + 1, x, hi, hj => by
    have e : y = x := Option.some.inj hi
    subst e
    exact absurd (List.mem_of_getElem? (by simpa using hj)) (List.nodup_cons.mp h).1
  | y :: r, h, i + 1, 0, x, hi, hj => by
    have e : y = x := Option.some.inj hj
    subst e
    exact absurd (List.mem_of_getElem? (by simpa using hi)) (List.nodup_cons.mp h).1
  | y :: r, h, i + 1, j + 1, x, hi, hj => by
    rw [nodup_get (List.nodup_cons.mp h).2 (i := i) (j := j) (by simpa using hi) (by simpa using hj)]
theorem map_erase {α β : Type} (f : α → β) : ∀ (l : List α) (i : Nat), (l.eraseIdx i).map f = (l.map f).eraseIdx i
  | [], _ => rfl
  | _ :: _, 0 => rfl
  | x :: r, i + 1 => by
    show f x :: (r.eraseIdx i).map f = f x :: (r.map f).eraseIdx i
    rw [map_erase f r i]
/-- an owned object changes -/
theorem Hd.put (S : Hd B M H) (i : Nat) (e : M[i]? = some (a, o)) (o' : HO) : Hd B (M.set i (a, o')) (upd H a o') := by
  have ha := S.own _ (List.mem_of_getElem? e)
  have ei : (M.map (·.1))[i]? = some a := by rw [List.getElem?_map, e]; rfl
  have em : (M.set i (a, o')).map (·.1) = M.map (·.1) := by
    rw [List.map_set]
    apply List.ext_getElem?
    intro j
    rw [List.getElem?_set]
    split
    · rename_i h
      subst h
      split
      · exact ei.symm
      · rename_i h2
        rw [List.getElem?_eq_none (by omega)]
    · rfl
  refine ⟨fun b x eb => ?_, fun q hq => ?_, by rw [em]; exact S.nd⟩
  · have nb : b ≠ a := fun z => by rw [z, ha.2] at eb; cases eb
    rw [upd_ne nb]; exact S.same _ _ eb
  · obtain ⟨j, hj⟩ := List.getElem?_of_mem hq
    rw [List.getElem?_set] at hj
    split at hj
    · split at hj
      · have := Option.some.inj hj; subst this; exact ⟨upd_same, ha.2⟩
      · cases hj
    · rename_i hij
      have hm := S.own q (List.mem_of_getElem? hj)
      have nq : q.1 ≠ a := fun z => hij (nodup_get S.nd ei (by rw [List.getElem?_map, hj, ← z]; rfl))
      rw [upd_ne nq]; exact hm
theorem Hd.gput (S : Hd B M H) (i : Nat) (e : M[i]? = some (a, o)) (o' : HO) : Gr B H B (upd H a o') := ⟨Same.refl _, dom_upd, fun _ _ e => e⟩
/-- an owned object is frozen: the heap stays -/
theorem Hd.frz (S : Hd B M H) (i : Nat) (e : M[i]? = some (a, o)) : Hd (upd B a o) (M.eraseIdx i) H := by
  have ha := S.own _ (List.mem_of_getElem? e)
  have ei : (M.map (·.1))[i]? = some a := by rw [List.getElem?_map, e]; rfl
  have em : (M.eraseIdx i).map (·.1) = (M.map (·.1)).eraseIdx i := map_erase _ _ _
  refine ⟨fun b x eb => ?_, fun q hq => ?_, by rw [em]; exact List.Nodup.eraseIdx i S.nd⟩
  · by_cases hb : b = a
    · rw [hb, upd_same] at eb; rw [hb, ← eb]; exact ha.1
    · rw [upd_ne hb] at eb; exact S.same _ _ eb
  · obtain ⟨j, hj, hji⟩ := List.mem_eraseIdx_iff_getElem?.mp hq
    have hm := S.own q (List.mem_of_getElem? hji)
    have nq : q.1 ≠ a := fun z => hj (nodup_get S.nd (by rw [List.getElem?_map, hji, ← z]; rfl) ei)
    rw [upd_ne nq]; exact hm
theorem Hd.gfrz (S : Hd B M H) (i : Nat) (e : M[i]? = some (a, o)) : Same B (upd B a o) := same_upd (S.out i e)
/-- back: what was frozen for a call is owned again -/
theorem Hd.thaw (S : Hd B M H) (i : Nat) (e : M[i]? = some (a, o)) (S2 : Hd B' M' H') (g : Gr (upd B a o) H B' H') (nM : ∀ q ∈ M', q.1 ≠ a) : Hd (fun b => if b = a then none else B' b) ((a, o) :: M') H' := by
  have hb : B' a = some o := g.s _ _ upd_same
  refine ⟨fun b x eb => ?_, fun q hq => ?_, ?_⟩
  · by_cases h : b = a
    · subst h; simp at eb
    · simp [h] at eb; exact S2.same _ _ eb
  · cases List.mem_cons.mp hq with
    | inl h => subst h; exact ⟨S2.same _ _ hb, by simp⟩
    | inr h => exact ⟨(S2.own q h).1, by simp [nM q h, (S2.own q h).2]⟩
  · rw [List.map_cons, List.nodup_cons]
    refine ⟨fun hm => ?_, S2.nd⟩
    obtain ⟨q, hq, e2⟩ := List.mem_map.mp hm
    exact nM q hq e2
theorem Hd.perm (S : Hd B M H) (h : M.Perm M') : Hd B M' H := ⟨S.same, fun p hp => S.own p (h.mem_iff.mpr hp), ((h.map _).nodup_iff).mp S.nd⟩
theorem perm_front : ∀ (M : List (Addr × HO)) (i : Nat) (x : Addr × HO), M[i]? = some x → M.Perm (x :: M.eraseIdx i)
  | [], _, _, e => by simp at e
  | y :: r, 0, x, e => by have := Option.some.inj e; subst this; exact List.Perm.refl _
  | y :: r, i + 1, x, e => ((perm_front r i x (by simpa using e)).cons y).trans (List.Perm.swap x y _)
/-- the i-th owned object to the front -/
theorem Hd.front (S : Hd B M H) (i : Nat) (e : M[i]? = some (a, o)) : Hd B ((a, o) :: M.eraseIdx i) H := S.perm (perm_front M i _ e)
theorem Hd.drop1 {x : Addr × HO} (S : Hd B (x :: M) H) : Hd B M H := ⟨S.same, fun p hp => S.own p (List.mem_cons_of_mem _ hp), (List.nodup_cons.mp S.nd).2⟩
theorem Gr.up {v : V} {d : D} (g : Gr B H B' H') (h : Rp B v d) : Rp B' v d := h.up g.s
theorem Gr.ups {v : List V} {d : List D} (g : Gr B H B' H') (h : RpA B v d) : RpA B' v d := h.up g.s
theorem SqL.up' {a : Addr} {xs : List V} (e : Same B B') (h : SqL K B a xs) : SqL K B' a xs := e.seq h
end

/-! ### small steps of readings -/
theorem itb {P A B : Prop} [Decidable P] (h1 : P → A) (h2 : ¬ P → B) : if decide P = true then A else B := by
  by_cases h : P
  · rw [if_pos (decide_eq_true h)]; exact h1 h
  · rw [if_neg (by rw [decide_eq_false h]; decide)]; exact h2 h
theorem itn {P A B : Prop} [Decidable P] (h1 : ¬ P → A) (h2 : P → B) : if (!decide P) = true then A else B := by
  by_cases h : P
  · rw [if_neg (by rw [decide_eq_true h]; decide)]; exact h2 h
  · rw [if_pos (by rw [decide_eq_false h]; rfl)]; exact h1 h
theorem its {A B : Prop} {b : Bool} (h1 : b = true → A) (h2 : b = false → B) : if b = true then A else B := by
  cases b
  · exact h2 rfl
  · exact h1 rfl
end Mc

set_option Elab.async false
set_option linter.all false
set_option maxRecDepth 100000
set_option maxHeartbeats 4000000
namespace Mc
open PySem PySem.Spec PyProof.Rows L2
/-! ### defs by their promises -/
structure Fd (P : Program) (w : World) (K : PySem.W.Frag) (mg : Str → Option Value) (base : Heap) (CX : CXT) (k : Nat) (q : Str × Option Str) (ps : List Str) (sp : Sp) : Prop where
  ex : ∃ fd, FnOk P w K mg base CX k (He.fAd K q) fd ps sp ∧ Binds K fd ps []
  kp : PySem.W.keepIn K (.ref (He.fAd K q)) = true
theorem Fd.mono {P : Program} {w : World} {K : PySem.W.Frag} {mg : Str → Option Value} {base : Heap} {CX : CXT} {j k : Nat} {q : Str × Option Str} {ps : List Str} {sp : Sp} (G : Fd P w K mg base CX j q ps sp) (h : j ≤ k) : Fd P w K mg base CX k q ps sp := by
  obtain ⟨⟨fd, F, b⟩, kp⟩ := G
  exact ⟨⟨fd, F.mono h, b⟩, kp⟩
section
variable {X : Cx} {CX : CXT} {k : Nat} {C : Addr} {ps : List Str} {sp : Sp} {E : XK} {x m c : Str} {p pos apos : Pos} {e o : Expr} {es : List Expr} {ta : TE} {t : TA}
theorem pe_callF (G : Fd X.prog X.w X.K X.mg X.base CX k (x, none) ps sp) (hr : Room k X.A) (hg : Gl X x) (hm : X.mg x = some (.ref (He.ga X.K x))) (hx : Passes CX X E)
    (ha : PA X (e :: es) t) (hdb : (x == ("__debug__" : Str)) = false := by decide) (he : starEach (e :: es) X.env = (false, eval e X.env) :: starEach es X.env := by rfl) (hpl : (backTo pos (starEach es X.env)).any (·.1) = false := by rfl) :
    PE X (.Call (.Name x p) (e :: es) [] pos) (tCall sp [] E t) := by
  obtain ⟨⟨fd, F, b⟩, kp⟩ := G
  exact pe_call F hr hg hm kp b .nil hx ha hdb he hpl
theorem pe_callF0 (G : Fd X.prog X.w X.K X.mg X.base CX k (x, none) ps sp) (hr : Room k X.A) (hg : Gl X x) (hm : X.mg x = some (.ref (He.ga X.K x))) (hx : Passes CX X E)
    (hdb : (x == ("__debug__" : Str)) = false := by decide) : PE X (.Call (.Name x p) [] [] pos) (tCall sp [] E tNil) := by
  obtain ⟨⟨fd, F, b⟩, kp⟩ := G
  exact pe_call0 F hr hg hm kp b .nil hx hdb
theorem pe_methF {pl : Sem Bool} (he : PE X o ta) (cl : Cls X.K (He.ga X.K c)) (hm : Meth X.K (He.ga X.K c) m (He.fAd X.K (c, some m))) (G : Fd X.prog X.w X.K X.mg X.base CX k (c, some m) ps sp) (hr : Room k X.A) (hx : Passes CX X E) (ha : PA X (e :: es) t)
    (hst : starEach (e :: es) X.env = (false, eval e X.env) :: starEach es X.env := by rfl) (hpl : (backTo pos (starEach es X.env)).any (·.1) = false := by rfl)
    (ht : eval (.Call (.Attribute o m apos) (e :: es) [] pos) X.env = (do
      let ov ← eval o X.env
      standAt apos.atName
      let (f, first) ← holding [ov] (getMethod ov m pl)
      callWith pos f first (backTo pos (starEach (e :: es) X.env)) (backToKw pos (keywordEach [] X.env))) := by rfl) :
    PE X (.Call (.Attribute o m apos) (e :: es) [] pos) (tMeth (He.ga X.K c) m sp [] E ta t) := by
  obtain ⟨⟨fd, F, b⟩, kp⟩ := G
  exact pe_meth he cl hm F hr b .nil hx ha hst hpl ht
theorem pe_methF0 {pl : Sem Bool} (he : PE X o ta) (cl : Cls X.K (He.ga X.K c)) (hm : Meth X.K (He.ga X.K c) m (He.fAd X.K (c, some m))) (G : Fd X.prog X.w X.K X.mg X.base CX k (c, some m) ps sp) (hr : Room k X.A) (hx : Passes CX X E)
    (ht : eval (.Call (.Attribute o m apos) [] [] pos) X.env = (do
      let ov ← eval o X.env
      standAt apos.atName
      let (f, first) ← holding [ov] (getMethod ov m pl)
      callWith pos f first (backTo pos (starEach [] X.env)) (backToKw pos (keywordEach [] X.env))) := by rfl) :
    PE X (.Call (.Attribute o m apos) [] [] pos) (tMeth (He.ga X.K c) m sp [] E ta tNil) := by
  obtain ⟨⟨fd, F, b⟩, kp⟩ := G
  exact pe_meth0 he cl hm F hr b .nil hx ht
theorem pe_makeF (M : Mk X.K (He.ga X.K x) (He.fAd X.K (x, some "__init__"))) (G : Fd X.prog X.w X.K X.mg X.base CX k (x, some "__init__") ps sp) (hr : Room (k + 1) X.A) (hg : Gl X x) (hm : X.mg x = some (.ref (He.ga X.K x))) (hx : Passes CX X E)
    (ha : PA X (e :: es) t) (hdb : (x == ("__debug__" : Str)) = false := by decide) (he : starEach (e :: es) X.env = (false, eval e X.env) :: starEach es X.env := by rfl) (hpl : (backTo pos (starEach es X.env)).any (·.1) = false := by rfl) :
    PE X (.Call (.Name x p) (e :: es) [] pos) (tMake (He.ga X.K x) sp [] E t) := by
  obtain ⟨⟨fd, F, b⟩, kp⟩ := G
  exact pe_make M F hr hg hm b .nil hx ha hdb he hpl
theorem pe_makeF0 (M : Mk X.K (He.ga X.K x) (He.fAd X.K (x, some "__init__"))) (G : Fd X.prog X.w X.K X.mg X.base CX k (x, some "__init__") ps sp) (hr : Room (k + 1) X.A) (hg : Gl X x) (hm : X.mg x = some (.ref (He.ga X.K x))) (hx : Passes CX X E)
    (hdb : (x == ("__debug__" : Str)) = false := by decide) : PE X (.Call (.Name x p) [] [] pos) (tMake (He.ga X.K x) sp [] E tNil) := by
  obtain ⟨⟨fd, F, b⟩, kp⟩ := G
  exact pe_make0 M F hr hg hm b .nil hx hdb
end
/-! ### rules with the value said -/
section
variable {X : Cx}
theorem call_lenN : CallR X (.builtin "len") (fun xs H Q => ∃ p ys n, xs = [.ref p] ∧ (SqL X.K H p ys ∨ SqT X.K H p ys) ∧ ys.length = n ∧ Q (.int ((n : Nat) : Int)) H) := by
  intro pins s σ H xs us Q I r h
  obtain ⟨p, ys, n, e, h1, rfl, q⟩ := h
  exact call_len_seq pins s σ H xs us Q I r ⟨p, ys, e, h1, q⟩
theorem op_catN : OpR X (binaryOp .Add) (fun x y H Q => ∃ l b xs zs ws, x = .ref l ∧ y = .ref b ∧ H l = some (.lst xs) ∧ H b = some (.lst zs) ∧ xs ++ zs = ws ∧ ws.length ≤ sizeLine ∧ ∀ p, H p = none → Q (.ref p) (upd H p (.lst ws))) := by
  intro pins s σ H x y v u Q I rx ry h
  obtain ⟨l, b, xs, zs, ws, e1, e2, h1, h2, rfl, hl, q⟩ := h
  exact op_cat pins s σ H x y v u Q I rx ry ⟨l, b, xs, zs, e1, e2, h1, h2, by rw [List.length_append] at hl; exact hl, q⟩
theorem sl_listN : SlR X (fun x lo hi H Q => ∃ a xs ys, x = .ref a ∧ SqL X.K H a xs ∧ cutV xs lo hi = ys ∧ ∀ p, H p = none → Q (.ref p) (upd H p (.lst ys))) := by
  intro pins s σ H x v vl vu lo hi sl Q I rx hs pl pu h
  obtain ⟨a, xs, ys, e, h1, rfl, q⟩ := h
  exact sl_list pins s σ H x v vl vu lo hi sl Q I rx hs pl pu ⟨a, xs, e, h1, q⟩
theorem mt_appendN : MtR X "list.append" (fun x vs H Q => ∃ l xs y zs, x = .ref l ∧ vs = [y] ∧ H l = some (.lst xs) ∧ xs ++ [y] = zs ∧ xs.length < sizeLine ∧ Q .non (upd H l (.lst zs))) := by
  intro pins s σ H x vs v us Q I rx rv h
  obtain ⟨l, xs, y, zs, e1, e2, h1, rfl, hl, q⟩ := h
  exact mt_append pins s σ H x vs v us Q I rx rv ⟨l, xs, y, e1, e2, h1, hl, q⟩
theorem mt_extendN : MtR X "list.extend" (fun x vs H Q => ∃ l b xs zs ws, x = .ref l ∧ vs = [.ref b] ∧ H l = some (.lst xs) ∧ H b = some (.lst zs) ∧ xs ++ zs = ws ∧ ws.length ≤ sizeLine ∧ Q .non (upd H l (.lst ws))) := by
  intro pins s σ H x vs v us Q I rx rv h
  obtain ⟨l, b, xs, zs, ws, e1, e2, h1, h2, rfl, hl, q⟩ := h
  exact mt_extend pins s σ H x vs v us Q I rx rv ⟨l, b, xs, zs, e1, e2, h1, h2, by rw [List.length_append] at hl; exact hl, q⟩
/-- two ints, the value said -/
theorem op_S {f : Value → Value → Sem Value} {C : Int → Int → Prop} {g : Int → Int → Int} (h : OpR X f (rI C fun i j => .int (g i j))) : OpR X f (fun x y H Q => ∃ i j r, x = .int i ∧ y = .int j ∧ C i j ∧ g i j = r ∧ Q (.int r) H) := by
  intro pins s σ H x y v u Q I rx ry q
  obtain ⟨i, j, r, e1, e2, c, rfl, q⟩ := q
  exact h pins s σ H x y v u Q I rx ry ⟨i, j, e1, e2, c, q⟩
theorem op_S0 {f : Value → Value → Sem Value} {g : Int → Int → Int} (h : OpR X f (rI0 fun i j => .int (g i j))) : OpR X f (fun x y H Q => ∃ i j r, x = .int i ∧ y = .int j ∧ g i j = r ∧ Q (.int r) H) := by
  intro pins s σ H x y v u Q I rx ry q
  obtain ⟨i, j, r, e1, e2, rfl, q⟩ := q
  exact h pins s σ H x y v u Q I rx ry ⟨i, j, e1, e2, q⟩
/-- == and != of data, by D -/
theorem op_eqP (hu : X.A.units + 64 < cLine) : OpR X (compareOp .Eq) (fun x y H Q => ∃ B d e b, Same B H ∧ Rp B x d ∧ Rp B y e ∧ d.plain = true ∧ e.plain = true ∧ SeqAt.shaped d.py = true ∧ SeqAt.shaped e.py = true ∧ PyData.eqv d.py e.py = b ∧ Q (.bl b) H) := by
  intro pins s σ H x y v u Q I rx ry q
  obtain ⟨B, d, e, b, sm, r1, r2, p1, p2, s1, s2, rfl, q⟩ := q
  exact op_eqD hu pins s σ H x y v u Q I rx ry ⟨d.py, e.py, Rp.dp d x p1 (r1.up sm), Rp.dp e y p2 (r2.up sm), s1, s2, q⟩
theorem op_neP (hu : X.A.units + 64 < cLine) : OpR X (compareOp .NotEq) (fun x y H Q => ∃ B d e b, Same B H ∧ Rp B x d ∧ Rp B y e ∧ d.plain = true ∧ e.plain = true ∧ SeqAt.shaped d.py = true ∧ SeqAt.shaped e.py = true ∧ PyData.eqv d.py e.py = b ∧ Q (.bl (!b)) H) := by
  intro pins s σ H x y v u Q I rx ry q
  obtain ⟨B, d, e, b, sm, r1, r2, p1, p2, s1, s2, rfl, q⟩ := q
  exact op_neD hu pins s σ H x y v u Q I rx ry ⟨d.py, e.py, Rp.dp d x p1 (r1.up sm), Rp.dp e y p2 (r2.up sm), s1, s2, q⟩
theorem iop_S0 {op : Operator} {g : Int → Int → Int} (h : OpR X (inplaceOp op) (rI0 fun i j => .int (g i j))) : PIp X op (fun x y H Q => ∃ i j r, x = .int i ∧ y = .int j ∧ g i j = r ∧ Q (.int r) H) := by
  intro pins s σ H x y v u Q I rx ry q
  obtain ⟨i, j, r, e1, e2, rfl, q⟩ := q
  exact h pins s σ H x y v u Q I rx ry ⟨i, j, e1, e2, q⟩
end
/-! ### ints of a list -/
def geti (xs : List Int) (i : Int) : Int := xs.getD i.toNat 0
theorem at_ints {xs : List Int} {i : Int} (h0 : 0 ≤ i) (h1 : i < xs.length) : atI (xs.map V.int) i = some (.int (geti xs i)) := by
  unfold atI ixN
  rw [if_pos h0, List.length_map, if_pos h1]
  show (xs.map V.int)[i.toNat]? = _
  have h2 : i.toNat < xs.length := by omega
  rw [List.getElem?_map, List.getElem?_eq_getElem h2]
  unfold geti
  rw [List.getD_eq_getElem?_getD, List.getElem?_eq_getElem h2]
  rfl
theorem at_neg {xs : List Int} {i : Int} (h0 : i < 0) (h1 : 0 ≤ i + xs.length) : atI (xs.map V.int) i = some (.int (geti xs (i + xs.length))) := by
  unfold atI ixN
  rw [if_neg (by omega), List.length_map, if_pos (by omega)]
  show (xs.map V.int)[(i + (xs.length : Int)).toNat]? = _
  have h2 : (i + (xs.length : Int)).toNat < xs.length := by omega
  rw [List.getElem?_map, List.getElem?_eq_getElem h2]
  unfold geti
  rw [List.getD_eq_getElem?_getD, List.getElem?_eq_getElem h2]
  rfl
theorem at_nat {vs : List V} {i : Int} {v : V} (h0 : 0 ≤ i) (h : vs[i.toNat]? = some v) : atI vs i = some v := by
  have h2 : i.toNat < vs.length := (List.getElem?_eq_some_iff.mp h).1
  unfold atI ixN
  rw [if_pos h0, if_pos (by omega)]
  exact h
theorem geti_of {xs : List Int} {i : Nat} {x : Int} (h : xs[i]? = some x) : geti xs (i : Int) = x := by
  unfold geti
  rw [List.getD_eq_getElem?_getD, Int.toNat_natCast, h]
  rfl
theorem geti_mem {xs : List Int} {i : Int} (h0 : 0 ≤ i) (h1 : i < xs.length) : geti xs i ∈ xs := by
  have h2 : i.toNat < xs.length := by omega
  unfold geti
  rw [List.getD_eq_getElem?_getD, List.getElem?_eq_getElem h2]
  exact List.getElem_mem h2
theorem sIx_some {n : Nat} {d : Nat} {i : Int} (h0 : 0 ≤ i) : HT.sIx n d (some i) = min i.toNat n := by
  have e : i = ((i.toNat : Nat) : Int) := by omega
  rw [e, HT.sIx_nat]
  rw [Int.toNat_natCast]
def sl {α : Type} (xs : List α) (i j : Int) : List α := (xs.drop i.toNat).take (j.toNat - i.toNat)
theorem cut_sl {xs : List V} {i j : Int} (h0 : 0 ≤ i) (h1 : 0 ≤ j) : cutV xs (some i) (some j) = sl xs i j := by
  unfold cutV sl
  rw [sIx_some h0, sIx_some h1]
  by_cases h : i.toNat ≤ xs.length
  · rw [Nat.min_eq_left h]
    by_cases h2 : j.toNat ≤ xs.length
    · rw [Nat.min_eq_left h2]
    · rw [Nat.min_eq_right (show xs.length ≤ j.toNat by omega)]
      rw [List.take_of_length_le (by rw [List.length_drop]; omega), List.take_of_length_le (by rw [List.length_drop]; omega)]
  · have e : min i.toNat xs.length = xs.length := Nat.min_eq_right (by omega)
    rw [e, List.drop_of_length_le (Nat.le_refl _), List.drop_of_length_le (show xs.length ≤ i.toNat by omega)]
    simp
theorem cut_from {xs : List V} {i : Int} (h0 : 0 ≤ i) : cutV xs (some i) none = xs.drop i.toNat := by
  unfold cutV
  rw [sIx_some h0, HT.sIx_none]
  by_cases h : i.toNat ≤ xs.length
  · rw [Nat.min_eq_left h, List.take_of_length_le (by rw [List.length_drop]; omega)]
  · rw [Nat.min_eq_right (by omega), List.drop_of_length_le (Nat.le_refl _), List.drop_of_length_le (by omega)]
    simp
theorem cut_to {xs : List V} {j : Int} (h0 : 0 ≤ j) : cutV xs none (some j) = xs.take j.toNat := by
  unfold cutV
  rw [sIx_some h0, HT.sIx_none]
  show (xs.drop 0).take (min j.toNat xs.length - 0) = _
  rw [List.drop_zero, Nat.sub_zero]
  by_cases h : j.toNat ≤ xs.length
  · rw [Nat.min_eq_left h]
  · rw [Nat.min_eq_right (by omega), List.take_of_length_le (Nat.le_refl _), List.take_of_length_le (by omega)]
theorem cut_all {xs : List V} : cutV xs none none = xs := by
  unfold cutV
  rw [HT.sIx_none, HT.sIx_none]
  show (xs.drop 0).take (xs.length - 0) = _
  rw [List.drop_zero, Nat.sub_zero, List.take_length]
theorem map_sl {α β : Type} (f : α → β) (xs : List α) (i j : Int) : sl (xs.map f) i j = (sl xs i j).map f := by
  unfold sl
  rw [List.map_take, List.map_drop]
theorem sl_len {α : Type} {xs : List α} {i j : Int} (h0 : 0 ≤ i) (h1 : i ≤ j) (h2 : j ≤ xs.length) : ((sl xs i j).length : Int) = j - i := by
  unfold sl
  rw [List.length_take, List.length_drop]
  omega
/-! ### states that begin or change, with names for the heaps -/
section
variable {B B' H H' : Hp} {M M' : List (Addr × HO)} {a p : Addr} {o : HO}
theorem Hd.newE (S : Hd B M H) (n : H p = none) (o : HO) : ∃ B' H', H' = upd H p o ∧ Gr B H B' H' ∧ B' p = some o ∧ Hd B' M H' ∧ B p = none := ⟨_, _, rfl, S.gnew n, upd_same, S.new n, S.fr n⟩
theorem Hd.mutE (S : Hd B M H) (n : H p = none) (o : HO) : ∃ H', H' = upd H p o ∧ Gr B H B H' ∧ Hd B ((p, o) :: M) H' := ⟨_, rfl, S.gmut n, S.mut n⟩
theorem Hd.putE (S : Hd B M H) (i : Nat) (e : M[i]? = some (a, o)) (o' : HO) : ∃ H', H' = upd H a o' ∧ Gr B H B H' ∧ Hd B (M.set i (a, o')) H' := ⟨_, rfl, S.gput i e o', S.put i e o'⟩
theorem Hd.frzE (S : Hd B M H) (i : Nat) (e : M[i]? = some (a, o)) : ∃ B', Same B B' ∧ B' a = some o ∧ Hd B' (M.eraseIdx i) H := ⟨_, S.gfrz i e, upd_same, S.frz i e⟩
/-- a new instance: its dict at dx, then itself at x -/
theorem Hd.insE {dx x C : Addr} (S : Hd B M H) (nx : H x = none) (nd : H dx = none) (ne : dx ≠ x) (fs : List (Str × V)) : ∃ H', H' = upd (upd H dx (.own x)) x (.ins C dx fs) ∧ Gr B H B H' ∧ Hd B ((x, .ins C dx fs) :: M) H' := by
  refine ⟨_, rfl, ?_, ?_⟩
  · exact Gr.trans (S.gmut nd) (Hd.gmut (S.mut nd) (by rw [upd_ne ne.symm]; exact nx))
  · have S1 := S.mut (o := .own x) nd
    have S2 := S1.mut (o := .ins C dx fs) (p := x) (by rw [upd_ne ne.symm]; exact nx)
    exact ⟨S2.same, fun q hq => S2.own q (by
      cases List.mem_cons.mp hq with
      | inl h => subst h; exact List.mem_cons_self ..
      | inr h => exact List.mem_cons_of_mem _ (List.mem_cons_of_mem _ h)), by
      have h2 := S2.nd
      rw [List.map_cons, List.map_cons, List.nodup_cons, List.nodup_cons] at h2
      rw [List.map_cons, List.nodup_cons]
      exact ⟨fun z => h2.1 (List.mem_cons_of_mem _ z), h2.2.2⟩⟩
end
end Mc
namespace Mc
open PySem PySem.Spec PyProof.Rows L2
section
variable {B B' B0 H0 H H' : Hp} {M M' : List (Addr × HO)} {a p : Addr} {o : HO}
theorem Gr.fr0 (g : Gr B0 H0 B H) (n : H p = none) : H0 p = none := by
  cases e : H0 p with
  | none => rfl
  | some x => exact absurd n (g.dom p (by rw [e]; exact fun z => nomatch z))
theorem Hd.newG (S : Hd B M H) (G : Gr B0 H0 B H) (n : H p = none) (o : HO) : ∃ B' H', H' = upd H p o ∧ Same B B' ∧ Gr B0 H0 B' H' ∧ B' p = some o ∧ Hd B' M H' := ⟨_, _, rfl, (S.gnew n).s, G.trans (S.gnew n), upd_same, S.new n⟩
theorem Hd.mutG (S : Hd B M H) (G : Gr B0 H0 B H) (n : H p = none) (o : HO) : ∃ H', H' = upd H p o ∧ Gr B0 H0 B H' ∧ Hd B ((p, o) :: M) H' ∧ H0 p = none := ⟨_, rfl, G.trans (S.gmut n), S.mut n, G.fr0 n⟩
theorem Hd.putG (S : Hd B M H) (G : Gr B0 H0 B H) (i : Nat) (e : M[i]? = some (a, o)) (o' : HO) : ∃ H', H' = upd H a o' ∧ Gr B0 H0 B H' ∧ Hd B (M.set i (a, o')) H' := ⟨_, rfl, G.trans (S.gput i e o'), S.put i e o'⟩
theorem Hd.frzG (S : Hd B M H) (G : Gr B0 H0 B H) (i : Nat) (e : M[i]? = some (a, o)) (n : H0 a = none) : ∃ B', Same B B' ∧ Gr B0 H0 B' H ∧ B' a = some o ∧ Hd B' (M.eraseIdx i) H := by
  refine ⟨_, S.gfrz i e, ⟨G.s.trans (S.gfrz i e), G.dom, fun b hb e2 => ?_⟩, upd_same, S.frz i e⟩
  have ne : b ≠ a := fun z => hb (by rw [z]; exact n)
  rw [upd_ne ne]; exact G.old b hb e2
theorem Hd.insG {dx x C : Addr} (S : Hd B M H) (G : Gr B0 H0 B H) (nx : H x = none) (nd : H dx = none) (ne : dx ≠ x) (fs : List (Str × V)) : ∃ H', H' = upd (upd H dx (.own x)) x (.ins C dx fs) ∧ Gr B0 H0 B H' ∧ Hd B ((x, .ins C dx fs) :: M) H' ∧ H0 x = none := by
  obtain ⟨H', e, g, S'⟩ := S.insE (C := C) nx nd ne fs
  exact ⟨H', e, G.trans g, S', G.fr0 nx⟩
end
theorem bl_decide {P : Prop} [Decidable P] : (V.bl (decide P) = V.bl true) ↔ P := by
  constructor
  · intro h; injection h with h; exact of_decide_eq_true h
  · intro h; rw [decide_eq_true h]
end Mc
namespace Mc
open PySem PySem.Spec PyProof.Rows L2
theorem bcase (b : Bool) : b = true ∨ b = false := by cases b; exact .inr rfl; exact .inl rfl
theorem ndec_t {P : Prop} [Decidable P] (h : (!decide P) = true) : ¬ P := fun p => by rw [decide_eq_true p] at h; cases h
theorem ndec_f {P : Prop} [Decidable P] (h : (!decide P) = false) : P := Classical.byContradiction fun p => by rw [decide_eq_false p] at h; cases h
theorem itnot {A B : Prop} {b : Bool} (h1 : b = false → A) (h2 : b = true → B) : if (!b) = true then A else B := by
  cases b
  · exact h1 rfl
  · exact h2 rfl
theorem mrgS {P : Prop} {c : TT} {t u : TS} {D : Ends} {σ : L2.St} {H : Hp} (h : ∀ Q' : Bool → Hp → Prop, (P → Q' true H) → (¬ P → Q' false H) → c σ H Q') (h1 : P → t D σ H) (h2 : ¬ P → u D σ H) : tIfS c t u D σ H :=
  h _ (fun p => by rw [if_pos rfl]; exact h1 p) (fun p => by rw [if_neg Bool.false_ne_true]; exact h2 p)
theorem mrgR {P : Prop} [Decidable P] {te : TE} {D : Ends} {σ : L2.St} {H : Hp} (h : ∀ Q' : VK, (P → Q' (.bl true) H) → (¬ P → Q' (.bl false) H) → te σ H Q') (h1 : D.rt (.bl (decide P)) H) : tRet te D σ H :=
  h _ (fun p => by rw [decide_eq_true p] at h1; exact h1) (fun p => by rw [decide_eq_false p] at h1; exact h1)
theorem itKT {A B : Prop} {b : Bool} (h : b = true) (a : A) : if b = true then A else B := by rw [if_pos h]; exact a
theorem itKF {A B : Prop} {b : Bool} (h : b = false) (a : B) : if b = true then A else B := by rw [if_neg (by rw [h]; decide)]; exact a
theorem isN_no {x : V} (h : x ≠ V.non) : decide (x = V.non) = false := decide_eq_false h
theorem notN_yes {x : V} (h : x ≠ V.non) : (!decide (x = V.non)) = true := by rw [decide_eq_false h]; rfl
theorem sq {t u : TS} {D : Ends} {σ : L2.St} {H : Hp} (h : t { D with nx := u D } σ H) : tSeq t u D σ H := h
theorem retIf {t : TT} {ta tb : TE} {D : Ends} {σ : L2.St} {H : Hp} (h : tIfS t (tRet ta) (tRet tb) D σ H) : tRet (tIf t ta tb) D σ H := h
theorem setIf {t : TT} {ta tb : TE} {g : TG} {D : Ends} {σ : L2.St} {H : Hp} (h : tIfS t (tAsg ta g) (tAsg tb g) D σ H) : tAsg (tIf t ta tb) g D σ H := h
theorem fldIf {K : PySem.W.Frag} {t : TT} {ta tb to : TE} {f : Str} {D : Ends} {σ : L2.St} {H : Hp} (h : tIfS t (sFld K to ta f) (sFld K to tb f) D σ H) : sFld K to (tIf t ta tb) f D σ H := h
theorem hu64 {A : Around} {k : Nat} (hr : Room k A) : A.units + 64 < cLine := hr.units
theorem ints_at {xs : List Int} {i : Nat} {x : V} (h : (xs.map V.int)[i]? = some x) : ∃ z, xs[i]? = some z ∧ x = V.int z := by
  rw [List.getElem?_map] at h
  cases e : xs[i]? with
  | none => rw [e] at h; cases h
  | some z => rw [e] at h; exact ⟨z, rfl, (Option.some.inj h).symm⟩
theorem gen_at {α : Type} {B : Hp} {vs : List V} {xs : List α} {enc : α → D} {i : Nat} {x : V} (r : RpA B vs (xs.map enc)) (h : vs[i]? = some x) : ∃ z, xs[i]? = some z ∧ Rp B x (enc z) := by
  obtain ⟨d, h1, h2⟩ := r.getV h
  rw [List.getElem?_map] at h1
  cases e : xs[i]? with
  | none => rw [e] at h1; cases h1
  | some z => rw [e] at h1; exact ⟨z, rfl, by have := Option.some.inj h1; rw [this]; exact h2⟩
theorem RpA.emp {B : Hp} {vs : List V} {ds : List D} (h : RpA B vs ds) : vs.isEmpty = ds.isEmpty := by cases h <;> rfl
theorem take_snoc {α : Type} {xs : List α} {i : Nat} {x : α} (h : xs[i]? = some x) : xs.take (i + 1) = xs.take i ++ [x] := by
  rw [List.take_add_one, h]; rfl
theorem lt_of_at {α : Type} {xs : List α} {i : Nat} {x : α} (h : xs[i]? = some x) : i < xs.length := (List.getElem?_eq_some_iff.mp h).1
theorem mem_of_at {α : Type} {xs : List α} {i : Nat} {x : α} (h : xs[i]? = some x) : x ∈ xs := List.mem_of_getElem? h
theorem ix_ok {n : Nat} {i : Int} (h0 : 0 ≤ i) (h1 : i < n) : ixN n i = some i.toNat := by unfold ixN; rw [if_pos h0, if_pos h1]
theorem and_mask {i : Int} (k : Nat) : Builtin.bitAnd i (2 ^ k - 1) = i % 2 ^ k := PySem.W.kbt_mask i k
theorem cut_last {xs : List Int} : cutV (xs.map V.int) none (some (-1)) = (xs.dropLast).map V.int := by
  unfold cutV
  rw [HT.sIx_none]
  cases xs with
  | nil => rfl
  | cons x r =>
    show ((List.map V.int (x :: r)).drop 0).take (HT.sIx (List.map V.int (x :: r)).length (List.map V.int (x :: r)).length (some (-1)) - 0) = _
    have e : HT.sIx (List.map V.int (x :: r)).length (List.map V.int (x :: r)).length (some (-1)) = (List.map V.int (x :: r)).length - 1 := by
      show (if (-1 : Int) < 0 then (-1 + (((List.map V.int (x :: r)).length : Nat) : Int)).toNat else min (-1 : Int).toNat (List.map V.int (x :: r)).length) = _
      rw [if_pos (by decide), List.length_map, List.length_cons]
      omega
    rw [e, List.drop_zero, Nat.sub_zero, ← List.dropLast_eq_take, List.map_dropLast]
section
variable {X : Cx}
theorem pe_globI {x : Str} {i : Int} {pos : Pos} (hg : Gl X x) (h : ∃ t, X.mg x = some (.int i t)) (hdb : (x == ("__debug__" : Str)) = false := by decide) : PE X (.Name x pos) (tC (.int i)) := by
  obtain ⟨t, h⟩ := h
  exact pe_glob hg h ⟨t, rfl⟩ hdb
theorem call_intI : CallR X (.type "int") (fun xs H Q => ∃ i, xs = [.int i] ∧ Q (.int i) H) := fun pins s σ H xs us Q I r h => call_int1 pins s σ H xs us Q I r (.inl h)
theorem call_intB : CallR X (.type "int") (fun xs H Q => ∃ k, xs = [.bl k] ∧ Q (.int (if k then 1 else 0)) H) := fun pins s σ H xs us Q I r h => call_int1 pins s σ H xs us Q I r (.inr h)
theorem set_listN : PSet X (fun o i v H Q => ∃ p xs k j ys, o = .ref p ∧ i = .int k ∧ H p = some (.lst xs) ∧ ixN xs.length k = some j ∧ xs.set j v = ys ∧ Q (upd H p (.lst ys))) := by
  intro pins s σ H o i v a b c Q I r1 r2 r3 h
  obtain ⟨p, xs, k, j, ys, e1, e2, h1, h2, rfl, q⟩ := h
  exact set_list pins s σ H o i v a b c Q I r1 r2 r3 ⟨p, xs, k, j, e1, e2, h1, h2, q⟩
theorem in_S0 {op : Operator} {g : Int → Int → Int} (h : OpR X (inplaceOp op) (rI0 fun i j => .int (g i j))) : InOp X op (fun x y H Q => ∃ i j r, x = .int i ∧ y = .int j ∧ g i j = r ∧ Q (.int r) H) := by
  intro pins s σ H x y u v Q I rx ry q
  obtain ⟨i, j, r, e1, e2, rfl, q⟩ := q
  exact h pins s σ H x y u v Q I rx ry ⟨i, j, e1, e2, q⟩
theorem op_repN : OpR X (binaryOp .Mult) (fun x y H Q => ∃ l k xs ys, x = .ref l ∧ y = .int k ∧ H l = some (.lst xs) ∧ -(2 ^ 63) ≤ k ∧ k < 2 ^ 63 ∧ xs.length * k.toNat ≤ sizeLine ∧ (List.replicate k.toNat xs).flatten = ys ∧ ∀ p, H p = none → Q (.ref p) (upd H p (.lst ys))) := by
  intro pins s σ H x y v u Q I rx ry h
  obtain ⟨l, k, xs, ys, e1, e2, h1, h2, h3, h4, rfl, q⟩ := h
  exact op_rep pins s σ H x y v u Q I rx ry ⟨l, k, xs, e1, e2, h1, h2, h3, h4, q⟩
end
theorem snocI {xs : List Int} {x : Int} : xs.map V.int ++ [V.int x] = (xs ++ [x]).map V.int := by simp
theorem snocB {xs : List Bool} {x : Bool} : xs.map V.bl ++ [V.bl x] = (xs ++ [x]).map V.bl := by simp
end Mc
namespace Mc
open PySem PySem.Spec PyProof.Rows L2
/-- a class made with keywords: n positional values, keywords ks; gV: what the parameters get -/
structure MkK (P : Program) (w : World) (K : PySem.W.Frag) (mg : Str → Option Value) (base : Heap) (CX : CXT) (k : Nat) (x : Str) (n : Nat) (ks : List Str) (gV : List V → List V → List V) (sp : Sp) : Prop where
  ex : ∃ fd ps g, FnOk P w K mg base CX k (He.fAd K (x, some "__init__")) fd ps sp ∧ KBn K fd ps (n + 1) ks g gV
  mkc : Mk K (He.ga K x) (He.fAd K (x, some "__init__"))
  gl : mg x = some (.ref (He.ga K x))
theorem pe_makeKF {X : Cx} {CX : CXT} {k n : Nat} {ks : List Str} {gV : List V → List V → List V} {sp : Sp} {E : XK} {x : Str} {p pos : Pos} {e : Expr} {es : List Expr} {kws : List Keyword} {t tk : TA}
    (M : MkK X.prog X.w X.K X.mg X.base CX k x n ks gV sp) (hr : Room (k + 1) X.A) (hg : Gl X x) (hx : Passes CX X E) (ha : PA X (e :: es) t) (hkw : PK X kws tk)
    (hall : (backToKw pos (keywordEach kws X.env)).all (·.1.isSome) = true := by rfl) (hks : (backToKw pos (keywordEach kws X.env)).filterMap (·.1) = ks := by rfl) (hdb : (x == ("__debug__" : Str)) = false := by decide)
    (he : starEach (e :: es) X.env = (false, eval e X.env) :: starEach es X.env := by rfl) (hpl : ((backTo pos (starEach (e :: es) X.env)).any (·.1) || (backToKw pos (keywordEach kws X.env)).any (·.1.isNone)) = false := by rfl) :
    PE X (.Call (.Name x p) (e :: es) kws pos) (tMakeK (He.ga X.K x) n ks.length sp gV E t tk) := by
  obtain ⟨⟨fd, ps, g, F, b⟩, mk, gl⟩ := M
  exact pe_makeK mk F hr hg gl b hx ha hkw hall hks hdb he hpl
abbrev optD : Option (List Int) → D
  | none => .non
  | some xs => D.ints xs
end Mc
namespace Mc
open PySem PySem.Spec PyProof.Rows L2
/-- what is new since H -/
def newOf (H B : Hp) : Hp := fun b => match H b with
  | none => B b
  | some _ => none
theorem newOf_at {H B : Hp} {p : Addr} {o : HO} (z : H p = none) (e : B p = some o) : newOf H B p = some o := by unfold newOf; rw [z]; exact e
theorem newOf_same {H B : Hp} : Same (newOf H B) B := fun b o e => by
  unfold newOf at e
  cases h : H b with
  | none => rw [h] at e; exact e
  | some x => rw [h] at e; cases e
theorem newOf_mono {H B B' : Hp} (s : Same B B') : Same (newOf H B) (newOf H B') := fun b o e => by
  unfold newOf at e ⊢
  cases h : H b with
  | none => rw [h] at e; exact s b o e
  | some x => rw [h] at e; cases e
theorem newOf_back {H0 H B : Hp} (d : ∀ a, H0 a ≠ none → H a ≠ none) : Same (newOf H B) (newOf H0 B) := fun b o e => by
  unfold newOf at e ⊢
  cases h : H b with
  | some x => rw [h] at e; cases e
  | none =>
    rw [h] at e
    cases h0 : H0 b with
    | none => exact e
    | some x => exact absurd h (d b (by rw [h0]; exact fun z => nomatch z))
theorem Hd.thawG {B B0 H0 B1 H H1 : Hp} {M M1 : List (Addr × HO)} {a : Addr} {o : HO} (S : Hd B M H) (G : Gr B0 H0 B H) (i : Nat) (e : M[i]? = some (a, o)) (S1 : Hd B1 M1 H1) (g : Gr (upd B a o) H B1 H1) :
    ∃ B2, Same B B2 ∧ Gr B0 H0 B2 H1 ∧ Same (newOf H B1) B2 ∧ Hd B2 ((a, o) :: M1) H1 := by
  have ha := S.at i e
  have hb := S.out i e
  have h1 : B1 a = some o := g.s _ _ upd_same
  have nM : ∀ q ∈ M1, q.1 ≠ a := fun q hq z => by
    have h2 := (S1.own q hq).2
    rw [z, h1] at h2; cases h2
  have sB : Same B (fun b => if b = a then none else B1 b) := fun b x eb => by
    have nb : b ≠ a := fun z => by rw [z, hb] at eb; cases eb
    show (if b = a then none else B1 b) = some x
    rw [if_neg nb]
    exact g.s b x (by rw [upd_ne nb]; exact eb)
  have gB : Gr B H (fun b => if b = a then none else B1 b) H1 := ⟨sB, g.dom, fun b hn hb0 => by
    show (if b = a then none else B1 b) = none
    by_cases nb : b = a
    · rw [if_pos nb]
    · rw [if_neg nb]; exact g.old b hn (by rw [upd_ne nb]; exact hb0)⟩
  refine ⟨_, sB, G.trans gB, fun b x eb => ?_, S.thaw i e S1 g nM⟩
  have nb : b ≠ a := fun z => by
    unfold newOf at eb
    rw [z, ha] at eb; cases eb
  show (if b = a then none else B1 b) = some x
  rw [if_neg nb]
  exact newOf_same b x eb
theorem divW_ok {i j : Int} (h : 0 < j) (hb : j < 2 ^ 100) : CDivW i j := wide_div h (b := 100) (by omega) (by decide) (by decide)
theorem pick2 {a b i : Int} (h0 : 0 ≤ i) (h1 : i < 2) : geti [a, b] i = a ∨ geti [a, b] i = b := by
  have : i = 0 ∨ i = 1 := by omega
  rcases this with rfl | rfl
  · exact .inl rfl
  · exact .inr rfl
end Mc
namespace Mc
theorem all_snoc {α : Type} {P : α → Prop} {l : List α} {y : α} (h : ∀ x ∈ l, P x) (hy : P y) : ∀ x ∈ l ++ [y], P x := fun x hx => by
  rcases List.mem_append.mp hx with h1 | h1
  · exact h x h1
  · rw [List.mem_singleton.mp h1]; exact hy
theorem md_ok {a b : Int} (h : 0 < b) : 0 ≤ a % b ∧ a % b < b := ⟨Int.emod_nonneg _ (by omega), Int.emod_lt_of_pos _ h⟩
theorem all_true (n : Nat) : (List.replicate n true).all id = true := by simp
theorem rep_snoc {α : Type} (n : Nat) (x : α) : List.replicate (n + 1) x = List.replicate n x ++ [x] := List.replicate_succ'
end Mc
namespace Mc
open PySem PySem.Spec PyProof.Rows L2
/-! ### equality of data, by its shape -/
/-- d may be compared: plain, layable, no deeper than n -/
structure Sh (n : Nat) (d : D) : Prop where
  p : d.plain = true
  c : PyData.canLay0 d.py = true
  h : PyData.depth d.py ≤ n
structure Shs (n : Nat) (ds : List D) : Prop where
  p : D.plains ds = true
  c : PyData.canLayAll0 (D.pys ds) = true
  h : PyData.depthAll (D.pys ds) ≤ n
theorem Sh.int (i : Int) : Sh 1 (.int i) := ⟨rfl, rfl, Nat.zero_le _⟩
theorem Sh.bl (b : Bool) : Sh 1 (.bl b) := ⟨rfl, rfl, Nat.zero_le _⟩
theorem Sh.non : Sh 1 .non := ⟨rfl, rfl, Nat.zero_le _⟩
theorem Sh.mono {n m : Nat} {d : D} (h : Sh n d) (l : n ≤ m) : Sh m d := ⟨h.p, h.c, Nat.le_trans h.h l⟩
theorem Shs.nil (n : Nat) : Shs n [] := ⟨rfl, rfl, Nat.zero_le _⟩
theorem Shs.cons {n : Nat} {d : D} {ds : List D} (a : Sh n d) (b : Shs n ds) : Shs n (d :: ds) := ⟨by
  show (d.plain && D.plains ds) = true
  rw [a.p, b.p]; rfl, by
  show (PyData.canLay0 d.py && PyData.canLayAll0 (D.pys ds)) = true
  rw [a.c, b.c]; rfl, by
  show max (PyData.depth d.py) (PyData.depthAll (D.pys ds)) ≤ n
  exact Nat.max_le.mpr ⟨a.h, b.h⟩⟩
theorem Shs.lst {n : Nat} {ds : List D} (a : Shs n ds) : Sh (n + 1) (.lst ds) := ⟨a.p, a.c, by
  show PyData.depthAll (D.pys ds) + 1 ≤ n + 1
  exact Nat.succ_le_succ a.h⟩
theorem Shs.tup {n : Nat} {ds : List D} (a : Shs n ds) : Sh (n + 1) (.tup ds) := ⟨a.p, a.c, by
  show PyData.depthAll (D.pys ds) + 1 ≤ n + 1
  exact Nat.succ_le_succ a.h⟩
theorem Shs.map {α : Type} {f : α → D} {n : Nat} (h : ∀ x, Sh n (f x)) : ∀ xs : List α, Shs n (xs.map f)
  | [] => .nil n
  | x :: xs => .cons (h x) (Shs.map h xs)
theorem Sh.ints (xs : List Int) : Sh 2 (D.ints xs) := (Shs.map (f := D.int) (n := 1) Sh.int xs).lst
theorem Sh.shaped {n : Nat} {d : D} (h : Sh n d) (l : n ≤ 64 := by decide) : SeqAt.shaped d.py = true := by
  unfold SeqAt.shaped
  rw [h.c, decide_eq_true (Nat.le_trans h.h l)]; rfl
/-- equality decided as P -/
structure EqvD (d e : D) (P : Prop) : Prop where
  iff : PyData.eqv d.py e.py = true ↔ P
structure EqvS (ds es : List D) (P : Prop) : Prop where
  iff : PyData.eqvAll (D.pys ds) (D.pys es) = true ↔ P
theorem EqvD.dec {d e : D} {P : Prop} [Decidable P] (h : EqvD d e P) : PyData.eqv d.py e.py = decide P := by
  cases e1 : PyData.eqv d.py e.py with
  | true => exact (decide_eq_true (h.iff.mp e1)).symm
  | false => exact (decide_eq_false fun p => by rw [h.iff.mpr p] at e1; cases e1).symm
theorem EqvD.imp {d e : D} {P Q : Prop} (h : EqvD d e P) (hq : P ↔ Q) : EqvD d e Q := ⟨h.iff.trans hq⟩
theorem EqvD.int (i j : Int) : EqvD (.int i) (.int j) (i = j) := ⟨by show (i == j) = true ↔ _; exact beq_iff_eq⟩
theorem EqvD.bl (i j : Bool) : EqvD (.bl i) (.bl j) (i = j) := ⟨by show (i == j) = true ↔ _; exact beq_iff_eq⟩
theorem EqvD.str (i j : Str) : EqvD (.str i) (.str j) (i = j) := ⟨by show (i == j) = true ↔ _; exact beq_iff_eq⟩
theorem EqvD.non : EqvD .non .non True := ⟨by simp [D.py, PyData.eqv]⟩
theorem EqvD.no {d e : D} (h : PyData.eqv d.py e.py = false) : EqvD d e False := ⟨by rw [h]; simp⟩
theorem EqvS.nil : EqvS [] [] True := ⟨by simp [D.pys, PyData.eqvAll]⟩
theorem EqvS.cons {d e : D} {ds es : List D} {P Q : Prop} (a : EqvD d e P) (b : EqvS ds es Q) : EqvS (d :: ds) (e :: es) (P ∧ Q) := ⟨by
  show (PyData.eqv d.py e.py && PyData.eqvAll (D.pys ds) (D.pys es)) = true ↔ _
  rw [Bool.and_eq_true]
  exact and_congr a.iff b.iff⟩
theorem EqvS.tup {ds es : List D} {P : Prop} (a : EqvS ds es P) : EqvD (.tup ds) (.tup es) P := ⟨a.iff⟩
theorem EqvS.lst {ds es : List D} {P : Prop} (a : EqvS ds es P) : EqvD (.lst ds) (.lst es) P := ⟨a.iff⟩
theorem EqvS.map {α : Type} {f : α → D} (h : ∀ x y, EqvD (f x) (f y) (x = y)) : ∀ xs ys : List α, EqvS (xs.map f) (ys.map f) (xs = ys)
  | [], [] => ⟨by simp [D.pys, PyData.eqvAll]⟩
  | [], y :: ys => ⟨by simp [D.pys, PyData.eqvAll]⟩
  | x :: xs, [] => ⟨by simp [D.pys, PyData.eqvAll]⟩
  | x :: xs, y :: ys => ⟨(EqvS.cons (h x y) (EqvS.map h xs ys)).iff.trans (by rw [List.cons.injEq])⟩
theorem EqvD.ints (xs ys : List Int) : EqvD (D.ints xs) (D.ints ys) (xs = ys) := (EqvS.map EqvD.int xs ys).lst
theorem EqvD.list {α : Type} {f : α → D} (h : ∀ x y, EqvD (f x) (f y) (x = y)) (xs ys : List α) : EqvD (.lst (xs.map f)) (.lst (ys.map f)) (xs = ys) := (EqvS.map h xs ys).lst
section
variable {X : Cx}
theorem op_eqE (hu : X.A.units + 64 < cLine) : OpR X (compareOp .Eq) (fun x y H Q => ∃ (B : Hp) (d e : D) (P : Prop) (_ : Decidable P) (n m : Nat), Same B H ∧ Rp B x d ∧ Rp B y e ∧ Sh n d ∧ Sh m e ∧ n ≤ 64 ∧ m ≤ 64 ∧ EqvD d e P ∧ Q (.bl (decide P)) H) := by
  intro pins s σ H x y v u Q I rx ry q
  obtain ⟨B, d, e, P, dP, n, m, sm, r1, r2, s1, s2, l1, l2, E, q⟩ := q
  rw [← E.dec] at q
  exact op_eqD hu pins s σ H x y v u Q I rx ry ⟨d.py, e.py, Rp.dp d x s1.p (r1.up sm), Rp.dp e y s2.p (r2.up sm), s1.shaped l1, s2.shaped l2, q⟩
theorem op_neE (hu : X.A.units + 64 < cLine) : OpR X (compareOp .NotEq) (fun x y H Q => ∃ (B : Hp) (d e : D) (P : Prop) (_ : Decidable P) (n m : Nat), Same B H ∧ Rp B x d ∧ Rp B y e ∧ Sh n d ∧ Sh m e ∧ n ≤ 64 ∧ m ≤ 64 ∧ EqvD d e P ∧ Q (.bl (!decide P)) H) := by
  intro pins s σ H x y v u Q I rx ry q
  obtain ⟨B, d, e, P, dP, n, m, sm, r1, r2, s1, s2, l1, l2, E, q⟩ := q
  rw [← E.dec] at q
  exact op_neD hu pins s σ H x y v u Q I rx ry ⟨d.py, e.py, Rp.dp d x s1.p (r1.up sm), Rp.dp e y s2.p (r2.up sm), s1.shaped l1, s2.shaped l2, q⟩
end
section
variable {n : Nat} {g : TG} {D : Ends} {σ : L2.St} {H : Hp}
theorem for_range0 {tb : TS} (Pv : Nat → L2.St → Hp → Prop) (h0 : Pv 0 σ H)
    (hs : ∀ i σ H, i < n → Pv i σ H → g (.int ((i : Nat) : Int)) σ H fun σ2 H2 => tb { D with nx := Pv (i + 1), ct := Pv (i + 1), bk := D.nx } σ2 H2) (hd : ∀ σ H, Pv n σ H → D.nx σ H) :
    ∃ W : Nat → Nat → L2.St → Hp → Prop, (∃ m, W 0 m σ H) ∧ ∀ i m σ H, W i m σ H →
      ((Itr 0 n).stop i H ∧ D.nx σ H) ∨ ((Itr 0 n).go i H ∧ ∃ N : L2.St → Hp → Prop, (∀ σ' H', N σ' H' → ∃ m', m' < m ∧ W (i + 1) m' σ' H') ∧ ∀ x H', (Itr 0 n).yld i H x H' → g x σ H' fun σ2 H2 => tb { D with nx := N, ct := N, bk := D.nx } σ2 H2) :=
  for_range (lo := 0) Pv h0 (fun i σ H hi p => by
    have e := hs i σ H hi p
    rw [show (0 : Int) + ((i : Nat) : Int) = ((i : Nat) : Int) from Int.zero_add _]
    exact e) hd
theorem lc_range0 {tt : TT} {te : TE} {vs : List Nat} {H1 : Hp} {D : Addr} {Qd : Hp → Prop} (Pv : Nat → Hp → Prop) (h0 : Pv 0 (upd H1 D (.lst [])))
    (hs : ∀ i H, i < n → Pv i H → g (.int ((i : Nat) : Int)) (wipe σ vs) H fun σ2 H2 => wipe σ2 vs = wipe σ vs ∧ tt σ2 H2 fun b H3 =>
      if b = true then te σ2 H3 fun y H4 => ∃ acc, H4 D = some (.lst acc) ∧ acc.length < sizeLine ∧ Pv (i + 1) (upd H4 D (.lst (acc ++ [y]))) else Pv (i + 1) H3) (hd : ∀ H, Pv n H → Qd H) :
    ∃ W : Nat → Nat → Hp → Prop, (∃ m, W 0 m (upd H1 D (.lst []))) ∧ ∀ i m H, W i m H →
      ((Itr 0 n).stop i H ∧ Qd H) ∨ ((Itr 0 n).go i H ∧ ∃ Nx : Hp → Prop, (∀ H', Nx H' → ∃ m', m' < m ∧ W (i + 1) m' H') ∧ ∀ x H', (Itr 0 n).yld i H x H' → g x (wipe σ vs) H' fun σ2 H2 => wipe σ2 vs = wipe σ vs ∧ tt σ2 H2 fun b H3 =>
        if b = true then te σ2 H3 fun y H4 => ∃ acc, H4 D = some (.lst acc) ∧ acc.length < sizeLine ∧ Nx (upd H4 D (.lst (acc ++ [y]))) else Nx H3) :=
  lc_range (lo := 0) Pv h0 (fun i H hi p => by
    have e := hs i H hi p
    rw [show (0 : Int) + ((i : Nat) : Int) = ((i : Nat) : Int) from Int.zero_add _]
    exact e) hd
end
end Mc
namespace Mc
open PySem PySem.Spec PyProof.Rows L2
/-! ### the rules with the written part named -/
theorem nfE {α β : Type} {T : α → β → Prop} {σ σ' : α} {H : β} (h : σ = σ') (k : T σ' H) : T σ H := h ▸ k
theorem nfG {i : Nat} {v : V} {σ σ' : L2.St} {H : Hp} {Q : L2.St → Hp → Prop} (h : σ.set i (some v) = σ') (k : Q σ' H) : gName i v σ H Q := by subst h; exact k
section
variable {X : Cx} {K : PySem.W.Frag}
theorem lenK (hK : X.K = K := by rfl) : CallR X (.builtin "len") (fun xs H Q => ∃ p ys n, xs = [.ref p] ∧ (SqL K H p ys ∨ SqT K H p ys) ∧ ys.length = n ∧ Q (.int ((n : Nat) : Int)) H) := by subst hK; exact call_lenN
theorem slK (hK : X.K = K := by rfl) : SlR X (fun x lo hi H Q => ∃ a xs ys, x = .ref a ∧ SqL K H a xs ∧ cutV xs lo hi = ys ∧ ∀ p, H p = none → Q (.ref p) (upd H p (.lst ys))) := by subst hK; exact sl_listN
theorem ixL (hK : X.K = K := by rfl) : IxR X (rIxL K) := by subst hK; exact ix_list
theorem ixT (hK : X.K = K := by rfl) : IxR X (rIxT K) := by subst hK; exact ix_tup
theorem sumK (hc : X.calm = true) (hK : X.K = K := by rfl) : CallR X (.builtin "sum") (rSum K) := by subst hK; exact cr_sum hc
theorem minK (hc : X.calm = true) (hK : X.K = K := by rfl) : CallR X (.builtin "min") (rMin K) := by subst hK; exact cr_min hc
theorem maxK (hc : X.calm = true) (hK : X.K = K := by rfl) : CallR X (.builtin "max") (rMax K) := by subst hK; exact cr_max hc
theorem allK (hc : X.calm = true) (hK : X.K = K := by rfl) : CallR X (.builtin "all") (rAll K) := by subst hK; exact cr_all hc
theorem anyK (hc : X.calm = true) (hK : X.K = K := by rfl) : CallR X (.builtin "any") (rAny K) := by subst hK; exact cr_any hc
theorem listK (hK : X.K = K := by rfl) : CallR X (.type "list") (fun xs H Q => ∃ p ys, xs = [.ref p] ∧ (SqL K H p ys ∨ SqT K H p ys) ∧ ∀ l, H l = none → Q (.ref l) (upd H l (.lst ys))) := by subst hK; exact call_list_of
theorem isiK (hK : X.K = K := by rfl) : CallR X (.builtin "isinstance") (rIsi K) := by subst hK; exact call_isi
theorem fldK {e : Expr} {f : Str} {pos : Pos} {ta : TE} (he : PE X e ta) (hb : attributeBase e f X.env (eval e X.env) = eval e X.env) (hK : X.K = K := by rfl) : PE X (.Attribute e f pos) (tFld K ta f) := by subst hK; exact pe_fld he hb
theorem eqK (hu : X.A.units + 64 < cLine) : OpR X (compareOp .Eq) (fun x y H Q => ∃ (B : Hp) (d e : D) (P : Prop) (_ : Decidable P) (n m : Nat), Same B H ∧ Rp B x d ∧ Rp B y e ∧ Sh n d ∧ Sh m e ∧ n ≤ 64 ∧ m ≤ 64 ∧ EqvD d e P ∧ Q (.bl (decide P)) H) := op_eqE hu
theorem pgTupK {es : List Expr} {k : Nat} {pos : Pos} {t : TGs} {n : Nat} (hc : X.calm = true) (h : PG X (.Tuple es k pos) (gTup X.K n t)) (hK : X.K = K := by rfl) : PG X (.Tuple es k pos) (gTup K n t) := by subst hK; exact h
end
theorem bb_sum : bootBuiltins "sum" = some (.builtin "sum") := by decide +kernel
theorem bb_min : bootBuiltins "min" = some (.builtin "min") := by decide +kernel
theorem bb_max : bootBuiltins "max" = some (.builtin "max") := by decide +kernel
theorem bb_abs : bootBuiltins "abs" = some (.builtin "abs") := by decide +kernel
theorem bb_all : bootBuiltins "all" = some (.builtin "all") := by decide +kernel
theorem bb_any : bootBuiltins "any" = some (.builtin "any") := by decide +kernel
theorem bb_isinstance : bootBuiltins "isinstance" = some (.builtin "isinstance") := by decide +kernel
theorem bb_len : bootBuiltins "len" = some (.builtin "len") := by decide +kernel
theorem bb_divmod : bootBuiltins "divmod" = some (.builtin "divmod") := by decide +kernel
theorem bb_ord : bootBuiltins "ord" = some (.builtin "ord") := by decide +kernel
theorem bb_int : bootBuiltins "int" = some (.type "int") := by decide +kernel
theorem bb_list : bootBuiltins "list" = some (.type "list") := by decide +kernel
theorem bb_tuple : bootBuiltins "tuple" = some (.type "tuple") := by decide +kernel
end Mc
namespace Mc
open PySem PySem.Spec PyProof.Rows L2
section
variable {X : Cx}
theorem addI : OpR X (binaryOp .Add) (fun x y H Q => ∃ i j, x = .int i ∧ y = .int j ∧ Q (.int (i + j)) H) := op_add
theorem subI : OpR X (binaryOp .Sub) (fun x y H Q => ∃ i j, x = .int i ∧ y = .int j ∧ Q (.int (i - j)) H) := op_sub
theorem mulI : OpR X (binaryOp .Mult) (fun x y H Q => ∃ i j, x = .int i ∧ y = .int j ∧ CMul i j ∧ Q (.int (i * j)) H) := op_mul
theorem mulXI : OpR X (binaryOp .Mult) (fun x y H Q => ∃ i j, x = .int i ∧ y = .int j ∧ CMulX i j ∧ Q (.int (i * j)) H) := op_mulX
theorem fdivI : OpR X (binaryOp .FloorDiv) (fun x y H Q => ∃ i j, x = .int i ∧ y = .int j ∧ CDiv i j ∧ Q (.int (i / j)) H) := op_fdiv
theorem fdivWI : OpR X (binaryOp .FloorDiv) (fun x y H Q => ∃ i j, x = .int i ∧ y = .int j ∧ CDivW i j ∧ Q (.int (i / j)) H) := op_fdivW
theorem modI : OpR X (binaryOp .Mod) (fun x y H Q => ∃ i j, x = .int i ∧ y = .int j ∧ 0 < j ∧ Q (.int (i % j)) H) := op_mod
theorem ltI : OpR X (compareOp .Lt) (fun x y H Q => ∃ i j, x = .int i ∧ y = .int j ∧ Q (.bl (decide (i < j))) H) := op_lt
theorem leI : OpR X (compareOp .LtE) (fun x y H Q => ∃ i j, x = .int i ∧ y = .int j ∧ Q (.bl (decide (i ≤ j))) H) := op_le
theorem gtI : OpR X (compareOp .Gt) (fun x y H Q => ∃ i j, x = .int i ∧ y = .int j ∧ Q (.bl (decide (j < i))) H) := op_gt
theorem geI : OpR X (compareOp .GtE) (fun x y H Q => ∃ i j, x = .int i ∧ y = .int j ∧ Q (.bl (decide (j ≤ i))) H) := op_ge
theorem eqI : OpR X (compareOp .Eq) (fun x y H Q => ∃ i j, x = .int i ∧ y = .int j ∧ Q (.bl (decide (i = j))) H) := by
  intro pins s σ H x y v u Q I rx ry h
  obtain ⟨i, j, rfl, rfl, q⟩ := h
  refine op_eq pins s σ H _ _ v u Q I rx ry ⟨rfl, ?_⟩
  rw [show decide (V.int i = V.int j) = decide (i = j) by by_cases h : i = j <;> simp [h]]
  exact q
theorem neI : OpR X (compareOp .NotEq) (fun x y H Q => ∃ i j, x = .int i ∧ y = .int j ∧ Q (.bl (!decide (i = j))) H) := by
  intro pins s σ H x y v u Q I rx ry h
  obtain ⟨i, j, rfl, rfl, q⟩ := h
  refine op_ne pins s σ H _ _ v u Q I rx ry ⟨rfl, ?_⟩
  rw [show decide (V.int i = V.int j) = decide (i = j) by by_cases h : i = j <;> simp [h]]
  exact q
theorem negI : UnR X (unaryOp .USub) (fun x H Q => ∃ i, x = .int i ∧ Q (.int (-i)) H) := un_neg
theorem eqB : OpR X (compareOp .Eq) (fun x y H Q => ∃ i j, x = .bl i ∧ y = .bl j ∧ Q (.bl (decide (i = j))) H) := by
  intro pins s σ H x y v u Q I rx ry h
  obtain ⟨i, j, rfl, rfl, q⟩ := h
  refine op_eq pins s σ H _ _ v u Q I rx ry ⟨rfl, ?_⟩
  rw [show decide (V.bl i = V.bl j) = decide (i = j) by by_cases h : i = j <;> simp [h]]
  exact q
theorem neB : OpR X (compareOp .NotEq) (fun x y H Q => ∃ i j, x = .bl i ∧ y = .bl j ∧ Q (.bl (!decide (i = j))) H) := by
  intro pins s σ H x y v u Q I rx ry h
  obtain ⟨i, j, rfl, rfl, q⟩ := h
  refine op_ne pins s σ H _ _ v u Q I rx ry ⟨rfl, ?_⟩
  rw [show decide (V.bl i = V.bl j) = decide (i = j) by by_cases h : i = j <;> simp [h]]
  exact q
theorem isNI : OpR X (compareOp .Is) (fun x y H Q => y = .non ∧ Q (.bl (decide (x = .non))) H) := op_isN
end
end Mc

set_option Elab.async false
set_option linter.all false
set_option maxRecDepth 100000
set_option maxHeartbeats 4000000
namespace My
open PySem PySem.Spec PyProof.Rows L2 Mc
local macro_rules | `(tactic| walk_at "vc") => `(tactic| first | assumption | omega | (simp only [List.length_append, List.length_map, List.length_cons, List.length_nil]; omega) | exact True.intro | rfl | exact all_snoc (by assumption) (md_ok (by omega)) | (exact all_snoc (by assumption) (by omega)) | (intro x hx; cases hx; done))
local macro_rules | `(tactic| walk_at "sz") => `(tactic| first | (simp only [List.length_append, List.length_map, List.length_cons, List.length_nil, List.length_replicate, List.length_set, List.length_take] <;> (refine Nat.le_trans ?_ (by decide : 100000 ≤ sizeLine) <;> omega)) | (show _ < sizeLine; simp only [List.length_append, List.length_map, List.length_cons, List.length_nil, List.length_replicate, List.length_set, List.length_take] <;> (refine Nat.lt_of_lt_of_le (m := 100000) ?_ (by decide : 100000 ≤ sizeLine) <;> omega)))
local macro_rules | `(tactic| walk_at "pr") => `(tactic| first | omega | (simp only [*, not_true_eq_false, not_false_eq_true, and_true, true_and, and_false, false_and, or_true, true_or, or_false, false_or, and_self, or_self]; done) | simp_all)
local macro_rules | `(tactic| walk_at "law") => `(tactic| first | rfl | (rw [decide_eq_true (by assumption)]; rfl) | (rw [decide_eq_true (by first | rfl | omega)]; rfl) | (rw [decide_eq_false (by omega)]; rfl) | (simp; done) | (simp; omega))

/-- the sizes of blocks of n samples from the i-th block on -/
def bsz (f : Nat → Int) : Nat → Int → Nat → List Int
  | 0, _, _ => []
  | k + 1, n, i => if 0 < n then (if n < f i then n else f i) :: bsz f k (n - (if n < f i then n else f i)) (i + 1) else []
theorem bsz_fuel (f : Nat → Int) (hf : ∀ i, 1 ≤ f i) : ∀ (k : Nat) (n : Int) (i : Nat), n ≤ k → ∀ j : Nat, n ≤ j → bsz f k n i = bsz f j n i
  | 0, n, i, h, j, hj => by
    cases j with
    | zero => rfl
    | succ j => unfold bsz; rw [if_neg (by omega)]
  | k + 1, n, i, h, j, hj => by
    by_cases h0 : 0 < n
    · cases j with
      | zero => omega
      | succ j =>
        unfold bsz
        rw [if_pos h0, if_pos h0]
        have h1 := hf i
        rw [bsz_fuel f hf k _ _ (by omega) j (by omega)]
    · cases j with
      | zero => unfold bsz; rw [if_neg h0]
      | succ j => unfold bsz; rw [if_neg h0, if_neg h0]
def rest (f : Nat → Int) (n : Int) (i : Nat) : List Int := bsz f n.toNat n i
theorem rest_pos {f : Nat → Int} (hf : ∀ i, 1 ≤ f i) {n : Int} {i : Nat} (h : 0 < n) : rest f n i = (if n < f i then n else f i) :: rest f (n - (if n < f i then n else f i)) (i + 1) := by
  unfold rest
  have h1 := hf i
  obtain ⟨k, hk⟩ : ∃ k, n.toNat = k + 1 := ⟨n.toNat - 1, by omega⟩
  rw [hk]
  show (if 0 < n then _ else _) = _
  rw [if_pos h, bsz_fuel f hf k _ _ (by omega) _ (by omega : _ ≤ (((n - (if n < f i then n else f i)).toNat : Nat) : Int))]
theorem rest_zero {f : Nat → Int} {n : Int} {i : Nat} (h : ¬ 0 < n) : rest f n i = [] := by
  unfold rest
  have : n.toNat = 0 := by omega
  rw [this]; rfl
/-- the i-th size that a list tells -/
def sz (t : List Int) (i : Nat) : Int := geti t ((i : Int) % (t.length : Int))
def told (bs : Int) : Option (List Int) → List Int
  | none => [bs]
  | some xs => xs
theorem sz_ge {t : List Int} {m : Int} (h0 : t ≠ []) (h : ∀ x ∈ t, m ≤ x) (i : Nat) : m ≤ sz t i := by
  have hl : 0 < t.length := List.length_pos_iff.mpr h0
  have e1 : 0 ≤ (i : Int) % (t.length : Int) := Int.emod_nonneg _ (by omega)
  have e2 : (i : Int) % (t.length : Int) < t.length := Int.emod_lt_of_pos _ (by omega)
  exact h _ (geti_mem e1 e2)
theorem sz_one (bs : Int) (i : Nat) : sz [bs] i = bs := by
  unfold sz
  have : (i : Int) % (([bs] : List Int).length : Int) = 0 := by show (i : Int) % 1 = 0; omega
  rw [this]; rfl
/-- the word of the loops: what is made and what is to come -/
theorem turn_rest {t acc r : List Int} {n : Int} (h0 : t ≠ []) (h1 : ∀ x ∈ t, 1 ≤ x) (h : acc ++ rest (sz t) n acc.length = r) (hn : 0 < n) {m : Int} (hm : m = if n < sz t acc.length then n else sz t acc.length) : (acc ++ [m]) ++ rest (sz t) (n - m) (acc ++ [m]).length = r := by
  rw [List.length_append, List.length_singleton, List.append_assoc, List.singleton_append, ← h, rest_pos (fun i => sz_ge h0 h1 i) hn, ← hm]
/-- what size_range tells -/
def Rng (bs : Int) : Option (List Int) → Int → Int → Int → Prop
  | none, _, a, b => a = bs ∧ b = bs
  | some xs, n, a, b => if (rest (sz xs) n 0).length < 2 then a = geti xs 0 ∧ b = geti xs 0 else
      (a ∈ (rest (sz xs) n 0).dropLast ∧ ∀ y ∈ (rest (sz xs) n 0).dropLast, a ≤ y) ∧ (b ∈ rest (sz xs) n 0 ∧ ∀ y ∈ rest (sz xs) n 0, y ≤ b)
theorem rng_small {bs n : Int} {xs r : List Int} (e : r = rest (sz (told bs (some xs))) n 0) (h : (r.length : Int) < 2) : Rng bs (some xs) n (geti xs 0) (geti xs 0) := by
  subst e
  show (if _ then _ else _)
  rw [if_pos (by show (rest (sz (told bs (some xs))) n 0).length < 2; omega)]
  exact ⟨rfl, rfl⟩
theorem rng_big {bs n a b : Int} {xs r : List Int} (e : r = rest (sz (told bs (some xs))) n 0) (h : ¬ (r.length : Int) < 2) (h1 : a ∈ r.dropLast) (h2 : ∀ y, y ∈ r.dropLast → a ≤ y) (h3 : b ∈ r) (h4 : ∀ y, y ∈ r → y ≤ b) : Rng bs (some xs) n a b := by
  subst e
  show (if _ then _ else _)
  rw [if_neg (by show ¬ (rest (sz (told bs (some xs))) n 0).length < 2; omega)]
  exact ⟨⟨h1, h2⟩, h3, h4⟩
theorem turn_rest' {t acc r : List Int} {n z : Int} (h0 : t ≠ []) (h1 : ∀ x ∈ t, 1 ≤ x) (h : acc ++ rest (sz t) n acc.length = r) (hn : 0 < n) (hz : sz t acc.length = z) {m : Int} (hm : m = if z < n then z else n) : (acc ++ [m]) ++ rest (sz t) (n - m) (acc ++ [m]).length = r := by
  subst hz
  exact turn_rest h0 h1 h hn (by rw [hm]; split <;> split <;> omega)
def starts (xs : List Int) (n : Nat) : List Int := (List.range n).map fun k => (xs.take k).sum
theorem starts_succ (xs : List Int) (n : Nat) : starts xs (n + 1) = starts xs n ++ [(xs.take n).sum] := by
  unfold starts; rw [List.range_succ, List.map_append]; rfl
theorem starts_len (xs : List Int) (n : Nat) : (starts xs n).length = n := by unfold starts; simp
theorem sum_take {xs : List Int} {i : Nat} {x : Int} (h : xs[i]? = some x) : (xs.take (i + 1)).sum = (xs.take i).sum + x := by
  rw [take_snoc h, List.sum_append]; simp
theorem rest_len (f : Nat → Int) (m : Int) (hm : 1 ≤ m) (hf : ∀ i, m ≤ f i) : ∀ (k : Nat) (n : Int) (i : Nat), n ≤ k → ((bsz f k n i).length : Int) ≤ (if n ≤ 0 then 0 else n)
  | 0, n, i, h => by show (0 : Int) ≤ _; split <;> omega
  | k + 1, n, i, h => by
    unfold bsz
    by_cases h0 : 0 < n
    · rw [if_pos h0, if_neg (show ¬ n ≤ 0 by omega), List.length_cons]
      have h1 := hf i
      have ih := rest_len f m hm hf k (n - (if n < f i then n else f i)) (i + 1) (by omega)
      omega
    · rw [if_neg h0]; show (0 : Int) ≤ _; split <;> omega
theorem rest_length {t : List Int} {n : Int} {i : Nat} (h0 : t ≠ []) (h1 : ∀ x ∈ t, 1 ≤ x) (hn : 0 ≤ n) : ((rest (sz t) n i).length : Int) ≤ n := by
  have h := rest_len (sz t) 1 (by decide) (fun i => sz_ge h0 h1 i) n.toNat n i (by omega)
  unfold rest; omega
theorem rest_sum (f : Nat → Int) (hf : ∀ i, 1 ≤ f i) : ∀ (k : Nat) (n : Int) (i : Nat), 0 ≤ n → n ≤ k → (bsz f k n i).sum = n
  | 0, n, i, h, hk => by show (0 : Int) = n; omega
  | k + 1, n, i, h, hk => by
    unfold bsz
    by_cases h0 : 0 < n
    · have h1 := hf i
      rw [if_pos h0, List.sum_cons, rest_sum f hf k _ _ (by omega) (by omega)]
      omega
    · rw [if_neg h0]; show (0 : Int) = n; omega

theorem dec2 {a b a' b' : Int} (h : a = a' ∧ b = b') : decide ((a = a') ∧ ((b = b') ∧ True)) = true := decide_eq_true ⟨h.1, h.2, trivial⟩
theorem rng_none_eq {bs n a b : Int} (h : Rng bs none n a b) : a = bs ∧ b = bs := h
theorem rng_small_eq {bs n a b : Int} {xs r : List Int} (h : Rng bs (some xs) n a b) (e : r = rest (sz xs) n 0) (hl : ¬ (r.length : Int) > 1) : a = geti xs 0 ∧ b = geti xs 0 := by
  subst e
  change (if _ then _ else _) at h
  rw [if_pos (by omega)] at h
  exact h
theorem rng_big_eq {bs n a b a' b' : Int} {xs r : List Int} (h : Rng bs (some xs) n a b) (e : r = rest (sz xs) n 0) (hl : (r.length : Int) > 1) (h1 : a' ∈ r.take (((r.length : Nat) : Int) - 1).toNat) (h2 : ∀ y, y ∈ r.take (((r.length : Nat) : Int) - 1).toNat → a' ≤ y) (h3 : b' ∈ r) (h4 : ∀ y, y ∈ r → y ≤ b') : a = a' ∧ b = b' := by
  have ed : r.take (((r.length : Nat) : Int) - 1).toNat = r.dropLast := by rw [List.dropLast_eq_take]; congr 1; omega
  rw [ed] at h1 h2
  subst e
  change (if _ then _ else _) at h
  rw [if_neg (by omega)] at h
  obtain ⟨⟨g1, g2⟩, g3, g4⟩ := h
  exact ⟨Int.le_antisymm (g2 _ h1) (h2 _ g1), Int.le_antisymm (h4 _ g3) (g4 _ h3)⟩
theorem row16 {r : List Int} {bd : Int} (h : ∀ x ∈ r, 0 ≤ x ∧ x < bd) {n : Nat} : ∀ x ∈ (r.take n).map (fun z => 16 + z), 16 ≤ x := fun x hx => by
  obtain ⟨z, hz, rfl⟩ := List.mem_map.mp hx
  have := h z (List.mem_of_mem_take hz)
  omega
theorem ne_of_len {l : List Int} (h : 0 < l.length) : l ≠ [] := List.length_pos_iff.mp h

def top (i : Nat) : Stmt := PySem.Challenge.pw_monochord_k72_blocks_of_audio.main.body.getD i (.Pass ⟨0, 0, 0, 0⟩)
def ns_Settings : List Str := ["block_size", "block_sizes", "fixed_order", "linear_order", "search", "precision", "partition_order", "wide", "stereo", "wasted", "seek_interval", "vendor"]
theorem lk_Settings_block_size (x0 x1 x2 x3 x4 x5 x6 x7 x8 x9 x10 x11 : V) : (ns_Settings.zip [x0, x1, x2, x3, x4, x5, x6, x7, x8, x9, x10, x11]).lookup ("block_size" : Str) = some x0 := by kernel_rfl
theorem pt_Settings_block_size (x0 x1 x2 x3 x4 x5 x6 x7 x8 x9 x10 x11 y : V) : putF "block_size" y (ns_Settings.zip [x0, x1, x2, x3, x4, x5, x6, x7, x8, x9, x10, x11]) = ns_Settings.zip [y, x1, x2, x3, x4, x5, x6, x7, x8, x9, x10, x11] := by kernel_rfl
theorem pf_Settings_block_size (y : V) : putF "block_size" y ([] : List (Str × V)) = (ns_Settings.take 1).zip [y] := by kernel_rfl
theorem lk_Settings_block_sizes (x0 x1 x2 x3 x4 x5 x6 x7 x8 x9 x10 x11 : V) : (ns_Settings.zip [x0, x1, x2, x3, x4, x5, x6, x7, x8, x9, x10, x11]).lookup ("block_sizes" : Str) = some x1 := by kernel_rfl
theorem pt_Settings_block_sizes (x0 x1 x2 x3 x4 x5 x6 x7 x8 x9 x10 x11 y : V) : putF "block_sizes" y (ns_Settings.zip [x0, x1, x2, x3, x4, x5, x6, x7, x8, x9, x10, x11]) = ns_Settings.zip [x0, y, x2, x3, x4, x5, x6, x7, x8, x9, x10, x11] := by kernel_rfl
theorem pf_Settings_block_sizes (x0 y : V) : putF "block_sizes" y ((ns_Settings.take 1).zip [x0]) = (ns_Settings.take 2).zip [x0, y] := by kernel_rfl
theorem lk_Settings_fixed_order (x0 x1 x2 x3 x4 x5 x6 x7 x8 x9 x10 x11 : V) : (ns_Settings.zip [x0, x1, x2, x3, x4, x5, x6, x7, x8, x9, x10, x11]).lookup ("fixed_order" : Str) = some x2 := by kernel_rfl
theorem pt_Settings_fixed_order (x0 x1 x2 x3 x4 x5 x6 x7 x8 x9 x10 x11 y : V) : putF "fixed_order" y (ns_Settings.zip [x0, x1, x2, x3, x4, x5, x6, x7, x8, x9, x10, x11]) = ns_Settings.zip [x0, x1, y, x3, x4, x5, x6, x7, x8, x9, x10, x11] := by kernel_rfl
theorem pf_Settings_fixed_order (x0 x1 y : V) : putF "fixed_order" y ((ns_Settings.take 2).zip [x0, x1]) = (ns_Settings.take 3).zip [x0, x1, y] := by kernel_rfl
theorem lk_Settings_linear_order (x0 x1 x2 x3 x4 x5 x6 x7 x8 x9 x10 x11 : V) : (ns_Settings.zip [x0, x1, x2, x3, x4, x5, x6, x7, x8, x9, x10, x11]).lookup ("linear_order" : Str) = some x3 := by kernel_rfl
theorem pt_Settings_linear_order (x0 x1 x2 x3 x4 x5 x6 x7 x8 x9 x10 x11 y : V) : putF "linear_order" y (ns_Settings.zip [x0, x1, x2, x3, x4, x5, x6, x7, x8, x9, x10, x11]) = ns_Settings.zip [x0, x1, x2, y, x4, x5, x6, x7, x8, x9, x10, x11] := by kernel_rfl
theorem pf_Settings_linear_order (x0 x1 x2 y : V) : putF "linear_order" y ((ns_Settings.take 3).zip [x0, x1, x2]) = (ns_Settings.take 4).zip [x0, x1, x2, y] := by kernel_rfl
theorem lk_Settings_search (x0 x1 x2 x3 x4 x5 x6 x7 x8 x9 x10 x11 : V) : (ns_Settings.zip [x0, x1, x2, x3, x4, x5, x6, x7, x8, x9, x10, x11]).lookup ("search" : Str) = some x4 := by kernel_rfl
theorem pt_Settings_search (x0 x1 x2 x3 x4 x5 x6 x7 x8 x9 x10 x11 y : V) : putF "search" y (ns_Settings.zip [x0, x1, x2, x3, x4, x5, x6, x7, x8, x9, x10, x11]) = ns_Settings.zip [x0, x1, x2, x3, y, x5, x6, x7, x8, x9, x10, x11] := by kernel_rfl
theorem pf_Settings_search (x0 x1 x2 x3 y : V) : putF "search" y ((ns_Settings.take 4).zip [x0, x1, x2, x3]) = (ns_Settings.take 5).zip [x0, x1, x2, x3, y] := by kernel_rfl
theorem lk_Settings_precision (x0 x1 x2 x3 x4 x5 x6 x7 x8 x9 x10 x11 : V) : (ns_Settings.zip [x0, x1, x2, x3, x4, x5, x6, x7, x8, x9, x10, x11]).lookup ("precision" : Str) = some x5 := by kernel_rfl
theorem pt_Settings_precision (x0 x1 x2 x3 x4 x5 x6 x7 x8 x9 x10 x11 y : V) : putF "precision" y (ns_Settings.zip [x0, x1, x2, x3, x4, x5, x6, x7, x8, x9, x10, x11]) = ns_Settings.zip [x0, x1, x2, x3, x4, y, x6, x7, x8, x9, x10, x11] := by kernel_rfl
theorem pf_Settings_precision (x0 x1 x2 x3 x4 y : V) : putF "precision" y ((ns_Settings.take 5).zip [x0, x1, x2, x3, x4]) = (ns_Settings.take 6).zip [x0, x1, x2, x3, x4, y] := by kernel_rfl
theorem lk_Settings_partition_order (x0 x1 x2 x3 x4 x5 x6 x7 x8 x9 x10 x11 : V) : (ns_Settings.zip [x0, x1, x2, x3, x4, x5, x6, x7, x8, x9, x10, x11]).lookup ("partition_order" : Str) = some x6 := by kernel_rfl
theorem pt_Settings_partition_order (x0 x1 x2 x3 x4 x5 x6 x7 x8 x9 x10 x11 y : V) : putF "partition_order" y (ns_Settings.zip [x0, x1, x2, x3, x4, x5, x6, x7, x8, x9, x10, x11]) = ns_Settings.zip [x0, x1, x2, x3, x4, x5, y, x7, x8, x9, x10, x11] := by kernel_rfl
theorem pf_Settings_partition_order (x0 x1 x2 x3 x4 x5 y : V) : putF "partition_order" y ((ns_Settings.take 6).zip [x0, x1, x2, x3, x4, x5]) = (ns_Settings.take 7).zip [x0, x1, x2, x3, x4, x5, y] := by kernel_rfl
theorem lk_Settings_wide (x0 x1 x2 x3 x4 x5 x6 x7 x8 x9 x10 x11 : V) : (ns_Settings.zip [x0, x1, x2, x3, x4, x5, x6, x7, x8, x9, x10, x11]).lookup ("wide" : Str) = some x7 := by kernel_rfl
theorem pt_Settings_wide (x0 x1 x2 x3 x4 x5 x6 x7 x8 x9 x10 x11 y : V) : putF "wide" y (ns_Settings.zip [x0, x1, x2, x3, x4, x5, x6, x7, x8, x9, x10, x11]) = ns_Settings.zip [x0, x1, x2, x3, x4, x5, x6, y, x8, x9, x10, x11] := by kernel_rfl
theorem pf_Settings_wide (x0 x1 x2 x3 x4 x5 x6 y : V) : putF "wide" y ((ns_Settings.take 7).zip [x0, x1, x2, x3, x4, x5, x6]) = (ns_Settings.take 8).zip [x0, x1, x2, x3, x4, x5, x6, y] := by kernel_rfl
theorem lk_Settings_stereo (x0 x1 x2 x3 x4 x5 x6 x7 x8 x9 x10 x11 : V) : (ns_Settings.zip [x0, x1, x2, x3, x4, x5, x6, x7, x8, x9, x10, x11]).lookup ("stereo" : Str) = some x8 := by kernel_rfl
theorem pt_Settings_stereo (x0 x1 x2 x3 x4 x5 x6 x7 x8 x9 x10 x11 y : V) : putF "stereo" y (ns_Settings.zip [x0, x1, x2, x3, x4, x5, x6, x7, x8, x9, x10, x11]) = ns_Settings.zip [x0, x1, x2, x3, x4, x5, x6, x7, y, x9, x10, x11] := by kernel_rfl
theorem pf_Settings_stereo (x0 x1 x2 x3 x4 x5 x6 x7 y : V) : putF "stereo" y ((ns_Settings.take 8).zip [x0, x1, x2, x3, x4, x5, x6, x7]) = (ns_Settings.take 9).zip [x0, x1, x2, x3, x4, x5, x6, x7, y] := by kernel_rfl
theorem lk_Settings_wasted (x0 x1 x2 x3 x4 x5 x6 x7 x8 x9 x10 x11 : V) : (ns_Settings.zip [x0, x1, x2, x3, x4, x5, x6, x7, x8, x9, x10, x11]).lookup ("wasted" : Str) = some x9 := by kernel_rfl
theorem pt_Settings_wasted (x0 x1 x2 x3 x4 x5 x6 x7 x8 x9 x10 x11 y : V) : putF "wasted" y (ns_Settings.zip [x0, x1, x2, x3, x4, x5, x6, x7, x8, x9, x10, x11]) = ns_Settings.zip [x0, x1, x2, x3, x4, x5, x6, x7, x8, y, x10, x11] := by kernel_rfl
theorem pf_Settings_wasted (x0 x1 x2 x3 x4 x5 x6 x7 x8 y : V) : putF "wasted" y ((ns_Settings.take 9).zip [x0, x1, x2, x3, x4, x5, x6, x7, x8]) = (ns_Settings.take 10).zip [x0, x1, x2, x3, x4, x5, x6, x7, x8, y] := by kernel_rfl
theorem lk_Settings_seek_interval (x0 x1 x2 x3 x4 x5 x6 x7 x8 x9 x10 x11 : V) : (ns_Settings.zip [x0, x1, x2, x3, x4, x5, x6, x7, x8, x9, x10, x11]).lookup ("seek_interval" : Str) = some x10 := by kernel_rfl
theorem pt_Settings_seek_interval (x0 x1 x2 x3 x4 x5 x6 x7 x8 x9 x10 x11 y : V) : putF "seek_interval" y (ns_Settings.zip [x0, x1, x2, x3, x4, x5, x6, x7, x8, x9, x10, x11]) = ns_Settings.zip [x0, x1, x2, x3, x4, x5, x6, x7, x8, x9, y, x11] := by kernel_rfl
theorem pf_Settings_seek_interval (x0 x1 x2 x3 x4 x5 x6 x7 x8 x9 y : V) : putF "seek_interval" y ((ns_Settings.take 10).zip [x0, x1, x2, x3, x4, x5, x6, x7, x8, x9]) = (ns_Settings.take 11).zip [x0, x1, x2, x3, x4, x5, x6, x7, x8, x9, y] := by kernel_rfl
theorem lk_Settings_vendor (x0 x1 x2 x3 x4 x5 x6 x7 x8 x9 x10 x11 : V) : (ns_Settings.zip [x0, x1, x2, x3, x4, x5, x6, x7, x8, x9, x10, x11]).lookup ("vendor" : Str) = some x11 := by kernel_rfl
theorem pt_Settings_vendor (x0 x1 x2 x3 x4 x5 x6 x7 x8 x9 x10 x11 y : V) : putF "vendor" y (ns_Settings.zip [x0, x1, x2, x3, x4, x5, x6, x7, x8, x9, x10, x11]) = ns_Settings.zip [x0, x1, x2, x3, x4, x5, x6, x7, x8, x9, x10, y] := by kernel_rfl
theorem pf_Settings_vendor (x0 x1 x2 x3 x4 x5 x6 x7 x8 x9 x10 y : V) : putF "vendor" y ((ns_Settings.take 11).zip [x0, x1, x2, x3, x4, x5, x6, x7, x8, x9, x10]) = ns_Settings.zip [x0, x1, x2, x3, x4, x5, x6, x7, x8, x9, x10, y] := by kernel_rfl
theorem no_Settings_init (x0 x1 x2 x3 x4 x5 x6 x7 x8 x9 x10 x11 : V) : (ns_Settings.zip [x0, x1, x2, x3, x4, x5, x6, x7, x8, x9, x10, x11]).lookup ("__init__" : Str) = none := by kernel_rfl
theorem no_Settings_eq (x0 x1 x2 x3 x4 x5 x6 x7 x8 x9 x10 x11 : V) : (ns_Settings.zip [x0, x1, x2, x3, x4, x5, x6, x7, x8, x9, x10, x11]).lookup ("__eq__" : Str) = none := by kernel_rfl
structure Tx (K : PySem.W.Frag) (mg : Str → Option Value) : Prop where
  b_abs : mg "abs" = none
  b_all : mg "all" = none
  b_bool : mg "bool" = none
  b_int : mg "int" = none
  b_isinstance : mg "isinstance" = none
  b_len : mg "len" = none
  b_list : mg "list" = none
  b_max : mg "max" = none
  b_min : mg "min" = none
  b_range : mg "range" = none
  b_sum : mg "sum" = none
  b_tuple : mg "tuple" = none
  c_Settings : Cls K (He.ga K "Settings")
  g_Settings : mg "Settings" = some (.ref (He.ga K "Settings"))
  g__law_cell : mg "_law_cell" = some (.ref (He.ga K "_law_cell"))
  g__law_integer : mg "_law_integer" = some (.ref (He.ga K "_law_integer"))
  g__law_integers : mg "_law_integers" = some (.ref (He.ga K "_law_integers"))
  g__law_row : mg "_law_row" = some (.ref (He.ga K "_law_row"))
  g__law_sizes : mg "_law_sizes" = some (.ref (He.ga K "_law_sizes"))
  g_block_sizes : mg "block_sizes" = some (.ref (He.ga K "block_sizes"))
  g_block_starts : mg "block_starts" = some (.ref (He.ga K "block_starts"))
  g_size_range : mg "size_range" = some (.ref (He.ga K "size_range"))
  k_Settings : Mk K (He.ga K "Settings") (He.fAd K ("Settings", some "__init__"))
  n_Settings_block_size : NoAttr K (He.ga K "Settings") "block_size"
  n_Settings_block_sizes : NoAttr K (He.ga K "Settings") "block_sizes"
  n_Settings_fixed_order : NoAttr K (He.ga K "Settings") "fixed_order"
  n_Settings_linear_order : NoAttr K (He.ga K "Settings") "linear_order"
  n_Settings_partition_order : NoAttr K (He.ga K "Settings") "partition_order"
  n_Settings_precision : NoAttr K (He.ga K "Settings") "precision"
  n_Settings_search : NoAttr K (He.ga K "Settings") "search"
  n_Settings_seek_interval : NoAttr K (He.ga K "Settings") "seek_interval"
  n_Settings_stereo : NoAttr K (He.ga K "Settings") "stereo"
  n_Settings_vendor : NoAttr K (He.ga K "Settings") "vendor"
  n_Settings_wasted : NoAttr K (He.ga K "Settings") "wasted"
  n_Settings_wide : NoAttr K (He.ga K "Settings") "wide"
def sp_Settings___init__ (K : PySem.W.Frag) : Sp := fun vs H Q E => ∃ (B : Hp) (M : List (Addr × HO)) (p : Addr) (bs : Int) (l : Option (List Int)) (x1 : Int) (x2 : Int) (x3 : Bool) (x4 : Int) (x5 : Int) (x6 : Bool) (x7 : Bool) (x8 : Bool) (x9 : Int) (x10 : Str) (p_dx : Addr) (v2 : V), vs = [V.ref p, V.int bs, v2, V.int x1, V.int x2, V.bl x3, V.int x4, V.int x5, V.bl x6, V.bl x7, V.bl x8, V.int x9, V.str x10] ∧ Hd B ((p, HO.ins (He.ga K "Settings") p_dx []) :: M) H ∧ Rp B v2 (optD l) ∧ ∀ (p_block_sizes' : V) (B' H' : Hp), Gr B H B' H' → Hd B' ((p, HO.ins (He.ga K "Settings") p_dx (ns_Settings.zip [V.int bs, p_block_sizes', V.int x1, V.int x2, V.bl x3, V.int x4, V.int x5, V.bl x6, V.bl x7, V.bl x8, V.int x9, V.str x10])) :: M) H' → Rp (newOf H B') p_block_sizes' (optD l) → Q (V.non) H'
abbrev st_Settings___init__ : Stmt := inClass (top 5) 0
theorem sc_Settings___init__ : FnScope ["self", "block_size", "block_sizes", "fixed_order", "linear_order", "search", "precision", "partition_order", "wide", "stereo", "wasted", "seek_interval", "vendor"] ["self", "block_size", "block_sizes", "fixed_order", "linear_order", "search", "precision", "partition_order", "wide", "stereo", "wasted", "seek_interval", "vendor"] (defScope st_Settings___init__) := ⟨rfl, rfl, rfl, by decide +kernel, rfl, by decide +kernel, by decide +kernel⟩
theorem ok_Settings___init__ {P : Program} {w : World} {K : PySem.W.Frag} {mg : Str → Option Value} {base : Heap} (T : Tx K mg)   {f : Addr} {fd : FuncData} {dvs : List V} {kws : List (Str × V)} (F : FunD K "__init__" "Settings.__init__" (defArgs st_Settings___init__) (defBody st_Settings___init__) (defScope st_Settings___init__) dvs kws f fd) : FnOk P w K mg base CX0 1 f fd ["self", "block_size", "block_sizes", "fixed_order", "linear_order", "search", "precision", "partition_order", "wide", "stereo", "wasted", "seek_interval", "vendor"] (sp_Settings___init__ K) := by
  refine F.ok sc_Settings___init__ (fun vs H Q E h => ?_) (fun cdv A outer s H vs Q E hr h => ?_)
  · obtain ⟨B, M, p, bs, l, x1, x2, x3, x4, x5, x6, x7, x8, x9, x10, p_dx, v2, rfl, _⟩ := h; rfl
  obtain ⟨B, M, p, bs, l, x1, x2, x3, x4, x5, x6, x7, x8, x9, x10, p_dx, v2, rfl, S0, f2, kq⟩ := h
  refine ⟨_, PSs.nox (pss_cons (ps_fld (pv 0) (pv 1) rfl) (pss_cons (ps_fld (pv 0) (pe_ifExp (pt_cmp (pc_isN (pv 2))) pe_non (pe_callTy (listK (K := K)) (by rfl) T.b_list bb_list (pa_cons (pv 2) pa_nil))) rfl) (pss_cons (ps_fld (pv 0) (pv 3) rfl) (pss_cons (ps_fld (pv 0) (pv 4) rfl) (pss_cons (ps_fld (pv 0) (pv 5) rfl) (pss_cons (ps_fld (pv 0) (pv 6) rfl) (pss_cons (ps_fld (pv 0) (pv 7) rfl) (pss_cons (ps_fld (pv 0) (pv 8) rfl) (pss_cons (ps_fld (pv 0) (pv 9) rfl) (pss_cons (ps_fld (pv 0) (pv 10) rfl) (pss_cons (ps_fld (pv 0) (pv 11) rfl) (pss_one (ps_fld (pv 0) (pv 12) rfl))))))))))))), ?_⟩
  rcases l with _ | xs
  · have G0 : Gr B H B H := Gr.refl
    change Rp B v2 D.non at f2
    refine ⟨_, rfl, _, rfl, _, _, _, _, rfl, (S0.at 0 rfl), T.c_Settings, T.n_Settings_block_size, (by show 0 < 1000; decide), ?_⟩
    rw [pf_Settings_block_size]
    obtain ⟨H1, q4, G3, S2⟩ := S0.putG G0 0 rfl (HO.ins (He.ga K "Settings") p_dx ((ns_Settings.take 1).zip [(V.int bs)]))
    rw [← q4]; clear q4
    replace S2 : Hd B ((p, HO.ins (He.ga K "Settings") p_dx ((ns_Settings.take 1).zip [(V.int bs)])) :: M) H1 := S2
    with_reducible conv => whnf
    refine sq (fldIf ?_)
    refine ⟨_, rfl, ?_⟩
    obtain rfl := (f2).eNon
    refine ⟨_, rfl, ?_⟩
    refine itKT (b := decide (V.non = V.non)) (by decide) ?_
    refine ⟨_, rfl, _, _, _, _, rfl, (S2.at 0 rfl), T.c_Settings, T.n_Settings_block_sizes, (by show 1 < 1000; decide), ?_⟩
    rw [pf_Settings_block_sizes]
    obtain ⟨H7, q10, G9, S8⟩ := S2.putG G3 0 rfl (HO.ins (He.ga K "Settings") p_dx ((ns_Settings.take 2).zip [(V.int bs), V.non]))
    rw [← q10]; clear q10
    replace S8 : Hd B ((p, HO.ins (He.ga K "Settings") p_dx ((ns_Settings.take 2).zip [(V.int bs), V.non])) :: M) H7 := S8
    first | refine nfE (σ' := [_, _, _, _, _, _, _, _, _, _, _, _, _]) rfl ?_ | refine nfG (σ' := [_, _, _, _, _, _, _, _, _, _, _, _, _]) rfl ?_
    refine ⟨_, rfl, _, rfl, _, _, _, _, rfl, (S8.at 0 rfl), T.c_Settings, T.n_Settings_fixed_order, (by show 2 < 1000; decide), ?_⟩
    rw [pf_Settings_fixed_order]
    obtain ⟨H11, q14, G13, S12⟩ := S8.putG G9 0 rfl (HO.ins (He.ga K "Settings") p_dx ((ns_Settings.take 3).zip [(V.int bs), V.non, (V.int x1)]))
    rw [← q14]; clear q14
    replace S12 : Hd B ((p, HO.ins (He.ga K "Settings") p_dx ((ns_Settings.take 3).zip [(V.int bs), V.non, (V.int x1)])) :: M) H11 := S12
    refine ⟨_, rfl, _, rfl, _, _, _, _, rfl, (S12.at 0 rfl), T.c_Settings, T.n_Settings_linear_order, (by show 3 < 1000; decide), ?_⟩
    rw [pf_Settings_linear_order]
    obtain ⟨H15, q18, G17, S16⟩ := S12.putG G13 0 rfl (HO.ins (He.ga K "Settings") p_dx ((ns_Settings.take 4).zip [(V.int bs), V.non, (V.int x1), (V.int x2)]))
    rw [← q18]; clear q18
    replace S16 : Hd B ((p, HO.ins (He.ga K "Settings") p_dx ((ns_Settings.take 4).zip [(V.int bs), V.non, (V.int x1), (V.int x2)])) :: M) H15 := S16
    first | refine nfE (σ' := [_, _, _, _, _, _, _, _, _, _, _, _, _]) rfl ?_ | refine nfG (σ' := [_, _, _, _, _, _, _, _, _, _, _, _, _]) rfl ?_
    refine ⟨_, rfl, _, rfl, _, _, _, _, rfl, (S16.at 0 rfl), T.c_Settings, T.n_Settings_search, (by show 4 < 1000; decide), ?_⟩
    rw [pf_Settings_search]
    obtain ⟨H19, q22, G21, S20⟩ := S16.putG G17 0 rfl (HO.ins (He.ga K "Settings") p_dx ((ns_Settings.take 5).zip [(V.int bs), V.non, (V.int x1), (V.int x2), (V.bl x3)]))
    rw [← q22]; clear q22
    replace S20 : Hd B ((p, HO.ins (He.ga K "Settings") p_dx ((ns_Settings.take 5).zip [(V.int bs), V.non, (V.int x1), (V.int x2), (V.bl x3)])) :: M) H19 := S20
    refine ⟨_, rfl, _, rfl, _, _, _, _, rfl, (S20.at 0 rfl), T.c_Settings, T.n_Settings_precision, (by show 5 < 1000; decide), ?_⟩
    rw [pf_Settings_precision]
    obtain ⟨H23, q26, G25, S24⟩ := S20.putG G21 0 rfl (HO.ins (He.ga K "Settings") p_dx ((ns_Settings.take 6).zip [(V.int bs), V.non, (V.int x1), (V.int x2), (V.bl x3), (V.int x4)]))
    rw [← q26]; clear q26
    replace S24 : Hd B ((p, HO.ins (He.ga K "Settings") p_dx ((ns_Settings.take 6).zip [(V.int bs), V.non, (V.int x1), (V.int x2), (V.bl x3), (V.int x4)])) :: M) H23 := S24
    first | refine nfE (σ' := [_, _, _, _, _, _, _, _, _, _, _, _, _]) rfl ?_ | refine nfG (σ' := [_, _, _, _, _, _, _, _, _, _, _, _, _]) rfl ?_
    refine ⟨_, rfl, _, rfl, _, _, _, _, rfl, (S24.at 0 rfl), T.c_Settings, T.n_Settings_partition_order, (by show 6 < 1000; decide), ?_⟩
    rw [pf_Settings_partition_order]
    obtain ⟨H27, q30, G29, S28⟩ := S24.putG G25 0 rfl (HO.ins (He.ga K "Settings") p_dx ((ns_Settings.take 7).zip [(V.int bs), V.non, (V.int x1), (V.int x2), (V.bl x3), (V.int x4), (V.int x5)]))
    rw [← q30]; clear q30
    replace S28 : Hd B ((p, HO.ins (He.ga K "Settings") p_dx ((ns_Settings.take 7).zip [(V.int bs), V.non, (V.int x1), (V.int x2), (V.bl x3), (V.int x4), (V.int x5)])) :: M) H27 := S28
    refine ⟨_, rfl, _, rfl, _, _, _, _, rfl, (S28.at 0 rfl), T.c_Settings, T.n_Settings_wide, (by show 7 < 1000; decide), ?_⟩
    rw [pf_Settings_wide]
    obtain ⟨H31, q34, G33, S32⟩ := S28.putG G29 0 rfl (HO.ins (He.ga K "Settings") p_dx ((ns_Settings.take 8).zip [(V.int bs), V.non, (V.int x1), (V.int x2), (V.bl x3), (V.int x4), (V.int x5), (V.bl x6)]))
    rw [← q34]; clear q34
    replace S32 : Hd B ((p, HO.ins (He.ga K "Settings") p_dx ((ns_Settings.take 8).zip [(V.int bs), V.non, (V.int x1), (V.int x2), (V.bl x3), (V.int x4), (V.int x5), (V.bl x6)])) :: M) H31 := S32
    first | refine nfE (σ' := [_, _, _, _, _, _, _, _, _, _, _, _, _]) rfl ?_ | refine nfG (σ' := [_, _, _, _, _, _, _, _, _, _, _, _, _]) rfl ?_
    refine ⟨_, rfl, _, rfl, _, _, _, _, rfl, (S32.at 0 rfl), T.c_Settings, T.n_Settings_stereo, (by show 8 < 1000; decide), ?_⟩
    rw [pf_Settings_stereo]
    obtain ⟨H35, q38, G37, S36⟩ := S32.putG G33 0 rfl (HO.ins (He.ga K "Settings") p_dx ((ns_Settings.take 9).zip [(V.int bs), V.non, (V.int x1), (V.int x2), (V.bl x3), (V.int x4), (V.int x5), (V.bl x6), (V.bl x7)]))
    rw [← q38]; clear q38
    replace S36 : Hd B ((p, HO.ins (He.ga K "Settings") p_dx ((ns_Settings.take 9).zip [(V.int bs), V.non, (V.int x1), (V.int x2), (V.bl x3), (V.int x4), (V.int x5), (V.bl x6), (V.bl x7)])) :: M) H35 := S36
    refine ⟨_, rfl, _, rfl, _, _, _, _, rfl, (S36.at 0 rfl), T.c_Settings, T.n_Settings_wasted, (by show 9 < 1000; decide), ?_⟩
    rw [pf_Settings_wasted]
    obtain ⟨H39, q42, G41, S40⟩ := S36.putG G37 0 rfl (HO.ins (He.ga K "Settings") p_dx ((ns_Settings.take 10).zip [(V.int bs), V.non, (V.int x1), (V.int x2), (V.bl x3), (V.int x4), (V.int x5), (V.bl x6), (V.bl x7), (V.bl x8)]))
    rw [← q42]; clear q42
    replace S40 : Hd B ((p, HO.ins (He.ga K "Settings") p_dx ((ns_Settings.take 10).zip [(V.int bs), V.non, (V.int x1), (V.int x2), (V.bl x3), (V.int x4), (V.int x5), (V.bl x6), (V.bl x7), (V.bl x8)])) :: M) H39 := S40
    first | refine nfE (σ' := [_, _, _, _, _, _, _, _, _, _, _, _, _]) rfl ?_ | refine nfG (σ' := [_, _, _, _, _, _, _, _, _, _, _, _, _]) rfl ?_
    refine ⟨_, rfl, _, rfl, _, _, _, _, rfl, (S40.at 0 rfl), T.c_Settings, T.n_Settings_seek_interval, (by show 10 < 1000; decide), ?_⟩
    rw [pf_Settings_seek_interval]
    obtain ⟨H43, q46, G45, S44⟩ := S40.putG G41 0 rfl (HO.ins (He.ga K "Settings") p_dx ((ns_Settings.take 11).zip [(V.int bs), V.non, (V.int x1), (V.int x2), (V.bl x3), (V.int x4), (V.int x5), (V.bl x6), (V.bl x7), (V.bl x8), (V.int x9)]))
    rw [← q46]; clear q46
    replace S44 : Hd B ((p, HO.ins (He.ga K "Settings") p_dx ((ns_Settings.take 11).zip [(V.int bs), V.non, (V.int x1), (V.int x2), (V.bl x3), (V.int x4), (V.int x5), (V.bl x6), (V.bl x7), (V.bl x8), (V.int x9)])) :: M) H43 := S44
    refine ⟨_, rfl, _, rfl, _, _, _, _, rfl, (S44.at 0 rfl), T.c_Settings, T.n_Settings_vendor, (by show 11 < 1000; decide), ?_⟩
    rw [pf_Settings_vendor]
    obtain ⟨H47, q50, G49, S48⟩ := S44.putG G45 0 rfl (HO.ins (He.ga K "Settings") p_dx (ns_Settings.zip [(V.int bs), V.non, (V.int x1), (V.int x2), (V.bl x3), (V.int x4), (V.int x5), (V.bl x6), (V.bl x7), (V.bl x8), (V.int x9), (V.str x10)]))
    rw [← q50]; clear q50
    replace S48 : Hd B ((p, HO.ins (He.ga K "Settings") p_dx (ns_Settings.zip [(V.int bs), V.non, (V.int x1), (V.int x2), (V.bl x3), (V.int x4), (V.int x5), (V.bl x6), (V.bl x7), (V.bl x8), (V.int x9), (V.str x10)])) :: M) H47 := S48
    exact kq _ B H47 G49 S48 .non
  · have G0 : Gr B H B H := Gr.refl
    change Rp B v2 (D.ints xs) at f2
    first | refine nfE (σ' := [_, _, _, _, _, _, _, _, _, _, _, _, _]) rfl ?_ | refine nfG (σ' := [_, _, _, _, _, _, _, _, _, _, _, _, _]) rfl ?_
    refine ⟨_, rfl, _, rfl, _, _, _, _, rfl, (S0.at 0 rfl), T.c_Settings, T.n_Settings_block_size, (by show 0 < 1000; decide), ?_⟩
    rw [pf_Settings_block_size]
    obtain ⟨H1, q4, G3, S2⟩ := S0.putG G0 0 rfl (HO.ins (He.ga K "Settings") p_dx ((ns_Settings.take 1).zip [(V.int bs)]))
    rw [← q4]; clear q4
    replace S2 : Hd B ((p, HO.ins (He.ga K "Settings") p_dx ((ns_Settings.take 1).zip [(V.int bs)])) :: M) H1 := S2
    with_reducible conv => whnf
    refine sq (fldIf ?_)
    refine ⟨_, rfl, ?_⟩
    obtain ⟨a5, rfl, e6⟩ := (f2).eInts
    refine ⟨_, rfl, ?_⟩
    refine itKF (b := decide ((V.ref a5) = V.non)) (isN_no (by intro z; cases z)) ?_
    refine ⟨_, rfl, ?_⟩
    refine ⟨_, (xs.map V.int), rfl, (.inl (S2.rl e6)), fun p9 np10 => ?_⟩
    obtain ⟨B11, H12, q17, s15, G14, e16, S13⟩ := S2.newG G3 np10 (HO.lst (xs.map V.int))
    rw [← q17]; clear q17
    have z18 := G3.fr0 np10
    refine ⟨_, rfl, _, _, _, _, rfl, (S13.at 0 rfl), T.c_Settings, T.n_Settings_block_sizes, (by show 1 < 1000; decide), ?_⟩
    rw [pf_Settings_block_sizes]
    obtain ⟨H19, q22, G21, S20⟩ := S13.putG G14 0 rfl (HO.ins (He.ga K "Settings") p_dx ((ns_Settings.take 2).zip [(V.int bs), (V.ref p9)]))
    rw [← q22]; clear q22
    replace S20 : Hd B11 ((p, HO.ins (He.ga K "Settings") p_dx ((ns_Settings.take 2).zip [(V.int bs), (V.ref p9)])) :: M) H19 := S20
    first | refine nfE (σ' := [_, _, _, _, _, _, _, _, _, _, _, _, _]) rfl ?_ | refine nfG (σ' := [_, _, _, _, _, _, _, _, _, _, _, _, _]) rfl ?_
    refine ⟨_, rfl, _, rfl, _, _, _, _, rfl, (S20.at 0 rfl), T.c_Settings, T.n_Settings_fixed_order, (by show 2 < 1000; decide), ?_⟩
    rw [pf_Settings_fixed_order]
    obtain ⟨H23, q26, G25, S24⟩ := S20.putG G21 0 rfl (HO.ins (He.ga K "Settings") p_dx ((ns_Settings.take 3).zip [(V.int bs), (V.ref p9), (V.int x1)]))
    rw [← q26]; clear q26
    replace S24 : Hd B11 ((p, HO.ins (He.ga K "Settings") p_dx ((ns_Settings.take 3).zip [(V.int bs), (V.ref p9), (V.int x1)])) :: M) H23 := S24
    refine ⟨_, rfl, _, rfl, _, _, _, _, rfl, (S24.at 0 rfl), T.c_Settings, T.n_Settings_linear_order, (by show 3 < 1000; decide), ?_⟩
    rw [pf_Settings_linear_order]
    obtain ⟨H27, q30, G29, S28⟩ := S24.putG G25 0 rfl (HO.ins (He.ga K "Settings") p_dx ((ns_Settings.take 4).zip [(V.int bs), (V.ref p9), (V.int x1), (V.int x2)]))
    rw [← q30]; clear q30
    replace S28 : Hd B11 ((p, HO.ins (He.ga K "Settings") p_dx ((ns_Settings.take 4).zip [(V.int bs), (V.ref p9), (V.int x1), (V.int x2)])) :: M) H27 := S28
    first | refine nfE (σ' := [_, _, _, _, _, _, _, _, _, _, _, _, _]) rfl ?_ | refine nfG (σ' := [_, _, _, _, _, _, _, _, _, _, _, _, _]) rfl ?_
    refine ⟨_, rfl, _, rfl, _, _, _, _, rfl, (S28.at 0 rfl), T.c_Settings, T.n_Settings_search, (by show 4 < 1000; decide), ?_⟩
    rw [pf_Settings_search]
    obtain ⟨H31, q34, G33, S32⟩ := S28.putG G29 0 rfl (HO.ins (He.ga K "Settings") p_dx ((ns_Settings.take 5).zip [(V.int bs), (V.ref p9), (V.int x1), (V.int x2), (V.bl x3)]))
    rw [← q34]; clear q34
    replace S32 : Hd B11 ((p, HO.ins (He.ga K "Settings") p_dx ((ns_Settings.take 5).zip [(V.int bs), (V.ref p9), (V.int x1), (V.int x2), (V.bl x3)])) :: M) H31 := S32
    refine ⟨_, rfl, _, rfl, _, _, _, _, rfl, (S32.at 0 rfl), T.c_Settings, T.n_Settings_precision, (by show 5 < 1000; decide), ?_⟩
    rw [pf_Settings_precision]
    obtain ⟨H35, q38, G37, S36⟩ := S32.putG G33 0 rfl (HO.ins (He.ga K "Settings") p_dx ((ns_Settings.take 6).zip [(V.int bs), (V.ref p9), (V.int x1), (V.int x2), (V.bl x3), (V.int x4)]))
    rw [← q38]; clear q38
    replace S36 : Hd B11 ((p, HO.ins (He.ga K "Settings") p_dx ((ns_Settings.take 6).zip [(V.int bs), (V.ref p9), (V.int x1), (V.int x2), (V.bl x3), (V.int x4)])) :: M) H35 := S36
    first | refine nfE (σ' := [_, _, _, _, _, _, _, _, _, _, _, _, _]) rfl ?_ | refine nfG (σ' := [_, _, _, _, _, _, _, _, _, _, _, _, _]) rfl ?_
    refine ⟨_, rfl, _, rfl, _, _, _, _, rfl, (S36.at 0 rfl), T.c_Settings, T.n_Settings_partition_order, (by show 6 < 1000; decide), ?_⟩
    rw [pf_Settings_partition_order]
    obtain ⟨H39, q42, G41, S40⟩ := S36.putG G37 0 rfl (HO.ins (He.ga K "Settings") p_dx ((ns_Settings.take 7).zip [(V.int bs), (V.ref p9), (V.int x1), (V.int x2), (V.bl x3), (V.int x4), (V.int x5)]))
    rw [← q42]; clear q42
    replace S40 : Hd B11 ((p, HO.ins (He.ga K "Settings") p_dx ((ns_Settings.take 7).zip [(V.int bs), (V.ref p9), (V.int x1), (V.int x2), (V.bl x3), (V.int x4), (V.int x5)])) :: M) H39 := S40
    refine ⟨_, rfl, _, rfl, _, _, _, _, rfl, (S40.at 0 rfl), T.c_Settings, T.n_Settings_wide, (by show 7 < 1000; decide), ?_⟩
    rw [pf_Settings_wide]
    obtain ⟨H43, q46, G45, S44⟩ := S40.putG G41 0 rfl (HO.ins (He.ga K "Settings") p_dx ((ns_Settings.take 8).zip [(V.int bs), (V.ref p9), (V.int x1), (V.int x2), (V.bl x3), (V.int x4), (V.int x5), (V.bl x6)]))
    rw [← q46]; clear q46
    replace S44 : Hd B11 ((p, HO.ins (He.ga K "Settings") p_dx ((ns_Settings.take 8).zip [(V.int bs), (V.ref p9), (V.int x1), (V.int x2), (V.bl x3), (V.int x4), (V.int x5), (V.bl x6)])) :: M) H43 := S44
    first | refine nfE (σ' := [_, _, _, _, _, _, _, _, _, _, _, _, _]) rfl ?_ | refine nfG (σ' := [_, _, _, _, _, _, _, _, _, _, _, _, _]) rfl ?_
    refine ⟨_, rfl, _, rfl, _, _, _, _, rfl, (S44.at 0 rfl), T.c_Settings, T.n_Settings_stereo, (by show 8 < 1000; decide), ?_⟩
    rw [pf_Settings_stereo]
    obtain ⟨H47, q50, G49, S48⟩ := S44.putG G45 0 rfl (HO.ins (He.ga K "Settings") p_dx ((ns_Settings.take 9).zip [(V.int bs), (V.ref p9), (V.int x1), (V.int x2), (V.bl x3), (V.int x4), (V.int x5), (V.bl x6), (V.bl x7)]))
    rw [← q50]; clear q50
    replace S48 : Hd B11 ((p, HO.ins (He.ga K "Settings") p_dx ((ns_Settings.take 9).zip [(V.int bs), (V.ref p9), (V.int x1), (V.int x2), (V.bl x3), (V.int x4), (V.int x5), (V.bl x6), (V.bl x7)])) :: M) H47 := S48
    refine ⟨_, rfl, _, rfl, _, _, _, _, rfl, (S48.at 0 rfl), T.c_Settings, T.n_Settings_wasted, (by show 9 < 1000; decide), ?_⟩
    rw [pf_Settings_wasted]
    obtain ⟨H51, q54, G53, S52⟩ := S48.putG G49 0 rfl (HO.ins (He.ga K "Settings") p_dx ((ns_Settings.take 10).zip [(V.int bs), (V.ref p9), (V.int x1), (V.int x2), (V.bl x3), (V.int x4), (V.int x5), (V.bl x6), (V.bl x7), (V.bl x8)]))
    rw [← q54]; clear q54
    replace S52 : Hd B11 ((p, HO.ins (He.ga K "Settings") p_dx ((ns_Settings.take 10).zip [(V.int bs), (V.ref p9), (V.int x1), (V.int x2), (V.bl x3), (V.int x4), (V.int x5), (V.bl x6), (V.bl x7), (V.bl x8)])) :: M) H51 := S52
    first | refine nfE (σ' := [_, _, _, _, _, _, _, _, _, _, _, _, _]) rfl ?_ | refine nfG (σ' := [_, _, _, _, _, _, _, _, _, _, _, _, _]) rfl ?_
    refine ⟨_, rfl, _, rfl, _, _, _, _, rfl, (S52.at 0 rfl), T.c_Settings, T.n_Settings_seek_interval, (by show 10 < 1000; decide), ?_⟩
    rw [pf_Settings_seek_interval]
    obtain ⟨H55, q58, G57, S56⟩ := S52.putG G53 0 rfl (HO.ins (He.ga K "Settings") p_dx ((ns_Settings.take 11).zip [(V.int bs), (V.ref p9), (V.int x1), (V.int x2), (V.bl x3), (V.int x4), (V.int x5), (V.bl x6), (V.bl x7), (V.bl x8), (V.int x9)]))
    rw [← q58]; clear q58
    replace S56 : Hd B11 ((p, HO.ins (He.ga K "Settings") p_dx ((ns_Settings.take 11).zip [(V.int bs), (V.ref p9), (V.int x1), (V.int x2), (V.bl x3), (V.int x4), (V.int x5), (V.bl x6), (V.bl x7), (V.bl x8), (V.int x9)])) :: M) H55 := S56
    refine ⟨_, rfl, _, rfl, _, _, _, _, rfl, (S56.at 0 rfl), T.c_Settings, T.n_Settings_vendor, (by show 11 < 1000; decide), ?_⟩
    rw [pf_Settings_vendor]
    obtain ⟨H59, q62, G61, S60⟩ := S56.putG G57 0 rfl (HO.ins (He.ga K "Settings") p_dx (ns_Settings.zip [(V.int bs), (V.ref p9), (V.int x1), (V.int x2), (V.bl x3), (V.int x4), (V.int x5), (V.bl x6), (V.bl x7), (V.bl x8), (V.int x9), (V.str x10)]))
    rw [← q62]; clear q62
    replace S60 : Hd B11 ((p, HO.ins (He.ga K "Settings") p_dx (ns_Settings.zip [(V.int bs), (V.ref p9), (V.int x1), (V.int x2), (V.bl x3), (V.int x4), (V.int x5), (V.bl x6), (V.bl x7), (V.bl x8), (V.int x9), (V.str x10)])) :: M) H59 := S60
    exact kq _ B11 H59 G61 S60 (Rp.ints (newOf_at z18 e16))
def sp_block_sizes (K : PySem.W.Frag) : Sp := fun vs H Q E => ∃ (B : Hp) (M : List (Addr × HO)) (n : Int) (bs : Int) (l : Option (List Int)) (x1 : Int) (x2 : Int) (x3 : Bool) (x4 : Int) (x5 : Int) (x6 : Bool) (x7 : Bool) (x8 : Bool) (x9 : Int) (x10 : Str) (v1 : V), vs = [V.int n, v1] ∧ Hd B (M) H ∧ Rp B v1 (D.obj (He.ga K "Settings") ns_Settings [(D.int bs), (optD l), (D.int x1), (D.int x2), (D.bl x3), (D.int x4), (D.int x5), (D.bl x6), (D.bl x7), (D.bl x8), (D.int x9), (D.str x10)]) ∧ (0 ≤ n) ∧ (n ≤ 2000) ∧ (told bs l ≠ []) ∧ (∀ x ∈ told bs l, 1 ≤ x) ∧ ∀ (r : List Int) (v' : V) (B' H' : Hp), (r = rest (sz (told bs l)) n 0) → Gr B H B' H' → Hd B' (M) H' → Rp B' v' (D.ints r) → Q (v') H'
abbrev st_block_sizes : Stmt := top 1
theorem sc_block_sizes : FnScope ["length", "settings", "sizes", "left", "size"] ["length", "settings"] (defScope st_block_sizes) := ⟨rfl, rfl, rfl, by decide +kernel, rfl, by decide +kernel, by decide +kernel⟩
theorem ok_block_sizes {P : Program} {w : World} {K : PySem.W.Frag} {mg : Str → Option Value} {base : Heap} (T : Tx K mg)   {f : Addr} {fd : FuncData} {dvs : List V} {kws : List (Str × V)} (F : FunD K "block_sizes" "block_sizes" (defArgs st_block_sizes) (defBody st_block_sizes) (defScope st_block_sizes) dvs kws f fd) : FnOk P w K mg base CX0 1 f fd ["length", "settings"] (sp_block_sizes K) := by
  refine F.ok sc_block_sizes (fun vs H Q E h => ?_) (fun cdv A outer s H vs Q E hr h => ?_)
  · obtain ⟨B, M, n, bs, l, x1, x2, x3, x4, x5, x6, x7, x8, x9, x10, v1, rfl, _⟩ := h; rfl
  obtain ⟨B, M, n, bs, l, x1, x2, x3, x4, x5, x6, x7, x8, x9, x10, v1, rfl, S0, f1, p0, p1, p2, p3, kq⟩ := h
  refine ⟨_, PSs.nox (pss_cons (ps_set (i := 2) sc_block_sizes.nd rfl (Or.inl rfl) (pe_lst pa_nil)) (pss_cons (ps_set (i := 3) sc_block_sizes.nd rfl (Or.inl rfl) (pv 0)) (pss_cons (ps_while PassesOwn.never (pt_cmpR gtI (pv 3) pe_int (nomark _)) (pss_cons (ps_set (i := 4) sc_block_sizes.nd rfl (Or.inl rfl) (fldK (K := K) (pv 1) rfl)) (pss_cons (ps_if (pt_cmp (pc_notN (fldK (K := K) (pv 1) rfl))) (pss_one (ps_set (i := 4) sc_block_sizes.nd rfl (Or.inl rfl) (pe_ix (ixL (K := K)) (fldK (K := K) (pv 1) rfl) (pe_op modI (pe_callB (lenK (K := K)) (by rfl) T.b_len bb_len (pa_cons (pv 2) pa_nil)) (pe_callB (lenK (K := K)) (by rfl) T.b_len bb_len (pa_cons (fldK (K := K) (pv 1) rfl) pa_nil))) (fun _ _ => rfl)))) pss_nil) (pss_cons (ps_set (i := 4) sc_block_sizes.nd rfl (Or.inl rfl) (pe_callB (call_min2 rfl) (by rfl) T.b_min bb_min (pa_cons (pv 4) (pa_cons (pv 3) pa_nil)))) (pss_cons (ps_expr (pe_bm PySem.F.plainAttrs_list PySem.F.slot_list_append PySem.F.type_list_append mt_appendN (pv 2) (pa_cons (pv 4) pa_nil))) (pss_one (ps_aug (i := 3) sc_block_sizes.nd rfl (Or.inl rfl) (pv 4) ip_sub))))))) (pss_one (ps_ret (pv 2)))))), ?_⟩
  rcases l with _ | xs
  · have G0 : Gr B H B H := Gr.refl
    change Rp B v1 (D.obj (He.ga K "Settings") ns_Settings [(D.int bs), D.non, (D.int x1), (D.int x2), (D.bl x3), (D.int x4), (D.int x5), (D.bl x6), (D.bl x7), (D.bl x8), (D.int x9), (D.str x10)]) at f1
    refine ⟨(by show 0 ≤ sizeLine; decide), fun p1 np2 => ?_⟩
    obtain ⟨H3, q6, G5, S4, z7⟩ := S0.mutG G0 np2 (HO.lst [])
    rw [← q6]; clear q6
    refine ⟨_, rfl, ?_⟩
    first | refine nfE (σ' := [_, _, _, _, _]) rfl ?_ | refine nfG (σ' := [_, _, _, _, _]) rfl ?_
    refine ⟨fun m σ' H' => ∃ (Bi : Hp) (acc : List Int) (le : Int) (y_size : Option V), σ' = [some (V.int n), some v1, some (V.ref p1), some (V.int le), y_size] ∧ Same B Bi ∧ Gr B H Bi H' ∧ Hd Bi ((p1, HO.lst (acc.map V.int)) :: M) H' ∧ (0 ≤ le) ∧ (acc.length + le ≤ n) ∧ (acc ++ rest (sz (told bs none)) le acc.length = rest (sz (told bs none)) n 0) ∧ m = le.toNat, ⟨n.toNat, ?_⟩, ?_⟩
    · exact ⟨B, ([]), n, _, rfl, (Same.refl _), G5, S4, (by walk_at "vc"), (by show (0 : Int) + n ≤ n; omega), (by rfl), rfl⟩
    rintro m8 sg10 H9 ⟨B14, acc11, le12, y_size13, rfl, s17, G16, S15, i18, i19, i20, em21⟩
    refine ⟨_, rfl, _, _, rfl, rfl, _, rfl, ?_⟩
    refine itb (fun h22 => ?_) (fun h22 => ?_)
    · refine ⟨fun σ' H' => ∃ m', m' < m8 ∧ (∃ (Bi : Hp) (acc : List Int) (le : Int) (y_size : Option V), σ' = [some (V.int n), some v1, some (V.ref p1), some (V.int le), y_size] ∧ Same B Bi ∧ Gr B H Bi H' ∧ Hd Bi ((p1, HO.lst (acc.map V.int)) :: M) H' ∧ (0 ≤ le) ∧ (acc.length + le ≤ n) ∧ (acc ++ rest (sz (told bs none)) le acc.length = rest (sz (told bs none)) n 0) ∧ m' = le.toNat), fun _ _ h => h, ?_⟩
      refine ⟨_, rfl, ?_⟩
      obtain ⟨a24, dx28, vs25, rfl, e26, r27⟩ := ((f1.up s17)).eObj
      obtain ⟨v29, vs32, rfl, h30, r31⟩ := r27.eCons
      obtain rfl := (h30).eInt
      obtain ⟨v34, vs37, rfl, h35, r36⟩ := r31.eCons
      obtain rfl := (h35).eNon
      obtain ⟨v39, vs42, rfl, h40, r41⟩ := r36.eCons
      obtain rfl := (h40).eInt
      obtain ⟨v44, vs47, rfl, h45, r46⟩ := r41.eCons
      obtain rfl := (h45).eInt
      obtain ⟨v49, vs52, rfl, h50, r51⟩ := r46.eCons
      obtain rfl := (h50).eBl
      obtain ⟨v54, vs57, rfl, h55, r56⟩ := r51.eCons
      obtain rfl := (h55).eInt
      obtain ⟨v59, vs62, rfl, h60, r61⟩ := r56.eCons
      obtain rfl := (h60).eInt
      obtain ⟨v64, vs67, rfl, h65, r66⟩ := r61.eCons
      obtain rfl := (h65).eBl
      obtain ⟨v69, vs72, rfl, h70, r71⟩ := r66.eCons
      obtain rfl := (h70).eBl
      obtain ⟨v74, vs77, rfl, h75, r76⟩ := r71.eCons
      obtain rfl := (h75).eBl
      obtain ⟨v79, vs82, rfl, h80, r81⟩ := r76.eCons
      obtain rfl := (h80).eInt
      obtain ⟨v84, vs87, rfl, h85, r86⟩ := r81.eCons
      obtain rfl := (h85).eStr
      obtain rfl := r86.eNil
      refine ⟨_, _, _, _, _, rfl, (S15.rd e26), T.c_Settings, T.n_Settings_block_size, (lk_Settings_block_size ..), ?_⟩
      first | refine nfE (σ' := [_, _, _, _, _]) rfl ?_ | refine nfG (σ' := [_, _, _, _, _]) rfl ?_
      refine ⟨_, rfl, ?_⟩
      refine ⟨_, _, _, _, _, rfl, (S15.rd e26), T.c_Settings, T.n_Settings_block_sizes, (lk_Settings_block_sizes ..), _, rfl, ?_⟩
      refine itKF (b := !decide (V.non = V.non)) (by decide) ?_
      have hsz : bs = sz (told bs none) acc11.length := (sz_one _ _).symm
      have hge := sz_ge (t := told bs none) (m := 1) p2 p3 acc11.length
      refine ⟨_, rfl, _, rfl, _, _, rfl, _, rfl, (.inl ⟨rfl, _, (.inl (.inl (S15.at 0 rfl)))⟩), _, rfl, _, _, _, ((acc11 ++ [if le12 < bs then le12 else bs]).map V.int), rfl, rfl, (S15.at 0 rfl), (by simp), (by walk_at "sz"), ?_⟩
      obtain ⟨H91, q94, G93, S92⟩ := S15.putG G16 0 rfl (HO.lst ((acc11 ++ [if le12 < bs then le12 else bs]).map V.int))
      rw [← q94]; clear q94
      replace S92 : Hd B14 ((p1, HO.lst ((acc11 ++ [if le12 < bs then le12 else bs]).map V.int)) :: M) H91 := S92
      refine ⟨_, rfl, _, rfl, _, _, rfl, rfl, ?_⟩
      refine ⟨_, ?_, B14, (acc11 ++ [if le12 < bs then le12 else bs]), (le12 - (if le12 < bs then le12 else bs)), _, rfl, s17, G93, S92, (by walk_at "vc"), (by walk_at "vc"), (by exact turn_rest p2 p3 (by assumption) (by assumption) (congrArg (fun z => if le12 < z then le12 else z) hsz)), rfl⟩
      rw [em21]; omega
    · first | refine nfE (σ' := [_, _, _, _, _]) rfl ?_ | refine nfG (σ' := [_, _, _, _, _]) rfl ?_
      refine ⟨_, rfl, ?_⟩
      obtain ⟨B95, s98, G97, e99, S96⟩ := S15.frzG G16 0 rfl z7
      replace S96 : Hd B95 (M) H9 := S96
      exact kq acc11 _ B95 H9 (by rw [← i20, rest_zero (by assumption), List.append_nil]) G97 S96 (Rp.ints e99)
  · have G0 : Gr B H B H := Gr.refl
    change Rp B v1 (D.obj (He.ga K "Settings") ns_Settings [(D.int bs), (D.ints xs), (D.int x1), (D.int x2), (D.bl x3), (D.int x4), (D.int x5), (D.bl x6), (D.bl x7), (D.bl x8), (D.int x9), (D.str x10)]) at f1
    change xs ≠ [] at p2; change ∀ x ∈ xs, 1 ≤ x at p3; have p4 : 0 < xs.length := List.length_pos_iff.mpr p2
    refine ⟨(by show 0 ≤ sizeLine; decide), fun p1 np2 => ?_⟩
    obtain ⟨H3, q6, G5, S4, z7⟩ := S0.mutG G0 np2 (HO.lst [])
    rw [← q6]; clear q6
    refine ⟨_, rfl, ?_⟩
    first | refine nfE (σ' := [_, _, _, _, _]) rfl ?_ | refine nfG (σ' := [_, _, _, _, _]) rfl ?_
    refine ⟨fun m σ' H' => ∃ (Bi : Hp) (acc : List Int) (le : Int) (y_size : Option V), σ' = [some (V.int n), some v1, some (V.ref p1), some (V.int le), y_size] ∧ Same B Bi ∧ Gr B H Bi H' ∧ Hd Bi ((p1, HO.lst (acc.map V.int)) :: M) H' ∧ (0 ≤ le) ∧ (acc.length + le ≤ n) ∧ (acc ++ rest (sz (told bs ((some xs)))) le acc.length = rest (sz (told bs ((some xs)))) n 0) ∧ m = le.toNat, ⟨n.toNat, ?_⟩, ?_⟩
    · exact ⟨B, ([]), n, _, rfl, (Same.refl _), G5, S4, (by walk_at "vc"), (by show (0 : Int) + n ≤ n; omega), (by rfl), rfl⟩
    rintro m8 sg10 H9 ⟨B14, acc11, le12, y_size13, rfl, s17, G16, S15, i18, i19, i20, em21⟩
    refine ⟨_, rfl, _, _, rfl, rfl, _, rfl, ?_⟩
    refine itb (fun h22 => ?_) (fun h22 => ?_)
    · refine ⟨fun σ' H' => ∃ m', m' < m8 ∧ (∃ (Bi : Hp) (acc : List Int) (le : Int) (y_size : Option V), σ' = [some (V.int n), some v1, some (V.ref p1), some (V.int le), y_size] ∧ Same B Bi ∧ Gr B H Bi H' ∧ Hd Bi ((p1, HO.lst (acc.map V.int)) :: M) H' ∧ (0 ≤ le) ∧ (acc.length + le ≤ n) ∧ (acc ++ rest (sz (told bs ((some xs)))) le acc.length = rest (sz (told bs ((some xs)))) n 0) ∧ m' = le.toNat), fun _ _ h => h, ?_⟩
      refine ⟨_, rfl, ?_⟩
      obtain ⟨a24, dx28, vs25, rfl, e26, r27⟩ := ((f1.up s17)).eObj
      obtain ⟨v29, vs32, rfl, h30, r31⟩ := r27.eCons
      obtain rfl := (h30).eInt
      obtain ⟨v34, vs37, rfl, h35, r36⟩ := r31.eCons
      obtain ⟨v38, vs41, rfl, h39, r40⟩ := r36.eCons
      obtain rfl := (h39).eInt
      obtain ⟨v43, vs46, rfl, h44, r45⟩ := r40.eCons
      obtain rfl := (h44).eInt
      obtain ⟨v48, vs51, rfl, h49, r50⟩ := r45.eCons
      obtain rfl := (h49).eBl
      obtain ⟨v53, vs56, rfl, h54, r55⟩ := r50.eCons
      obtain rfl := (h54).eInt
      obtain ⟨v58, vs61, rfl, h59, r60⟩ := r55.eCons
      obtain rfl := (h59).eInt
      obtain ⟨v63, vs66, rfl, h64, r65⟩ := r60.eCons
      obtain rfl := (h64).eBl
      obtain ⟨v68, vs71, rfl, h69, r70⟩ := r65.eCons
      obtain rfl := (h69).eBl
      obtain ⟨v73, vs76, rfl, h74, r75⟩ := r70.eCons
      obtain rfl := (h74).eBl
      obtain ⟨v78, vs81, rfl, h79, r80⟩ := r75.eCons
      obtain rfl := (h79).eInt
      obtain ⟨v83, vs86, rfl, h84, r85⟩ := r80.eCons
      obtain rfl := (h84).eStr
      obtain rfl := r85.eNil
      refine ⟨_, _, _, _, _, rfl, (S15.rd e26), T.c_Settings, T.n_Settings_block_size, (lk_Settings_block_size ..), ?_⟩
      first | refine nfE (σ' := [_, _, _, _, _]) rfl ?_ | refine nfG (σ' := [_, _, _, _, _]) rfl ?_
      refine ⟨_, rfl, ?_⟩
      refine ⟨_, _, _, _, _, rfl, (S15.rd e26), T.c_Settings, T.n_Settings_block_sizes, (lk_Settings_block_sizes ..), ?_⟩
      obtain ⟨a89, rfl, e90⟩ := (h35).eInts
      refine ⟨_, rfl, ?_⟩
      refine itKT (b := !decide ((V.ref a89) = V.non)) (notN_yes (by intro z; cases z)) ?_
      refine ⟨_, rfl, ?_⟩
      refine ⟨_, _, _, _, _, rfl, (S15.rd e26), T.c_Settings, T.n_Settings_block_sizes, (lk_Settings_block_sizes ..), ?_⟩
      refine ⟨_, rfl, _, _, acc11.length, rfl, (.inl (.inl (.inl (S15.at 0 rfl)))), (by simp), _, rfl, ?_⟩
      refine ⟨_, _, _, _, _, rfl, (S15.rd e26), T.c_Settings, T.n_Settings_block_sizes, (lk_Settings_block_sizes ..), ?_⟩
      refine ⟨_, _, xs.length, rfl, (.inl (S15.rl e90)), (by simp), _, _, rfl, rfl, (by omega), _, _, _, _, rfl, rfl, (S15.rl e90), (at_ints (by exact Int.emod_nonneg _ (by omega)) (by exact Int.emod_lt_of_pos _ (by omega))), ?_⟩
      have hsz : geti xs ((((acc11.length : Nat) : Int)) % (((xs.length : Nat) : Int))) = sz (told bs (some xs)) acc11.length := rfl
      have hge := sz_ge (t := told bs (some xs)) (m := 1) p2 p3 acc11.length
      refine ⟨_, rfl, _, rfl, _, _, rfl, ?_⟩
      first | refine nfE (σ' := [_, _, _, _, _]) rfl ?_ | refine nfG (σ' := [_, _, _, _, _]) rfl ?_
      refine ⟨_, rfl, (.inl ⟨rfl, _, (.inl (.inl (S15.at 0 rfl)))⟩), _, rfl, _, _, _, ((acc11 ++ [if le12 < geti xs ((((acc11.length : Nat) : Int)) % (((xs.length : Nat) : Int))) then le12 else geti xs ((((acc11.length : Nat) : Int)) % (((xs.length : Nat) : Int)))]).map V.int), rfl, rfl, (S15.at 0 rfl), (by simp), (by walk_at "sz"), ?_⟩
      obtain ⟨H93, q96, G95, S94⟩ := S15.putG G16 0 rfl (HO.lst ((acc11 ++ [if le12 < geti xs ((((acc11.length : Nat) : Int)) % (((xs.length : Nat) : Int))) then le12 else geti xs ((((acc11.length : Nat) : Int)) % (((xs.length : Nat) : Int)))]).map V.int))
      rw [← q96]; clear q96
      replace S94 : Hd B14 ((p1, HO.lst ((acc11 ++ [if le12 < geti xs ((((acc11.length : Nat) : Int)) % (((xs.length : Nat) : Int))) then le12 else geti xs ((((acc11.length : Nat) : Int)) % (((xs.length : Nat) : Int)))]).map V.int)) :: M) H93 := S94
      refine ⟨_, rfl, _, rfl, _, _, rfl, rfl, ?_⟩
      refine ⟨_, ?_, B14, (acc11 ++ [if le12 < geti xs ((((acc11.length : Nat) : Int)) % (((xs.length : Nat) : Int))) then le12 else geti xs ((((acc11.length : Nat) : Int)) % (((xs.length : Nat) : Int)))]), (le12 - (if le12 < geti xs ((((acc11.length : Nat) : Int)) % (((xs.length : Nat) : Int))) then le12 else geti xs ((((acc11.length : Nat) : Int)) % (((xs.length : Nat) : Int))))), _, rfl, s17, G95, S94, (by walk_at "vc"), (by walk_at "vc"), (by exact turn_rest p2 p3 (by assumption) (by assumption) (congrArg (fun z => if le12 < z then le12 else z) hsz)), rfl⟩
      rw [em21]; omega
    · refine ⟨_, rfl, ?_⟩
      obtain ⟨B97, s100, G99, e101, S98⟩ := S15.frzG G16 0 rfl z7
      replace S98 : Hd B97 (M) H9 := S98
      exact kq acc11 _ B97 H9 (by rw [← i20, rest_zero (by assumption), List.append_nil]) G99 S98 (Rp.ints e101)
def sp_block_starts (K : PySem.W.Frag) : Sp := fun vs H Q E => ∃ (B : Hp) (M : List (Addr × HO)) (xs : List Int) (v0 : V), vs = [v0] ∧ Hd B (M) H ∧ Rp B v0 (D.ints xs) ∧ (xs.length ≤ 5000) ∧ ∀ (r : List Int) (v' : V) (B' H' : Hp), (r = starts xs xs.length) → Gr B H B' H' → Hd B' (M) H' → Rp B' v' (D.ints r) → Q (v') H'
abbrev st_block_starts : Stmt := top 2
theorem sc_block_starts : FnScope ["sizes", "starts", "start", "size"] ["sizes"] (defScope st_block_starts) := ⟨rfl, rfl, rfl, by decide +kernel, rfl, by decide +kernel, by decide +kernel⟩
theorem ok_block_starts {P : Program} {w : World} {K : PySem.W.Frag} {mg : Str → Option Value} {base : Heap} (T : Tx K mg)   {f : Addr} {fd : FuncData} {dvs : List V} {kws : List (Str × V)} (F : FunD K "block_starts" "block_starts" (defArgs st_block_starts) (defBody st_block_starts) (defScope st_block_starts) dvs kws f fd) : FnOk P w K mg base CX0 1 f fd ["sizes"] (sp_block_starts K) := by
  refine F.ok sc_block_starts (fun vs H Q E h => ?_) (fun cdv A outer s H vs Q E hr h => ?_)
  · obtain ⟨B, M, xs, v0, rfl, _⟩ := h; rfl
  obtain ⟨B, M, xs, v0, rfl, S0, f0, p0, kq⟩ := h
  refine ⟨_, PSs.nox (pss_cons (ps_set (i := 1) sc_block_starts.nd rfl (Or.inl rfl) (pe_lst pa_nil)) (pss_cons (ps_set (i := 2) sc_block_starts.nd rfl (Or.inl rfl) pe_int) (pss_cons (ps_for PassesOwn.never rfl (pi_list (pv 0)) (pg_name (i := 3) sc_block_starts.nd rfl (Or.inl rfl)) (pss_cons (ps_expr (pe_bm PySem.F.plainAttrs_list PySem.F.slot_list_append PySem.F.type_list_append mt_appendN (pv 1) (pa_cons (pv 2) pa_nil))) (pss_one (ps_aug (i := 2) sc_block_starts.nd rfl (Or.inl rfl) (pv 3) ip_add)))) (pss_one (ps_ret (pv 1)))))), ?_⟩
  have G0 : Gr B H B H := Gr.refl
  refine ⟨(by show 0 ≤ sizeLine; decide), fun p1 np2 => ?_⟩
  obtain ⟨H3, q6, G5, S4, z7⟩ := S0.mutG G0 np2 (HO.lst [])
  rw [← q6]; clear q6
  first | refine nfE (σ' := [_, _, _, _]) rfl ?_ | refine nfG (σ' := [_, _, _, _]) rfl ?_
  refine ⟨_, rfl, ?_⟩
  obtain ⟨a8, rfl, e9⟩ := (f0).eInts
  refine ⟨_, rfl, ⟨(xs.map V.int), (S4.rl e9)⟩, for_list (xs := (xs.map V.int)) (fun i σ' H' => ∃ (Bi : Hp) (acc : List Int) (t : Int) (y_size : Option V), σ' = [some (V.ref a8), some (V.ref p1), some (V.int t), y_size] ∧ Same B Bi ∧ Gr B H Bi H' ∧ Hd Bi ((p1, HO.lst (acc.map V.int)) :: M) H' ∧ (acc = starts xs i) ∧ (t = (xs.take i).sum) ∧ (i ≤ xs.length)) ?_ ?_ ?_ ?_⟩
  · exact ⟨B, ([]), 0, _, rfl, (Same.refl _), G5, S4, (by rfl), (by rfl), (by omega)⟩
  · rintro i sg12 H11 hi ⟨B16, acc13, t14, y_size15, rfl, s19, G18, S17, i20, i21, i22⟩
    exact (S17.rl (s19 _ _ e9))
  · rintro i24 x36 sg25 H23 hx37 ⟨B29, acc26, t27, y_size28, rfl, s32, G31, S30, i33, i34, i35⟩
    obtain ⟨x38, hx39, rfl⟩ := ints_at hx37
    have lt_x38 := lt_of_at hx39
    refine ⟨_, rfl, (.inl ⟨rfl, _, (.inl (.inl (S30.at 0 rfl)))⟩), _, rfl, _, _, _, ((acc26 ++ [t27]).map V.int), rfl, rfl, (S30.at 0 rfl), (by simp), (by rw [i33, List.length_map, starts_len]; refine Nat.lt_of_le_of_lt (m := 5000) (by omega) (by decide)), ?_⟩
    obtain ⟨H40, q43, G42, S41⟩ := S30.putG G31 0 rfl (HO.lst ((acc26 ++ [t27]).map V.int))
    rw [← q43]; clear q43
    replace S41 : Hd B29 ((p1, HO.lst ((acc26 ++ [t27]).map V.int)) :: M) H40 := S41
    refine ⟨_, rfl, _, rfl, _, _, rfl, rfl, ?_⟩
    exact ⟨B29, (acc26 ++ [t27]), (t27 + x38), _, rfl, s32, G42, S41, (by rw [starts_succ, ← i33, ← i34]), (by rw [sum_take hx39, i34]), (by have := lt_of_at hx39; omega)⟩
  · rintro sg45 H44 ⟨B49, acc46, t47, y_size48, rfl, s52, G51, S50, i53, i54, i55⟩
    try simp only [List.length_map] at i53 i54 i55
    first | refine nfE (σ' := [_, _, _, _]) rfl ?_ | refine nfG (σ' := [_, _, _, _]) rfl ?_
    refine ⟨_, rfl, ?_⟩
    obtain ⟨B56, s59, G58, e60, S57⟩ := S50.frzG G51 0 rfl z7
    replace S57 : Hd B56 (M) H44 := S57
    exact kq acc46 _ B56 H44 (by walk_at "vc") G58 S57 (Rp.ints e60)
def sp_size_range (K : PySem.W.Frag) : Sp := fun vs H Q E => ∃ (B : Hp) (M : List (Addr × HO)) (n : Int) (bs : Int) (l : Option (List Int)) (x1 : Int) (x2 : Int) (x3 : Bool) (x4 : Int) (x5 : Int) (x6 : Bool) (x7 : Bool) (x8 : Bool) (x9 : Int) (x10 : Str) (v1 : V), vs = [V.int n, v1] ∧ Hd B (M) H ∧ Rp B v1 (D.obj (He.ga K "Settings") ns_Settings [(D.int bs), (optD l), (D.int x1), (D.int x2), (D.bl x3), (D.int x4), (D.int x5), (D.bl x6), (D.bl x7), (D.bl x8), (D.int x9), (D.str x10)]) ∧ (0 ≤ n) ∧ (n ≤ 2000) ∧ (told bs l ≠ []) ∧ (∀ x ∈ told bs l, 1 ≤ x) ∧ ∀ (a : Int) (b : Int) (v' : V) (B' H' : Hp), (Rng bs l n a b) → Gr B H B' H' → Hd B' (M) H' → Rp B' v' (D.tup [(D.int a), (D.int b)]) → Q (v') H'
abbrev st_size_range : Stmt := top 3
theorem sc_size_range : FnScope ["length", "settings", "sizes", "smallest"] ["length", "settings"] (defScope st_size_range) := ⟨rfl, rfl, rfl, by decide +kernel, rfl, by decide +kernel, by decide +kernel⟩
theorem ok_size_range {P : Program} {w : World} {K : PySem.W.Frag} {mg : Str → Option Value} {base : Heap} (T : Tx K mg)  (G_block_sizes : Fd P w K mg base CX0 1 ("block_sizes", none) ["length", "settings"] (sp_block_sizes K)) {f : Addr} {fd : FuncData} {dvs : List V} {kws : List (Str × V)} (F : FunD K "size_range" "size_range" (defArgs st_size_range) (defBody st_size_range) (defScope st_size_range) dvs kws f fd) : FnOk P w K mg base CX0 2 f fd ["length", "settings"] (sp_size_range K) := by
  refine F.ok sc_size_range (fun vs H Q E h => ?_) (fun cdv A outer s H vs Q E hr h => ?_)
  · obtain ⟨B, M, n, bs, l, x1, x2, x3, x4, x5, x6, x7, x8, x9, x10, v1, rfl, _⟩ := h; rfl
  obtain ⟨B, M, n, bs, l, x1, x2, x3, x4, x5, x6, x7, x8, x9, x10, v1, rfl, S0, f1, p0, p1, p2, p3, kq⟩ := h
  refine ⟨_, PSs.nox (pss_cons (ps_if (pt_cmp (pc_isN (fldK (K := K) (pv 1) rfl))) (pss_one (ps_ret (pe_tup (pa_cons (fldK (K := K) (pv 1) rfl) (pa_cons (fldK (K := K) (pv 1) rfl) pa_nil))))) pss_nil) (pss_cons (ps_set (i := 2) sc_size_range.nd rfl (Or.inl rfl) (pe_callF G_block_sizes hr (by rfl) T.g_block_sizes pass0 (pa_cons (pv 0) (pa_cons (pv 1) pa_nil)))) (pss_cons (ps_if (pt_cmpR ltI (pe_callB (lenK (K := K)) (by rfl) T.b_len bb_len (pa_cons (pv 2) pa_nil)) pe_int (nomark _)) (pss_one (ps_ret (pe_tup (pa_cons (pe_ix (ixL (K := K)) (fldK (K := K) (pv 1) rfl) pe_int (fun _ _ => rfl)) (pa_cons (pe_ix (ixL (K := K)) (fldK (K := K) (pv 1) rfl) pe_int (fun _ _ => rfl)) pa_nil))))) pss_nil) (pss_cons (ps_set (i := 3) sc_size_range.nd rfl (Or.inl rfl) (pe_callB (minK (K := K) rfl) (by rfl) T.b_min bb_min (pa_cons (pe_slice (slK (K := K)) (pv 2) po_none (po_some (pe_un negI pe_int))) pa_nil))) (pss_one (ps_ret (pe_tup (pa_cons (pv 3) (pa_cons (pe_callB (maxK (K := K) rfl) (by rfl) T.b_max bb_max (pa_cons (pv 2) pa_nil)) pa_nil))))))))), ?_⟩
  rcases l with _ | xs
  · have G0 : Gr B H B H := Gr.refl
    change Rp B v1 (D.obj (He.ga K "Settings") ns_Settings [(D.int bs), D.non, (D.int x1), (D.int x2), (D.bl x3), (D.int x4), (D.int x5), (D.bl x6), (D.bl x7), (D.bl x8), (D.int x9), (D.str x10)]) at f1
    refine ⟨_, rfl, ?_⟩
    obtain ⟨a1, dx5, vs2, rfl, e3, r4⟩ := (f1).eObj
    obtain ⟨v6, vs9, rfl, h7, r8⟩ := r4.eCons
    obtain rfl := (h7).eInt
    obtain ⟨v11, vs14, rfl, h12, r13⟩ := r8.eCons
    obtain rfl := (h12).eNon
    obtain ⟨v16, vs19, rfl, h17, r18⟩ := r13.eCons
    obtain rfl := (h17).eInt
    obtain ⟨v21, vs24, rfl, h22, r23⟩ := r18.eCons
    obtain rfl := (h22).eInt
    obtain ⟨v26, vs29, rfl, h27, r28⟩ := r23.eCons
    obtain rfl := (h27).eBl
    obtain ⟨v31, vs34, rfl, h32, r33⟩ := r28.eCons
    obtain rfl := (h32).eInt
    obtain ⟨v36, vs39, rfl, h37, r38⟩ := r33.eCons
    obtain rfl := (h37).eInt
    obtain ⟨v41, vs44, rfl, h42, r43⟩ := r38.eCons
    obtain rfl := (h42).eBl
    obtain ⟨v46, vs49, rfl, h47, r48⟩ := r43.eCons
    obtain rfl := (h47).eBl
    obtain ⟨v51, vs54, rfl, h52, r53⟩ := r48.eCons
    obtain rfl := (h52).eBl
    obtain ⟨v56, vs59, rfl, h57, r58⟩ := r53.eCons
    obtain rfl := (h57).eInt
    obtain ⟨v61, vs64, rfl, h62, r63⟩ := r58.eCons
    obtain rfl := (h62).eStr
    obtain rfl := r63.eNil
    refine ⟨_, _, _, _, _, rfl, (S0.rd e3), T.c_Settings, T.n_Settings_block_sizes, (lk_Settings_block_sizes ..), _, rfl, ?_⟩
    refine itKT (b := decide (V.non = V.non)) (by decide) ?_
    refine ⟨_, rfl, ?_⟩
    refine ⟨_, _, _, _, _, rfl, (S0.rd e3), T.c_Settings, T.n_Settings_block_size, (lk_Settings_block_size ..), _, rfl, ?_⟩
    refine ⟨_, _, _, _, _, rfl, (S0.rd e3), T.c_Settings, T.n_Settings_block_size, (lk_Settings_block_size ..), (by show 2 ≤ sizeLine; decide), fun p68 np69 => ?_⟩
    obtain ⟨B70, H71, q76, s74, G73, e75, S72⟩ := S0.newG G0 np69 (HO.tup [(V.int bs), (V.int bs)])
    rw [← q76]; clear q76
    have z77 := G0.fr0 np69
    exact kq bs bs _ B70 H71 (by exact ⟨rfl, rfl⟩) G73 S72 (.tup e75 (.cons (.int _) (.cons (.int _) .nil)))
  · have G0 : Gr B H B H := Gr.refl
    change Rp B v1 (D.obj (He.ga K "Settings") ns_Settings [(D.int bs), (D.ints xs), (D.int x1), (D.int x2), (D.bl x3), (D.int x4), (D.int x5), (D.bl x6), (D.bl x7), (D.bl x8), (D.int x9), (D.str x10)]) at f1
    change xs ≠ [] at p2; change ∀ x ∈ xs, 1 ≤ x at p3; have p4 : 0 < xs.length := List.length_pos_iff.mpr p2
    refine ⟨_, rfl, ?_⟩
    obtain ⟨a1, dx5, vs2, rfl, e3, r4⟩ := (f1).eObj
    obtain ⟨v6, vs9, rfl, h7, r8⟩ := r4.eCons
    obtain rfl := (h7).eInt
    obtain ⟨v11, vs14, rfl, h12, r13⟩ := r8.eCons
    obtain ⟨v15, vs18, rfl, h16, r17⟩ := r13.eCons
    obtain rfl := (h16).eInt
    obtain ⟨v20, vs23, rfl, h21, r22⟩ := r17.eCons
    obtain rfl := (h21).eInt
    obtain ⟨v25, vs28, rfl, h26, r27⟩ := r22.eCons
    obtain rfl := (h26).eBl
    obtain ⟨v30, vs33, rfl, h31, r32⟩ := r27.eCons
    obtain rfl := (h31).eInt
    obtain ⟨v35, vs38, rfl, h36, r37⟩ := r32.eCons
    obtain rfl := (h36).eInt
    obtain ⟨v40, vs43, rfl, h41, r42⟩ := r37.eCons
    obtain rfl := (h41).eBl
    obtain ⟨v45, vs48, rfl, h46, r47⟩ := r42.eCons
    obtain rfl := (h46).eBl
    obtain ⟨v50, vs53, rfl, h51, r52⟩ := r47.eCons
    obtain rfl := (h51).eBl
    obtain ⟨v55, vs58, rfl, h56, r57⟩ := r52.eCons
    obtain rfl := (h56).eInt
    obtain ⟨v60, vs63, rfl, h61, r62⟩ := r57.eCons
    obtain rfl := (h61).eStr
    obtain rfl := r62.eNil
    refine ⟨_, _, _, _, _, rfl, (S0.rd e3), T.c_Settings, T.n_Settings_block_sizes, (lk_Settings_block_sizes ..), ?_⟩
    obtain ⟨a66, rfl, e67⟩ := (h12).eInts
    refine ⟨_, rfl, ?_⟩
    refine itKF (b := decide ((V.ref a66) = V.non)) (isN_no (by intro z; cases z)) ?_
    refine ⟨_, rfl, _, rfl, ?_⟩
    refine ⟨B, (M), n, bs, ((some xs)), x1, x2, x3, x4, x5, x6, x7, x8, x9, x10, _, rfl, S0, f1, (by walk_at "vc"), (by walk_at "vc"), (by exact p2), (by exact p3), fun r70 v71 B72 H73 c76 g75 S74 h77 => ?_⟩
    have G78 := G0.trans g75; have s79 := g75.s
    first | refine nfE (σ' := [_, _, _, _]) rfl ?_ | refine nfG (σ' := [_, _, _, _]) rfl ?_
    refine ⟨_, rfl, ?_⟩
    obtain ⟨a80, rfl, e81⟩ := (h77).eInts
    refine ⟨_, _, r70.length, rfl, (.inl (S74.rl e81)), (by simp), _, _, rfl, rfl, _, rfl, ?_⟩
    refine itb (fun h83 => ?_) (fun h83 => ?_)
    · refine ⟨_, rfl, ?_⟩
      refine ⟨_, _, _, _, _, rfl, (S74.rd (s79 _ _ e3)), T.c_Settings, T.n_Settings_block_sizes, (lk_Settings_block_sizes ..), ?_⟩
      refine ⟨_, _, _, _, rfl, rfl, (S74.rl (s79 _ _ e67)), (at_ints (by omega) (by omega)), _, rfl, ?_⟩
      refine ⟨_, _, _, _, _, rfl, (S74.rd (s79 _ _ e3)), T.c_Settings, T.n_Settings_block_sizes, (lk_Settings_block_sizes ..), ?_⟩
      refine ⟨_, _, _, _, rfl, rfl, (S74.rl (s79 _ _ e67)), (at_ints (by omega) (by omega)), (by show 2 ≤ sizeLine; decide), fun p84 np85 => ?_⟩
      obtain ⟨B86, H87, q92, s90, G89, e91, S88⟩ := S74.newG G78 np85 (HO.tup [(V.int (geti xs 0)), (V.int (geti xs 0))])
      rw [← q92]; clear q92
      have z93 := G78.fr0 np85
      exact kq (geti xs 0) (geti xs 0) _ B86 H87 (by exact rng_small (by assumption) (by omega)) G89 S88 (.tup e91 (.cons (.int _) (.cons (.int _) .nil)))
    · refine ⟨_, rfl, ?_⟩
      refine ⟨_, rfl, _, rfl, _, _, (r70.dropLast.map V.int), rfl, (S74.rl e81), cut_last, fun p94 np95 => ?_⟩
      obtain ⟨B96, H97, q102, s100, G99, e101, S98⟩ := S74.newG G78 np95 (HO.lst (r70.dropLast.map V.int))
      rw [← q102]; clear q102
      have z103 := G78.fr0 np95
      refine ⟨_, r70.dropLast, rfl, (S98.rl e101), (by rw [List.length_dropLast]; omega), fun m104 hm105 hm106 => ?_⟩
      refine ⟨_, rfl, _, rfl, ?_⟩
      refine ⟨_, r70, rfl, (S98.rl (s100 _ _ e81)), (by omega), fun m107 hm108 hm109 => ?_⟩
      refine ⟨(by show 2 ≤ sizeLine; decide), fun p110 np111 => ?_⟩
      obtain ⟨B112, H113, q118, s116, G115, e117, S114⟩ := S98.newG G99 np111 (HO.tup [(V.int m104), (V.int m107)])
      rw [← q118]; clear q118
      have z119 := G99.fr0 np111
      exact kq m104 m107 _ B112 H113 (by exact rng_big (by assumption) (by omega) (by assumption) (by assumption) (by assumption) (by assumption)) G115 S114 (.tup e117 (.cons (.int _) (.cons (.int _) .nil)))
def sp_law_cell (K : PySem.W.Frag) : Sp := fun vs H Q E => ∃ (B : Hp) (M : List (Addr × HO)) (k : Int) (sa : Addr) (ns : List Int), vs = [V.ref sa, V.int k] ∧ Hd B (M) H ∧ SqL K B sa (ns.map V.int) ∧ (0 ≤ k) ∧ ∀ (c : Int) (B' H' : Hp), Gr B H B' H' → Hd B' (M) H' → Q (V.int c) H'
abbrev st_law_cell : Stmt := top 7
theorem sc_law_cell : FnScope ["_law_script", "_law_k"] ["_law_script", "_law_k"] (defScope st_law_cell) := ⟨rfl, rfl, rfl, by decide +kernel, rfl, by decide +kernel, by decide +kernel⟩
theorem ok_law_cell {P : Program} {w : World} {K : PySem.W.Frag} {mg : Str → Option Value} {base : Heap} (T : Tx K mg)   {f : Addr} {fd : FuncData} {dvs : List V} {kws : List (Str × V)} (F : FunD K "_law_cell" "_law_cell" (defArgs st_law_cell) (defBody st_law_cell) (defScope st_law_cell) dvs kws f fd) : FnOk P w K mg base CX0 1 f fd ["_law_script", "_law_k"] (sp_law_cell K) := by
  refine F.ok sc_law_cell (fun vs H Q E h => ?_) (fun cdv A outer s H vs Q E hr h => ?_)
  · obtain ⟨B, M, k, sa, ns, rfl, _⟩ := h; rfl
  obtain ⟨B, M, k, sa, ns, rfl, S0, fs, p0, kq⟩ := h
  refine ⟨_, PSs.nox (pss_cons (ps_if (pt_cmpR ltI (pv 1) (pe_callB (lenK (K := K)) (by rfl) T.b_len bb_len (pa_cons (pv 0) pa_nil)) (nomark _)) (pss_one (ps_ret (pe_ix (ixL (K := K)) (pv 0) (pv 1) (fun _ _ => rfl)))) pss_nil) (pss_one (ps_ret pe_int))), ?_⟩
  have G0 : Gr B H B H := Gr.refl
  refine ⟨_, rfl, _, rfl, _, _, ns.length, rfl, (.inl (S0.same.seq fs)), (by simp), _, _, rfl, rfl, _, rfl, ?_⟩
  refine itb (fun h1 => ?_) (fun h1 => ?_)
  · refine ⟨_, rfl, _, rfl, _, _, _, _, rfl, rfl, (S0.same.seq fs), (at_ints (by omega) (by omega)), ?_⟩
    exact kq (geti ns k) B H G0 S0
  · exact kq 0 B H G0 S0
def sp_law_integer (K : PySem.W.Frag) : Sp := fun vs H Q E => ∃ (B : Hp) (M : List (Addr × HO)) (x : Int), vs = [V.int x] ∧ Hd B (M) H ∧ ∀ (B' H' : Hp), Gr B H B' H' → Hd B' (M) H' → Q (V.bl true) H'
abbrev st_law_integer : Stmt := top 8
theorem sc_law_integer : FnScope ["_law_value"] ["_law_value"] (defScope st_law_integer) := ⟨rfl, rfl, rfl, by decide +kernel, rfl, by decide +kernel, by decide +kernel⟩
theorem ok_law_integer {P : Program} {w : World} {K : PySem.W.Frag} {mg : Str → Option Value} {base : Heap} (T : Tx K mg)   {f : Addr} {fd : FuncData} {dvs : List V} {kws : List (Str × V)} (F : FunD K "_law_integer" "_law_integer" (defArgs st_law_integer) (defBody st_law_integer) (defScope st_law_integer) dvs kws f fd) : FnOk P w K mg base CX0 1 f fd ["_law_value"] (sp_law_integer K) := by
  refine F.ok sc_law_integer (fun vs H Q E h => ?_) (fun cdv A outer s H vs Q E hr h => ?_)
  · obtain ⟨B, M, x, rfl, _⟩ := h; rfl
  obtain ⟨B, M, x, rfl, S0, kq⟩ := h
  refine ⟨_, PSs.nox (pss_one (ps_ret (pe_and (pe_callB (isiK (K := K)) (by rfl) T.b_isinstance bb_isinstance (pa_cons (pv 0) (pa_cons (pe_bltn (v := .ty "int") rfl T.b_int (by decide +kernel) rfl) pa_nil))) (pe_one (pe_not (pe_callB (isiK (K := K)) (by rfl) T.b_isinstance bb_isinstance (pa_cons (pv 0) (pa_cons (pe_bltn (v := .ty "bool") rfl T.b_bool (by decide +kernel) rfl) pa_nil)))))))), ?_⟩
  have G0 : Gr B H B H := Gr.refl
  with_reducible conv => whnf
  refine mrgR (P := ((True) ∧ ¬ (False))) (fun Q' q1 q2 => ?_) ?_
  · refine ⟨_, rfl, _, _, _, _, true, rfl, (.ty "int"), (.base (.int _)), (kit_ty (by decide +kernel)), _, rfl, ?_⟩
    refine iteT ?_
    refine ⟨_, rfl, _, _, _, _, false, rfl, (.ty "bool"), (.base (.int _)), (kit_ty (by decide +kernel)), _, rfl, ?_⟩
    rw [show (!false) = true from rfl]
    exact q1 (by walk_at "pr")
  · rw [show (decide ((True) ∧ ¬ (False))) = true from (by walk_at "law")]
    exact kq B H G0 S0
def sp_law_integers (K : PySem.W.Frag) : Sp := fun vs H Q E => ∃ (B : Hp) (M : List (Addr × HO)) (xs : List Int) (v0 : V), vs = [v0] ∧ Hd B (M) H ∧ Rp B v0 (D.ints xs) ∧ (xs.length ≤ 5000) ∧ ∀ (B' H' : Hp), Gr B H B' H' → Hd B' (M) H' → Q (V.bl true) H'
abbrev st_law_integers : Stmt := top 9
theorem sc_law_integers : FnScope ["_law_values", "_law_value"] ["_law_values"] (defScope st_law_integers) := ⟨rfl, rfl, rfl, by decide +kernel, rfl, by decide +kernel, by decide +kernel⟩
theorem ok_law_integers {P : Program} {w : World} {K : PySem.W.Frag} {mg : Str → Option Value} {base : Heap} (T : Tx K mg)  (G_law_integer : Fd P w K mg base CX0 1 ("_law_integer", none) ["_law_value"] (sp_law_integer K)) {f : Addr} {fd : FuncData} {dvs : List V} {kws : List (Str × V)} (F : FunD K "_law_integers" "_law_integers" (defArgs st_law_integers) (defBody st_law_integers) (defScope st_law_integers) dvs kws f fd) : FnOk P w K mg base CX0 2 f fd ["_law_values"] (sp_law_integers K) := by
  refine F.ok sc_law_integers (fun vs H Q E h => ?_) (fun cdv A outer s H vs Q E hr h => ?_)
  · obtain ⟨B, M, xs, v0, rfl, _⟩ := h; rfl
  obtain ⟨B, M, xs, v0, rfl, S0, f0, p0, kq⟩ := h
  refine ⟨_, PSs.nox (pss_cons (ps_if (pt_not (pt_val (pe_callB (isiK (K := K)) (by rfl) T.b_isinstance bb_isinstance (pa_cons (pv 0) (pa_cons (pe_bltn (v := .ty "list") rfl T.b_list (by decide +kernel) rfl) pa_nil))))) pss_never pss_nil) (pss_one (ps_ret (pe_callB (allK (K := K) rfl) (by rfl) T.b_all bb_all (pa_cons (pe_lc (own := [("_law_value", 1)]) (tt := tYes) rfl sc_law_integers.nd (pi_list (pv 0)) (blkOk_by (own := [("_law_value", 1)]) (N := ["_law_values", "_law_value"]) (sc := defScope st_law_integers) (by decide +kernel)) (fun _ _ _ _ _ => (pg_name (i := 1) sc_law_integers.nd rfl (Or.inl rfl))) (fun _ _ _ _ _ => pts_nil) (fun _ _ _ _ _ => (pe_callF G_law_integer hr (by rfl) T.g__law_integer pass0 (pa_cons (pv 1) pa_nil)))) pa_nil))))), ?_⟩
  have G0 : Gr B H B H := Gr.refl
  refine ⟨_, rfl, ?_⟩
  obtain ⟨a1, rfl, e2⟩ := (f0).eInts
  refine ⟨_, _, _, _, true, rfl, (.ty "list"), (.base (.lst (S0.rd e2))), (kit_ty (by decide +kernel)), _, rfl, ?_⟩
  refine itKF (by decide) ?_
  refine ⟨_, rfl, ?_⟩
  refine ⟨_, rfl, ⟨(xs.map V.int), (S0.rl e2)⟩, fun D5 nD6 => lc_list (xs := (xs.map V.int)) (fun i H' => ∃ (Bi : Hp) (acc : List Bool), Same B Bi ∧ Gr B H Bi H' ∧ Hd Bi ((D5, HO.lst (acc.map V.bl)) :: M) H' ∧ (acc = List.replicate i true) ∧ (i ≤ xs.length) ∧ (acc.length = i)) ?_ ?_ ?_ ?_⟩
  · obtain ⟨D5_H, hq, G', S', z'⟩ := S0.mutG G0 nD6 (HO.lst [])
    rw [← hq]; clear hq
    exact ⟨B, ([]), (Same.refl _), G', S', (by walk_at "vc"), (by walk_at "vc"), (by walk_at "vc")⟩
  · rintro i H7 hi ⟨B9, acc8, s12, G11, S10, i13, i14, i15⟩
    exact (S10.rl (s12 _ _ e2))
  · rintro i17 x26 H16 hx27 ⟨B19, acc18, s22, G21, S20, i23, i24, i25⟩
    obtain ⟨x28, hx29, rfl⟩ := ints_at hx27
    have lt_x28 := lt_of_at hx29
    refine ⟨rfl, ?_⟩
    refine iteT (B := True) ?_
    refine ⟨_, rfl, ?_⟩
    refine ⟨B19, ((D5, HO.lst (acc18.map V.bl)) :: M), x28, rfl, S20, fun B30 H31 g33 S32 => ?_⟩
    have G34 := G21.trans g33; have s35 := g33.s
    refine ⟨_, S32.at 0 rfl, (by walk_at "sz"), ?_⟩
    rw [snocB]
    obtain ⟨H36, q39, G38, S37⟩ := S32.putG G34 0 rfl (HO.lst ((acc18 ++ [true]).map V.bl))
    rw [← q39]; clear q39
    replace S37 : Hd B30 ((D5, HO.lst ((acc18 ++ [true]).map V.bl)) :: M) H36 := S37
    exact ⟨B30, (acc18 ++ [true]), (s22.trans s35), G38, S37, (by rw [rep_snoc, i23]), (by have := lt_of_at hx29; omega), (by walk_at "vc")⟩
  · have z41 := G0.fr0 nD6
    rintro H40 ⟨B43, acc42, s46, G45, S44, i47, i48, i49⟩
    try simp only [List.length_map] at i47 i48 i49
    obtain ⟨B50, s53, G52, e54, S51⟩ := S44.frzG G45 0 rfl z41
    replace S51 : Hd B50 (M) H40 := S51
    refine ⟨_, acc42, rfl, (S51.rl e54), ?_⟩
    rw [show (acc42.all id) = true from (by rw [i47]; exact all_true _)]
    exact kq B50 H40 G52 S51
def sp_law_row (K : PySem.W.Frag) : Sp := fun vs H Q E => ∃ (B : Hp) (M : List (Addr × HO)) (c : Int) (n : Int) (bd : Int), vs = [V.int c, V.int n, V.int bd] ∧ Hd B (M) H ∧ (0 ≤ n) ∧ (n ≤ 5000) ∧ (0 < bd) ∧ (bd < 2 ^ 100) ∧ ∀ (r : List Int) (v' : V) (B' H' : Hp), ((r.length : Int) = n) → (∀ x ∈ r, 0 ≤ x ∧ x < bd) → Gr B H B' H' → Hd B' (M) H' → Rp B' v' (D.ints r) → Q (v') H'
abbrev st_law_row : Stmt := top 10
theorem sc_law_row : FnScope ["_law_cell_here", "_law_count", "_law_bound", "_law_rest", "_law_mixed", "_law_row_here", "_law_k"] ["_law_cell_here", "_law_count", "_law_bound"] (defScope st_law_row) := ⟨rfl, rfl, rfl, by decide +kernel, rfl, by decide +kernel, by decide +kernel⟩
theorem ok_law_row {P : Program} {w : World} {K : PySem.W.Frag} {mg : Str → Option Value} {base : Heap} (T : Tx K mg)   {f : Addr} {fd : FuncData} {dvs : List V} {kws : List (Str × V)} (F : FunD K "_law_row" "_law_row" (defArgs st_law_row) (defBody st_law_row) (defScope st_law_row) dvs kws f fd) : FnOk P w K mg base CX0 1 f fd ["_law_cell_here", "_law_count", "_law_bound"] (sp_law_row K) := by
  refine F.ok sc_law_row (fun vs H Q E h => ?_) (fun cdv A outer s H vs Q E hr h => ?_)
  · obtain ⟨B, M, c, n, bd, rfl, _⟩ := h; rfl
  obtain ⟨B, M, c, n, bd, rfl, S0, p0, p1, p2, p3, kq⟩ := h
  refine ⟨_, PSs.nox (pss_cons (ps_set (i := 3) sc_law_row.nd rfl (Or.inl rfl) (pe_callB call_abs (by rfl) T.b_abs bb_abs (pa_cons (pe_callTy call_intI (by rfl) T.b_int bb_int (pa_cons (pv 0) pa_nil)) pa_nil))) (pss_cons (ps_set (i := 4) sc_law_row.nd rfl (Or.inl rfl) (pe_op addI (pe_op modI (pe_callTy call_intI (by rfl) T.b_int bb_int (pa_cons (pv 0) pa_nil)) pe_int) pe_int)) (pss_cons (ps_set (i := 5) sc_law_row.nd rfl (Or.inl rfl) (pe_lst pa_nil)) (pss_cons (ps_for PassesOwn.never rfl (pi_range1 (by rfl) T.b_range (pa_cons (pv 1) pa_nil)) (pg_name (i := 6) sc_law_row.nd rfl (Or.inl rfl)) (pss_one (ps_if (pt_cmpR geI (pv 3) (pv 2) (nomark _)) (pss_cons (ps_expr (pe_bm PySem.F.plainAttrs_list PySem.F.slot_list_append PySem.F.type_list_append mt_appendN (pv 5) (pa_cons (pe_op modI (pe_callTy call_intI (by rfl) T.b_int bb_int (pa_cons (pv 3) pa_nil)) (pv 2)) pa_nil))) (pss_one (ps_set (i := 3) sc_law_row.nd rfl (Or.inl rfl) (pe_op fdivWI (pv 3) (pv 2))))) (pss_cons (ps_set (i := 4) sc_law_row.nd rfl (Or.inl rfl) (pe_op modI (pe_callTy call_intI (by rfl) T.b_int bb_int (pa_cons (pe_op addI (pe_op addI (pe_op mulI (pv 4) pe_int) (pe_op mulI pe_int (pv 6))) pe_int) pa_nil)) pe_int)) (pss_one (ps_expr (pe_bm PySem.F.plainAttrs_list PySem.F.slot_list_append PySem.F.type_list_append mt_appendN (pv 5) (pa_cons (pe_op modI (pe_callTy call_intI (by rfl) T.b_int bb_int (pa_cons (pe_op fdivI (pe_op mulI (pv 4) pe_int) pe_int) pa_nil)) (pv 2)) pa_nil)))))))) (pss_one (ps_ret (pv 5))))))), ?_⟩
  have G0 : Gr B H B H := Gr.refl
  refine ⟨_, rfl, _, rfl, _, rfl, _, rfl, _, rfl, _, _, rfl, rfl, (show (0 : Int) < 1000003 by decide), _, _, rfl, rfl, ?_⟩
  first | refine nfE (σ' := [_, _, _, _, _, _, _]) rfl ?_ | refine nfG (σ' := [_, _, _, _, _, _, _]) rfl ?_
  refine ⟨(by show 0 ≤ sizeLine; decide), fun p1 np2 => ?_⟩
  obtain ⟨H3, q6, G5, S4, z7⟩ := S0.mutG G0 np2 (HO.lst [])
  rw [← q6]; clear q6
  first | refine nfE (σ' := [_, _, _, _, _, _, _]) rfl ?_ | refine nfG (σ' := [_, _, _, _, _, _, _]) rfl ?_
  refine ⟨_, rfl, _, rfl, (by omega), (by omega), for_range0 (n := (n).toNat) (fun i σ' H' => ∃ (Bi : Hp) (acc : List Int) (q : Int) (m : Int) (y__law_k : Option V), σ' = [some (V.int c), some (V.int n), some (V.int bd), some (V.int q), some (V.int m), some (V.ref p1), y__law_k] ∧ Same B Bi ∧ Gr B H Bi H' ∧ Hd Bi ((p1, HO.lst (acc.map V.int)) :: M) H' ∧ (acc.length = i) ∧ (∀ x ∈ acc, 0 ≤ x ∧ x < bd) ∧ (i ≤ n.toNat)) ?_ ?_ ?_⟩
  · exact ⟨B, ([]), (if c < 0 then -c else c), ((c % 1000003) + 1), _, rfl, (Same.refl _), G5, S4, (by walk_at "vc"), (by walk_at "vc"), (by walk_at "vc")⟩
  · rintro i9 sg10 H8 hi22 ⟨B15, acc11, q12, m13, y__law_k14, rfl, s18, G17, S16, i19, i20, i21⟩
    first | refine nfE (σ' := [_, _, _, _, _, _, _]) rfl ?_ | refine nfG (σ' := [_, _, _, _, _, _, _]) rfl ?_
    refine ⟨_, rfl, _, rfl, _, _, rfl, rfl, _, rfl, ?_⟩
    refine itb (fun h23 => ?_) (fun h23 => ?_)
    · refine ⟨_, rfl, (.inl ⟨rfl, _, (.inl (.inl (S16.at 0 rfl)))⟩), _, rfl, _, rfl, _, rfl, _, _, rfl, rfl, (by omega), _, _, _, ((acc11 ++ [q12 % bd]).map V.int), rfl, rfl, (S16.at 0 rfl), (by simp), (by walk_at "sz"), ?_⟩
      obtain ⟨H24, q27, G26, S25⟩ := S16.putG G17 0 rfl (HO.lst ((acc11 ++ [q12 % bd]).map V.int))
      rw [← q27]; clear q27
      replace S25 : Hd B15 ((p1, HO.lst ((acc11 ++ [q12 % bd]).map V.int)) :: M) H24 := S25
      refine ⟨_, rfl, _, rfl, _, _, rfl, rfl, (by exact divW_ok (by omega) (by omega)), ?_⟩
      exact ⟨B15, (acc11 ++ [q12 % bd]), (q12 / bd), m13, _, rfl, s18, G26, S25, (by walk_at "vc"), (by walk_at "vc"), (by walk_at "vc")⟩
    · refine ⟨_, rfl, _, _, rfl, rfl, (.inr (by decide)), _, rfl, _, _, rfl, rfl, (.inl (by decide)), _, _, rfl, rfl, _, _, rfl, rfl, _, rfl, _, _, rfl, rfl, (show (0 : Int) < 2147483647 by decide), ?_⟩
      first | refine nfE (σ' := [_, _, _, _, _, _, _]) rfl ?_ | refine nfG (σ' := [_, _, _, _, _, _, _]) rfl ?_
      refine ⟨_, rfl, (.inl ⟨rfl, _, (.inl (.inl (S16.at 0 rfl)))⟩), _, rfl, _, _, rfl, rfl, (.inr (by decide)), _, _, rfl, rfl, ⟨by decide, by decide⟩, _, rfl, _, rfl, _, _, rfl, rfl, (by omega), _, _, _, ((acc11 ++ [((((((m13 * 48271) + (11 * (((i9 : Nat) : Int)))) + 7) % 2147483647) * 2862933555777941757) / 1024) % bd]).map V.int), rfl, rfl, (S16.at 0 rfl), (by simp), (by walk_at "sz"), ?_⟩
      obtain ⟨H28, q31, G30, S29⟩ := S16.putG G17 0 rfl (HO.lst ((acc11 ++ [((((((m13 * 48271) + (11 * (((i9 : Nat) : Int)))) + 7) % 2147483647) * 2862933555777941757) / 1024) % bd]).map V.int))
      rw [← q31]; clear q31
      replace S29 : Hd B15 ((p1, HO.lst ((acc11 ++ [((((((m13 * 48271) + (11 * (((i9 : Nat) : Int)))) + 7) % 2147483647) * 2862933555777941757) / 1024) % bd]).map V.int)) :: M) H28 := S29
      exact ⟨B15, (acc11 ++ [((((((m13 * 48271) + (11 * (((i9 : Nat) : Int)))) + 7) % 2147483647) * 2862933555777941757) / 1024) % bd]), q12, ((((m13 * 48271) + (11 * (((i9 : Nat) : Int)))) + 7) % 2147483647), _, rfl, s18, G30, S29, (by walk_at "vc"), (by walk_at "vc"), (by walk_at "vc")⟩
  · rintro sg33 H32 ⟨B38, acc34, q35, m36, y__law_k37, rfl, s41, G40, S39, i42, i43, i44⟩
    refine ⟨_, rfl, ?_⟩
    obtain ⟨B45, s48, G47, e49, S46⟩ := S39.frzG G40 0 rfl z7
    replace S46 : Hd B45 (M) H32 := S46
    exact kq acc34 _ B45 H32 (by walk_at "vc") (by walk_at "vc") G47 S46 (Rp.ints e49)
def sp_law_sizes (K : PySem.W.Frag) : Sp := fun vs H Q E => ∃ (B : Hp) (M : List (Addr × HO)) (n : Int) (t : List Int) (v1 : V), vs = [V.int n, v1] ∧ Hd B (M) H ∧ Rp B v1 (D.ints t) ∧ (0 ≤ n) ∧ (n ≤ 2000) ∧ (t ≠ []) ∧ (∀ x ∈ t, 16 ≤ x) ∧ ∀ (r : List Int) (v' : V) (B' H' : Hp), (r = rest (sz t) n 0) → Gr B H B' H' → Hd B' (M) H' → Rp B' v' (D.ints r) → Q (v') H'
abbrev st_law_sizes : Stmt := top 11
theorem sc_law_sizes : FnScope ["_law_length", "_law_told", "_law_sizes_here", "_law_left", "_law_k", "_law_size"] ["_law_length", "_law_told"] (defScope st_law_sizes) := ⟨rfl, rfl, rfl, by decide +kernel, rfl, by decide +kernel, by decide +kernel⟩
theorem ok_law_sizes {P : Program} {w : World} {K : PySem.W.Frag} {mg : Str → Option Value} {base : Heap} (T : Tx K mg)   {f : Addr} {fd : FuncData} {dvs : List V} {kws : List (Str × V)} (F : FunD K "_law_sizes" "_law_sizes" (defArgs st_law_sizes) (defBody st_law_sizes) (defScope st_law_sizes) dvs kws f fd) : FnOk P w K mg base CX0 1 f fd ["_law_length", "_law_told"] (sp_law_sizes K) := by
  refine F.ok sc_law_sizes (fun vs H Q E h => ?_) (fun cdv A outer s H vs Q E hr h => ?_)
  · obtain ⟨B, M, n, t, v1, rfl, _⟩ := h; rfl
  obtain ⟨B, M, n, t, v1, rfl, S0, f1, p0, p1, p2, p3, kq⟩ := h
  refine ⟨_, PSs.nox (pss_cons (ps_set (i := 2) sc_law_sizes.nd rfl (Or.inl rfl) (pe_lst pa_nil)) (pss_cons (ps_set (i := 3) sc_law_sizes.nd rfl (Or.inl rfl) (pv 0)) (pss_cons (ps_for PassesOwn.never rfl (pi_range1 (by rfl) T.b_range (pa_cons pe_int pa_nil)) (pg_name (i := 4) sc_law_sizes.nd rfl (Or.inl rfl)) (pss_one (ps_if (pt_cmpR gtI (pv 3) pe_int (nomark _)) (pss_cons (ps_set (i := 5) sc_law_sizes.nd rfl (Or.inl rfl) (pe_callB (call_min2 rfl) (by rfl) T.b_min bb_min (pa_cons (pv 3) (pa_cons (pe_ix (ixL (K := K)) (pv 1) (pe_op modI (pv 4) (pe_callB (lenK (K := K)) (by rfl) T.b_len bb_len (pa_cons (pv 1) pa_nil))) (fun _ _ => rfl)) pa_nil)))) (pss_cons (ps_expr (pe_bm PySem.F.plainAttrs_list PySem.F.slot_list_append PySem.F.type_list_append mt_appendN (pv 2) (pa_cons (pv 5) pa_nil))) (pss_one (ps_set (i := 3) sc_law_sizes.nd rfl (Or.inl rfl) (pe_op subI (pv 3) (pv 5)))))) pss_nil))) (pss_one (ps_ret (pv 2)))))), ?_⟩
  have G0 : Gr B H B H := Gr.refl
  refine ⟨(by show 0 ≤ sizeLine; decide), fun p1 np2 => ?_⟩
  obtain ⟨H3, q6, G5, S4, z7⟩ := S0.mutG G0 np2 (HO.lst [])
  rw [← q6]; clear q6
  refine ⟨_, rfl, ?_⟩
  first | refine nfE (σ' := [_, _, _, _, _, _]) rfl ?_ | refine nfG (σ' := [_, _, _, _, _, _]) rfl ?_
  refine ⟨_, rfl, (by omega), (by omega), for_range0 (n := (200 : Int).toNat) (fun i σ' H' => ∃ (Bi : Hp) (acc : List Int) (le : Int) (y__law_k : Option V) (y__law_size : Option V), σ' = [some (V.int n), some v1, some (V.ref p1), some (V.int le), y__law_k, y__law_size] ∧ Same B Bi ∧ Gr B H Bi H' ∧ Hd Bi ((p1, HO.lst (acc.map V.int)) :: M) H' ∧ (0 ≤ le) ∧ (0 < le → acc.length = i) ∧ (0 < le → le + 16 * i ≤ n) ∧ (acc ++ rest (sz t) le acc.length = rest (sz t) n 0) ∧ (acc.length ≤ i)) ?_ ?_ ?_⟩
  · exact ⟨B, ([]), n, _, _, rfl, (Same.refl _), G5, S4, (by walk_at "vc"), (by intro _; rfl), (by intro _; show n + 16 * 0 ≤ n; omega), (by rfl), (by exact Nat.le_refl 0)⟩
  · rintro i9 sg10 H8 hi24 ⟨B15, acc11, le12, y__law_k13, y__law_size14, rfl, s18, G17, S16, i19, i20, i21, i22, i23⟩
    first | refine nfE (σ' := [_, _, _, _, _, _]) rfl ?_ | refine nfG (σ' := [_, _, _, _, _, _]) rfl ?_
    refine ⟨_, rfl, _, _, rfl, rfl, _, rfl, ?_⟩
    refine itb (fun h25 => ?_) (fun h25 => ?_)
    · have q1 := i20 (by assumption); have q2 : sz t acc11.length = geti t (((i9 : Nat) : Int) % ((t.length : Nat) : Int)) := by rw [q1]; rfl
      have q3 := sz_ge p2 p3 acc11.length; have q4 : 0 < t.length := List.length_pos_iff.mpr p2; have q5 := i21 (by assumption)
      refine ⟨_, rfl, _, rfl, ?_⟩
      obtain ⟨a26, rfl, e27⟩ := ((f1.up s18)).eInts
      refine ⟨_, rfl, _, rfl, ?_⟩
      refine ⟨_, _, t.length, rfl, (.inl (S16.rl e27)), (by simp), _, _, rfl, rfl, (by omega), _, _, _, _, rfl, rfl, (S16.rl e27), (at_ints (by exact Int.emod_nonneg _ (by omega)) (by exact Int.emod_lt_of_pos _ (by omega))), _, _, rfl, _, rfl, (.inl ⟨rfl, _, (.inl (.inl (S16.at 0 rfl)))⟩), _, rfl, _, _, _, ((acc11 ++ [if geti t ((((i9 : Nat) : Int)) % (((t.length : Nat) : Int))) < le12 then geti t ((((i9 : Nat) : Int)) % (((t.length : Nat) : Int))) else le12]).map V.int), rfl, rfl, (S16.at 0 rfl), (by simp), (by walk_at "sz"), ?_⟩
      obtain ⟨H29, q32, G31, S30⟩ := S16.putG G17 0 rfl (HO.lst ((acc11 ++ [if geti t ((((i9 : Nat) : Int)) % (((t.length : Nat) : Int))) < le12 then geti t ((((i9 : Nat) : Int)) % (((t.length : Nat) : Int))) else le12]).map V.int))
      rw [← q32]; clear q32
      replace S30 : Hd B15 ((p1, HO.lst ((acc11 ++ [if geti t ((((i9 : Nat) : Int)) % (((t.length : Nat) : Int))) < le12 then geti t ((((i9 : Nat) : Int)) % (((t.length : Nat) : Int))) else le12]).map V.int)) :: M) H29 := S30
      refine ⟨_, rfl, _, rfl, _, _, rfl, rfl, ?_⟩
      exact ⟨B15, (acc11 ++ [if geti t ((((i9 : Nat) : Int)) % (((t.length : Nat) : Int))) < le12 then geti t ((((i9 : Nat) : Int)) % (((t.length : Nat) : Int))) else le12]), (le12 - (if geti t ((((i9 : Nat) : Int)) % (((t.length : Nat) : Int))) < le12 then geti t ((((i9 : Nat) : Int)) % (((t.length : Nat) : Int))) else le12)), _, _, rfl, s18, G31, S30, (by omega), (by intro z; first | omega | (simp only [List.length_append, List.length_cons, List.length_nil]; omega)), (by intro z; omega), (by first | assumption | exact turn_rest' p2 (fun x hx => by have := p3 x hx; omega) i22 (by assumption) q2 rfl), (by walk_at "vc")⟩
    · exact ⟨B15, acc11, le12, _, _, rfl, s18, G17, S16, (by omega), (by intro z; first | omega | (simp only [List.length_append, List.length_cons, List.length_nil]; omega)), (by intro z; omega), (by first | assumption | exact turn_rest' p2 (fun x hx => by have := p3 x hx; omega) i22 (by assumption) q2 rfl), (by walk_at "vc")⟩
  · rintro sg34 H33 ⟨B39, acc35, le36, y__law_k37, y__law_size38, rfl, s42, G41, S40, i43, i44, i45, i46, i47⟩
    first | refine nfE (σ' := [_, _, _, _, _, _]) rfl ?_ | refine nfG (σ' := [_, _, _, _, _, _]) rfl ?_
    refine ⟨_, rfl, ?_⟩
    obtain ⟨B48, s51, G50, e52, S49⟩ := S40.frzG G41 0 rfl z7
    replace S49 : Hd B48 (M) H33 := S49
    exact kq acc35 _ B48 H33 (by rw [← i46, rest_zero (by omega), List.append_nil]) G50 S49 (Rp.ints e52)
def sp_law (K : PySem.W.Frag) : Sp := fun vs H Q E => ∃ (B : Hp) (M : List (Addr × HO)) (sa : Addr) (ns : List Int), vs = [V.ref sa] ∧ Hd B (M) H ∧ SqL K B sa (ns.map V.int) ∧ (ns.length ≤ 63) ∧ ∀ (B' H' : Hp), Gr B H B' H' → Hd B' (M) H' → Q (V.bl true) H'
abbrev st_law : Stmt := top 12
theorem sc_law : FnScope ["_law_script", "_law_first", "_law_length", "_law_both_methods", "_law_size", "_law_told", "_law_listed", "_law_bound", "_law_settings", "_law_expected", "_law_sizes_here", "_law_given", "_law_starts", "_law_limits", "_law_actual", "_law_x", "_law_k"] ["_law_script"] (defScope st_law) := ⟨rfl, rfl, rfl, by decide +kernel, rfl, by decide +kernel, by decide +kernel⟩
theorem ok_law {P : Program} {w : World} {K : PySem.W.Frag} {mg : Str → Option Value} {base : Heap} (T : Tx K mg) (mk_Settings_1_block_sizes : MkK P w K mg base CX0 1 "Settings" 1 ["block_sizes"] (fun vs zs => vs ++ (zs.drop 0).take 1 ++ ([V.int 4, V.int 0, V.bl false, V.int 12, V.int 4, V.bl false, V.bl true, V.bl true, V.int 0, V.str ""].drop 0).take 10) (sp_Settings___init__ K)) (G_law_cell : Fd P w K mg base CX0 1 ("_law_cell", none) ["_law_script", "_law_k"] (sp_law_cell K)) (G_law_row : Fd P w K mg base CX0 1 ("_law_row", none) ["_law_cell_here", "_law_count", "_law_bound"] (sp_law_row K)) (G_law_sizes : Fd P w K mg base CX0 1 ("_law_sizes", none) ["_law_length", "_law_told"] (sp_law_sizes K)) (G_block_sizes : Fd P w K mg base CX0 1 ("block_sizes", none) ["length", "settings"] (sp_block_sizes K)) (G_law_integers : Fd P w K mg base CX0 2 ("_law_integers", none) ["_law_values"] (sp_law_integers K)) (G_block_starts : Fd P w K mg base CX0 1 ("block_starts", none) ["sizes"] (sp_block_starts K)) (G_size_range : Fd P w K mg base CX0 2 ("size_range", none) ["length", "settings"] (sp_size_range K)) (G_law_integer : Fd P w K mg base CX0 1 ("_law_integer", none) ["_law_value"] (sp_law_integer K)) {f : Addr} {fd : FuncData} {dvs : List V} {kws : List (Str × V)} (F : FunD K "law" "law" (defArgs st_law) (defBody st_law) (defScope st_law) dvs kws f fd) : FnOk P w K mg base CX0 3 f fd ["_law_script"] (sp_law K) := by
  refine F.ok sc_law (fun vs H Q E h => ?_) (fun cdv A outer s H vs Q E hr h => ?_)
  · obtain ⟨B, M, sa, ns, rfl, _⟩ := h; rfl
  obtain ⟨B, M, sa, ns, rfl, S0, fs, p0, kq⟩ := h
  refine ⟨_, PSs.nox (pss_cons (ps_set (i := 1) sc_law.nd rfl (Or.inl rfl) (pe_callF G_law_cell (hr.mono (by decide)) (by rfl) T.g__law_cell pass0 (pa_cons (pv 0) (pa_cons pe_int pa_nil)))) (pss_cons (ps_set (i := 2) sc_law.nd rfl (Or.inl rfl) (pe_op modI (pe_callTy call_intI (by rfl) T.b_int bb_int (pa_cons (pv 1) pa_nil)) pe_int)) (pss_cons (ps_set (i := 3) sc_law.nd rfl (Or.inl rfl) (pe_ix (ixL (K := K)) (pe_lst (pa_cons pe_int (pa_cons pe_int pa_nil))) (pe_op modI (pe_op fdivI (pe_callTy call_intI (by rfl) T.b_int bb_int (pa_cons (pv 1) pa_nil)) pe_int) pe_int) (fun _ _ => rfl))) (pss_cons (ps_set (i := 4) sc_law.nd rfl (Or.inl rfl) (pe_op addI pe_int (pe_op modI (pe_callTy call_intI (by rfl) T.b_int bb_int (pa_cons (pe_callF G_law_cell (hr.mono (by decide)) (by rfl) T.g__law_cell pass0 (pa_cons (pv 0) (pa_cons pe_int pa_nil))) pa_nil)) (pv 3)))) (pss_cons (ps_set (i := 5) sc_law.nd rfl (Or.inl rfl) (pe_lst (pa_cons (pv 4) pa_nil))) (pss_cons (ps_set (i := 6) sc_law.nd rfl (Or.inl rfl) pe_non) (pss_cons (ps_if (pt_cmpR eqI (pe_op modI (pe_callTy call_intI (by rfl) T.b_int bb_int (pa_cons (pe_callF G_law_cell (hr.mono (by decide)) (by rfl) T.g__law_cell pass0 (pa_cons (pv 0) (pa_cons pe_int pa_nil))) pa_nil)) pe_int) pe_int (nomark _)) (pss_cons (ps_set (i := 7) sc_law.nd rfl (Or.inl rfl) (pe_ix (ixL (K := K)) (pe_lst (pa_cons pe_int (pa_cons pe_int pa_nil))) (pe_op modI (pe_op fdivI (pe_callTy call_intI (by rfl) T.b_int bb_int (pa_cons (pe_callF G_law_cell (hr.mono (by decide)) (by rfl) T.g__law_cell pass0 (pa_cons (pv 0) (pa_cons pe_int pa_nil))) pa_nil)) pe_int) pe_int) (fun _ _ => rfl))) (pss_cons (ps_setLc (i := 5) (own := [("_law_x", 15)]) (tt := tYes) (by rfl) sc_law.nd rfl rfl (sw_true rfl rfl rfl (by decide +kernel)) (pi_list (pe_callF G_law_row (hr.mono (by decide)) (by rfl) T.g__law_row pass0 (pa_cons (pe_callF G_law_cell (hr.mono (by decide)) (by rfl) T.g__law_cell pass0 (pa_cons (pv 0) (pa_cons pe_int pa_nil))) (pa_cons (pe_op addI pe_int (pe_op modI (pe_op fdivI (pe_callTy call_intI (by rfl) T.b_int bb_int (pa_cons (pe_callF G_law_cell (hr.mono (by decide)) (by rfl) T.g__law_cell pass0 (pa_cons (pv 0) (pa_cons pe_int pa_nil))) pa_nil)) pe_int) pe_int)) (pa_cons (pv 7) pa_nil))))) (blkOk_by (own := [("_law_x", 15)]) (N := ["_law_script", "_law_first", "_law_length", "_law_both_methods", "_law_size", "_law_told", "_law_listed", "_law_bound", "_law_settings", "_law_expected", "_law_sizes_here", "_law_given", "_law_starts", "_law_limits", "_law_actual", "_law_x", "_law_k"]) (sc := defScope st_law) (by decide +kernel)) (fun _ _ _ _ _ => (pg_name (i := 15) sc_law.nd rfl (Or.inl rfl))) (fun _ _ _ _ _ => pts_nil) (fun _ _ _ _ _ => (pe_op addI pe_int (pv 15)))) (pss_one (ps_set (i := 6) sc_law.nd rfl (Or.inl rfl) (pe_callTy (listK (K := K)) (by rfl) T.b_list bb_list (pa_cons (pv 5) pa_nil)))))) pss_nil) (pss_cons (ps_set (i := 8) sc_law.nd rfl (Or.inl rfl) (pe_makeKF mk_Settings_1_block_sizes hr (by rfl) pass0 (pa_cons (pv 4) pa_nil) (pk_cons (pv 6) pk_nil))) (pss_cons (ps_if (pt_cmp (pc_notN (pv 6))) (pss_cons (ps_asg pe_int (pg_sub (pv 6) pe_int set_listN)) (pss_one (ps_expr (pe_bm PySem.F.plainAttrs_list PySem.F.slot_list_append PySem.F.type_list_append mt_appendN (pv 6) (pa_cons pe_int pa_nil))))) pss_nil) (pss_cons (ps_set (i := 9) sc_law.nd rfl (Or.inr rfl) (pe_callF G_law_sizes (hr.mono (by decide)) (by rfl) T.g__law_sizes pass0 (pa_cons (pv 2) (pa_cons (pv 5) pa_nil)))) (pss_cons (ps_set (i := 10) sc_law.nd rfl (Or.inl rfl) (pe_callF G_block_sizes (hr.mono (by decide)) (by rfl) T.g_block_sizes pass0 (pa_cons (pv 2) (pa_cons (pv 8) pa_nil)))) (pss_cons (ps_if (PW.pt (pw_or (pt_not (pt_val (pe_callF G_law_integers hr (by rfl) T.g__law_integers pass0 (pa_cons (pv 10) pa_nil)))) (pw_or (pt_cmpR (op_neE (hu64 hr)) (pv 10) (pv 9) (nomark _)) (pw_or1 (pt_cmpR neI (pe_callB (sumK (K := K) rfl) (by rfl) T.b_sum bb_sum (pa_cons (pv 9) pa_nil)) (pv 2) (nomark _)))))) pss_never pss_nil) (pss_cons (ps_set (i := 11) sc_law.nd rfl (Or.inl rfl) (pe_callTy (listK (K := K)) (by rfl) T.b_list bb_list (pa_cons (pv 9) pa_nil))) (pss_cons (ps_set (i := 12) sc_law.nd rfl (Or.inl rfl) (pe_callF G_block_starts (hr.mono (by decide)) (by rfl) T.g_block_starts pass0 (pa_cons (pv 11) pa_nil))) (pss_cons (ps_if (PW.pt (pw_or (pt_not (pt_val (pe_callF G_law_integers hr (by rfl) T.g__law_integers pass0 (pa_cons (pv 12) pa_nil)))) (pw_or (pt_cmpR (op_neE (hu64 hr)) (pv 12) (pe_lc (own := [("_law_k", 16)]) (tt := tYes) rfl sc_law.nd (pi_range1 (by rfl) T.b_range (pa_cons (pe_callB (lenK (K := K)) (by rfl) T.b_len bb_len (pa_cons (pv 9) pa_nil)) pa_nil)) (blkOk_by (own := [("_law_k", 16)]) (N := ["_law_script", "_law_first", "_law_length", "_law_both_methods", "_law_size", "_law_told", "_law_listed", "_law_bound", "_law_settings", "_law_expected", "_law_sizes_here", "_law_given", "_law_starts", "_law_limits", "_law_actual", "_law_x", "_law_k"]) (sc := defScope st_law) (by decide +kernel)) (fun _ _ _ _ _ => (pg_name (i := 16) sc_law.nd rfl (Or.inl rfl))) (fun _ _ _ _ _ => pts_nil) (fun _ _ _ _ _ => (pe_callB (sumK (K := K) rfl) (by rfl) T.b_sum bb_sum (pa_cons (pe_slice (slK (K := K)) (pv 9) po_none (po_some (pv 16))) pa_nil)))) (nomark _)) (pw_or1 (pt_cmpR (op_neE (hu64 hr)) (pv 11) (pv 9) (nomark _)))))) pss_never pss_nil) (pss_cons (ps_set (i := 13) sc_law.nd rfl (Or.inl rfl) (pe_tup (pa_cons (pv 4) (pa_cons (pv 4) pa_nil)))) (pss_cons (ps_if (pt_cmp (pc_notN (pv 6))) (pss_cons (ps_set (i := 13) sc_law.nd rfl (Or.inl rfl) (pe_tup (pa_cons (pe_ix (ixL (K := K)) (pv 5) pe_int (fun _ _ => rfl)) (pa_cons (pe_ix (ixL (K := K)) (pv 5) pe_int (fun _ _ => rfl)) pa_nil)))) (pss_one (ps_if (pt_cmpR gtI (pe_callB (lenK (K := K)) (by rfl) T.b_len bb_len (pa_cons (pv 9) pa_nil)) pe_int (nomark _)) (pss_one (ps_set (i := 13) sc_law.nd rfl (Or.inl rfl) (pe_tup (pa_cons (pe_callB (minK (K := K) rfl) (by rfl) T.b_min bb_min (pa_cons (pe_slice (slK (K := K)) (pv 9) po_none (po_some (pe_op subI (pe_callB (lenK (K := K)) (by rfl) T.b_len bb_len (pa_cons (pv 9) pa_nil)) pe_int))) pa_nil)) (pa_cons (pe_callB (maxK (K := K) rfl) (by rfl) T.b_max bb_max (pa_cons (pv 9) pa_nil)) pa_nil))))) pss_nil))) pss_nil) (pss_cons (ps_set (i := 14) sc_law.nd rfl (Or.inl rfl) (pe_callF G_size_range hr (by rfl) T.g_size_range pass0 (pa_cons (pv 2) (pa_cons (pv 8) pa_nil)))) (pss_cons (ps_if (PW.pt (pw_or (pt_not (pt_val (pe_callB (isiK (K := K)) (by rfl) T.b_isinstance bb_isinstance (pa_cons (pv 14) (pa_cons (pe_bltn (v := .ty "tuple") rfl T.b_tuple (by decide +kernel) rfl) pa_nil))))) (pw_or (pt_cmpR neI (pe_callB (lenK (K := K)) (by rfl) T.b_len bb_len (pa_cons (pv 14) pa_nil)) pe_int (nomark _)) (pw_or (pt_not (pt_val (pe_callF G_law_integer (hr.mono (by decide)) (by rfl) T.g__law_integer pass0 (pa_cons (pe_ix (ixT (K := K)) (pv 14) pe_int (fun _ _ => rfl)) pa_nil)))) (pw_or1 (pt_not (pt_val (pe_callF G_law_integer (hr.mono (by decide)) (by rfl) T.g__law_integer pass0 (pa_cons (pe_ix (ixT (K := K)) (pv 14) pe_int (fun _ _ => rfl)) pa_nil))))))))) pss_never pss_nil) (pss_one (ps_ret (pe_cmpR (op_eqE (hu64 hr)) (pv 14) (pv 13) (nomark _))))))))))))))))))))))), ?_⟩
  have G0 : Gr B H B H := Gr.refl
  refine ⟨_, rfl, ?_⟩
  refine ⟨B, (M), 0, _, _, rfl, S0, fs, (by walk_at "vc"), fun c1 B2 H3 g5 S4 => ?_⟩
  have G6 := G0.trans g5; have s7 := g5.s
  refine ⟨_, rfl, _, rfl, _, _, rfl, rfl, (show (0 : Int) < 2001 by decide), ?_⟩
  first | refine nfE (σ' := [_, _, _, _, _, _, _, _, _, _, _, _, _, _, _, _, _]) rfl ?_ | refine nfG (σ' := [_, _, _, _, _, _, _, _, _, _, _, _, _, _, _, _, _]) rfl ?_
  refine ⟨(by show 2 ≤ sizeLine; decide), fun p8 np9 => ?_⟩
  obtain ⟨B10, H11, q16, s14, G13, e15, S12⟩ := S4.newG G6 np9 (HO.lst [(V.int 200), (V.int 65520)])
  rw [← q16]; clear q16
  have z17 := G6.fr0 np9
  refine ⟨_, rfl, _, rfl, _, _, rfl, rfl, ⟨by decide, by decide⟩, _, _, rfl, rfl, (show (0 : Int) < 2 by decide), _, (([200, 65520] : List Int).map V.int), _, _, rfl, rfl, (S12.rl e15), (at_ints (by omega) (by simp; omega)), ?_⟩
  have hb2 : geti ([200, 65520] : List Int) ((c1 / 2001) % 2) = 200 ∨ geti ([200, 65520] : List Int) ((c1 / 2001) % 2) = 65520 := pick2 (by omega) (by omega)
  generalize hbm : geti ([200, 65520] : List Int) ((c1 / 2001) % 2) = bm at hb2 ⊢
  refine ⟨_, rfl, ?_⟩
  refine ⟨B10, (M), 1, _, _, rfl, S12, (s14.seq (s7.seq fs)), (by walk_at "vc"), fun c18 B19 H20 g22 S21 => ?_⟩
  have G23 := G13.trans g22; have s24 := g22.s
  refine ⟨_, rfl, _, rfl, _, _, rfl, rfl, (by omega), _, _, rfl, rfl, ?_⟩
  have hsz : 16 ≤ 16 + (c18 % bm) := by have := md_ok (a := c18) (b := bm) (by omega); omega
  generalize hsz2 : 16 + (c18 % bm) = size at hsz ⊢
  first | refine nfE (σ' := [_, _, _, _, _, _, _, _, _, _, _, _, _, _, _, _, _]) rfl ?_ | refine nfG (σ' := [_, _, _, _, _, _, _, _, _, _, _, _, _, _, _, _, _]) rfl ?_
  refine ⟨_, rfl, (by show 1 ≤ sizeLine; decide), fun p25 np26 => ?_⟩
  obtain ⟨B27, H28, q33, s31, G30, e32, S29⟩ := S21.newG G23 np26 (HO.lst [(V.int size)])
  rw [← q33]; clear q33
  have z34 := G23.fr0 np26
  first | refine nfE (σ' := [_, _, _, _, _, _, _, _, _, _, _, _, _, _, _, _, _]) rfl ?_ | refine nfG (σ' := [_, _, _, _, _, _, _, _, _, _, _, _, _, _, _, _, _]) rfl ?_
  refine ⟨_, rfl, ?_⟩
  refine ⟨B27, (M), 2, _, _, rfl, S29, (s31.seq (s24.seq (s14.seq (s7.seq fs)))), (by walk_at "vc"), fun c35 B36 H37 g39 S38 => ?_⟩
  have G40 := G30.trans g39; have s41 := g39.s
  refine ⟨_, rfl, _, _, rfl, rfl, (show (0 : Int) < 2 by decide), _, _, rfl, rfl, _, rfl, ?_⟩
  refine itb (fun h42 => ?_) (fun h42 => ?_)
  · refine ⟨(by show 2 ≤ sizeLine; decide), fun p43 np44 => ?_⟩
    obtain ⟨B45, H46, q51, s49, G48, e50, S47⟩ := S38.newG G40 np44 (HO.lst [(V.int 100), (V.int 65520)])
    rw [← q51]; clear q51
    have z52 := G40.fr0 np44
    refine ⟨_, rfl, ?_⟩
    refine ⟨B45, (M), 2, _, _, rfl, S47, (s49.seq (s41.seq (s31.seq (s24.seq (s14.seq (s7.seq fs)))))), (by walk_at "vc"), fun c53 B54 H55 g57 S56 => ?_⟩
    have G58 := G48.trans g57; have s59 := g57.s
    refine ⟨_, rfl, _, _, rfl, rfl, ⟨by decide, by decide⟩, _, _, rfl, rfl, (show (0 : Int) < 2 by decide), _, (([100, 65520] : List Int).map V.int), _, _, rfl, rfl, (S56.rl (s59 _ _ e50)), (at_ints (by omega) (by simp; omega)), ?_⟩
    have hb3 : geti ([100, 65520] : List Int) ((c53 / 2) % 2) = 100 ∨ geti ([100, 65520] : List Int) ((c53 / 2) % 2) = 65520 := pick2 (by omega) (by omega)
    generalize hbd : geti ([100, 65520] : List Int) ((c53 / 2) % 2) = bd at hb3 ⊢
    first | refine nfE (σ' := [_, _, _, _, _, _, _, _, _, _, _, _, _, _, _, _, _]) rfl ?_ | refine nfG (σ' := [_, _, _, _, _, _, _, _, _, _, _, _, _, _, _, _, _]) rfl ?_
    refine ⟨_, rfl, ?_⟩
    refine ⟨B54, (M), 3, _, _, rfl, S56, (s59.seq (s49.seq (s41.seq (s31.seq (s24.seq (s14.seq (s7.seq fs))))))), (by walk_at "vc"), fun c60 B61 H62 g64 S63 => ?_⟩
    have G65 := G58.trans g64; have s66 := g64.s
    refine ⟨_, rfl, ?_⟩
    refine ⟨B61, (M), 2, _, _, rfl, S63, (s66.seq (s59.seq (s49.seq (s41.seq (s31.seq (s24.seq (s14.seq (s7.seq fs)))))))), (by walk_at "vc"), fun c67 B68 H69 g71 S70 => ?_⟩
    have G72 := G65.trans g71; have s73 := g71.s
    refine ⟨_, rfl, _, _, rfl, rfl, ⟨by decide, by decide⟩, _, _, rfl, rfl, (show (0 : Int) < 6 by decide), _, _, rfl, rfl, _, rfl, ?_⟩
    refine ⟨B68, (M), c60, (1 + ((c67 / 4) % 6)), bd, rfl, S70, (by walk_at "vc"), (by walk_at "vc"), (by walk_at "vc"), (by walk_at "vc"), fun r74 v75 B76 H77 c80 c81 g79 S78 h82 => ?_⟩
    have G83 := G72.trans g79; have s84 := g79.s
    obtain ⟨a85, rfl, e86⟩ := (h82).eInts
    refine ⟨_, rfl, ⟨(r74.map V.int), (S78.rl e86)⟩, fun D88 nD89 => lc_list (xs := (r74.map V.int)) (fun i H' => ∃ (Bi : Hp) (acc : List Int), Same B76 Bi ∧ Gr B H Bi H' ∧ Hd Bi ((D88, HO.lst (acc.map V.int)) :: M) H' ∧ (acc = (r74.take i).map (fun z => 16 + z)) ∧ (acc.length = i)) ?_ ?_ ?_ ?_⟩
    · obtain ⟨D88_H, hq, G', S', z'⟩ := S78.mutG G83 nD89 (HO.lst [])
      rw [← hq]; clear hq
      exact ⟨B76, ([]), (Same.refl _), G', S', (by walk_at "vc"), (by walk_at "vc")⟩
    · rintro i H90 hi ⟨B92, acc91, s95, G94, S93, i96, i97⟩
      exact (S93.rl (s95 _ _ e86))
    · rintro i99 x107 H98 hx108 ⟨B101, acc100, s104, G103, S102, i105, i106⟩
      obtain ⟨x109, hx110, rfl⟩ := ints_at hx108
      have lt_x109 := lt_of_at hx110
      refine ⟨rfl, ?_⟩
      refine iteT (B := True) ?_
      refine ⟨_, rfl, _, _, rfl, rfl, _, S102.at 0 rfl, (by walk_at "sz"), ?_⟩
      rw [snocI]
      obtain ⟨H111, q114, G113, S112⟩ := S102.putG G103 0 rfl (HO.lst ((acc100 ++ [16 + x109]).map V.int))
      rw [← q114]; clear q114
      replace S112 : Hd B101 ((D88, HO.lst ((acc100 ++ [16 + x109]).map V.int)) :: M) H111 := S112
      exact ⟨B101, (acc100 ++ [16 + x109]), s104, G113, S112, (by rw [take_snoc hx110, List.map_append, ← i105]; rfl), (by walk_at "vc")⟩
    · have z116 := G83.fr0 nD89
      rintro H115 ⟨B118, acc117, s121, G120, S119, i122, i123⟩
      try simp only [List.length_map] at i122 i123
      obtain ⟨B124, s127, G126, e128, S125⟩ := S119.frzG G120 0 rfl z116
      replace S125 : Hd B124 (M) H115 := S125
      have htd16 : ∀ x ∈ acc117, 16 ≤ x := by rw [i122]; exact row16 c81
      have htd0 : acc117 ≠ [] := by rw [i122]; exact ne_of_len (by rw [List.length_map, List.length_take]; omega)
      refine ⟨_, rfl, _, (acc117.map V.int), rfl, (.inl (S125.rl e128)), fun p129 np130 => ?_⟩
      obtain ⟨H131, q134, G133, S132, z135⟩ := S125.mutG G126 np130 (HO.lst (acc117.map V.int))
      rw [← q134]; clear q134
      first | refine nfE (σ' := [_, _, _, _, _, _, _, _, _, _, _, _, _, _, _, _, _]) rfl ?_ | refine nfG (σ' := [_, _, _, _, _, _, _, _, _, _, _, _, _, _, _, _, _]) rfl ?_
      refine ⟨_, rfl, _, rfl, rfl, rfl, fun p136 dx137 np138 nd139 ne140 => ?_⟩
      obtain ⟨H141, q144, G143, S142, z145⟩ := S132.insG G133 np138 nd139 ne140 []
      rw [← q144]; clear q144
      have S146 : Hd (upd B124 p129 (HO.lst (acc117.map V.int))) ((p136, HO.ins (He.ga K "Settings") dx137 []) :: M) H141 := S142.frz 1 rfl
      have s147 := S142.gfrz 1 (o := HO.lst (acc117.map V.int)) rfl; have e148 : (upd B124 p129 (HO.lst (acc117.map V.int))) p129 = some _ := upd_same
      refine ⟨(upd B124 p129 (HO.lst (acc117.map V.int))), (M), p136, size, ((some acc117)), 4, 0, false, 12, 4, false, true, true, 0, (""), _, _, rfl, S146, (Rp.ints e148), fun w149 B150 H151 g153 S152 h154 => ?_⟩
      refine ⟨rfl, ?_⟩
      obtain ⟨B157, s156, G155, ns159, S158⟩ := S142.thawG G143 1 (a := p129) (o := HO.lst (acc117.map V.int)) rfl S152 g153
      first | refine nfE (σ' := [_, _, _, _, _, _, _, _, _, _, _, _, _, _, _, _, _]) rfl ?_ | refine nfG (σ' := [_, _, _, _, _, _, _, _, _, _, _, _, _, _, _, _, _]) rfl ?_
      refine ⟨_, rfl, _, rfl, ?_⟩
      refine itKT (b := !decide ((V.ref p129) = V.non)) (notN_yes (by intro z; cases z)) ?_
      refine ⟨_, rfl, _, _, _, 0, ((acc117.set 0 7).map V.int), rfl, rfl, (S158.at 0 rfl), (ix_ok (by omega) (by simp; omega)), (List.map_set ..).symm, ?_⟩
      obtain ⟨H161, q164, G163, S162⟩ := S158.putG G155 0 rfl (HO.lst ((acc117.set 0 7).map V.int))
      rw [← q164]; clear q164
      replace S162 : Hd B157 ((p129, HO.lst ((acc117.set 0 7).map V.int)) :: (p136, HO.ins (He.ga K "Settings") dx137 (ns_Settings.zip [(V.int size), w149, (V.int 4), (V.int 0), (V.bl false), (V.int 12), (V.int 4), (V.bl false), (V.bl true), (V.bl true), (V.int 0), (V.str (""))])) :: M) H161 := S162
      refine ⟨_, rfl, (.inl ⟨rfl, _, (.inl (.inl (S162.at 0 rfl)))⟩), _, _, _, (((acc117.set 0 7) ++ [3]).map V.int), rfl, rfl, (S162.at 0 rfl), (by simp), (by walk_at "sz"), ?_⟩
      obtain ⟨H165, q168, G167, S166⟩ := S162.putG G163 0 rfl (HO.lst (((acc117.set 0 7) ++ [3]).map V.int))
      rw [← q168]; clear q168
      replace S166 : Hd B157 ((p129, HO.lst (((acc117.set 0 7) ++ [3]).map V.int)) :: (p136, HO.ins (He.ga K "Settings") dx137 (ns_Settings.zip [(V.int size), w149, (V.int 4), (V.int 0), (V.bl false), (V.int 12), (V.int 4), (V.bl false), (V.bl true), (V.bl true), (V.int 0), (V.str (""))])) :: M) H165 := S166
      have ht16 : ∀ x ∈ acc117, 16 ≤ x := htd16
      have ht0 : acc117 ≠ [] := htd0
      have ht1 : ∀ x ∈ acc117, 1 ≤ x := fun x hx => by have := ht16 x hx; omega
      refine ⟨_, rfl, _, rfl, ?_⟩
      refine ⟨B157, ((p129, HO.lst (((acc117.set 0 7) ++ [3]).map V.int)) :: (p136, HO.ins (He.ga K "Settings") dx137 (ns_Settings.zip [(V.int size), w149, (V.int 4), (V.int 0), (V.bl false), (V.int 12), (V.int 4), (V.bl false), (V.bl true), (V.bl true), (V.int 0), (V.str (""))])) :: M), (c1 % 2001), acc117, _, rfl, S166, (Rp.ints (s156 _ _ e128)), (by walk_at "vc"), (by walk_at "vc"), (by walk_at "vc"), (by walk_at "vc"), fun r169 v170 B171 H172 c175 g174 S173 h176 => ?_⟩
      have G177 := G167.trans g174; have s178 := g174.s
      have hexp := c175
      have hsum : r169.sum = c1 % 2001 := by rw [hexp]; exact rest_sum (sz acc117) (fun i => sz_ge ht0 ht1 i) _ _ _ (by omega) (by omega)
      have hel : ((r169.length : Nat) : Int) ≤ c1 % 2001 := by rw [hexp]; exact rest_length ht0 ht1 (by omega)
      first | refine nfE (σ' := [_, _, _, _, _, _, _, _, _, _, _, _, _, _, _, _, _]) rfl ?_ | refine nfG (σ' := [_, _, _, _, _, _, _, _, _, _, _, _, _, _, _, _, _]) rfl ?_
      refine ⟨_, rfl, _, rfl, ?_⟩
      obtain ⟨B179, s182, G181, e183, S180⟩ := S173.frzG G177 1 rfl z145
      replace S180 : Hd B179 ((p129, HO.lst (((acc117.set 0 7) ++ [3]).map V.int)) :: M) H172 := S180
      refine ⟨B179, ((p129, HO.lst (((acc117.set 0 7) ++ [3]).map V.int)) :: M), (c1 % 2001), size, (((some acc117))), 4, 0, false, 12, 4, false, true, true, 0, (("")), _, rfl, S180, (.obj e183 (.cons (.int _) (.cons (((h154.up ns159).up s178).up s182) (.cons (.int _) (.cons (.int _) (.cons (.bl _) (.cons (.int _) (.cons (.int _) (.cons (.bl _) (.cons (.bl _) (.cons (.bl _) (.cons (.int _) (.cons (.str _) .nil))))))))))))), (by walk_at "vc"), (by walk_at "vc"), (by walk_at "vc"), (by walk_at "vc"), fun r184 v185 B186 H187 c190 g189 S188 h191 => ?_⟩
      have G192 := G181.trans g189; have s193 := g189.s
      have heq : r184 = r169 := by rw [c190, hexp]; rfl
      have hel2 : r184.length = r169.length := congrArg List.length heq
      first | refine nfE (σ' := [_, _, _, _, _, _, _, _, _, _, _, _, _, _, _, _, _]) rfl ?_ | refine nfG (σ' := [_, _, _, _, _, _, _, _, _, _, _, _, _, _, _, _, _]) rfl ?_
      refine ⟨_, rfl, ?_⟩
      refine ⟨B186, ((p129, HO.lst (((acc117.set 0 7) ++ [3]).map V.int)) :: M), r184, _, rfl, S188, h191, (by walk_at "vc"), fun B194 H195 g197 S196 => ?_⟩
      have G198 := G192.trans g197; have s199 := g197.s
      refine ⟨_, rfl, ?_⟩
      refine itKF (show (!true) = false from rfl) ?_
      refine ⟨_, rfl, _, rfl, ?_⟩
      refine ⟨B194, (D.ints r184), (D.ints r169), (r184 = r169), inferInstance, _, _, S196.same, (h191.up s199), (((h176.up s182).up s193).up s199), (Sh.ints _), (Sh.ints _), (by decide), (by decide), (EqvD.ints _ _), _, rfl, ?_⟩
      refine itKF (show (!decide (r184 = r169)) = false from (by walk_at "law")) ?_
      refine ⟨_, rfl, ?_⟩
      obtain ⟨a200, rfl, e201⟩ := ((((h176.up s182).up s193).up s199)).eInts
      refine ⟨_, r169, rfl, (S196.rl e201), _, rfl, _, _, rfl, rfl, _, rfl, ?_⟩
      refine itKF (show (!decide (r169.sum = c1 % 2001)) = false from (by walk_at "law")) ?_
      refine ⟨_, rfl, ?_⟩
      refine ⟨_, (r169.map V.int), rfl, (.inl (S196.rl e201)), fun p203 np204 => ?_⟩
      obtain ⟨B205, H206, q211, s209, G208, e210, S207⟩ := S196.newG G198 np204 (HO.lst (r169.map V.int))
      rw [← q211]; clear q211
      have z212 := G198.fr0 np204
      refine ⟨_, rfl, ?_⟩
      refine ⟨B205, ((p129, HO.lst (((acc117.set 0 7) ++ [3]).map V.int)) :: M), r169, _, rfl, S207, (Rp.ints e210), (by walk_at "vc"), fun r213 v214 B215 H216 c219 g218 S217 h220 => ?_⟩
      have G221 := G208.trans g218; have s222 := g218.s
      have hst := c219
      have hsl : r213.length = r169.length := by rw [hst, starts_len]
      first | refine nfE (σ' := [_, _, _, _, _, _, _, _, _, _, _, _, _, _, _, _, _]) rfl ?_ | refine nfG (σ' := [_, _, _, _, _, _, _, _, _, _, _, _, _, _, _, _, _]) rfl ?_
      refine ⟨_, rfl, ?_⟩
      refine ⟨B215, ((p129, HO.lst (((acc117.set 0 7) ++ [3]).map V.int)) :: M), r213, _, rfl, S217, h220, (by walk_at "vc"), fun B223 H224 g226 S225 => ?_⟩
      have G227 := G221.trans g226; have s228 := g226.s
      refine ⟨_, rfl, ?_⟩
      refine itKF (show (!true) = false from rfl) ?_
      refine ⟨_, rfl, _, rfl, ?_⟩
      refine ⟨_, _, r169.length, rfl, (.inl (S225.rl (s228 _ _ (s222 _ _ (s209 _ _ e201))))), (by simp), _, rfl, (by omega), (by omega), fun D229 nD230 => lc_range0 (n := (((r169.length : Nat) : Int)).toNat) (fun i H' => ∃ (Bi : Hp) (acc : List Int), Same B223 Bi ∧ Gr B H Bi H' ∧ Hd Bi ((D229, HO.lst (acc.map V.int)) :: (p129, HO.lst (((acc117.set 0 7) ++ [3]).map V.int)) :: M) H' ∧ (acc = starts r169 i) ∧ (acc.length = i)) ?_ ?_ ?_⟩
      · obtain ⟨D229_H, hq, G', S', z'⟩ := S225.mutG G227 nD230 (HO.lst [])
        rw [← hq]; clear hq
        exact ⟨B223, ([]), (Same.refl _), G', S', (by walk_at "vc"), (by walk_at "vc")⟩
      · rintro i232 H231 hi240 ⟨B234, acc233, s237, G236, S235, i238, i239⟩
        refine ⟨rfl, ?_⟩
        refine iteT (B := True) ?_
        refine ⟨_, rfl, ?_⟩
        refine ⟨_, rfl, _, rfl, _, _, ((r169.take (((i232 : Nat) : Int)).toNat).map V.int), rfl, (S235.rl (s237 _ _ (s228 _ _ (s222 _ _ (s209 _ _ e201))))), ((cut_to (by omega)).trans (List.map_take ..).symm), fun p241 np242 => ?_⟩
        obtain ⟨B243, H244, q249, s247, G246, e248, S245⟩ := S235.newG G236 np242 (HO.lst ((r169.take (((i232 : Nat) : Int)).toNat).map V.int))
        rw [← q249]; clear q249
        have z250 := G236.fr0 np242
        refine ⟨_, r169.take (((i232 : Nat) : Int)).toNat, rfl, (S245.rl e248), _, S245.at 0 rfl, (by walk_at "sz"), ?_⟩
        rw [snocI]
        obtain ⟨H251, q254, G253, S252⟩ := S245.putG G246 0 rfl (HO.lst ((acc233 ++ [(r169.take (((i232 : Nat) : Int)).toNat).sum]).map V.int))
        rw [← q254]; clear q254
        replace S252 : Hd B243 ((D229, HO.lst ((acc233 ++ [(r169.take (((i232 : Nat) : Int)).toNat).sum]).map V.int)) :: (p129, HO.lst (((acc117.set 0 7) ++ [3]).map V.int)) :: M) H251 := S252
        exact ⟨B243, (acc233 ++ [(r169.take (((i232 : Nat) : Int)).toNat).sum]), (s237.trans s247), G253, S252, (by rw [starts_succ, ← i238]; rfl), (by walk_at "vc")⟩
      · have z256 := G227.fr0 nD230
        rintro H255 ⟨B258, acc257, s261, G260, S259, i262, i263⟩
        obtain ⟨B264, s267, G266, e268, S265⟩ := S259.frzG G260 0 rfl z256
        replace S265 : Hd B264 ((p129, HO.lst (((acc117.set 0 7) ++ [3]).map V.int)) :: M) H255 := S265
        refine ⟨B264, (D.ints r213), (D.ints acc257), (r213 = acc257), inferInstance, _, _, S265.same, (((h220.up s228).up s261).up s267), (Rp.ints e268), (Sh.ints _), (Sh.ints _), (by decide), (by decide), (EqvD.ints _ _), _, rfl, ?_⟩
        refine itKF (show (!decide (r213 = acc257)) = false from (by rw [decide_eq_true (hst.trans (Eq.symm i262))]; rfl)) ?_
        refine ⟨_, rfl, _, rfl, ?_⟩
        refine ⟨B264, (D.ints r169), (D.ints r169), (r169 = r169), inferInstance, _, _, S265.same, (Rp.ints (s267 _ _ (s261 _ _ (s228 _ _ (s222 _ _ e210))))), ((((((((h176.up s182).up s193).up s199).up s209).up s222).up s228).up s261).up s267), (Sh.ints _), (Sh.ints _), (by decide), (by decide), (EqvD.ints _ _), _, rfl, ?_⟩
        refine itKF (show (!decide (r169 = r169)) = false from (by walk_at "law")) ?_
        refine ⟨_, rfl, _, rfl, (by show 2 ≤ sizeLine; decide), fun p269 np270 => ?_⟩
        obtain ⟨B271, H272, q277, s275, G274, e276, S273⟩ := S265.newG G266 np270 (HO.tup [(V.int size), (V.int size)])
        rw [← q277]; clear q277
        have z278 := G266.fr0 np270
        first | refine nfE (σ' := [_, _, _, _, _, _, _, _, _, _, _, _, _, _, _, _, _]) rfl ?_ | refine nfG (σ' := [_, _, _, _, _, _, _, _, _, _, _, _, _, _, _, _, _]) rfl ?_
        refine ⟨_, rfl, _, rfl, ?_⟩
        refine itKT (b := !decide ((V.ref p129) = V.non)) (notN_yes (by intro z; cases z)) ?_
        refine ⟨_, rfl, _, _, _, _, rfl, rfl, (S273.rl (s275 _ _ (s267 _ _ (s261 _ _ (s228 _ _ (s222 _ _ (s209 _ _ (s199 _ _ (s193 _ _ (s182 _ _ (s178 _ _ (s156 _ _ e128)))))))))))), (at_ints (by omega) (by omega)), _, rfl, _, _, _, _, rfl, rfl, (S273.rl (s275 _ _ (s267 _ _ (s261 _ _ (s228 _ _ (s222 _ _ (s209 _ _ (s199 _ _ (s193 _ _ (s182 _ _ (s178 _ _ (s156 _ _ e128)))))))))))), (at_ints (by omega) (by omega)), (by show 2 ≤ sizeLine; decide), fun p280 np281 => ?_⟩
        obtain ⟨B282, H283, q288, s286, G285, e287, S284⟩ := S273.newG G274 np281 (HO.tup [(V.int (geti acc117 0)), (V.int (geti acc117 0))])
        rw [← q288]; clear q288
        have z289 := G274.fr0 np281
        first | refine nfE (σ' := [_, _, _, _, _, _, _, _, _, _, _, _, _, _, _, _, _]) rfl ?_ | refine nfG (σ' := [_, _, _, _, _, _, _, _, _, _, _, _, _, _, _, _, _]) rfl ?_
        refine ⟨_, rfl, ?_⟩
        refine ⟨_, _, r169.length, rfl, (.inl (S284.rl (s286 _ _ (s275 _ _ (s267 _ _ (s261 _ _ (s228 _ _ (s222 _ _ (s209 _ _ e201))))))))), (by simp), _, _, rfl, rfl, _, rfl, ?_⟩
        refine itb (fun h290 => ?_) (fun h290 => ?_)
        · refine ⟨_, rfl, ?_⟩
          refine ⟨_, rfl, ?_⟩
          refine ⟨_, _, r169.length, rfl, (.inl (S284.rl (s286 _ _ (s275 _ _ (s267 _ _ (s261 _ _ (s228 _ _ (s222 _ _ (s209 _ _ e201))))))))), (by simp), _, _, rfl, rfl, _, rfl, _, _, ((r169.take ((((r169.length : Nat) : Int)) - 1).toNat).map V.int), rfl, (S284.rl (s286 _ _ (s275 _ _ (s267 _ _ (s261 _ _ (s228 _ _ (s222 _ _ (s209 _ _ e201)))))))), ((cut_to (by omega)).trans (List.map_take ..).symm), fun p291 np292 => ?_⟩
          obtain ⟨B293, H294, q299, s297, G296, e298, S295⟩ := S284.newG G285 np292 (HO.lst ((r169.take ((((r169.length : Nat) : Int)) - 1).toNat).map V.int))
          rw [← q299]; clear q299
          have z300 := G285.fr0 np292
          refine ⟨_, r169.take ((((r169.length : Nat) : Int)) - 1).toNat, rfl, (S295.rl e298), (by rw [List.length_take]; omega), fun m301 hm302 hm303 => ?_⟩
          refine ⟨_, rfl, ?_⟩
          refine ⟨_, r169, rfl, (S295.rl (s297 _ _ (s286 _ _ (s275 _ _ (s267 _ _ (s261 _ _ (s228 _ _ (s222 _ _ (s209 _ _ e201))))))))), (by omega), fun m304 hm305 hm306 => ?_⟩
          refine ⟨(by show 2 ≤ sizeLine; decide), fun p307 np308 => ?_⟩
          obtain ⟨B309, H310, q315, s313, G312, e314, S311⟩ := S295.newG G296 np308 (HO.tup [(V.int m301), (V.int m304)])
          rw [← q315]; clear q315
          have z316 := G296.fr0 np308
          refine ⟨_, rfl, _, rfl, ?_⟩
          refine ⟨B309, ((p129, HO.lst (((acc117.set 0 7) ++ [3]).map V.int)) :: M), (c1 % 2001), size, (((some acc117))), 4, 0, false, 12, 4, false, true, true, 0, (("")), _, rfl, S311, (.obj (s313 _ _ (s297 _ _ (s286 _ _ (s275 _ _ (s267 _ _ (s261 _ _ (s228 _ _ (s222 _ _ (s209 _ _ (s199 _ _ (s193 _ _ e183))))))))))) (.cons (.int _) (.cons ((((((((((((((h154.up ns159).up s178).up s182).up s193).up s199).up s209).up s222).up s228).up s261).up s267).up s275).up s286).up s297).up s313) (.cons (.int _) (.cons (.int _) (.cons (.bl _) (.cons (.int _) (.cons (.int _) (.cons (.bl _) (.cons (.bl _) (.cons (.bl _) (.cons (.int _) (.cons (.str _) .nil))))))))))))), (by walk_at "vc"), (by walk_at "vc"), (by walk_at "vc"), (by walk_at "vc"), fun a317 b318 v319 B320 H321 c324 g323 S322 h325 => ?_⟩
          have G326 := G312.trans g323; have s327 := g323.s
          have hR := c324
          first | refine nfE (σ' := [_, _, _, _, _, _, _, _, _, _, _, _, _, _, _, _, _]) rfl ?_ | refine nfG (σ' := [_, _, _, _, _, _, _, _, _, _, _, _, _, _, _, _, _]) rfl ?_
          refine ⟨_, rfl, ?_⟩
          obtain ⟨a328, vs329, rfl, e330, r331⟩ := (h325).eTup
          obtain ⟨v332, vs335, rfl, h333, r334⟩ := r331.eCons
          obtain rfl := (h333).eInt
          obtain ⟨v337, vs340, rfl, h338, r339⟩ := r334.eCons
          obtain rfl := (h338).eInt
          obtain rfl := r339.eNil
          refine ⟨_, _, _, _, true, rfl, (.ty "tuple"), (.base (.tup (S322.rd e330))), (kit_ty (by decide +kernel)), _, rfl, ?_⟩
          refine itKF (show (!true) = false from rfl) ?_
          refine ⟨_, rfl, ?_⟩
          refine ⟨_, _, 2, rfl, (.inr (S322.rt e330)), rfl, _, _, rfl, rfl, _, rfl, ?_⟩
          refine itKF (show (!decide (2 = 2)) = false from (by walk_at "law")) ?_
          refine ⟨_, rfl, ?_⟩
          refine ⟨_, _, _, _, rfl, rfl, (S322.rt e330), rfl, ?_⟩
          refine ⟨B320, ((p129, HO.lst (((acc117.set 0 7) ++ [3]).map V.int)) :: M), a317, rfl, S322, fun B343 H344 g346 S345 => ?_⟩
          have G347 := G326.trans g346; have s348 := g346.s
          refine ⟨_, rfl, ?_⟩
          refine itKF (show (!true) = false from rfl) ?_
          refine ⟨_, rfl, ?_⟩
          refine ⟨_, _, _, _, rfl, rfl, (S345.rt (s348 _ _ e330)), rfl, ?_⟩
          refine ⟨B343, ((p129, HO.lst (((acc117.set 0 7) ++ [3]).map V.int)) :: M), b318, rfl, S345, fun B349 H350 g352 S351 => ?_⟩
          have G353 := G347.trans g352; have s354 := g352.s
          refine ⟨_, rfl, ?_⟩
          refine itKF (show (!true) = false from rfl) ?_
          refine ⟨_, rfl, _, rfl, ?_⟩
          refine ⟨B349, (D.tup [(D.int a317), (D.int b318)]), (D.tup [(D.int m301), (D.int m304)]), ((a317 = m301) ∧ ((b318 = m304) ∧ True)), inferInstance, _, _, S351.same, ((h325.up s348).up s354), (.tup (s354 _ _ (s348 _ _ (s327 _ _ e314))) (.cons (.int _) (.cons (.int _) .nil))), (Shs.tup (Shs.cons (Sh.mono (Sh.int _) (by decide)) (Shs.cons (Sh.mono (Sh.int _) (by decide)) (Shs.nil 8)))), (Shs.tup (Shs.cons (Sh.mono (Sh.int _) (by decide)) (Shs.cons (Sh.mono (Sh.int _) (by decide)) (Shs.nil 8)))), (by decide), (by decide), (EqvS.tup (EqvS.cons (EqvD.int _ _) (EqvS.cons (EqvD.int _ _) EqvS.nil))), ?_⟩
          rw [show (decide ((a317 = m301) ∧ ((b318 = m304) ∧ True))) = true from (by exact dec2 (by first | exact rng_none_eq hR | exact rng_small_eq hR hexp (by assumption) | exact rng_big_eq hR hexp (by assumption) (by assumption) (by assumption) (by assumption) (by assumption)))]
          have S355 : Hd B349 (M) H350 := (S351.front 0 rfl).drop1
          exact kq B349 H350 G353 S355
        · refine ⟨_, rfl, _, rfl, ?_⟩
          refine ⟨B282, ((p129, HO.lst (((acc117.set 0 7) ++ [3]).map V.int)) :: M), (c1 % 2001), size, (((some acc117))), 4, 0, false, 12, 4, false, true, true, 0, (("")), _, rfl, S284, (.obj (s286 _ _ (s275 _ _ (s267 _ _ (s261 _ _ (s228 _ _ (s222 _ _ (s209 _ _ (s199 _ _ (s193 _ _ e183))))))))) (.cons (.int _) (.cons ((((((((((((h154.up ns159).up s178).up s182).up s193).up s199).up s209).up s222).up s228).up s261).up s267).up s275).up s286) (.cons (.int _) (.cons (.int _) (.cons (.bl _) (.cons (.int _) (.cons (.int _) (.cons (.bl _) (.cons (.bl _) (.cons (.bl _) (.cons (.int _) (.cons (.str _) .nil))))))))))))), (by walk_at "vc"), (by walk_at "vc"), (by walk_at "vc"), (by walk_at "vc"), fun a356 b357 v358 B359 H360 c363 g362 S361 h364 => ?_⟩
          have G365 := G285.trans g362; have s366 := g362.s
          have hR := c363
          first | refine nfE (σ' := [_, _, _, _, _, _, _, _, _, _, _, _, _, _, _, _, _]) rfl ?_ | refine nfG (σ' := [_, _, _, _, _, _, _, _, _, _, _, _, _, _, _, _, _]) rfl ?_
          refine ⟨_, rfl, ?_⟩
          obtain ⟨a367, vs368, rfl, e369, r370⟩ := (h364).eTup
          obtain ⟨v371, vs374, rfl, h372, r373⟩ := r370.eCons
          obtain rfl := (h372).eInt
          obtain ⟨v376, vs379, rfl, h377, r378⟩ := r373.eCons
          obtain rfl := (h377).eInt
          obtain rfl := r378.eNil
          refine ⟨_, _, _, _, true, rfl, (.ty "tuple"), (.base (.tup (S361.rd e369))), (kit_ty (by decide +kernel)), _, rfl, ?_⟩
          refine itKF (show (!true) = false from rfl) ?_
          refine ⟨_, rfl, ?_⟩
          refine ⟨_, _, 2, rfl, (.inr (S361.rt e369)), rfl, _, _, rfl, rfl, _, rfl, ?_⟩
          refine itKF (show (!decide (2 = 2)) = false from (by walk_at "law")) ?_
          refine ⟨_, rfl, ?_⟩
          refine ⟨_, _, _, _, rfl, rfl, (S361.rt e369), rfl, ?_⟩
          refine ⟨B359, ((p129, HO.lst (((acc117.set 0 7) ++ [3]).map V.int)) :: M), a356, rfl, S361, fun B382 H383 g385 S384 => ?_⟩
          have G386 := G365.trans g385; have s387 := g385.s
          refine ⟨_, rfl, ?_⟩
          refine itKF (show (!true) = false from rfl) ?_
          refine ⟨_, rfl, ?_⟩
          refine ⟨_, _, _, _, rfl, rfl, (S384.rt (s387 _ _ e369)), rfl, ?_⟩
          refine ⟨B382, ((p129, HO.lst (((acc117.set 0 7) ++ [3]).map V.int)) :: M), b357, rfl, S384, fun B388 H389 g391 S390 => ?_⟩
          have G392 := G386.trans g391; have s393 := g391.s
          refine ⟨_, rfl, ?_⟩
          refine itKF (show (!true) = false from rfl) ?_
          refine ⟨_, rfl, _, rfl, ?_⟩
          refine ⟨B388, (D.tup [(D.int a356), (D.int b357)]), (D.tup [(D.int (geti acc117 0)), (D.int (geti acc117 0))]), ((a356 = geti acc117 0) ∧ ((b357 = geti acc117 0) ∧ True)), inferInstance, _, _, S390.same, ((h364.up s387).up s393), (.tup (s393 _ _ (s387 _ _ (s366 _ _ e287))) (.cons (.int _) (.cons (.int _) .nil))), (Shs.tup (Shs.cons (Sh.mono (Sh.int _) (by decide)) (Shs.cons (Sh.mono (Sh.int _) (by decide)) (Shs.nil 8)))), (Shs.tup (Shs.cons (Sh.mono (Sh.int _) (by decide)) (Shs.cons (Sh.mono (Sh.int _) (by decide)) (Shs.nil 8)))), (by decide), (by decide), (EqvS.tup (EqvS.cons (EqvD.int _ _) (EqvS.cons (EqvD.int _ _) EqvS.nil))), ?_⟩
          rw [show (decide ((a356 = geti acc117 0) ∧ ((b357 = geti acc117 0) ∧ True))) = true from (by exact dec2 (by first | exact rng_none_eq hR | exact rng_small_eq hR hexp (by assumption) | exact rng_big_eq hR hexp (by assumption) (by assumption) (by assumption) (by assumption) (by assumption)))]
          have S394 : Hd B388 (M) H389 := (S390.front 0 rfl).drop1
          exact kq B388 H389 G392 S394
  · refine ⟨_, rfl, _, rfl, rfl, rfl, fun p395 dx396 np397 nd398 ne399 => ?_⟩
    obtain ⟨H400, q403, G402, S401, z404⟩ := S38.insG G40 np397 nd398 ne399 []
    rw [← q403]; clear q403
    refine ⟨B36, (M), p395, size, none, 4, 0, false, 12, 4, false, true, true, 0, (""), _, _, rfl, S401, .non, fun w405 B406 H407 g409 S408 h410 => ?_⟩
    refine ⟨rfl, ?_⟩
    have G411 := G402.trans g409; have s412 := g409.s
    first | refine nfE (σ' := [_, _, _, _, _, _, _, _, _, _, _, _, _, _, _, _, _]) rfl ?_ | refine nfG (σ' := [_, _, _, _, _, _, _, _, _, _, _, _, _, _, _, _, _]) rfl ?_
    refine ⟨_, rfl, _, rfl, ?_⟩
    refine itKF (b := !decide (V.non = V.non)) (by decide) ?_
    have ht16 : ∀ x ∈ ([size] : List Int), 16 ≤ x := by intro x hx; rw [List.mem_singleton.mp hx]; exact hsz
    have ht0 : ([size] : List Int) ≠ [] := by simp
    have ht1 : ∀ x ∈ ([size] : List Int), 1 ≤ x := fun x hx => by have := ht16 x hx; omega
    refine ⟨_, rfl, _, rfl, ?_⟩
    refine ⟨B406, ((p395, HO.ins (He.ga K "Settings") dx396 (ns_Settings.zip [(V.int size), w405, (V.int 4), (V.int 0), (V.bl false), (V.int 12), (V.int 4), (V.bl false), (V.bl true), (V.bl true), (V.int 0), (V.str (""))])) :: M), (c1 % 2001), ([size]), _, rfl, S408, (.lst (s412 _ _ (s41 _ _ e32)) (.cons (.int _) .nil)), (by walk_at "vc"), (by walk_at "vc"), (by walk_at "vc"), (by walk_at "vc"), fun r414 v415 B416 H417 c420 g419 S418 h421 => ?_⟩
    have G422 := G411.trans g419; have s423 := g419.s
    have hexp := c420
    have hsum : r414.sum = c1 % 2001 := by rw [hexp]; exact rest_sum (sz ([size])) (fun i => sz_ge ht0 ht1 i) _ _ _ (by omega) (by omega)
    have hel : ((r414.length : Nat) : Int) ≤ c1 % 2001 := by rw [hexp]; exact rest_length ht0 ht1 (by omega)
    refine ⟨_, rfl, _, rfl, ?_⟩
    obtain ⟨B424, s427, G426, e428, S425⟩ := S418.frzG G422 0 rfl z404
    replace S425 : Hd B424 (M) H417 := S425
    refine ⟨B424, (M), (c1 % 2001), size, none, 4, 0, false, 12, 4, false, true, true, 0, (("")), _, rfl, S425, (.obj e428 (.cons (.int _) (.cons (((h410.up newOf_same).up s423).up s427) (.cons (.int _) (.cons (.int _) (.cons (.bl _) (.cons (.int _) (.cons (.int _) (.cons (.bl _) (.cons (.bl _) (.cons (.bl _) (.cons (.int _) (.cons (.str _) .nil))))))))))))), (by walk_at "vc"), (by walk_at "vc"), (by walk_at "vc"), (by walk_at "vc"), fun r429 v430 B431 H432 c435 g434 S433 h436 => ?_⟩
    have G437 := G426.trans g434; have s438 := g434.s
    have heq : r429 = r414 := by rw [c435, hexp]; rfl
    have hel2 : r429.length = r414.length := congrArg List.length heq
    first | refine nfE (σ' := [_, _, _, _, _, _, _, _, _, _, _, _, _, _, _, _, _]) rfl ?_ | refine nfG (σ' := [_, _, _, _, _, _, _, _, _, _, _, _, _, _, _, _, _]) rfl ?_
    refine ⟨_, rfl, ?_⟩
    refine ⟨B431, (M), r429, _, rfl, S433, h436, (by walk_at "vc"), fun B439 H440 g442 S441 => ?_⟩
    have G443 := G437.trans g442; have s444 := g442.s
    refine ⟨_, rfl, ?_⟩
    refine itKF (show (!true) = false from rfl) ?_
    refine ⟨_, rfl, _, rfl, ?_⟩
    refine ⟨B439, (D.ints r429), (D.ints r414), (r429 = r414), inferInstance, _, _, S441.same, (h436.up s444), (((h421.up s427).up s438).up s444), (Sh.ints _), (Sh.ints _), (by decide), (by decide), (EqvD.ints _ _), _, rfl, ?_⟩
    refine itKF (show (!decide (r429 = r414)) = false from (by walk_at "law")) ?_
    refine ⟨_, rfl, ?_⟩
    obtain ⟨a445, rfl, e446⟩ := ((((h421.up s427).up s438).up s444)).eInts
    refine ⟨_, r414, rfl, (S441.rl e446), _, rfl, _, _, rfl, rfl, _, rfl, ?_⟩
    refine itKF (show (!decide (r414.sum = c1 % 2001)) = false from (by walk_at "law")) ?_
    refine ⟨_, rfl, ?_⟩
    refine ⟨_, (r414.map V.int), rfl, (.inl (S441.rl e446)), fun p448 np449 => ?_⟩
    obtain ⟨B450, H451, q456, s454, G453, e455, S452⟩ := S441.newG G443 np449 (HO.lst (r414.map V.int))
    rw [← q456]; clear q456
    have z457 := G443.fr0 np449
    refine ⟨_, rfl, ?_⟩
    refine ⟨B450, (M), r414, _, rfl, S452, (Rp.ints e455), (by walk_at "vc"), fun r458 v459 B460 H461 c464 g463 S462 h465 => ?_⟩
    have G466 := G453.trans g463; have s467 := g463.s
    have hst := c464
    have hsl : r458.length = r414.length := by rw [hst, starts_len]
    first | refine nfE (σ' := [_, _, _, _, _, _, _, _, _, _, _, _, _, _, _, _, _]) rfl ?_ | refine nfG (σ' := [_, _, _, _, _, _, _, _, _, _, _, _, _, _, _, _, _]) rfl ?_
    refine ⟨_, rfl, ?_⟩
    refine ⟨B460, (M), r458, _, rfl, S462, h465, (by walk_at "vc"), fun B468 H469 g471 S470 => ?_⟩
    have G472 := G466.trans g471; have s473 := g471.s
    refine ⟨_, rfl, ?_⟩
    refine itKF (show (!true) = false from rfl) ?_
    refine ⟨_, rfl, _, rfl, ?_⟩
    refine ⟨_, _, r414.length, rfl, (.inl (S470.rl (s473 _ _ (s467 _ _ (s454 _ _ e446))))), (by simp), _, rfl, (by omega), (by omega), fun D474 nD475 => lc_range0 (n := (((r414.length : Nat) : Int)).toNat) (fun i H' => ∃ (Bi : Hp) (acc : List Int), Same B468 Bi ∧ Gr B H Bi H' ∧ Hd Bi ((D474, HO.lst (acc.map V.int)) :: M) H' ∧ (acc = starts r414 i) ∧ (acc.length = i)) ?_ ?_ ?_⟩
    · obtain ⟨D474_H, hq, G', S', z'⟩ := S470.mutG G472 nD475 (HO.lst [])
      rw [← hq]; clear hq
      exact ⟨B468, ([]), (Same.refl _), G', S', (by walk_at "vc"), (by walk_at "vc")⟩
    · rintro i477 H476 hi485 ⟨B479, acc478, s482, G481, S480, i483, i484⟩
      refine ⟨rfl, ?_⟩
      refine iteT (B := True) ?_
      refine ⟨_, rfl, ?_⟩
      refine ⟨_, rfl, _, rfl, _, _, ((r414.take (((i477 : Nat) : Int)).toNat).map V.int), rfl, (S480.rl (s482 _ _ (s473 _ _ (s467 _ _ (s454 _ _ e446))))), ((cut_to (by omega)).trans (List.map_take ..).symm), fun p486 np487 => ?_⟩
      obtain ⟨B488, H489, q494, s492, G491, e493, S490⟩ := S480.newG G481 np487 (HO.lst ((r414.take (((i477 : Nat) : Int)).toNat).map V.int))
      rw [← q494]; clear q494
      have z495 := G481.fr0 np487
      refine ⟨_, r414.take (((i477 : Nat) : Int)).toNat, rfl, (S490.rl e493), _, S490.at 0 rfl, (by walk_at "sz"), ?_⟩
      rw [snocI]
      obtain ⟨H496, q499, G498, S497⟩ := S490.putG G491 0 rfl (HO.lst ((acc478 ++ [(r414.take (((i477 : Nat) : Int)).toNat).sum]).map V.int))
      rw [← q499]; clear q499
      replace S497 : Hd B488 ((D474, HO.lst ((acc478 ++ [(r414.take (((i477 : Nat) : Int)).toNat).sum]).map V.int)) :: M) H496 := S497
      exact ⟨B488, (acc478 ++ [(r414.take (((i477 : Nat) : Int)).toNat).sum]), (s482.trans s492), G498, S497, (by rw [starts_succ, ← i483]; rfl), (by walk_at "vc")⟩
    · have z501 := G472.fr0 nD475
      rintro H500 ⟨B503, acc502, s506, G505, S504, i507, i508⟩
      obtain ⟨B509, s512, G511, e513, S510⟩ := S504.frzG G505 0 rfl z501
      replace S510 : Hd B509 (M) H500 := S510
      refine ⟨B509, (D.ints r458), (D.ints acc502), (r458 = acc502), inferInstance, _, _, S510.same, (((h465.up s473).up s506).up s512), (Rp.ints e513), (Sh.ints _), (Sh.ints _), (by decide), (by decide), (EqvD.ints _ _), _, rfl, ?_⟩
      refine itKF (show (!decide (r458 = acc502)) = false from (by rw [decide_eq_true (hst.trans (Eq.symm i507))]; rfl)) ?_
      refine ⟨_, rfl, _, rfl, ?_⟩
      refine ⟨B509, (D.ints r414), (D.ints r414), (r414 = r414), inferInstance, _, _, S510.same, (Rp.ints (s512 _ _ (s506 _ _ (s473 _ _ (s467 _ _ e455))))), ((((((((h421.up s427).up s438).up s444).up s454).up s467).up s473).up s506).up s512), (Sh.ints _), (Sh.ints _), (by decide), (by decide), (EqvD.ints _ _), _, rfl, ?_⟩
      refine itKF (show (!decide (r414 = r414)) = false from (by walk_at "law")) ?_
      refine ⟨_, rfl, _, rfl, (by show 2 ≤ sizeLine; decide), fun p514 np515 => ?_⟩
      obtain ⟨B516, H517, q522, s520, G519, e521, S518⟩ := S510.newG G511 np515 (HO.tup [(V.int size), (V.int size)])
      rw [← q522]; clear q522
      have z523 := G511.fr0 np515
      first | refine nfE (σ' := [_, _, _, _, _, _, _, _, _, _, _, _, _, _, _, _, _]) rfl ?_ | refine nfG (σ' := [_, _, _, _, _, _, _, _, _, _, _, _, _, _, _, _, _]) rfl ?_
      refine ⟨_, rfl, _, rfl, ?_⟩
      refine itKF (b := !decide (V.non = V.non)) (by decide) ?_
      refine ⟨_, rfl, _, rfl, ?_⟩
      refine ⟨B516, (M), (c1 % 2001), size, none, 4, 0, false, 12, 4, false, true, true, 0, (("")), _, rfl, S518, (.obj (s520 _ _ (s512 _ _ (s506 _ _ (s473 _ _ (s467 _ _ (s454 _ _ (s444 _ _ (s438 _ _ e428)))))))) (.cons (.int _) (.cons (((((((((((h410.up newOf_same).up s423).up s427).up s438).up s444).up s454).up s467).up s473).up s506).up s512).up s520) (.cons (.int _) (.cons (.int _) (.cons (.bl _) (.cons (.int _) (.cons (.int _) (.cons (.bl _) (.cons (.bl _) (.cons (.bl _) (.cons (.int _) (.cons (.str _) .nil))))))))))))), (by walk_at "vc"), (by walk_at "vc"), (by walk_at "vc"), (by walk_at "vc"), fun a525 b526 v527 B528 H529 c532 g531 S530 h533 => ?_⟩
      have G534 := G519.trans g531; have s535 := g531.s
      have hR := c532
      first | refine nfE (σ' := [_, _, _, _, _, _, _, _, _, _, _, _, _, _, _, _, _]) rfl ?_ | refine nfG (σ' := [_, _, _, _, _, _, _, _, _, _, _, _, _, _, _, _, _]) rfl ?_
      refine ⟨_, rfl, ?_⟩
      obtain ⟨a536, vs537, rfl, e538, r539⟩ := (h533).eTup
      obtain ⟨v540, vs543, rfl, h541, r542⟩ := r539.eCons
      obtain rfl := (h541).eInt
      obtain ⟨v545, vs548, rfl, h546, r547⟩ := r542.eCons
      obtain rfl := (h546).eInt
      obtain rfl := r547.eNil
      refine ⟨_, _, _, _, true, rfl, (.ty "tuple"), (.base (.tup (S530.rd e538))), (kit_ty (by decide +kernel)), _, rfl, ?_⟩
      refine itKF (show (!true) = false from rfl) ?_
      refine ⟨_, rfl, ?_⟩
      refine ⟨_, _, 2, rfl, (.inr (S530.rt e538)), rfl, _, _, rfl, rfl, _, rfl, ?_⟩
      refine itKF (show (!decide (2 = 2)) = false from (by walk_at "law")) ?_
      refine ⟨_, rfl, ?_⟩
      refine ⟨_, _, _, _, rfl, rfl, (S530.rt e538), rfl, ?_⟩
      refine ⟨B528, (M), a525, rfl, S530, fun B551 H552 g554 S553 => ?_⟩
      have G555 := G534.trans g554; have s556 := g554.s
      refine ⟨_, rfl, ?_⟩
      refine itKF (show (!true) = false from rfl) ?_
      refine ⟨_, rfl, ?_⟩
      refine ⟨_, _, _, _, rfl, rfl, (S553.rt (s556 _ _ e538)), rfl, ?_⟩
      refine ⟨B551, (M), b526, rfl, S553, fun B557 H558 g560 S559 => ?_⟩
      have G561 := G555.trans g560; have s562 := g560.s
      refine ⟨_, rfl, ?_⟩
      refine itKF (show (!true) = false from rfl) ?_
      refine ⟨_, rfl, _, rfl, ?_⟩
      refine ⟨B557, (D.tup [(D.int a525), (D.int b526)]), (D.tup [(D.int size), (D.int size)]), ((a525 = size) ∧ ((b526 = size) ∧ True)), inferInstance, _, _, S559.same, ((h533.up s556).up s562), (.tup (s562 _ _ (s556 _ _ (s535 _ _ e521))) (.cons (.int _) (.cons (.int _) .nil))), (Shs.tup (Shs.cons (Sh.mono (Sh.int _) (by decide)) (Shs.cons (Sh.mono (Sh.int _) (by decide)) (Shs.nil 8)))), (Shs.tup (Shs.cons (Sh.mono (Sh.int _) (by decide)) (Shs.cons (Sh.mono (Sh.int _) (by decide)) (Shs.nil 8)))), (by decide), (by decide), (EqvS.tup (EqvS.cons (EqvD.int _ _) (EqvS.cons (EqvD.int _ _) EqvS.nil))), ?_⟩
      rw [show (decide ((a525 = size) ∧ ((b526 = size) ∧ True))) = true from (by exact dec2 (by first | exact rng_none_eq hR | exact rng_small_eq hR hexp (by assumption) | exact rng_big_eq hR hexp (by assumption) (by assumption) (by assumption) (by assumption) (by assumption)))]
      exact kq B557 H558 G561 S559
def d_0 : He.DefD := ⟨("Settings", some "__init__"), "__init__", "Settings.__init__", defArgs st_Settings___init__, defBody st_Settings___init__, defScope st_Settings___init__, [], [("block_sizes", .non), ("fixed_order", .int 4), ("linear_order", .int 0), ("search", .bl false), ("precision", .int 12), ("partition_order", .int 4), ("wide", .bl false), ("stereo", .bl true), ("wasted", .bl true), ("seek_interval", .int 0), ("vendor", .str "")]⟩
def d_1 : He.DefD := ⟨("block_sizes", none), "block_sizes", "block_sizes", defArgs st_block_sizes, defBody st_block_sizes, defScope st_block_sizes, [], []⟩
def d_2 : He.DefD := ⟨("block_starts", none), "block_starts", "block_starts", defArgs st_block_starts, defBody st_block_starts, defScope st_block_starts, [], []⟩
def d_3 : He.DefD := ⟨("size_range", none), "size_range", "size_range", defArgs st_size_range, defBody st_size_range, defScope st_size_range, [], []⟩
def d_4 : He.DefD := ⟨("_law_cell", none), "_law_cell", "_law_cell", defArgs st_law_cell, defBody st_law_cell, defScope st_law_cell, [], []⟩
def d_5 : He.DefD := ⟨("_law_integer", none), "_law_integer", "_law_integer", defArgs st_law_integer, defBody st_law_integer, defScope st_law_integer, [], []⟩
def d_6 : He.DefD := ⟨("_law_integers", none), "_law_integers", "_law_integers", defArgs st_law_integers, defBody st_law_integers, defScope st_law_integers, [], []⟩
def d_7 : He.DefD := ⟨("_law_row", none), "_law_row", "_law_row", defArgs st_law_row, defBody st_law_row, defScope st_law_row, [], []⟩
def d_8 : He.DefD := ⟨("_law_sizes", none), "_law_sizes", "_law_sizes", defArgs st_law_sizes, defBody st_law_sizes, defScope st_law_sizes, [], []⟩
def d_9 : He.DefD := ⟨("law", none), "law", "law", defArgs st_law, defBody st_law, defScope st_law, [], []⟩
def fn : List He.DefD := ([d_0, d_1, d_2, d_3, d_4, d_5, d_6, d_7, d_8, d_9] : List He.DefD)
def fa : List He.Fa := ([.free "abs", .free "all", .free "bool", .free "int", .free "isinstance", .free "len", .free "list", .free "max", .free "min", .free "range", .free "sum", .free "tuple", .cls "Settings", .glo "Settings", .glo "_law_cell", .glo "_law_integer", .glo "_law_integers", .glo "_law_row", .glo "_law_sizes", .glo "block_sizes", .glo "block_starts", .glo "size_range", .mkr "Settings", .noat "Settings" "block_size", .noat "Settings" "block_sizes", .noat "Settings" "fixed_order", .noat "Settings" "linear_order", .noat "Settings" "partition_order", .noat "Settings" "precision", .noat "Settings" "search"] : List He.Fa) ++ ([.noat "Settings" "seek_interval", .noat "Settings" "stereo", .noat "Settings" "vendor", .noat "Settings" "wasted", .noat "Settings" "wide", .glo "law"] : List He.Fa)
def loose : List Str := (["block_sizes", "block_starts", "size_range", "Settings", "_law_cell", "_law_integer", "_law_integers", "_law_row", "_law_sizes"] : List Str)
abbrev RR : PySem.W.OpenRow := PySem.W.OpenLaw.row PySem.Challenge.rw_monochord_k72_blocks_of_audio
abbrev hk : PySem.W.Hook := He.hookD 6 fa fn
def ob (s : PySem.W.SharedT) : He.AlD := He.obsDG 6 fa fn (HandSHeadRun.getT s)
theorem ob_eq (s : PySem.W.SharedT) : ob s = hk.obs s.abs := He.obsDG_eq (HandSHeadRun.getT_eq s)
theorem run (w : World) : HandSHeadRun.RunEq RR (PySem.W.view RR.prog [12]) hk ob 20000 loose w := by
  intro os
  kernel_rfl
theorem facts {P : Program} {w : World} {K : PySem.W.Frag} {h : Heap} {mg : Str → Option Value} {f : Addr} (X : K.In h) (G : h.Ns mainGlobals mg) (hfa : mg ("law" : Str) = some (.ref f)) (c : He.SaysD fa fn K) :
    ∃ fd : FuncData, (∀ (s : Shared) (v : Value), BindsTo s fd ⟨[v], []⟩ [("_law_script", v)]) ∧ ∀ base : Heap, K.In base → base.Ns mainGlobals mg → FnOk P w K mg base CX0 3 f fd ["_law_script"] (sp_law K) := by
  have T : Tx K mg := ⟨He.free_ok X G (c.fact 0 rfl), He.free_ok X G (c.fact 1 rfl), He.free_ok X G (c.fact 2 rfl), He.free_ok X G (c.fact 3 rfl), He.free_ok X G (c.fact 4 rfl), He.free_ok X G (c.fact 5 rfl), He.free_ok X G (c.fact 6 rfl), He.free_ok X G (c.fact 7 rfl), He.free_ok X G (c.fact 8 rfl), He.free_ok X G (c.fact 9 rfl), He.free_ok X G (c.fact 10 rfl), He.free_ok X G (c.fact 11 rfl), He.cls_ok (c.fact 12 rfl), He.glo_ok X G (c.fact 13 rfl), He.glo_ok X G (c.fact 14 rfl), He.glo_ok X G (c.fact 15 rfl), He.glo_ok X G (c.fact 16 rfl), He.glo_ok X G (c.fact 17 rfl), He.glo_ok X G (c.fact 18 rfl), He.glo_ok X G (c.fact 19 rfl), He.glo_ok X G (c.fact 20 rfl), He.glo_ok X G (c.fact 21 rfl), He.mkr_ok (c.fact 22 rfl), He.noat_ok (c.fact 23 rfl), He.noat_ok (c.fact 24 rfl), He.noat_ok (c.fact 25 rfl), He.noat_ok (c.fact 26 rfl), He.noat_ok (c.fact 27 rfl), He.noat_ok (c.fact 28 rfl), He.noat_ok (c.fact 29 rfl), He.noat_ok (c.fact 30 rfl), He.noat_ok (c.fact 31 rfl), He.noat_ok (c.fact 32 rfl), He.noat_ok (c.fact 33 rfl), He.noat_ok (c.fact 34 rfl)⟩
  obtain ⟨fd0, F0⟩ := c.def_ 0 (d := d_0) rfl
  obtain ⟨fd1, F1⟩ := c.def_ 1 (d := d_1) rfl
  obtain ⟨fd2, F2⟩ := c.def_ 2 (d := d_2) rfl
  obtain ⟨fd3, F3⟩ := c.def_ 3 (d := d_3) rfl
  obtain ⟨fd4, F4⟩ := c.def_ 4 (d := d_4) rfl
  obtain ⟨fd5, F5⟩ := c.def_ 5 (d := d_5) rfl
  obtain ⟨fd6, F6⟩ := c.def_ 6 (d := d_6) rfl
  obtain ⟨fd7, F7⟩ := c.def_ 7 (d := d_7) rfl
  obtain ⟨fd8, F8⟩ := c.def_ 8 (d := d_8) rfl
  obtain ⟨fd9, F9⟩ := c.def_ 9 (d := d_9) rfl
  have e := hfa.symm.trans (He.glo_ok X G (c.fact 35 (f := .glo "law") rfl))
  cases e
  have b := FunD.bindsA (ps := ["_law_script"]) F9 fun _ _ _ _ _ _ us hl => match us, hl with | [_], _ => rfl
  refine ⟨fd9, fun s v => b s [v] rfl, fun base _ _ => ?_⟩
  have KG_Settings___init__ := ok_Settings___init__ (P := P) (w := w) (base := base) T  F0
  obtain ⟨mv_0, KB_mk_Settings_1_block_sizes⟩ := FunD.kbinds0 (ps := ["self", "block_size", "block_sizes", "fixed_order", "linear_order", "search", "precision", "partition_order", "wide", "stereo", "wasted", "seek_interval", "vendor"]) F0 2 ["block_sizes"] [("fixed_order", V.int 4), ("linear_order", V.int 0), ("search", V.bl false), ("precision", V.int 12), ("partition_order", V.int 4), ("wide", V.bl false), ("stereo", V.bl true), ("wasted", V.bl true), ("seek_interval", V.int 0), ("vendor", V.str "")] (fun us mv ws => us ++ (ws.drop 0).take 1 ++ (mv.drop 0).take 10) (List.cons_ne_nil _ _) (by intro q hq; change q ∈ ([("block_sizes", V.non), ("fixed_order", V.int 4), ("linear_order", V.int 0), ("search", V.bl false), ("precision", V.int 12), ("partition_order", V.int 4), ("wide", V.bl false), ("stereo", V.bl true), ("wasted", V.bl true), ("seek_interval", V.int 0), ("vendor", V.str "")] : List (Str × V)); simp only [List.mem_cons, List.not_mem_nil, or_false] at hq ⊢; rcases hq with hq | hq | hq | hq | hq | hq | hq | hq | hq | hq <;> simp only [hq, eq_self, true_or, or_true]) (fun r1 r2 r3 => ((r1.append ((r3.drop 0).take 1)).append ((r2.drop 0).take 10))) (fun D doc pm an cdv ct us mv ws h1 h2 h3 => match us, mv, ws, h1, h2, h3 with | [_, _], [_, _, _, _, _, _, _, _, _, _], [_], _, _, _ => ⟨_, _, _, _, _, _, rfl, rfl, ⟨_, _, _, _, _, _, rfl, rfl, ⟨_, _, _, _, _, _, rfl, rfl, ⟨_, _, _, _, _, _, rfl, rfl, ⟨_, _, _, _, _, _, rfl, rfl, ⟨_, _, _, _, _, _, rfl, rfl, ⟨_, _, _, _, _, _, rfl, rfl, ⟨_, _, _, _, _, _, rfl, rfl, ⟨_, _, _, _, _, _, rfl, rfl, ⟨_, _, _, _, _, _, rfl, rfl, rfl⟩⟩⟩⟩⟩⟩⟩⟩⟩⟩)
  have mk_Settings_1_block_sizes : MkK P w K mg base CX0 1 "Settings" 1 ["block_sizes"] (fun vs zs => vs ++ (zs.drop 0).take 1 ++ ([V.int 4, V.int 0, V.bl false, V.int 12, V.int 4, V.bl false, V.bl true, V.bl true, V.int 0, V.str ""].drop 0).take 10) (sp_Settings___init__ K) := ⟨⟨fd0, _, _, KG_Settings___init__, KB_mk_Settings_1_block_sizes⟩, T.k_Settings, T.g_Settings⟩
  have G_block_sizes : Fd P w K mg base CX0 1 ("block_sizes", none) ["length", "settings"] (sp_block_sizes K) := ⟨⟨fd1, ok_block_sizes T  F1, (F1.bindsN fun _ _ _ _ _ _ us hl => match us, hl with | [_, _], _ => rfl)⟩, F1.kp⟩
  have G_block_starts : Fd P w K mg base CX0 1 ("block_starts", none) ["sizes"] (sp_block_starts K) := ⟨⟨fd2, ok_block_starts T  F2, (F2.bindsN fun _ _ _ _ _ _ us hl => match us, hl with | [_], _ => rfl)⟩, F2.kp⟩
  have G_size_range : Fd P w K mg base CX0 2 ("size_range", none) ["length", "settings"] (sp_size_range K) := ⟨⟨fd3, ok_size_range T G_block_sizes F3, (F3.bindsN fun _ _ _ _ _ _ us hl => match us, hl with | [_, _], _ => rfl)⟩, F3.kp⟩
  have G_law_cell : Fd P w K mg base CX0 1 ("_law_cell", none) ["_law_script", "_law_k"] (sp_law_cell K) := ⟨⟨fd4, ok_law_cell T  F4, (F4.bindsN fun _ _ _ _ _ _ us hl => match us, hl with | [_, _], _ => rfl)⟩, F4.kp⟩
  have G_law_integer : Fd P w K mg base CX0 1 ("_law_integer", none) ["_law_value"] (sp_law_integer K) := ⟨⟨fd5, ok_law_integer T  F5, (F5.bindsN fun _ _ _ _ _ _ us hl => match us, hl with | [_], _ => rfl)⟩, F5.kp⟩
  have G_law_integers : Fd P w K mg base CX0 2 ("_law_integers", none) ["_law_values"] (sp_law_integers K) := ⟨⟨fd6, ok_law_integers T G_law_integer F6, (F6.bindsN fun _ _ _ _ _ _ us hl => match us, hl with | [_], _ => rfl)⟩, F6.kp⟩
  have G_law_row : Fd P w K mg base CX0 1 ("_law_row", none) ["_law_cell_here", "_law_count", "_law_bound"] (sp_law_row K) := ⟨⟨fd7, ok_law_row T  F7, (F7.bindsN fun _ _ _ _ _ _ us hl => match us, hl with | [_, _, _], _ => rfl)⟩, F7.kp⟩
  have G_law_sizes : Fd P w K mg base CX0 1 ("_law_sizes", none) ["_law_length", "_law_told"] (sp_law_sizes K) := ⟨⟨fd8, ok_law_sizes T  F8, (F8.bindsN fun _ _ _ _ _ _ us hl => match us, hl with | [_, _], _ => rfl)⟩, F8.kp⟩
  exact ok_law T mk_Settings_1_block_sizes G_law_cell G_law_row G_law_sizes G_block_sizes G_law_integers G_block_starts G_size_range G_law_integer F9
end My
open PySem PySem.W PySem.Calls PyProof.Rows
set_option maxRecDepth 100000 in
set_option maxHeartbeats 0 in
theorem PySem.Challenge.cw_monochord_k72_blocks_of_audio_holds : PySem.Challenge.rw_monochord_k72_blocks_of_audio.Holds := by
  w_on; o_law
  refine HandSHeadRun.head_any (r := OpenLaw.row PySem.Challenge.rw_monochord_k72_blocks_of_audio) (q := view (OpenLaw.row PySem.Challenge.rw_monochord_k72_blocks_of_audio).prog [12]) (H := My.hk) (ob := My.ob) (M := 20000) (loose := My.loose) (d := HandSHeadRun.topDef (OpenLaw.row PySem.Challenge.rw_monochord_k72_blocks_of_audio).prog 12) (kwd := []) My.ob_eq
    (by kernel_rfl) (fun s => by kernel_rfl) My.run (by kernel_rfl) (by kernel_rfl) (by kernel_rfl) (by rfl) (by first | assumption | decide +kernel) (by decide +kernel) ⟨rfl, rfl, rfl, rfl, rfl, by decide +kernel⟩ ?hw ?hc
  case hw => w_witness2
  case hc =>
    refine L2.walk_ofE (l := PySem.Challenge.rw_monochord_k72_blocks_of_audio) (n := 63) (k := 3) (x := "_law_script") (CX := L2.CX0) rfl (by decide) (by kernel_rfl) ⟨rfl, by decide, by decide⟩ ?F (fun _ _ _ _ z => z)
    intro w mg fa h Y G hmg0
    obtain ⟨K, KX, c⟩ := Y
    have hmg : mg ("law" : PySem.Str) = some (.ref fa) := by
      have e : (HandSHeadRun.topDef (OpenLaw.row PySem.Challenge.rw_monochord_k72_blocks_of_audio).prog 12).name = ("law" : PySem.Str) := by kernel_rfl
      rw [← e]
      exact hmg0
    obtain ⟨fd, hb, hF⟩ := My.facts (P := (PySem.Challenge.rw_monochord_k72_blocks_of_audio).prog) (w := w) KX G hmg c
    exact ⟨K, fd, My.sp_law K, KX, hb, fun H a ns hl _ hS => ⟨H, [], a, ns, rfl, ⟨L2.Same.refl _, (fun p hp => by cases hp), List.nodup_nil⟩, hS, hl, fun _ _ _ _ => rfl⟩, hF⟩
#print axioms PySem.Challenge.cw_monochord_k72_blocks_of_audio_holds

