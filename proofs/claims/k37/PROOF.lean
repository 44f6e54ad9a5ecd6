import PyProof.Rows.All
import HandS.ForMost
import HandS.ForExc
import HandS.Deep
import HandS.Wide
import HandS.ExcCtx
import HandS.HotCalls
import HandS.RaiseFrom
import HandS.ExcIs
import HandS.ExcField
import HandS.ExcInit
import HandS.ExcInitHot
import HandS.TupAny
import HandS.TupLe
import HandS.IsInst
import HandS.SortRule
import HandS.SortInts
import HandS.More
import HandS.Comp
import HandS.Sort
import HandS.Ends
import HandS.Conv
import HandS.Rev
import HandS.Strs
import KE.DatumOrd
import KE.KIndexOf
import HandS.Style
import HandS.RevRange
import HandS.TupMul
import KE.GoesEnum
import HandS.SetFor
import HandS.TupSets
import KE.KExcInit
import KE.KExcLine
import HandS.Text
import PyProof.StrLawsTight
import KE.KIntText
import PySem.Challenge.RW_closedrings_k37_refused_asking
set_option Elab.async false
set_option linter.all false
set_option maxRecDepth 100000

set_option maxHeartbeats 2000000
/-! Fw1: data by value over the abstract heap; frames; readings over plain data -/
namespace Cr
open PySem PySem.Spec PyProof.Rows L2

abbrev PD := PyData
abbrev St := L2.St

/-! ### data as it stands, lists of it frozen -/
def keyD : Key → PD
  | .inl i => .int i
  | .inr x => .str x
def dkV (kvs : List (Key × Int)) : List (Key × V) := kvs.map fun p => (p.1, V.int p.2)
def dkD (kvs : List (Key × Int)) : List (PD × PD) := kvs.map fun p => (keyD p.1, PyData.int p.2)
mutual
inductive RepF (H : Hp) : V → PD → Prop
  | non : RepF H .non .none
  | bl (b : Bool) : RepF H (.bl b) (.bool b)
  | int (i : Int) : RepF H (.int i) (.int i)
  | str (x : Str) : RepF H (.str x) (.str x)
  | tup {a : Addr} {o : Obj} {xs : List V} {ds : List PD} : H a = some (.frz o (.tup xs)) → o.dict = none → RepsF H xs ds → RepF H (.ref a) (.tuple ds)
  | lst {a : Addr} {o : Obj} {xs : List V} {ds : List PD} : H a = some (.frz o (.lst xs)) → RepsF H xs ds → RepF H (.ref a) (.list ds)
  | dct {a : Addr} {kvs : List (Key × Int)} : H a = some (.dK (dkV kvs)) → RepF H (.ref a) (.dict (dkD kvs))
inductive RepsF (H : Hp) : List V → List PD → Prop
  | nil : RepsF H [] []
  | cons {v : V} {vs : List V} {d : PD} {ds : List PD} : RepF H v d → RepsF H vs ds → RepsF H (v :: vs) (d :: ds)
end

/-- all but lists that may be written is kept -/
def Fx (H H' : Hp) : Prop := ∀ b o, H b = some o → (∀ xs, o ≠ .lst xs) → H' b = some o
theorem _root_.L2.Same.fx {H H' : Hp} (s : Same H H') : Fx H H' := fun b o h _ => s b o h
theorem Fx.refl (H : Hp) : Fx H H := fun _ _ h _ => h
theorem Fx.trans {A B C : Hp} (x : Fx A B) (y : Fx B C) : Fx A C := fun b o h n => y b o (x b o h n) n

mutual
theorem RepF.fx {H H' : Hp} (s : Fx H H') : ∀ {v : V} {d : PD}, RepF H v d → RepF H' v d
  | _, _, .non => .non
  | _, _, .bl b => .bl b
  | _, _, .int i => .int i
  | _, _, .str x => .str x
  | _, _, .tup h z r => .tup (s _ _ h (fun _ z => nomatch z)) z (RepsF.fx s r)
  | _, _, .lst h r => .lst (s _ _ h (fun _ z => nomatch z)) (RepsF.fx s r)
  | _, _, .dct h => .dct (s _ _ h (fun _ z => nomatch z))
theorem RepsF.fx {H H' : Hp} (s : Fx H H') : ∀ {vs : List V} {ds : List PD}, RepsF H vs ds → RepsF H' vs ds
  | _, _, .nil => .nil
  | _, _, .cons a b => .cons (RepF.fx s a) (RepsF.fx s b)
end
theorem RepsF.length {H : Hp} : ∀ {vs : List V} {ds : List PD}, RepsF H vs ds → vs.length = ds.length
  | _, _, .nil => rfl
  | _, _, .cons _ t => by rw [List.length_cons, List.length_cons, RepsF.length t]
theorem RepsF.append {H : Hp} : ∀ {vs ws : List V} {ds es : List PD}, RepsF H vs ds → RepsF H ws es → RepsF H (vs ++ ws) (ds ++ es)
  | _, _, _, _, .nil, s => s
  | _, _, _, _, .cons r t, s => .cons r (RepsF.append t s)
theorem RepsF.get {H : Hp} : ∀ {vs : List V} {ds : List PD} {i : Nat} {d : PD}, RepsF H vs ds → ds[i]? = some d → ∃ v, vs[i]? = some v ∧ RepF H v d
  | _, _, _, _, .nil, e => by simp at e
  | _, _, 0, _, .cons r _, e => by simp at e; subst e; exact ⟨_, rfl, r⟩
  | _, _, i + 1, d, .cons _ t, e => by
    obtain ⟨u, h1, h2⟩ := RepsF.get (i := i) (d := d) t (by simpa using e)
    exact ⟨u, by simpa using h1, h2⟩
theorem RepsF.getV {H : Hp} : ∀ {vs : List V} {ds : List PD} {i : Nat} {v : V}, RepsF H vs ds → vs[i]? = some v → ∃ d, ds[i]? = some d ∧ RepF H v d
  | _, _, _, _, .nil, e => by simp at e
  | _, _, 0, _, .cons r _, e => by simp at e; subst e; exact ⟨_, rfl, r⟩
  | _, _, i + 1, d, .cons _ t, e => by
    obtain ⟨u, h1, h2⟩ := RepsF.getV (i := i) (v := d) t (by simpa using e)
    exact ⟨u, by simpa using h1, h2⟩
theorem RepsF.set {H : Hp} {v : V} {d : PD} (r : RepF H v d) : ∀ {vs : List V} {ds : List PD} (i : Nat), RepsF H vs ds → RepsF H (vs.set i v) (ds.set i d)
  | _, _, _, .nil => .nil
  | _, _, 0, .cons _ t => .cons r t
  | _, _, i + 1, .cons q t => .cons q (RepsF.set r i t)
theorem RepsF.take {H : Hp} : ∀ {vs : List V} {ds : List PD} (n : Nat), RepsF H vs ds → RepsF H (vs.take n) (ds.take n)
  | _, _, 0, _ => .nil
  | _, _, _ + 1, .nil => .nil
  | _, _, n + 1, .cons r t => .cons r (RepsF.take n t)
theorem RepsF.drop {H : Hp} : ∀ {vs : List V} {ds : List PD} (n : Nat), RepsF H vs ds → RepsF H (vs.drop n) (ds.drop n)
  | _, _, 0, r => r
  | _, _, _ + 1, .nil => .nil
  | _, _, n + 1, .cons _ t => RepsF.drop n t
theorem RepsF.eraseIdx {H : Hp} : ∀ {vs : List V} {ds : List PD} (n : Nat), RepsF H vs ds → RepsF H (vs.eraseIdx n) (ds.eraseIdx n)
  | _, _, _, .nil => .nil
  | _, _, 0, .cons _ t => t
  | _, _, n + 1, .cons r t => .cons r (RepsF.eraseIdx n t)
theorem RepsF.reverse {H : Hp} {vs : List V} {ds : List PD} (h : RepsF H vs ds) : RepsF H vs.reverse ds.reverse := by
  induction h using RepsF.rec (motive_1 := fun _ _ _ => True) with
  | nil => exact .nil
  | cons r t _ ih => rw [List.reverse_cons, List.reverse_cons]; exact ih.append (.cons r .nil)
  | _ => trivial
theorem RepsF.ints {H : Hp} : ∀ ns : List Int, RepsF H (ns.map V.int) (ns.map PyData.int)
  | [] => .nil
  | n :: r => .cons (.int n) (RepsF.ints r)
theorem RepsF.of_ints {H : Hp} : ∀ {ns : List Int} {vs : List V}, RepsF H vs (ns.map PyData.int) → vs = ns.map V.int
  | [], _, h => by cases h; rfl
  | n :: r, _, h => by
    cases h with
    | cons a b => cases a; rw [RepsF.of_ints b]; rfl

/-! ### into the library's reading of data -/
mutual
theorem RepF.dp (K : PySem.W.Frag) {H : Hp} : ∀ {v : V} {d : PD}, RepF H v d → d.hasDict = false → Dp K H v d
  | _, _, .non, _ => .non
  | _, _, .bl b, _ => .bl b
  | _, _, .int i, _ => .int i
  | _, _, .str x, _ => .str x
  | _, _, .tup h z r, e => .tup (.inl (.inr ⟨_, h⟩)) (RepsF.dp K r (by simpa [PyData.hasDict] using e))
  | _, _, .lst h r, e => .lst (.inl (.inr ⟨_, h⟩)) (RepsF.dp K r (by simpa [PyData.hasDict] using e))
  | _, _, .dct h, e => by simp [PyData.hasDict] at e
theorem RepsF.dp (K : PySem.W.Frag) {H : Hp} : ∀ {vs : List V} {ds : List PD}, RepsF H vs ds → PyData.hasDictAll ds = false → DpAll K H vs ds
  | _, _, .nil, _ => .nil
  | _, _, .cons a b, e => by
    rw [PyData.hasDictAll, Bool.or_eq_false_iff] at e
    exact .cons (RepF.dp K a e.1) (RepsF.dp K b e.2)
end
theorem pairs_reads {P : Program} {w : World} {h : Heap} : ∀ {kvs : List (Key × Int)} {vs : List (Key × Value)} {es : List DictEntry}, KV (dkV kvs) vs → Pairs (mixKind P w) es vs →
    ReadsAll h (es.map (·.key)) ((dkD kvs).map (·.1)) [] ∧ ReadsAll h (es.map (·.val)) ((dkD kvs).map (·.2)) []
  | [], _, _, rel, pr => by cases rel; cases pr; exact ⟨.nil, .nil⟩
  | kv :: kvs, _, _, rel, pr => by
    obtain ⟨k, n⟩ := kv
    cases rel with
    | cons r1 rs =>
      cases pr with
      | cons p1 p2 ps =>
        obtain ⟨a1, a2⟩ := pairs_reads (P := P) (w := w) (h := h) rs ps
        obtain ⟨e1, t, e2⟩ := r1
        refine ⟨?_, ?_⟩
        · rw [← e1] at p1
          rcases keyIs_shape p1 with ⟨i, t', rfl, e3⟩ | ⟨x, t', rfl, e3⟩
          · rw [List.map_cons, e3]; exact .cons (.int _ _) a1
          · rw [List.map_cons, e3]; exact .cons (.str _ _) a1
        · rw [List.map_cons, p2, e2]; exact .cons (.int _ _) a2
theorem dict_reads {X : Cx} {pins : List (Addr × Obj)} {σ : L2.St} {H : Hp} {s : Shared} (I : Inv X pins σ H s) {a : Addr} {kvs : List (Key × Int)} (e : H a = some (.dK (dkV kvs))) : Reads s.heap (.ref a) (.dict (dkD kvs)) [a] ∧ sysModules ∉ [a] := by
  obtain ⟨_, hd, vs, rel, o, es, ep, ho, ex, hdt, _, pr, _⟩ := dk_of I.hok e
  obtain ⟨a1, a2⟩ := pairs_reads (h := s.heap) rel pr
  refine ⟨.dict (as := []) (bs := []) ho ex.1 hdt (by simpa using a1) (by simpa using a2), fun hm => ?_⟩
  rw [List.mem_singleton] at hm
  rw [hm] at hd
  simp at hd

/-! ### what a slot, an argument, a result is -/
/-- unset; data; a list of the frame's own that may be written; a list that is read; anything else, by what is true of it -/
inductive D where
  | unset
  | val (d : PD)
  | new (ds : List PD)
  | bor (ds : List PD)
  | scr (ds : List PD)
  | ext (φ : Hp → V → Prop)

/-- a list that nobody writes: frozen, or the module's own -/
def SqK (K : PySem.W.Frag) (H : Hp) (a : Addr) (xs : List V) : Prop := (∃ o, H a = some (.frz o (.lst xs))) ∨
    ∃ (o : Obj) (its : Array Value) (n : Nat), K.lookup a = some o ∧ o.cls = .type "list" ∧ o.dict = none ∧ o.data = .seq its n ∧ its.size ≤ sizeLine ∧ Vals xs its.toList
theorem SqK.fx {K : PySem.W.Frag} {H H' : Hp} {a : Addr} {xs : List V} (s : Fx H H') (h : SqK K H a xs) : SqK K H' a xs := by
  rcases h with ⟨o, h⟩ | h
  · exact .inl ⟨o, s _ _ h (fun _ z => nomatch z)⟩
  · exact .inr h
theorem SqK.sq {K : PySem.W.Frag} {H : Hp} {a : Addr} {xs : List V} (h : SqK K H a xs) : SqL K H a xs := by
  rcases h with ⟨o, h⟩ | h
  · exact .inl (.inr ⟨o, h⟩)
  · exact .inr h
theorem rd_same {H H' : Hp} {a : Addr} {u : HO} (s : Same H H') (h : Rd H a u) : Rd H' a u := by
  rcases h with h | ⟨o, h⟩
  · exact .inl (s _ _ h)
  · exact .inr ⟨o, s _ _ h⟩

def Stab (φ : Hp → V → Prop) (v : V) : Prop := ∀ H H', Fx H H' → φ H v → φ H' v

structure Bs where
  e : Hp
  h : Hp
section
variable (K : PySem.W.Frag)
/-- a result at H; Hs: the heap ahead -/
def ResOk (Hs H : Hp) (v : V) : D → Prop
  | .unset => False
  | .val d => RepF H v d
  | .new ds => ∃ a vs, v = .ref a ∧ Hs a = none ∧ H a = some (.lst vs) ∧ RepsF H vs ds
  | .bor ds => ∃ a vs, v = .ref a ∧ Rd H a (.lst vs) ∧ RepsF H vs ds
  | .scr ds => ∃ a vs, v = .ref a ∧ SqK K H a vs ∧ RepsF H vs ds
  | .ext φ => Stab φ v ∧ φ H v
/-- a slot at H; B.h: the heap behind which the frame's own things are new; B.e: the heap at the entry -/
def SlotOk (B : Bs) (H : Hp) (sv : Option (Option V)) : D → Prop
  | .unset => True
  | .val d => ∃ v, sv = some (some v) ∧ RepF H v d
  | .new ds => ∃ a vs, sv = some (some (.ref a)) ∧ B.h a = none ∧ H a = some (.lst vs) ∧ RepsF H vs ds
  | .bor ds => ∃ a vs, sv = some (some (.ref a)) ∧ Rd B.e a (.lst vs) ∧ RepsF H vs ds
  | .scr ds => ∃ a vs, sv = some (some (.ref a)) ∧ SqK K H a vs ∧ RepsF H vs ds
  | .ext φ => ∃ v, sv = some (some v) ∧ Stab φ v ∧ φ H v
/-- an argument -/
def ArgOk (H : Hp) (v : V) : D → Prop
  | .unset => False
  | .val d => RepF H v d
  | .new _ => False
  | .bor ds => ∃ a vs, v = .ref a ∧ Rd H a (.lst vs) ∧ RepsF H vs ds
  | .scr ds => ∃ a vs, v = .ref a ∧ SqK K H a vs ∧ RepsF H vs ds
  | .ext φ => Stab φ v ∧ φ H v
end

abbrev En := List D

structure Fm (K : PySem.W.Frag) (H0 : Bs) (H : Hp) (σ : St) (ρ : En) : Prop where
  same : Same H0.h H
  ent : Same H0.e H0.h
  len : σ.length = ρ.length
  slot : ∀ (i : Nat) (d : D), ρ[i]? = some d → SlotOk K H0 H σ[i]? d
  apart : ∀ (i j : Nat) (ds es : List PD) (a : Addr), ρ[i]? = some (.new ds) → ρ[j]? = some (.new es) → σ[i]? = some (some (.ref a)) → σ[j]? = some (some (.ref a)) → i = j

section
variable {K : PySem.W.Frag} {H0 : Bs} {H H' : Hp} {σ : St} {ρ : En} {i : Nat} {v : V} {d : PD} {ds : List PD} {a : Addr} {vs : List V}

theorem ResOk.mono {Hs : Hp} {x : D} (s : Same H H') (h : ResOk K Hs H v x) : ResOk K Hs H' v x := by
  cases x with
  | unset => exact h
  | val d => exact RepF.fx s.fx h
  | new ds => obtain ⟨a, vs, e, n, q, r⟩ := h; exact ⟨a, vs, e, n, s _ _ q, r.fx s.fx⟩
  | bor ds => obtain ⟨a, vs, e, q, r⟩ := h; exact ⟨a, vs, e, rd_same s q, r.fx s.fx⟩
  | scr ds => obtain ⟨a, vs, e, q, r⟩ := h; exact ⟨a, vs, e, q.fx s.fx, r.fx s.fx⟩
  | ext φ => exact ⟨h.1, h.1 _ _ s.fx h.2⟩
theorem ResOk.weak {Hs Hs' : Hp} {x : D} (s : Same Hs' Hs) (h : ResOk K Hs H v x) : ResOk K Hs' H v x := by
  cases x with
  | unset => exact h
  | val d => exact h
  | new ds => obtain ⟨a, vs, e, n, q, r⟩ := h; exact ⟨a, vs, e, s.free n, q, r⟩
  | bor ds => exact h
  | scr ds => exact h
  | ext φ => exact h

theorem SlotOk.mono {sv : Option (Option V)} {x : D} (s : Same H H') (h : SlotOk K H0 H sv x) : SlotOk K H0 H' sv x := by
  cases x with
  | unset => exact h
  | val d => obtain ⟨v, e, r⟩ := h; exact ⟨v, e, r.fx s.fx⟩
  | new ds => obtain ⟨a, vs, e, n, q, r⟩ := h; exact ⟨a, vs, e, n, s _ _ q, r.fx s.fx⟩
  | bor ds => obtain ⟨a, vs, e, q, r⟩ := h; exact ⟨a, vs, e, q, r.fx s.fx⟩
  | scr ds => obtain ⟨a, vs, e, q, r⟩ := h; exact ⟨a, vs, e, q.fx s.fx, r.fx s.fx⟩
  | ext φ => obtain ⟨v, e, st, r⟩ := h; exact ⟨v, e, st, st _ _ s.fx r⟩
theorem Fm.mono (F : Fm K H0 H σ ρ) (s : Same H H') : Fm K H0 H' σ ρ :=
  ⟨F.same.trans s, F.ent, F.len, fun i d e => (F.slot i d e).mono s, F.apart⟩

/-- what an own list is: written, all else stays -/
theorem Fx.upd_lst {o : HO} (h : H a = some (.lst vs)) : Fx H (upd H a o) := fun b u e n => by
  have : b ≠ a := fun z => by subst z; rw [h] at e; cases e; exact n _ rfl
  rw [upd_ne this]; exact e
theorem _root_.L2.Same.upd_new {H0 H : Hp} {a : Addr} {o : HO} (s : Same H0 H) (n : H0 a = none) : Same H0 (upd H a o) := fun b u e => by
  rw [upd_ne (ne_of_none e n)]; exact s b u e

theorem get_set {α : Type} {l : List α} {i j : Nat} {x y : α} (h : (l.set i x)[j]? = some y) : (j = i ∧ y = x ∧ i < l.length) ∨ (j ≠ i ∧ l[j]? = some y) := by
  by_cases hj : j = i
  · subst hj
    by_cases hl : j < l.length
    · rw [List.getElem?_set_self hl] at h; cases h; exact .inl ⟨rfl, rfl, hl⟩
    · rw [List.getElem?_eq_none (by simpa using hl)] at h; cases h
  · rw [List.getElem?_set_ne (Ne.symm hj)] at h; exact .inr ⟨hj, h⟩

/-- a slot is set to a result -/
@[simp] def Plain : D → Prop
  | .val _ | .ext _ | .new _ | .scr _ => True
  | _ => False
theorem Fm.setRes {Hs : Hp} {x : D} (F : Fm K H0 Hs σ ρ) (s : Same Hs H) (r : ResOk K Hs H v x) (p : Plain x) : Fm K H0 H (σ.set i (some v)) (ρ.set i x) := by
  have F2 := F.mono s
  refine ⟨F2.same, F.ent, by rw [List.length_set, List.length_set]; exact F.len, fun j d e => ?_, fun j k es fs a e1 e2 e3 e4 => ?_⟩
  · rcases get_set e with ⟨rfl, rfl, hl⟩ | ⟨hj, e⟩
    · rw [List.getElem?_set_self (by rw [F.len]; exact hl)]
      cases d with
      | unset => trivial
      | val d => exact ⟨v, rfl, r⟩
      | new ds => obtain ⟨a, vs, rfl, n, q, r⟩ := r; exact ⟨a, vs, rfl, F.same.free n, q, r⟩
      | bor ds => exact False.elim p
      | scr ds => obtain ⟨a, vs, rfl, q, r⟩ := r; exact ⟨a, vs, rfl, q, r⟩
      | ext φ => exact ⟨v, rfl, r.1, r.2⟩
    · rw [List.getElem?_set_ne (Ne.symm hj)]
      exact F2.slot j d e
  · have key : ∀ k es a, k ≠ i → ρ[k]? = some (.new es) → σ[k]? = some (some (.ref a)) → ∀ ds, x = .new ds → v = .ref a → False := fun k es a hk h1 h2 ds hx hv => by
      obtain ⟨a', vs', q1, _, q2, _⟩ := F.slot k _ h1
      rw [h2] at q1
      have ea : a = a' := by cases q1; rfl
      subst ea
      subst hx
      obtain ⟨a2, _, q3, q4, _⟩ := r
      rw [hv] at q3
      have : a = a2 := by cases q3; rfl
      subst this
      rw [q2] at q4; cases q4
    rcases get_set e1 with ⟨rfl, z1, _⟩ | ⟨hj, e1'⟩
    · rcases get_set e3 with ⟨_, z3, _⟩ | ⟨hh, _⟩
      · rcases get_set e2 with ⟨rfl, _, _⟩ | ⟨hk, e2⟩
        · rfl
        · rw [List.getElem?_set_ne (Ne.symm hk)] at e4
          have z3' : v = .ref a := by cases z3; rfl
          exact (key k fs a hk e2 e4 es z1.symm z3').elim
      · exact absurd rfl hh
    · rw [List.getElem?_set_ne (Ne.symm hj)] at e3
      rcases get_set e2 with ⟨hk, z2, _⟩ | ⟨hk, e2⟩
      · rcases get_set e4 with ⟨_, z4, _⟩ | ⟨hh, _⟩
        · have z4' : v = .ref a := by cases z4; rfl
          exact (key j es a hj e1' e3 fs z2.symm z4').elim
        · exact absurd hk hh
      · rw [List.getElem?_set_ne (Ne.symm hk)] at e4
        exact F2.apart j k es fs a e1' e2 e3 e4

/-- an own list is rewritten -/
theorem Fm.upd {es : List PD} {ws : List V} (F : Fm K H0 H σ ρ) (hi : ρ[i]? = some (.new ds)) (hs : σ[i]? = some (some (.ref a))) (hH : H a = some (.lst vs)) (r : RepsF H ws es) :
    Fm K H0 (upd H a (.lst ws)) σ (ρ.set i (.new es)) := by
  obtain ⟨a', vs', q1, q2, q3, q4⟩ := F.slot i _ hi
  rw [hs] at q1
  have ea : a = a' := by cases q1; rfl
  subst ea
  have fx : Fx H (L2.upd H a (.lst ws)) := Fx.upd_lst hH
  have keep : ∀ b o, b ≠ a → H b = some o → (L2.upd H a (.lst ws)) b = some o := fun b o n e => by rw [upd_ne n]; exact e
  refine ⟨F.same.upd_new q2, F.ent, by rw [List.length_set]; exact F.len, fun j d e => ?_, fun j k es' fs b e1 e2 e3 e4 => ?_⟩
  · rcases get_set e with ⟨rfl, rfl, hl⟩ | ⟨hj, e⟩
    · exact ⟨a, ws, hs, q2, upd_same, r.fx fx⟩
    · have z := F.slot j d e
      cases d with
      | unset => trivial
      | val d => obtain ⟨v, e, r⟩ := z; exact ⟨v, e, r.fx fx⟩
      | new ds' =>
        obtain ⟨b, us, e', n, q, r⟩ := z
        have hb : b ≠ a := fun z => by subst z; exact hj (F.apart j i _ _ _ e hi e' hs)
        exact ⟨b, us, e', n, keep b _ hb q, r.fx fx⟩
      | bor ds' => obtain ⟨b, us, e', q, r⟩ := z; exact ⟨b, us, e', q, r.fx fx⟩
      | scr ds' => obtain ⟨b, us, e', q, r⟩ := z; exact ⟨b, us, e', q.fx fx, r.fx fx⟩
      | ext φ => obtain ⟨v, e, st, r⟩ := z; exact ⟨v, e, st, st _ _ fx r⟩
  · have h1 : ∃ es', ρ[j]? = some (.new es') := by
      rcases get_set e1 with ⟨rfl, _, _⟩ | ⟨_, e1⟩
      · exact ⟨_, hi⟩
      · exact ⟨_, e1⟩
    have h2 : ∃ es', ρ[k]? = some (.new es') := by
      rcases get_set e2 with ⟨rfl, _, _⟩ | ⟨_, e2⟩
      · exact ⟨_, hi⟩
      · exact ⟨_, e2⟩
    obtain ⟨_, h1⟩ := h1
    obtain ⟨_, h2⟩ := h2
    exact F.apart j k _ _ b h1 h2 e3 e4
/-- an own list is frozen -/
theorem Fm.freeze {o : Obj} (F : Fm K H0 H σ ρ) (hi : ρ[i]? = some (.new ds)) (hs : σ[i]? = some (some (.ref a))) (hH : H a = some (.lst vs)) :
    Fm K H0 (L2.upd H a (.frz o (.lst vs))) σ (ρ.set i (.val (.list ds))) := by
  obtain ⟨a', vs', q1, q2, q3, q4⟩ := F.slot i _ hi
  rw [hs] at q1
  have ea : a = a' := by cases q1; rfl
  subst ea
  have ev : vs = vs' := by rw [hH] at q3; cases q3; rfl
  subst ev
  have fx : Fx H (L2.upd H a (.frz o (.lst vs))) := Fx.upd_lst hH
  have keep : ∀ b u, b ≠ a → H b = some u → (L2.upd H a (.frz o (.lst vs))) b = some u := fun b u n e => by rw [upd_ne n]; exact e
  refine ⟨F.same.upd_new q2, F.ent, by rw [List.length_set]; exact F.len, fun j d e => ?_, fun j k es' fs b e1 e2 e3 e4 => ?_⟩
  · rcases get_set e with ⟨rfl, rfl, hl⟩ | ⟨hj, e⟩
    · exact ⟨.ref a, hs, .lst upd_same (q4.fx fx)⟩
    · have z := F.slot j d e
      cases d with
      | unset => trivial
      | val d => obtain ⟨v, e, r⟩ := z; exact ⟨v, e, r.fx fx⟩
      | new ds' =>
        obtain ⟨b, us, e', n, q, r⟩ := z
        have hb : b ≠ a := fun z => by subst z; exact hj (F.apart j i _ _ _ e hi e' hs)
        exact ⟨b, us, e', n, keep b _ hb q, r.fx fx⟩
      | bor ds' => obtain ⟨b, us, e', q, r⟩ := z; exact ⟨b, us, e', q, r.fx fx⟩
      | scr ds' => obtain ⟨b, us, e', q, r⟩ := z; exact ⟨b, us, e', q.fx fx, r.fx fx⟩
      | ext φ => obtain ⟨v, e, st, r⟩ := z; exact ⟨v, e, st, st _ _ fx r⟩
  · have h1 : ρ[j]? = some (.new es') := by
      rcases get_set e1 with ⟨_, z, _⟩ | ⟨_, e1⟩
      · cases z
      · exact e1
    have h2 : ρ[k]? = some (.new fs) := by
      rcases get_set e2 with ⟨_, z, _⟩ | ⟨_, e2⟩
      · cases z
      · exact e2
    exact F.apart j k _ _ b h1 h2 e3 e4
end

/-! ### exceptions by value -/
/-- the class's name, its fields -/
abbrev Ex := Str × List (Str × PD)
def FsOk (H : Hp) : List (Str × V) → List (Str × PD) → Prop
  | [], [] => True
  | (a, v) :: r, (b, d) :: s => a = b ∧ RepF H v d ∧ FsOk H r s
  | _, _ => False
theorem FsOk.fx {H H' : Hp} (s : Fx H H') : ∀ {xs : List (Str × V)} {ys : List (Str × PD)}, FsOk H xs ys → FsOk H' xs ys
  | [], [], _ => trivial
  | (_, _) :: _, (_, _) :: _, ⟨a, b, c⟩ => ⟨a, b.fx s, FsOk.fx s c⟩
  | [], _ :: _, h => h.elim
  | _ :: _, [], h => h.elim
def FldOk (H : Hp) (x : Ex) (d : Option Addr) : Prop := (x.2 = [] ∧ d = none) ∨ (x.2 ≠ [] ∧ ∃ p vs, d = some p ∧ H p = some (.xd vs) ∧ FsOk H vs x.2)
def ExOk (mg : Str → Option Value) (H : Hp) (x : Ex) (cls : Value) (d : Option Addr) : Prop := mg x.1 = some cls ∧ FldOk H x d

/-! ### readings over plain data -/
/-- a continuation that rewriting does not enter before its value is known -/
class KI where
  go : D → Prop
def kontI [i : KI] : D → Prop := i.go

@[simp] theorem kont_val (P : D → Prop) (d : PD) : @kontI ⟨P⟩ (.val d) = P (.val d) := rfl
@[simp] theorem kont_new (P : D → Prop) (d : List PD) : @kontI ⟨P⟩ (.new d) = P (.new d) := rfl
@[simp] theorem kont_bor (P : D → Prop) (d : List PD) : @kontI ⟨P⟩ (.bor d) = P (.bor d) := rfl
@[simp] theorem kont_scr (P : D → Prop) (d : List PD) : @kontI ⟨P⟩ (.scr d) = P (.scr d) := rfl
@[simp] theorem kont_ext (P : D → Prop) (φ : Hp → V → Prop) : @kontI ⟨P⟩ (.ext φ) = P (.ext φ) := rfl
abbrev EE := En → (D → Prop) → (Ex → Prop) → Prop
abbrev EA := En → (List D → Prop) → (Ex → Prop) → Prop
abbrev ET := En → (Bool → Prop) → (Ex → Prop) → Prop
structure Nd where
  nx : En → Prop
  rt : D → Prop
  bk : En → Prop := fun _ => False
  ct : En → Prop := fun _ => False
  ex : Ex → En → Prop := fun _ _ => False
abbrev ES := Nd → En → Prop

/-- the ends of a context: what an exception is wished to be -/
structure Wx where
  W : WX
  mg : Str → Option Value

section
variable (K : PySem.W.Frag) (w : Wx)
def ExTo (σ : St) (H : Hp) (E : Ex → Prop) : Prop := ∀ x, E x → ∀ cls dd H', Same H H' → ExOk w.mg H' x cls dd → w.W cls dd σ H'
def tD (f : EE) : TE := fun σ H Q => ∃ H0 ρ P E, Fm K H0 H σ ρ ∧ f ρ P E ∧ (∀ d, P d → ∀ v H', Same H H' → ResOk K H H' v d → Q v H') ∧ ExTo w σ H E
def AllOk (Hs H : Hp) : List V → List D → Prop
  | [], [] => True
  | v :: vs, d :: ds => ResOk K Hs H v d ∧ AllOk Hs H vs ds
  | _, _ => False
def tDA (f : EA) : TA := fun σ H Q => ∃ H0 ρ P E, Fm K H0 H σ ρ ∧ f ρ P E ∧ (∀ ds, P ds → ∀ vs H', Same H H' → AllOk K H H' vs ds → Q vs H') ∧ ExTo w σ H E
def tDT (f : ET) : TT := fun σ H Q => ∃ H0 ρ P E, Fm K H0 H σ ρ ∧ f ρ P E ∧ (∀ b, P b → ∀ H', Same H H' → Q b H') ∧ ExTo w σ H E
structure NdOk (H0 : Bs) (d : Nd) (T : Ends) : Prop where
  nx : ∀ ρ σ H, Fm K H0 H σ ρ → d.nx ρ → T.nx σ H
  bk : ∀ ρ σ H, Fm K H0 H σ ρ → d.bk ρ → T.bk σ H
  ct : ∀ ρ σ H, Fm K H0 H σ ρ → d.ct ρ → T.ct σ H
  rt : ∀ r v H, Same H0.h H → ResOk K H0.h H v r → d.rt r → T.rt v H
  ex : ∀ x ρ σ H cls dd, Fm K H0 H σ ρ → d.ex x ρ → ExOk w.mg H x cls dd → w.W cls dd σ H
def tDS (f : ES) : TS := fun T σ H => ∃ H0 ρ d, Fm K H0 H σ ρ ∧ f d ρ ∧ NdOk K w H0 d T
end
theorem AllOk.mono {K : PySem.W.Frag} {Hs H H' : Hp} (s : Same H H') : ∀ {vs : List V} {ds : List D}, AllOk K Hs H vs ds → AllOk K Hs H' vs ds
  | [], [], _ => trivial
  | _ :: _, _ :: _, ⟨a, b⟩ => ⟨a.mono s, AllOk.mono s b⟩
  | [], _ :: _, h => h.elim
  | _ :: _, [], h => h.elim
theorem AllOk.weak {K : PySem.W.Frag} {Hs Hs' H : Hp} (s : Same Hs' Hs) : ∀ {vs : List V} {ds : List D}, AllOk K Hs H vs ds → AllOk K Hs' H vs ds
  | [], [], _ => trivial
  | _ :: _, _ :: _, ⟨a, b⟩ => ⟨a.weak s, AllOk.weak s b⟩
  | [], _ :: _, h => h.elim
  | _ :: _, [], h => h.elim
theorem ExTo.mono {w : Wx} {σ : St} {H H' : Hp} {E : Ex → Prop} (s : Same H H') (h : ExTo w σ H E) : ExTo w σ H' E := fun x e cls dd H2 s2 q => h x e cls dd H2 (s.trans s2) q
theorem NdOk.exTo {K : PySem.W.Frag} {w : Wx} {H0 : Bs} {H : Hp} {d : Nd} {T : Ends} {σ : St} {ρ : En} (N : NdOk K w H0 d T) (F : Fm K H0 H σ ρ) : ExTo w σ H (fun x => d.ex x ρ) :=
  fun x e cls dd H' s q => N.ex x ρ σ H' cls dd (F.mono s) e q

section
variable (X : Cx) (w : Wx)
abbrev DE (e : Expr) (f : EE) : Prop := PE X e (tD X.K w f)
abbrev DA (es : List Expr) (f : EA) : Prop := PA X es (tDA X.K w f)
abbrev DT (e : Expr) (f : ET) : Prop := PT X e (tDT X.K w f)
abbrev DW (e : Expr) (f : ET) : Prop := PW X e (tDT X.K w f)
abbrev DS (st : Stmt) (f : ES) : Prop := PS X st (tDS X.K w f)
abbrev DSs (st : List Stmt) (f : ES) : Prop := PSs X st (tDS X.K w f)
end
/-- a reading that asks more -/
theorem _root_.L2.PE.imp {X : Cx} {e : Expr} {t t' : TE} (h : PE X e t) (i : ∀ σ H Q, t' σ H Q → t σ H Q) : PE X e t' := ⟨fun pins s σ H Q I q => h.run pins s σ H Q I (i _ _ _ q)⟩
theorem _root_.L2.PT.imp {X : Cx} {e : Expr} {t t' : TT} (h : PT X e t) (i : ∀ σ H Q, t' σ H Q → t σ H Q) : PT X e t' := ⟨fun pins s σ H Q I q => h.run pins s σ H Q I (i _ _ _ q)⟩
theorem _root_.L2.PW.imp {X : Cx} {e : Expr} {t t' : TT} (h : PW X e t) (i : ∀ σ H Q, t' σ H Q → t σ H Q) : PW X e t' := ⟨fun wh pins s σ H Q I q => h.run wh pins s σ H Q I (i _ _ _ q)⟩
theorem _root_.L2.PA.imp {X : Cx} {es : List Expr} {t t' : TA} (h : PA X es t) (i : ∀ σ H Q, t' σ H Q → t σ H Q) : PA X es t' := ⟨fun p pins s σ H Q I q => h.run p pins s σ H Q I (i _ _ _ q)⟩
theorem _root_.L2.PS.imp {X : Cx} {st : Stmt} {t t' : TS} (h : PS X st t) (i : ∀ T σ H, t' T σ H → t T σ H) : PS X st t' := ⟨fun pins s σ H T I q => h.run pins s σ H T I (i _ _ _ q)⟩
theorem _root_.L2.PSs.imp {X : Cx} {st : List Stmt} {t t' : TS} (h : PSs X st t) (i : ∀ T σ H, t' T σ H → t T σ H) : PSs X st t' := ⟨fun pins s σ H T I q => h.run pins s σ H T I (i _ _ _ q)⟩
end Cr
set_option maxHeartbeats 2000000
/-! Fw2: promises over plain data, bodies, calls, the law's end -/
namespace Cr
open PySem PySem.Spec PyProof.Rows L2

section
variable {X : Cx} {pins : List (Addr × Obj)} {σ : St} {H : Hp} {s : Shared} {a : Addr}
/-- the object at a is told of otherwise -/
theorem ghost {o o' : HO} (I : Inv X pins σ H s) (hq : H a = some o) (mu : Mut (some o)) (new : ObjOk X.prog X.w (upd H a o') s.heap a o') : Inv X pins σ (upd H a o') s := by
  obtain ⟨u, hu⟩ := objOk_get new
  exact I.write (x := a) (e := a) (h' := s.heap) (t' := s.toks) (by rw [hq]; exact mu) (.inl rfl) (fun _ _ _ e => e) ⟨u, hu⟩ new
theorem freeze_at {vs : List V} (I : Inv X pins σ H s) (hq : H a = some (.lst vs)) : ∃ o, Inv X pins σ (upd H a (.frz o (.lst vs))) s := by
  obtain ⟨z, its, n, r, e⟩ := I.hok a _ hq
  exact ⟨_, ghost I hq trivial ⟨e, z, its, n, r, e⟩⟩
end

theorem takesN {X : Cx} : L2N.Takes X (fun _ _ _ _ => False) := fun u s' ⟨a, B, sI, pins, σ, H, cls, d, h⟩ => h.2.2.2.2.2.2.2.2.elim
/-! ### a promise, where no repr is under way -/
structure FnG (P : Program) (w : World) (K : PySem.W.Frag) (mg : Str → Option Value) (base : Heap) (k : Nat) (f : Addr) (fd : FuncData) (ps : List Str) (sp : Sp) : Prop where
  len : ∀ vs H Q E, sp vs H Q E → vs.length = ps.length
  run : ∀ (A : Around) (outer : List Env) (s : Shared) (H : Hp) (args : Args) (us : List Value) (vs : List V) (Q : VK) (E : XK), Room k A → A.guards = some [] → Env0 P w K mg base A outer s H →
    BindsTo s fd args (ps.zip us) → Vals vs us → sp vs H Q E → codeAny (model P w) A (.call (.ref f) args) (CR (L2N.CX P w) outer P w H s Q E) s
theorem FnG.mono {P : Program} {w : World} {K : PySem.W.Frag} {mg : Str → Option Value} {base : Heap} {j k : Nat} {f : Addr} {fd : FuncData} {ps : List Str} {sp : Sp} (F : FnG P w K mg base j f fd ps sp) (h : j ≤ k) :
    FnG P w K mg base k f fd ps sp := ⟨F.len, fun A outer s H args us vs Q E hr => F.run A outer s H args us vs Q E (hr.mono h)⟩

section
variable {P : Program} {w : World} {K : PySem.W.Frag} {mg : Str → Option Value} {base : Heap}
theorem fnG_of {x qual : Str} {st : Stmt} {f : Addr} {fd : FuncData} {N ps : List Str} {k : Nat} {sp : Sp} (F : Fun K x qual st f fd) (S : FnScope N ps (defScope st)) (len : ∀ vs H Q E, sp vs H Q E → vs.length = ps.length)
    (body : ∀ (cdv : Value) (A : Around) (outer : List Env) (s : Shared) (H : Hp) (vs : List V) (Q : VK) (E : XK), Room k (A.deeper (envOfC qual (defScope st) s.heap.objs.size f cdv)) → A.guards = some [] → sp vs H Q E →
      ∃ t, PSs (cxOf (L2N.CX P w) P w K mg base N qual (defScope st) f cdv A outer s H E) (defBody st) t ∧ t { nx := fun _ H' => Q .non H', rt := Q } (L2.start N vs) H) :
    FnG P w K mg base (k + 1) f fd ps sp := by
  obtain ⟨oc, od, kV, doc, pm, an, cdv, ct, osl, rfl, lk, hcd⟩ := F.ex
  refine ⟨len, ?_⟩
  intro A outer s H args us vs Q E hr hgu e0 hb r hsp
  have hlen := len _ _ _ _ hsp
  have KX : K.In s.heap := e0.mod.kin.keeps fun b o e => (e0.bs b o e).1
  have nolim : s.heap.NoLimit := e0.mod.nolimit.keeps fun b o e => (e0.bs b o e).1
  refine codeAny_call_function hr.depth (KX _ _ lk) rfl S.co S.gen rfl (PySem.W.codeRec_of KX hcd) (hb _ _ _ _ ?_)
  refine wpAny_newFunctionEnv_cells S.kind ?_ ?_
  · intro y hy
    obtain ⟨n, v⟩ := y
    cases S.par n (List.of_mem_zip hy).1 with
    | inl q => exact .inl q
    | inr q => exact .inr ⟨q, PySem.W.cellsFrom_some _ _ _ (.inl q)⟩
  · intro env he s1 x
    subst he
    refine ⟨nolim.keeps x.toInCall.keep, codeAny_func ?_⟩
    obtain ⟨t, ht, hq⟩ := body cdv A outer s H vs Q E (hr.deeper _) hgu hsp
    have I : Inv (cxOf (L2N.CX P w) P w K mg base N qual (defScope st) f cdv A outer s H E) [] (L2.start N vs) H s1 := inv_start S hr.hd e0 hlen r x
    refine wpAny_mono (ht.run [] s1 (L2.start N vs) H _ I hq) ?_ fun _ _ hs => hs
    intro fl s' hs
    cases fl with
    | ret u => obtain ⟨v, σ', H', J, rv, q⟩ := hs; exact ⟨v, H', J.os, J.bare, J.base, J.hok, rv, q⟩
    | next => obtain ⟨σ', H', J, q⟩ := hs; exact ⟨V.non, H', J.os, J.bare, J.base, J.hok, rfl, q⟩
    | brk => obtain ⟨_, _, _, q⟩ := hs; exact q.elim
    | cont => obtain ⟨_, _, _, q⟩ := hs; exact q.elim
end

/-! ### promises over plain data -/
abbrev DSp := List D → (D → Prop) → (Ex → Prop) → Prop
def ArgsOk (K : PySem.W.Frag) (H : Hp) : List V → List D → Prop
  | [], [] => True
  | v :: vs, d :: ds => ArgOk K H v d ∧ ArgsOk K H vs ds
  | _, _ => False
theorem ArgsOk.length {K : PySem.W.Frag} {H : Hp} : ∀ {vs : List V} {ds : List D}, ArgsOk K H vs ds → vs.length = ds.length
  | [], [], _ => rfl
  | _ :: _, _ :: _, h => by rw [List.length_cons, List.length_cons, ArgsOk.length h.2]
  | [], _ :: _, h => h.elim
  | _ :: _, [], h => h.elim
def spD (K : PySem.W.Frag) (mg : Str → Option Value) (n : Nat) (S : DSp) : Sp := fun vs H Q E => ∃ ds P E', ds.length = n ∧ ArgsOk K H vs ds ∧ S ds P E' ∧
  (∀ d, P d → ∀ v H', Same H H' → ResOk K H H' v d → Q v H') ∧ (∀ x, E' x → ∀ cls dd H', Same H H' → ExOk mg H' x cls dd → E cls dd H')
abbrev FnD (P : Program) (w : World) (K : PySem.W.Frag) (mg : Str → Option Value) (base : Heap) (k : Nat) (f : Addr) (fd : FuncData) (ps : List Str) (S : DSp) : Prop := FnG P w K mg base k f fd ps (spD K mg ps.length S)
/-- a def's reading: its body at the arguments -/
@[simp] def rdB (n : Nat) (body : ES) : DSp := fun ds P E => body { nx := fun _ => P (.val .none), rt := P, ex := fun x _ => E x } (ds ++ List.replicate (n - ds.length) .unset)

theorem argsSlot {K : PySem.W.Frag} {H : Hp} : ∀ {vs : List V} {ds : List D} {i : Nat} {d : D}, ArgsOk K H vs ds → ds[i]? = some d → ∃ v, vs[i]? = some v ∧ ArgOk K H v d
  | [], [], i, d, _, e => by simp at e
  | v :: vs, d' :: ds, 0, d, h, e => by simp at e; subst e; exact ⟨v, rfl, h.1⟩
  | v :: vs, d' :: ds, i + 1, d, h, e => by
    obtain ⟨u, h1, h2⟩ := argsSlot (i := i) (d := d) h.2 (by simpa using e)
    exact ⟨u, by simpa using h1, h2⟩
  | [], _ :: _, _, _, h, _ => h.elim
  | _ :: _, [], _, _, h, _ => h.elim

theorem start_fm {K : PySem.W.Frag} {H : Hp} {N : List Str} {vs : List V} {ds : List D} (h : ArgsOk K H vs ds) : Fm K ⟨H, H⟩ H (L2.start N vs) (ds ++ List.replicate (N.length - ds.length) .unset) := by
  have hl := h.length
  have no : ∀ (i : Nat) (es : List PD), (ds ++ List.replicate (N.length - ds.length) D.unset)[i]? = some (.new es) → False := fun i es e => by
    by_cases hi : i < ds.length
    · rw [List.getElem?_append_left hi] at e
      obtain ⟨v, _, z⟩ := argsSlot h e
      exact z
    · rw [List.getElem?_append_right (by omega), List.getElem?_replicate] at e
      split at e <;> cases e
  refine ⟨Same.refl H, Same.refl H, ?_, fun i d e => ?_, fun i j es fs a e1 => (no i es e1).elim⟩
  · unfold L2.start
    rw [List.length_append, List.length_map, List.length_replicate, List.length_append, List.length_replicate]
    omega
  · by_cases hi : i < ds.length
    · rw [List.getElem?_append_left hi] at e
      obtain ⟨v, ev, z⟩ := argsSlot h e
      have es : (L2.start N vs)[i]? = some (some v) := by
        unfold L2.start
        rw [List.getElem?_append_left (by rw [List.length_map]; omega), List.getElem?_map, ev]
        rfl
      rw [es]
      cases d with
      | unset => trivial
      | val d => exact ⟨v, rfl, z⟩
      | new ds => exact False.elim z
      | bor ds => obtain ⟨a, us, rfl, q, r⟩ := z; exact ⟨a, us, rfl, q, r⟩
      | scr ds => obtain ⟨a, us, rfl, q, r⟩ := z; exact ⟨a, us, rfl, q, r⟩
      | ext φ => exact ⟨v, rfl, z.1, z.2⟩
    · rw [List.getElem?_append_right (by omega), List.getElem?_replicate] at e
      split at e
      · cases e; trivial
      · cases e

section
variable {P : Program} {w : World} {K : PySem.W.Frag} {mg : Str → Option Value} {base : Heap}
/-- THE RULE for a def: its body, read over plain data -/
theorem fnD_of {x qual : Str} {st : Stmt} {f : Addr} {fd : FuncData} {N ps : List Str} {k : Nat} {body : ES} (F : Fun K x qual st f fd) (S : FnScope N ps (defScope st))
    (h : ∀ (cdv : Value) (A : Around) (outer : List Env) (s : Shared) (H : Hp) (E : XK), Room k (A.deeper (envOfC qual (defScope st) s.heap.objs.size f cdv)) → A.guards = some [] →
      ∀ W : WX, L2N.Takes (cxOf (L2N.CX P w) P w K mg base N qual (defScope st) f cdv A outer s H E) W → PassesOwn (model P w) (cxOf (L2N.CX P w) P w K mg base N qual (defScope st) f cdv A outer s H E).A (cxOf (L2N.CX P w) P w K mg base N qual (defScope st) f cdv A outer s H E).env (cxOf (L2N.CX P w) P w K mg base N qual (defScope st) f cdv A outer s H E).xe → DSs (cxOf (L2N.CX P w) P w K mg base N qual (defScope st) f cdv A outer s H E) ⟨W, mg⟩ (defBody st) body) :
    FnD P w K mg base (k + 1) f fd ps (rdB N.length body) := by
  refine fnG_of F S ?_ ?_
  · rintro vs H Q E ⟨ds, P, E', hl, ha, _⟩
    rw [ha.length, hl]
  · rintro cdv A outer s H vs Q E hr hg ⟨ds, P', E', hl, ha, hS, hP, hE⟩
    refine ⟨_, h cdv A outer s H E hr hg (fun cls d _ H => E cls d H) (L2N.takes_of rfl rfl rfl rfl) PassesOwn.leaving, ⟨H, H⟩, _, _, start_fm ha, hS, ?_⟩
    exact ⟨fun ρ σ H' F q => hP _ q _ _ F.same .non, fun _ _ _ _ q => q, fun _ _ _ _ q => q, fun r v H' s' q p => hP _ p _ _ s' q, fun x ρ σ H' cls dd F e q => hE x e cls dd H' F.same q⟩
/-- a def of the text, found by its name -/
structure DefOk (P : Program) (w : World) (K : PySem.W.Frag) (mg : Str → Option Value) (base : Heap) (x : Str) (k : Nat) (ps : List Str) (S : DSp) : Prop where
  ex : ∃ (f : Addr) (fd : FuncData), FnD P w K mg base k f fd ps S ∧ mg x = some (.ref f) ∧ PySem.W.keepIn K (.ref f) = true ∧ Binds K fd ps []
/-- a promise by a weaker reading -/
theorem FnG.impD {k : Nat} {f : Addr} {fd : FuncData} {ps : List Str} {S S' : DSp} (F : FnD P w K mg base k f fd ps S) (h : ∀ ds P E, S' ds P E → S ds P E) : FnD P w K mg base k f fd ps S' :=
  ⟨fun vs H Q E q => by obtain ⟨ds, P, E', hl, ha, _⟩ := q; rw [ha.length, hl],
   fun A outer s H args us vs Q E hr hg e0 hb r hsp => F.run A outer s H args us vs Q E hr hg e0 hb r (let ⟨ds, P, E', hl, ha, hS, q⟩ := hsp; ⟨ds, P, E', hl, ha, h _ _ _ hS, q⟩)⟩
end

/-! ### calls -/
section
variable {X : Cx} {w : Wx} {k : Nat} {f : Addr} {fd : FuncData} {ps : List Str} {S : DSp} {x : Str} {p pos : Pos} {e : Expr} {es : List Expr} {fa : EA}
@[simp] def argOf : D → Option D
  | .val d => some (.val d)
  | .bor ds => some (.bor ds)
  | .scr ds => some (.scr ds)
  | .ext φ => some (.ext φ)
  | _ => none
@[simp] def eCall (S : DSp) (fa : EA) : EE := fun ρ P E => fa ρ (fun ds => (∀ d ∈ ds, (argOf d).isSome) ∧ S ds (@kontI ⟨P⟩) E) E
theorem argsOk_of {K : PySem.W.Frag} {Hs H : Hp} : ∀ {vs : List V} {ds : List D}, AllOk K Hs H vs ds → (∀ d ∈ ds, (argOf d).isSome) → ArgsOk K H vs ds
  | [], [], _, _ => trivial
  | v :: vs, d :: ds, ⟨a, b⟩, h => by
    refine ⟨?_, argsOk_of b fun z hz => h z (List.mem_cons_of_mem _ hz)⟩
    have hd := h d List.mem_cons_self
    cases d with
    | unset => cases hd
    | val d => exact a
    | new ds => cases hd
    | bor ds => exact a
    | scr ds => exact a
    | ext φ => exact a
  | [], _ :: _, h, _ => h.elim
  | _ :: _, [], h, _ => h.elim
theorem run_call {pins : List (Addr × Obj)} {σ : St} {H : Hp} {s : Shared} {Q : VK} {us : List Value} {vs : List V} {sp : Sp} (F : FnG X.prog X.w X.K X.mg X.base k f fd ps sp) (hr : Room k X.A) (hg : X.A.guards = some []) (hb : Binds X.K fd ps []) (tk : L2N.Takes X w.W)
    (I : Inv X pins σ H s) (r : Vals vs us) (h : sp vs H Q (fun cls d H' => w.W cls d σ H')) : wpAny (model X.prog X.w) X.A (call (.ref f) us) (EP X pins σ Q) X.xe s := by
  have hl : us.length = ps.length := by rw [← r.length]; exact F.len _ _ _ _ h
  have b := hb s us I.kIn (by rw [List.append_nil]; exact hl)
  rw [List.append_nil] at b
  refine wpAny_call (codeAny_mono (F.run X.A X.stack s H ⟨us, []⟩ us vs Q _ hr hg I.env0 b r h) ?_)
  intro res s' hq
  cases res with
  | error e => exact L2N.passAt tk σ pins H s e s' I hq
  | ok fl =>
    cases fl with
    | ret u => exact I.after hq
    | next => exact hq.elim
    | brk => exact hq.elim
    | cont => exact hq.elim
theorem call_sp {σ : St} {H H1 : Hp} {ρ : En} {Q : VK} {vs : List V} {ds : List D} {P : D → Prop} {E : Ex → Prop} {n : Nat} {mg : Str → Option Value} {K : PySem.W.Frag} (hmg : w.mg = mg) (hl : ds.length = n) (s : Same H H1) (ok : AllOk K H H1 vs ds)
    (q : (∀ d ∈ ds, (argOf d).isSome) ∧ S ds P E) (hP : ∀ d, P d → ∀ v H', Same H H' → ResOk K H H' v d → Q v H') (hE : ExTo w σ H E) : spD K mg n S vs H1 Q (fun cls d H' => w.W cls d σ H') := by
  refine ⟨ds, P, E, hl, argsOk_of ok q.1, q.2, fun d pd v H' s' r => hP d pd v H' (s.trans s') (r.weak s), fun x e cls dd H' s' r => ?_⟩
  subst hmg
  exact hE x e cls dd H' (s.trans s') r
/-- f(a, ..) of a def of the text -/
theorem de_call (F : FnD X.prog X.w X.K X.mg X.base k f fd ps S) (hr : Room k X.A) (hgu : X.A.guards = some []) (hg : Gl X x) (hm : X.mg x = some (.ref f)) (hk : PySem.W.keepIn X.K (.ref f) = true) (hb : Binds X.K fd ps []) (tk : L2N.Takes X w.W) (hw : w.mg = X.mg)
    (ha : DA X w (e :: es) fa) (hn : (e :: es).length = ps.length) (hdb : (x == ("__debug__" : Str)) = false := by decide) (he : starEach (e :: es) X.env = (false, eval e X.env) :: starEach es X.env := by rfl) (hpl : (backTo pos (starEach es X.env)).any (·.1) = false := by rfl) :
    DE X w (.Call (.Name x p) (e :: es) [] pos) (eCall S fun ρ P E => fa ρ (fun ds => ds.length = ps.length ∧ P ds) E) := by
  refine ⟨fun pins s σ H Q I h => ?_⟩
  obtain ⟨H0, ρ, P, E, Fρ, hf, hP, hE⟩ := h
  refine wpAny_Call_Name_kw (ld_glob I hg hm ?_ hdb)
  refine PySem.W.callWith_K (h₀ := X.base) I.ok.mod.kin hk (thn (ha.run pos pins s σ H (fun vs H1 => spD X.K X.mg ps.length S vs H1 Q (fun cls d H' => w.W cls d σ H')) I ⟨H0, ρ, _, E, Fρ, hf, ?_, hE⟩) ?_) he hpl
  · intro ds q vs H1 s1 ok
    exact call_sp (ρ := ρ) hw q.1 s1 ok q.2 hP hE
  · rintro us s1 ⟨vs, H1, I1, r, q⟩
    exact ⟨I1.kIn, run_call F hr hgu hb tk I1 r q⟩
/-- f() -/
theorem de_call0 (F : FnD X.prog X.w X.K X.mg X.base k f fd [] S) (hr : Room k X.A) (hgu : X.A.guards = some []) (hg : Gl X x) (hm : X.mg x = some (.ref f)) (hk : PySem.W.keepIn X.K (.ref f) = true) (hb : Binds X.K fd [] []) (tk : L2N.Takes X w.W) (hw : w.mg = X.mg)
    (hdb : (x == ("__debug__" : Str)) = false := by decide) : DE X w (.Call (.Name x p) [] [] pos) (fun _ P E => S [] (@kontI ⟨P⟩) E) := by
  refine ⟨fun pins s σ H Q I h => ?_⟩
  obtain ⟨H0, ρ, P, E, Fρ, hf, hP, hE⟩ := h
  refine wpAny_Call_Name_kw (ld_glob I hg hm ?_ hdb)
  refine PySem.W.callWith_K0 I.kIn hk (run_call (us := []) F hr hgu hb tk I .nil ?_)
  exact call_sp (ρ := ρ) (ds := []) hw rfl (Same.refl H) trivial ⟨fun d hd => by simp at hd, hf⟩ hP hE
abbrev eCallN (n : Nat) (S : DSp) (fa : EA) : EE := eCall S fun ρ P E => fa ρ (fun ds => ds.length = n ∧ P ds) E
theorem de_callD {n : Nat} (F : DefOk X.prog X.w X.K X.mg X.base x k ps S) (hr : Room k X.A) (hgu : X.A.guards = some []) (hg : Gl X x) (tk : L2N.Takes X w.W) (hw : w.mg = X.mg)
    (ha : DA X w (e :: es) fa) (hn : (e :: es).length = ps.length) (hn2 : ps.length = n := by rfl) (hdb : (x == ("__debug__" : Str)) = false := by decide) (he : starEach (e :: es) X.env = (false, eval e X.env) :: starEach es X.env := by rfl) (hpl : (backTo pos (starEach es X.env)).any (·.1) = false := by rfl) :
    DE X w (.Call (.Name x p) (e :: es) [] pos) (eCallN n S fa) := by
  subst hn2
  obtain ⟨f, fd, F, hm, hk, hb⟩ := F.ex
  exact de_call F hr hgu hg hm hk hb tk hw ha hn hdb he hpl
end
end Cr
set_option maxHeartbeats 2000000
/-! Fw3: expressions -/
namespace Cr
open PySem PySem.Spec PyProof.Rows L2

/-! ### lists among results -/
@[simp] def listy : D → Option (List PD)
  | .val (.list xs) => some xs
  | .new xs => some xs
  | .bor xs => some xs
  | .scr xs => some xs
  | _ => none
@[simp] def seqy : D → Option (List PD)
  | .val (.tuple xs) => some xs
  | d => listy d
@[simp] def mutl : D → Option (List PD)
  | .val (.list xs) => some xs
  | .new xs => some xs
  | .bor xs => some xs
  | _ => none
@[simp] def asVal : D → Option PD
  | .val d => some d
  | .new xs => some (.list xs)
  | .bor xs => some (.list xs)
  | _ => none
section
variable {K : PySem.W.Frag} {Hs H H' : Hp} {v : V} {x : D} {xs : List PD} {d : PD}
theorem listy_ok (h : listy x = some xs) (r : ResOk K Hs H v x) : ∃ a vs, v = .ref a ∧ SqL K H a vs ∧ RepsF H vs xs := by
  cases x with
  | unset => cases h
  | val d =>
    cases d with
    | list ys =>
      cases h
      cases r with
      | lst hq hr => exact ⟨_, _, rfl, .inl (.inr ⟨_, hq⟩), hr⟩
    | _ => cases h
  | new ds => cases h; obtain ⟨a, vs, e, _, q, r⟩ := r; exact ⟨a, vs, e, .of q, r⟩
  | bor ds => cases h; obtain ⟨a, vs, e, q, r⟩ := r; exact ⟨a, vs, e, .inl q, r⟩
  | scr ds => cases h; obtain ⟨a, vs, e, q, r⟩ := r; exact ⟨a, vs, e, q.sq, r⟩
  | ext φ => cases h
theorem mutl_ok (h : mutl x = some xs) (r : ResOk K Hs H v x) : ∃ a vs, v = .ref a ∧ Rd H a (.lst vs) ∧ RepsF H vs xs := by
  cases x with
  | val d =>
    cases d with
    | list ys =>
      cases h
      cases r with
      | lst hq hr => exact ⟨_, _, rfl, .inr ⟨_, hq⟩, hr⟩
    | _ => cases h
  | new ds => cases h; obtain ⟨a, vs, e, _, q, r⟩ := r; exact ⟨a, vs, e, .inl q, r⟩
  | bor ds => cases h; exact r
  | _ => cases h
theorem seqy_ok (h : seqy x = some xs) (r : ResOk K Hs H v x) : ∃ a vs, v = .ref a ∧ (SqL K H a vs ∨ SqT K H a vs) ∧ RepsF H vs xs := by
  have go : listy x = some xs → ∃ a vs, v = .ref a ∧ (SqL K H a vs ∨ SqT K H a vs) ∧ RepsF H vs xs := fun h => by
    obtain ⟨a, vs, e, q, r⟩ := listy_ok h r
    exact ⟨a, vs, e, .inl q, r⟩
  cases x with
  | val d =>
    cases d with
    | tuple ys =>
      cases h
      cases r with
      | tup hq _ hr => exact ⟨_, _, rfl, .inr (.inl (.inr ⟨_, hq⟩)), hr⟩
    | _ => exact go h
  | _ => exact go h
theorem asVal_dp (h : asVal x = some d) (r : ResOk K Hs H v x) (hd : d.hasDict = false) : Dp K H v d := by
  cases x with
  | unset => cases h
  | val d => cases h; exact RepF.dp K r hd
  | new ds => cases h; obtain ⟨a, vs, rfl, _, q, r⟩ := r; exact .lst (.of q) (RepsF.dp K r (by simpa [PyData.hasDict] using hd))
  | bor ds => cases h; obtain ⟨a, vs, rfl, q, r⟩ := r; exact .lst (.inl q) (RepsF.dp K r (by simpa [PyData.hasDict] using hd))
  | scr ds => cases h
  | ext φ => cases h
end

/-! ### names, constants -/
section
variable {X : Cx} {w : Wx} {pos : Pos}
@[simp] def eVar (i : Nat) : EE := fun ρ P _ => match ρ[i]? with
  | some (.val d) => P (.val d)
  | some (.new ds) => P (.bor ds)
  | some (.bor ds) => P (.bor ds)
  | some (.scr ds) => P (.scr ds)
  | some (.ext φ) => P (.ext φ)
  | _ => False
theorem var_ok {K : PySem.W.Frag} {H0 : Bs} {H : Hp} {σ : St} {ρ : En} {i : Nat} {P : D → Prop} {E : Ex → Prop} (F : Fm K H0 H σ ρ) (h : eVar i ρ P E) : ∃ v d, σ[i]? = some (some v) ∧ P d ∧ ResOk K H H v d := by
  unfold eVar at h
  split at h
  · rename_i d e; obtain ⟨v, ev, r⟩ := F.slot i _ e; exact ⟨v, _, ev, h, r⟩
  · rename_i ds e; obtain ⟨a, vs, ev, _, q, r⟩ := F.slot i _ e; exact ⟨_, _, ev, h, a, vs, rfl, .inl q, r⟩
  · rename_i ds e; obtain ⟨a, vs, ev, q, r⟩ := F.slot i _ e; exact ⟨_, _, ev, h, a, vs, rfl, rd_same (F.ent.trans F.same) q, r⟩
  · rename_i ds e; obtain ⟨a, vs, ev, q, r⟩ := F.slot i _ e; exact ⟨_, _, ev, h, a, vs, rfl, q, r⟩
  · rename_i φ e; obtain ⟨v, ev, st, r⟩ := F.slot i _ e; exact ⟨v, _, ev, h, st, r⟩
  · exact h.elim
theorem de_var (i : Nat) {x : Str} (hN : X.N[i]? = some x) (hv : Vis X.env.scope x) (hd : (x == ("__debug__" : Str)) = false := by decide) (hcd : (x == ("__classdict__" : Str)) = false := by decide) : DE X w (.Name x pos) (eVar i) :=
  (pe_var hN hv hd hcd).imp fun σ H Q ⟨H0, ρ, P, E, F, hf, hP, _⟩ => by
    obtain ⟨v, d, e, p, r⟩ := var_ok F hf
    exact ⟨v, e, hP d p v H (Same.refl H) r⟩
@[simp] def eC (d : PD) : EE := fun _ P _ => P (.val d)
theorem de_const {e : Expr} {v : V} {d : PD} (h : PE X e (tC v)) (r : ∀ H, RepF H v d) : DE X w e (eC d) :=
  h.imp fun σ H Q ⟨H0, ρ, P, E, F, hf, hP, _⟩ => hP _ hf v H (Same.refl H) (r H)
theorem de_int {i j} : DE X w (.Constant (.int i) j pos) (eC (.int i)) := de_const pe_int fun _ => .int i
theorem de_bl {b j} : DE X w (.Constant (.bool b) j pos) (eC (.bool b)) := de_const pe_bl fun _ => .bl b
theorem de_non {j} : DE X w (.Constant .none j pos) (eC .none) := de_const pe_non fun _ => .non
theorem de_str {x j} : DE X w (.Constant (.str x) j pos) (eC (.str x)) := de_const pe_str fun _ => .str x
theorem de_globI {x : Str} {i : Int} {t : Tok} (hg : Gl X x) (hm : X.mg x = some (.int i t)) (hd : (x == ("__debug__" : Str)) = false := by decide) : DE X w (.Name x pos) (eC (.int i)) :=
  de_const (pe_glob (v := .int i) hg hm ⟨t, rfl⟩ hd) fun _ => .int i
theorem de_globS {x : Str} {i : Str} {t : Tok} (hg : Gl X x) (hm : X.mg x = some (.str i t)) (hd : (x == ("__debug__" : Str)) = false := by decide) : DE X w (.Name x pos) (eC (.str i)) :=
  de_const (pe_glob (v := .str i) hg hm ⟨t, rfl⟩ hd) fun _ => .str i

/-! ### a new list becomes data -/
@[simp] def frz : D → D
  | .new xs => .val (.list xs)
  | d => d
@[simp] def eFrz (f : EE) : EE := fun ρ P E => f ρ (fun d => P (frz d)) E
theorem de_frz {e : Expr} {f : EE} (h : DE X w e f) : DE X w e (eFrz f) := by
  refine ⟨fun pins s σ H Q I hh => ?_⟩
  obtain ⟨H0, ρ, P, E, F, hf, hP, hE⟩ := hh
  refine thn (h.run pins s σ H (fun v H' => ∃ d, P (frz d) ∧ Same H H' ∧ ResOk X.K H H' v d) I ⟨H0, ρ, _, E, F, hf, fun d p v H' s' r => ⟨d, p, s', r⟩, hE⟩) ?_
  rintro u s1 ⟨v, H1, I1, rv, d, p, s', r⟩
  cases d with
  | new ds =>
    obtain ⟨a, vs, rfl, n, q, r⟩ := r
    obtain ⟨o, J⟩ := freeze_at I1 q
    exact ⟨.ref a, _, J, rv, hP _ p _ _ (s'.upd_new n) (.lst upd_same (r.fx (Fx.upd_lst q)))⟩
  | unset => exact r.elim
  | val d => exact ⟨v, H1, I1, rv, hP _ p v H1 s' r⟩
  | bor ds => exact ⟨v, H1, I1, rv, hP _ p v H1 s' r⟩
  | scr ds => exact ⟨v, H1, I1, rv, hP _ p v H1 s' r⟩
  | ext φ => exact ⟨v, H1, I1, rv, hP _ p v H1 s' r⟩

/-! ### arguments, displays -/
@[simp] def aNil : EA := fun _ P _ => P []
@[simp] def aCons (f : EE) (r : EA) : EA := fun ρ P E => f ρ (fun d => r ρ (fun ds => P (d :: ds)) E) E
theorem da_nil : DA X w [] aNil := pa_nil.imp fun σ H Q ⟨H0, ρ, P, E, F, hf, hP, _⟩ => hP [] hf [] H (Same.refl H) trivial
theorem da_cons {e : Expr} {es : List Expr} {f : EE} {r : EA} (h : DE X w e f) (hr : DA X w es r) (hs : starEach (e :: es) X.env = (false, eval e X.env) :: starEach es X.env := by rfl) : DA X w (e :: es) (aCons f r) :=
  (pa_cons h hr hs).imp fun σ H Q ⟨H0, ρ, P, E, F, hf, hP, hE⟩ => ⟨H0, ρ, _, E, F, hf, fun d p v H1 s1 r1 =>
    ⟨H0, ρ, _, E, F.mono s1, p, fun ds p2 vs H2 s2 r2 => hP _ p2 _ _ (s1.trans s2) ⟨r1.mono s2, r2.weak s1⟩, hE.mono s1⟩, hE⟩
@[simp] def vals : List D → Option (List PD)
  | [] => some []
  | .val d :: r => match vals r with
    | some ds => some (d :: ds)
    | none => none
  | _ :: _ => none
theorem vals_ok {K : PySem.W.Frag} {Hs H : Hp} : ∀ {ds : List D} {vs : List V} {xs : List PD}, vals ds = some xs → AllOk K Hs H vs ds → RepsF H vs xs
  | [], [], xs, h, _ => by cases h; exact .nil
  | .val d :: r, v :: vs, xs, h, ⟨a, b⟩ => by
    unfold vals at h
    split at h
    · rename_i ds e
      cases h
      exact .cons a (vals_ok e b)
    · cases h
  | [], _ :: _, _, _, h => h.elim
  | _ :: _, [], _, _, h => h.elim
  | .unset :: _, _ :: _, _, h, _ => by cases h
  | .new _ :: _, _ :: _, _, h, _ => by cases h
  | .bor _ :: _, _ :: _, _, h, _ => by cases h
  | .scr _ :: _, _ :: _, _, h, _ => by cases h
  | .ext _ :: _, _ :: _, _, h, _ => by cases h
@[simp] def eTup (fa : EA) : EE := fun ρ P E => fa ρ (fun ds => match vals ds with | some xs => xs.length ≤ sizeLine ∧ P (.val (.tuple xs)) | none => False) E
@[simp] def eLst (fa : EA) : EE := fun ρ P E => fa ρ (fun ds => match vals ds with | some xs => xs.length ≤ sizeLine ∧ P (.new xs) | none => False) E
/-- (a, ..): the object is known -/
def tTupF (t : TA) : TE := fun σ H Q => t σ H fun xs H1 => xs.length ≤ sizeLine ∧ ∀ p o, o.dict = none → H1 p = none → Q (.ref p) (L2.upd H1 p (.frz o (.tup xs)))
theorem pe_tupF {es : List Expr} {t : TA} {x1} (h : PA X es t) : PE X (.Tuple es x1 pos) (tTupF t) := by
  refine ⟨fun pins s σ H Q I hq => ?_⟩
  refine wpAny_Tuple_spliced (thn (h.run pos pins s σ H _ I hq) fun us s1 ⟨xs, H1, I1, r, z, q⟩ => ⟨by rw [← r.length]; exact z, ?_⟩)
  have hf : H1 s1.heap.objs.size = none := I1.hok.fresh (Nat.le_refl _)
  refine ⟨.ref s1.heap.objs.size, L2.upd H1 s1.heap.objs.size (.frz { cls := .type "tuple", data := .seq us.toArray } (.tup xs)), I1.laid (t' := s1.toks) (fun b u e => Heap.get?_push_of_some _ e) (Nat.le_refl _) ?_, rfl, q _ _ rfl hf⟩
  exact ⟨Heap.get?_push_size _ rfl, z, us, r, ⟨_, Heap.get?_push_size _ rfl, rfl, _, rfl⟩⟩
theorem de_tup {es : List Expr} {fa : EA} {x1} (h : DA X w es fa) : DE X w (.Tuple es x1 pos) (eTup fa) :=
  (pe_tupF h).imp fun σ H Q ⟨H0, ρ, P, E, F, hf, hP, hE⟩ => ⟨H0, ρ, _, E, F, hf, fun ds p vs H1 s1 r1 => by
    cases e : vals ds with
    | none => rw [e] at p; exact p.elim
    | some xs =>
      rw [e] at p
      have rr := vals_ok e r1
      refine ⟨by rw [rr.length]; exact p.1, fun q o zo nq => ?_⟩
      have s2 : Same H1 (L2.upd H1 q (.frz o (.tup vs))) := (Same.refl H1).upd_new nq
      exact hP _ p.2 _ _ (s1.trans s2) (.tup upd_same zo (rr.fx s2.fx)), hE⟩
theorem de_lst {es : List Expr} {fa : EA} (h : DA X w es fa) : DE X w (.List es pos) (eLst fa) :=
  (pe_lst h).imp fun σ H Q ⟨H0, ρ, P, E, F, hf, hP, hE⟩ => ⟨H0, ρ, _, E, F, hf, fun ds p vs H1 s1 r1 => by
    cases e : vals ds with
    | none => rw [e] at p; exact p.elim
    | some xs =>
      rw [e] at p
      have rr := vals_ok e r1
      refine ⟨by rw [rr.length]; exact p.1, fun q nq => ?_⟩
      have s2 : Same H1 (L2.upd H1 q (.lst vs)) := (Same.refl H1).upd_new nq
      exact hP _ p.2 _ _ (s1.trans s2) ⟨q, vs, rfl, s1.free nq, upd_same, rr.fx s2.fx⟩, hE⟩

/-! ### operations of two -/
abbrev G2 := D → D → (D → Prop) → Prop
def OpK (K : PySem.W.Frag) (r : R2) (g : G2) : Prop := ∀ Hs H x y v u P Q, ResOk K Hs H v x → ResOk K Hs H u y → g x y P → (∀ d, P d → ∀ z H', Same H H' → ResOk K H H' z d → Q z H') → r v u H Q
@[simp] def eBin (g : G2) (fa fb : EE) : EE := fun ρ P E => fa ρ (fun x => fb ρ (fun y => g x y P) E) E
variable {a b : Expr} {fa fb : EE}
theorem bin_imp {r : R2} {g : G2} (k : OpK X.K r g) {σ : St} {H : Hp} {Q : VK} (h : tD X.K w (eBin g fa fb) σ H Q) : tOp r (tD X.K w fa) (tD X.K w fb) σ H Q := by
  obtain ⟨H0, ρ, P, E, F, hf, hP, hE⟩ := h
  refine ⟨H0, ρ, _, E, F, hf, fun x p v H1 s1 r1 => ?_, hE⟩
  refine ⟨H0, ρ, _, E, F.mono s1, p, fun y p2 u H2 s2 r2 => ?_, hE.mono s1⟩
  exact k H H2 x y v u P Q (ResOk.mono s2 r1) (r2.weak s1) p2 fun d pd z H3 s3 r3 => hP d pd z H3 ((s1.trans s2).trans s3) (r3.weak (s1.trans s2))
end
end Cr
set_option maxHeartbeats 2000000
/-! Fw4: operators, comparisons, tests, subscripts, slices -/
namespace Cr
open PySem PySem.Spec PyProof.Rows L2

section
variable {X : Cx} {w : Wx} {pos : Pos} {a b : Expr} {fa fb : EE}
theorem de_bin {op : Operator} {r : R2} {g : G2} (ho : OpR X (binaryOp op) r) (k : OpK X.K r g) (ha : DE X w a fa) (hb : DE X w b fb) : DE X w (.BinOp a op b pos) (eBin g fa fb) :=
  (pe_op ho ha hb).imp fun _ _ _ h => bin_imp k h
theorem de_cmp {op : CmpOp} {r : R2} {g : G2} (ho : OpR X (compareOp op) r) (k : OpK X.K r g) (ha : DE X w a fa) (hb : DE X w b fb) (hm : behindInMarks op b = false) : DE X w (.Compare a [op] [b] pos) (eBin g fa fb) :=
  (pe_cmpR ho ha hb hm).imp fun _ _ _ h => bin_imp k h
/-- a bool's test -/
@[simp] def tOf (f : EE) : ET := fun ρ P E => f ρ (fun d => match d with | .val (.bool b) => P b | _ => False) E
theorem tOf_bool {Q : Bool → Prop} {d : D} (h : match d with | .val (.bool b) => Q b | _ => False) : ∃ b, d = .val (.bool b) ∧ Q b := by
  cases d with
  | val d => cases d with
    | bool b => exact ⟨b, rfl, h⟩
    | _ => exact h.elim
  | _ => exact h.elim
theorem res_bool {K : PySem.W.Frag} {Hs H : Hp} {v : V} {b : Bool} (r : ResOk K Hs H v (.val (.bool b))) : v = .bl b := by cases r; rfl
theorem res_int {K : PySem.W.Frag} {Hs H : Hp} {v : V} {b : Int} (r : ResOk K Hs H v (.val (.int b))) : v = .int b := by cases r; rfl
theorem res_str {K : PySem.W.Frag} {Hs H : Hp} {v : V} {b : Str} (r : ResOk K Hs H v (.val (.str b))) : v = .str b := by cases r; rfl
theorem res_non {K : PySem.W.Frag} {Hs H : Hp} {v : V} (r : ResOk K Hs H v (.val .none)) : v = .non := by cases r; rfl
theorem res_tup {K : PySem.W.Frag} {Hs H : Hp} {v : V} {ds : List PD} (r : ResOk K Hs H v (.val (.tuple ds))) : ∃ a vs, v = .ref a ∧ Rd H a (.tup vs) ∧ RepsF H vs ds := by
  cases r with
  | tup h z r => exact ⟨_, _, rfl, .inr ⟨_, h⟩, r⟩
theorem test_imp {e : Expr} {t : TE} {f : EE} (i : ∀ σ H Q, tD X.K w f σ H Q → t σ H Q) {σ : St} {H : Hp} {Q : Bool → Hp → Prop} (h : tDT X.K w (tOf f) σ H Q) : t σ H fun x H1 => ∃ c, x = .bl c ∧ Q c H1 := by
  obtain ⟨H0, ρ, P, E, F, hf, hP, hE⟩ := h
  refine i σ H _ ⟨H0, ρ, _, E, F, hf, fun d p v H1 s r => ?_, hE⟩
  obtain ⟨b, rfl, p⟩ := tOf_bool p
  exact ⟨b, res_bool r, hP b p H1 s⟩
theorem dt_val {e : Expr} {f : EE} (h : DE X w e f) (he : ∀ whole, isTrue e X.env whole = (do let v ← whole; standAt e.pos; holding [v] (truthy v)) := by intro _; rfl) : DT X w e (tOf f) :=
  (pt_val h he).imp fun _ _ _ q => test_imp (e := e) (fun _ _ _ z => z) q
theorem dt_cmp {op : CmpOp} {r : R2} {g : G2} (ho : OpR X (compareOp op) r) (k : OpK X.K r g) (ha : DE X w a fa) (hb : DE X w b fb) (hm : behindInMarks op b = false) : DT X w (.Compare a [op] [b] pos) (tOf (eBin g fa fb)) :=
  (pt_cmpR ho ha hb hm).imp fun _ _ _ q => test_imp (e := a) (fun _ _ _ z => bin_imp k z) q

/-! ### and, or, not -/
@[simp] def tAndD (t u : ET) : ET := fun ρ P E => t ρ (fun c => if c = true then u ρ P E else P false) E
@[simp] def tOrD (t u : ET) : ET := fun ρ P E => t ρ (fun c => if c = true then P true else u ρ P E) E
@[simp] def tNotD (t : ET) : ET := fun ρ P E => t ρ (fun c => P (!c)) E
variable {ta tb : ET} {rest : List Expr}
theorem dw_and1 (ha : DT X w a ta) : DW X w (.BoolOp .And [a] pos) ta := pw_and1 ha
theorem dw_or1 (ha : DT X w a ta) : DW X w (.BoolOp .Or [a] pos) ta := pw_or1 ha
theorem dw_and (ha : DT X w a ta) (hb : DW X w (.BoolOp .And (b :: rest) pos) tb) : DW X w (.BoolOp .And (a :: b :: rest) pos) (tAndD ta tb) :=
  (pw_and ha hb).imp fun σ H Q ⟨H0, ρ, P, E, F, hf, hP, hE⟩ => ⟨H0, ρ, _, E, F, hf, fun c p H1 s1 => by
    cases c with
    | true => exact ⟨H0, ρ, P, E, F.mono s1, p, fun b pb H2 s2 => hP b pb H2 (s1.trans s2), hE.mono s1⟩
    | false => exact hP false p H1 s1, hE⟩
theorem dw_or (ha : DT X w a ta) (hb : DW X w (.BoolOp .Or (b :: rest) pos) tb) : DW X w (.BoolOp .Or (a :: b :: rest) pos) (tOrD ta tb) :=
  (pw_or ha hb).imp fun σ H Q ⟨H0, ρ, P, E, F, hf, hP, hE⟩ => ⟨H0, ρ, _, E, F, hf, fun c p H1 s1 => by
    cases c with
    | false => exact ⟨H0, ρ, P, E, F.mono s1, p, fun b pb H2 s2 => hP b pb H2 (s1.trans s2), hE.mono s1⟩
    | true => exact hP true p H1 s1, hE⟩
theorem dt_w {e : Expr} (h : DW X w e ta) : DT X w e ta := h.pt
theorem dt_not (ha : DT X w a ta) : DT X w (.UnaryOp .Not a pos) (tNotD ta) :=
  (pt_not ha).imp fun σ H Q ⟨H0, ρ, P, E, F, hf, hP, hE⟩ => ⟨H0, ρ, _, E, F, hf, fun c p H1 s1 => hP _ p H1 s1, hE⟩
/-- as values: all but the last are bools -/
@[simp] def eAnd (fa fb : EE) : EE := fun ρ P E => fa ρ (fun d => match d with | .val (.bool b) => (if b = true then fb ρ P E else P (.val (.bool false))) | _ => False) E
@[simp] def eOr (fa fb : EE) : EE := fun ρ P E => fa ρ (fun d => match d with | .val (.bool b) => (if b = true then P (.val (.bool true)) else fb ρ P E) | _ => False) E
@[simp] def eNot (fa : EE) : EE := fun ρ P E => fa ρ (fun d => match d with | .val (.bool b) => P (.val (.bool (!b))) | _ => False) E
theorem de_one {op} (h : DE X w a fa) : DE X w (.BoolOp op [a] pos) fa := pe_one h
theorem de_and (ha : DE X w a fa) (hb : DE X w (.BoolOp .And (b :: rest) pos) fb) : DE X w (.BoolOp .And (a :: b :: rest) pos) (eAnd fa fb) :=
  (pe_and ha hb).imp fun σ H Q ⟨H0, ρ, P, E, F, hf, hP, hE⟩ => ⟨H0, ρ, _, E, F, hf, fun d p v H1 s1 r => by
    obtain ⟨c, rfl, p⟩ := tOf_bool (Q := fun b => if b = true then fb ρ P E else P (.val (.bool false))) p
    refine ⟨c, res_bool r, ?_⟩
    cases c with
    | true => exact ⟨H0, ρ, P, E, F.mono s1, p, fun b pb v H2 s2 r2 => hP b pb v H2 (s1.trans s2) (r2.weak s1), hE.mono s1⟩
    | false => exact hP _ p _ H1 s1 (.bl false), hE⟩
theorem de_or (ha : DE X w a fa) (hb : DE X w (.BoolOp .Or (b :: rest) pos) fb) : DE X w (.BoolOp .Or (a :: b :: rest) pos) (eOr fa fb) :=
  (pe_or ha hb).imp fun σ H Q ⟨H0, ρ, P, E, F, hf, hP, hE⟩ => ⟨H0, ρ, _, E, F, hf, fun d p v H1 s1 r => by
    obtain ⟨c, rfl, p⟩ := tOf_bool (Q := fun b => if b = true then P (.val (.bool true)) else fb ρ P E) p
    refine ⟨c, res_bool r, ?_⟩
    cases c with
    | false => exact ⟨H0, ρ, P, E, F.mono s1, p, fun b pb v H2 s2 r2 => hP b pb v H2 (s1.trans s2) (r2.weak s1), hE.mono s1⟩
    | true => exact hP _ p _ H1 s1 (.bl true), hE⟩
theorem de_not (ha : DE X w a fa) : DE X w (.UnaryOp .Not a pos) (eNot fa) :=
  (pe_not ha).imp fun σ H Q ⟨H0, ρ, P, E, F, hf, hP, hE⟩ => ⟨H0, ρ, _, E, F, hf, fun d p v H1 s1 r => by
    obtain ⟨c, rfl, p⟩ := tOf_bool (Q := fun b => P (.val (.bool (!b)))) p
    exact ⟨c, res_bool r, hP _ p _ H1 s1 (.bl _)⟩, hE⟩
@[simp] def eIf (t : ET) (fa fb : EE) : EE := fun ρ P E => t ρ (fun c => if c = true then fa ρ P E else fb ρ P E) E
theorem de_ifExp {c : Expr} {t : ET} (hc : DT X w c t) (ha : DE X w a fa) (hb : DE X w b fb) : DE X w (.IfExp c a b pos) (eIf t fa fb) :=
  (pe_ifExp hc ha hb).imp fun σ H Q ⟨H0, ρ, P, E, F, hf, hP, hE⟩ => ⟨H0, ρ, _, E, F, hf, fun c p H1 s1 => by
    cases c with
    | true => exact ⟨H0, ρ, P, E, F.mono s1, p, fun b pb v H2 s2 r2 => hP b pb v H2 (s1.trans s2) (r2.weak s1), hE.mono s1⟩
    | false => exact ⟨H0, ρ, P, E, F.mono s1, p, fun b pb v H2 s2 r2 => hP b pb v H2 (s1.trans s2) (r2.weak s1), hE.mono s1⟩, hE⟩

/-! ### chains a op b op' c -/
@[simp] def eChain (g g' : G2) (fa fb fc : EE) : EE := fun ρ P E => fa ρ (fun x => fb ρ (fun y => g x y (fun d => match d with
  | .val (.bool k) => (if k = true then fc ρ (fun z => g' y z P) E else P (.val (.bool false)))
  | _ => False)) E) E
theorem chain_imp {r r' : R2} {g g' : G2} {fc : EE} (k : OpK X.K r g) (k' : OpK X.K r' g') {σ : St} {H : Hp} {Q : VK} (h : tD X.K w (eChain g g' fa fb fc) σ H Q) : tChain r r' (tD X.K w fa) (tD X.K w fb) (tD X.K w fc) σ H Q := by
  obtain ⟨H0, ρ, P, E, F, hf, hP, hE⟩ := h
  refine ⟨H0, ρ, _, E, F, hf, fun x p v H1 s1 r1 => ?_, hE⟩
  refine ⟨H0, ρ, _, E, F.mono s1, p, fun y p2 u H2 s2 r2 => ?_, hE.mono s1⟩
  refine k H H2 x y v u _ _ (r1.mono s2) (r2.weak s1) p2 fun d pd z H3 s3 r3 => ?_
  obtain ⟨c, rfl, pd⟩ := tOf_bool (Q := fun k => if k = true then fc ρ (fun z => g' y z P) E else P (.val (.bool false))) pd
  have s13 := (s1.trans s2).trans s3
  refine ⟨c, res_bool r3, ?_⟩
  cases c with
  | true =>
    refine ⟨H0, ρ, _, E, F.mono s13, pd, fun zz p4 vz H4 s4 r4 => ?_, hE.mono s13⟩
    exact k' H H4 y zz u vz P Q ((r2.weak s1).mono (s3.trans s4)) (r4.weak s13) p4 fun d pd z H5 s5 r5 => hP d pd z H5 ((s13.trans s4).trans s5) (r5.weak (s13.trans s4))
  | false => exact hP _ pd _ H3 s13 (.bl false)
theorem de_chain {op op' : CmpOp} {r r' : R2} {g g' : G2} {c : Expr} {fc : EE} (ho : OpR X (compareOp op) r) (ho' : OpR X (compareOp op') r') (k : OpK X.K r g) (k' : OpK X.K r' g') (ha : DE X w a fa) (hb : DE X w b fb) (hc : DE X w c fc) (hm : lastMarks [op, op'] [b, c] = false := by with_unfolding_all rfl) :
    DE X w (.Compare a [op, op'] [b, c] pos) (eChain g g' fa fb fc) := (pe_chain ho ho' ha hb hc hm).imp fun _ _ _ h => chain_imp k k' h
theorem dt_chain {op op' : CmpOp} {r r' : R2} {g g' : G2} {c : Expr} {fc : EE} (ho : OpR X (compareOp op) r) (ho' : OpR X (compareOp op') r') (k : OpK X.K r g) (k' : OpK X.K r' g') (ha : DE X w a fa) (hb : DE X w b fb) (hc : DE X w c fc) (hm : lastMarks [op, op'] [b, c] = false := by with_unfolding_all rfl) :
    DT X w (.Compare a [op, op'] [b, c] pos) (tOf (eChain g g' fa fb fc)) := (pt_chain ho ho' ha hb hc hm).imp fun _ _ _ q => test_imp (e := a) (fun _ _ _ z => chain_imp k k' z) q
end

/-! ### ints -/
@[simp] def gI (C : Int → Int → Prop) (f : Int → Int → PD) : G2 := fun x y P => match x, y with
  | .val (.int i), .val (.int j) => C i j ∧ P (.val (f i j))
  | _, _ => False
theorem gI_ok {C : Int → Int → Prop} {f : Int → Int → PD} {x y : D} {P : D → Prop} (h : gI C f x y P) : ∃ i j, x = .val (.int i) ∧ y = .val (.int j) ∧ C i j ∧ P (.val (f i j)) := by
  unfold gI at h
  split at h
  · exact ⟨_, _, rfl, rfl, h⟩
  · exact h.elim
theorem opI_k {K : PySem.W.Frag} {C : Int → Int → Prop} {g : Int → Int → V} {f : Int → Int → PD} (hg : ∀ H i j, RepF H (g i j) (f i j)) : OpK K (rI C g) (gI C f) := by
  intro Hs H x y v u P Q rx ry h q
  obtain ⟨i, j, rfl, rfl, c, p⟩ := gI_ok h
  exact ⟨i, j, res_int rx, res_int ry, c, q _ p _ H (Same.refl H) (hg H i j)⟩
theorem opI0_k {K : PySem.W.Frag} {g : Int → Int → V} {f : Int → Int → PD} (hg : ∀ H i j, RepF H (g i j) (f i j)) : OpK K (rI0 g) (gI (fun _ _ => True) f) := by
  intro Hs H x y v u P Q rx ry h q
  obtain ⟨i, j, rfl, rfl, c, p⟩ := gI_ok h
  exact ⟨i, j, res_int rx, res_int ry, q _ p _ H (Same.refl H) (hg H i j)⟩
abbrev gSub : G2 := gI (fun _ _ => True) fun i j => .int (i - j)
abbrev gDiv : G2 := gI CDivW fun i j => .int (i / j)
abbrev gMod : G2 := gI (fun _ j => 0 < j) fun i j => .int (i % j)
abbrev gPow : G2 := gI CPow fun i j => .int (i ^ j.toNat)
abbrev gLt : G2 := gI (fun _ _ => True) fun i j => .bool (decide (i < j))
abbrev gLe : G2 := gI (fun _ _ => True) fun i j => .bool (decide (i ≤ j))
abbrev gGt : G2 := gI (fun _ _ => True) fun i j => .bool (decide (j < i))
abbrev gGe : G2 := gI (fun _ _ => True) fun i j => .bool (decide (j ≤ i))
abbrev gShl : G2 := gI CPow fun i j => .int (i * 2 ^ j.toNat)
abbrev gShr : G2 := gI (fun _ j => 0 ≤ j) fun i j => .int (i / 2 ^ j.toNat)
abbrev gAnd : G2 := gI (fun _ _ => True) fun i j => .int (Builtin.bitAnd i j)
section
variable {X : Cx} {w : Wx} {pos : Pos} {a b : Expr} {fa fb : EE}
theorem de_sub (ha : DE X w a fa) (hb : DE X w b fb) : DE X w (.BinOp a .Sub b pos) (eBin gSub fa fb) := de_bin op_sub (opI0_k fun H i j => .int _) ha hb
theorem de_div (ha : DE X w a fa) (hb : DE X w b fb) : DE X w (.BinOp a .FloorDiv b pos) (eBin gDiv fa fb) := de_bin op_fdivW (opI_k fun H i j => .int _) ha hb
theorem de_mod (ha : DE X w a fa) (hb : DE X w b fb) : DE X w (.BinOp a .Mod b pos) (eBin gMod fa fb) := de_bin op_mod (opI_k fun H i j => .int _) ha hb
theorem de_pow (ha : DE X w a fa) (hb : DE X w b fb) : DE X w (.BinOp a .Pow b pos) (eBin gPow fa fb) := de_bin op_pow (opI_k fun H i j => .int _) ha hb
theorem de_shl (ha : DE X w a fa) (hb : DE X w b fb) : DE X w (.BinOp a .LShift b pos) (eBin gShl fa fb) := de_bin op_shl (opI_k fun H i j => .int _) ha hb
theorem de_shr (ha : DE X w a fa) (hb : DE X w b fb) : DE X w (.BinOp a .RShift b pos) (eBin gShr fa fb) := de_bin op_shr (opI_k fun H i j => .int _) ha hb
theorem de_band (ha : DE X w a fa) (hb : DE X w b fb) : DE X w (.BinOp a .BitAnd b pos) (eBin gAnd fa fb) := de_bin op_and (opI0_k fun H i j => .int _) ha hb
theorem k_lt {K : PySem.W.Frag} : OpK K (rI0 fun i j => .bl (decide (i < j))) gLt := opI0_k fun H i j => .bl _
theorem k_le {K : PySem.W.Frag} : OpK K (rI0 fun i j => .bl (decide (i ≤ j))) gLe := opI0_k fun H i j => .bl _
theorem k_gt {K : PySem.W.Frag} : OpK K (rI0 fun i j => .bl (decide (j < i))) gGt := opI0_k fun H i j => .bl _
theorem k_ge {K : PySem.W.Frag} : OpK K (rI0 fun i j => .bl (decide (j ≤ i))) gGe := opI0_k fun H i j => .bl _
@[simp] def eNeg (fa : EE) : EE := fun ρ P E => fa ρ (fun d => match d with | .val (.int i) => P (.val (.int (-i))) | _ => False) E
theorem int_of {Q : Int → Prop} {d : D} (h : match d with | .val (.int b) => Q b | _ => False) : ∃ b, d = .val (.int b) ∧ Q b := by
  cases d with
  | val d => cases d with
    | int b => exact ⟨b, rfl, h⟩
    | _ => exact h.elim
  | _ => exact h.elim
theorem de_neg (ha : DE X w a fa) : DE X w (.UnaryOp .USub a pos) (eNeg fa) :=
  (pe_un un_neg ha).imp fun σ H Q ⟨H0, ρ, P, E, F, hf, hP, hE⟩ => ⟨H0, ρ, _, E, F, hf, fun d p v H1 s1 r => by
    obtain ⟨i, rfl, p⟩ := int_of (Q := fun i => P (.val (.int (-i)))) p
    exact ⟨i, res_int r, hP _ p _ H1 s1 (.int _)⟩, hE⟩
end

/-! ### == and != by value; is None -/
@[simp] def gEq : G2 := fun x y P => match asVal x, asVal y with
  | some (.str a), some (.str b) => P (.val (.bool (decide (a = b))))
  | some d, some e => SeqAt.shaped d = true ∧ SeqAt.shaped e = true ∧ P (.val (.bool (PyData.eqv d e)))
  | _, _ => False
@[simp] def gNe : G2 := fun x y P => match asVal x, asVal y with
  | some (.str a), some (.str b) => P (.val (.bool (!decide (a = b))))
  | some d, some e => SeqAt.shaped d = true ∧ SeqAt.shaped e = true ∧ P (.val (.bool (!PyData.eqv d e)))
  | _, _ => False
theorem noDict_of {d : PD} (h : SeqAt.shaped d = true) : d.hasDict = false := PyData.hasDict_of_canLay d (SeqAt.canLay_of_shaped h)
theorem str_of {K : PySem.W.Frag} {Hs H : Hp} {v : V} {x : D} {a : Str} (h : asVal x = some (.str a)) (r : ResOk K Hs H v x) : v = .str a := by
  have q := asVal_dp h r rfl
  cases q; rfl
theorem k_eq {K : PySem.W.Frag} : OpK K (fun x y H Q => rEq x y H Q ∨ rEqD K x y H Q) gEq := by
  intro Hs H x y v u P Q rx ry h q
  unfold gEq at h
  split at h
  · rename_i a b ea eb
    rw [str_of ea rx, str_of eb ry]
    refine .inl ⟨rfl, ?_⟩
    have e : decide (V.str a = V.str b) = decide (a = b) := by
      by_cases c : a = b
      · subst c; simp
      · rw [decide_eq_false c]; exact decide_eq_false fun z => c (V.str.inj z)
    rw [e]
    exact q _ h _ H (Same.refl H) (.bl _)
  · rename_i d e _ ed ee
    exact .inr ⟨d, e, asVal_dp ed rx (noDict_of h.1), asVal_dp ee ry (noDict_of h.2.1), h.1, h.2.1, q _ h.2.2 _ H (Same.refl H) (.bl _)⟩
  · exact h.elim
theorem k_ne {K : PySem.W.Frag} : OpK K (fun x y H Q => rNe x y H Q ∨ rNeD K x y H Q) gNe := by
  intro Hs H x y v u P Q rx ry h q
  unfold gNe at h
  split at h
  · rename_i a b ea eb
    rw [str_of ea rx, str_of eb ry]
    refine .inl ⟨rfl, ?_⟩
    have e : decide (V.str a = V.str b) = decide (a = b) := by
      by_cases c : a = b
      · subst c; simp
      · rw [decide_eq_false c]; exact decide_eq_false fun z => c (V.str.inj z)
    rw [e]
    exact q _ h _ H (Same.refl H) (.bl _)
  · rename_i d e _ ed ee
    exact .inr ⟨d, e, asVal_dp ed rx (noDict_of h.1), asVal_dp ee ry (noDict_of h.2.1), h.1, h.2.1, q _ h.2.2 _ H (Same.refl H) (.bl _)⟩
  · exact h.elim
/-- whether it is None -/
@[simp] def isNon : D → Bool
  | .val .none => true
  | _ => false
@[simp] def gIs : G2 := fun x y P => match y with
  | .val .none => (match x with | .unset => False | .ext _ => False | x => P (.val (.bool (isNon x))))
  | _ => False
@[simp] def gIsNot : G2 := fun x y P => match y with
  | .val .none => (match x with | .unset => False | .ext _ => False | x => P (.val (.bool (!isNon x))))
  | _ => False
theorem isNon_ok {K : PySem.W.Frag} {Hs H : Hp} {v : V} {x : D} (hx : ∀ φ, x ≠ .ext φ) (r : ResOk K Hs H v x) : decide (v = .non) = isNon x := by
  cases x with
  | unset => exact r.elim
  | val d =>
    cases d with
    | none => cases r; rfl
    | bool b => cases r; rfl
    | int b => cases r; rfl
    | str b => cases r; rfl
    | tuple b => cases r; rfl
    | list b => cases r; rfl
    | dict b => cases r; rfl
  | new ds => obtain ⟨a, vs, rfl, _⟩ := r; rfl
  | bor ds => obtain ⟨a, vs, rfl, _⟩ := r; rfl
  | scr ds => obtain ⟨a, vs, rfl, _⟩ := r; rfl
  | ext φ => exact absurd rfl (hx φ)
theorem k_is {K : PySem.W.Frag} : OpK K (fun x y H Q => y = .non ∧ Q (.bl (decide (x = .non))) H) gIs := by
  intro Hs H x y v u P Q rx ry h q
  unfold gIs at h
  split at h
  · refine ⟨res_non ry, ?_⟩
    cases x with
    | unset => exact h.elim
    | ext φ => exact h.elim
    | val d => rw [isNon_ok (by intro φ z; cases z) rx]; exact q _ h _ H (Same.refl H) (.bl _)
    | new d => rw [isNon_ok (by intro φ z; cases z) rx]; exact q _ h _ H (Same.refl H) (.bl _)
    | bor d => rw [isNon_ok (by intro φ z; cases z) rx]; exact q _ h _ H (Same.refl H) (.bl _)
    | scr d => rw [isNon_ok (by intro φ z; cases z) rx]; exact q _ h _ H (Same.refl H) (.bl _)
  · exact h.elim
theorem k_isNot {K : PySem.W.Frag} : OpK K (fun x y H Q => y = .non ∧ Q (.bl (!decide (x = .non))) H) gIsNot := by
  intro Hs H x y v u P Q rx ry h q
  unfold gIsNot at h
  split at h
  · refine ⟨res_non ry, ?_⟩
    cases x with
    | unset => exact h.elim
    | ext φ => exact h.elim
    | val d => rw [isNon_ok (by intro φ z; cases z) rx]; exact q _ h _ H (Same.refl H) (.bl _)
    | new d => rw [isNon_ok (by intro φ z; cases z) rx]; exact q _ h _ H (Same.refl H) (.bl _)
    | bor d => rw [isNon_ok (by intro φ z; cases z) rx]; exact q _ h _ H (Same.refl H) (.bl _)
    | scr d => rw [isNon_ok (by intro φ z; cases z) rx]; exact q _ h _ H (Same.refl H) (.bl _)
  · exact h.elim

/-! ### + and * -/
@[simp] def gAdd : G2 := fun x y P => match x, y with
  | .val (.int i), .val (.int j) => P (.val (.int (i + j)))
  | .val (.str i), .val (.str j) => i.length + j.length ≤ sizeLine ∧ P (.val (.str (i ++ j)))
  | .val (.tuple i), .val (.tuple j) => i.length + j.length ≤ sizeLine ∧ P (.val (.tuple (i ++ j)))
  | x, y => (match mutl x, mutl y with
    | some i, some j => i.length + j.length ≤ sizeLine ∧ P (.new (i ++ j))
    | _, _ => False)
/-- lists that may be read, joined -/
def rCatR : R2 := fun x y H Q => ∃ l b xs zs, x = .ref l ∧ y = .ref b ∧ Rd H l (.lst xs) ∧ Rd H b (.lst zs) ∧ xs.length + zs.length ≤ sizeLine ∧ ∀ p, H p = none → Q (.ref p) (upd H p (.lst (xs ++ zs)))
theorem op_catR {X : Cx} : OpR X (binaryOp .Add) rCatR := by
  rintro pins s σ H x y v u Q I rx ry ⟨l, b, xs, zs, rfl, rfl, h1, h2, hz, q⟩
  cases rx
  cases ry
  obtain ⟨z1, i1, n1, r1, e1⟩ := h1.ok I.hok
  obtain ⟨z2, i2, n2, r2, e2⟩ := h2.ok I.hok
  have c1 := r1.length
  have c2 := r2.length
  refine PySem.P.add_list e1 e2 ?_ (by rw [List.size_toArray, List.size_toArray]; omega)
  rw [show i1.toArray ++ i2.toArray = (i1 ++ i2).toArray by simp]
  exact ⟨.ref _, _, I.lnew (t' := s.toks) (r1.append r2) (by rw [List.length_append]; omega), rfl, q _ I.fresh⟩
/-- t + u: the object is known -/
def rCatF (K : PySem.W.Frag) : R2 := fun x y H Q => ∃ a b xs ys, x = .ref a ∧ y = .ref b ∧ SqT K H a xs ∧ SqT K H b ys ∧ xs.length + ys.length ≤ sizeLine ∧
  (xs = [] → Q (.ref b) H) ∧ (xs ≠ [] → ys = [] → Q (.ref a) H) ∧ (xs ≠ [] → ys ≠ [] → ∀ p o, o.dict = none → H p = none → Q (.ref p) (upd H p (.frz o (.tup (xs ++ ys)))))
theorem op_catF {X : Cx} : OpR X (binaryOp .Add) (rCatF X.K) := by
  intro pins s σ H x y v u Q I rx ry h
  obtain ⟨a, b, xs, ys, rfl, rfl, ha, hb, hz, q0, q1, q2⟩ := h
  cases rx
  cases ry
  obtain ⟨its, r1, p1, _⟩ := I.tuple ha
  obtain ⟨its2, r2, p2, _⟩ := I.tuple hb
  by_cases hx : xs = []
  · subst hx
    cases r1
    exact L2.cat_tup0 p1 p2 ⟨.ref b, H, I, rfl, q0 rfl⟩
  · refine HT.cat_tup p1 p2 (fun z => hx (r1.nil_iff.mp z)) (fun z => ⟨.ref a, H, I, rfl, q1 hx (r2.nil_iff.mp z)⟩) (fun z => ?_) (by rw [← r1.length, ← r2.length]; exact hz)
    refine ⟨.ref s.heap.objs.size, upd H s.heap.objs.size (.frz { cls := .type "tuple", data := .seq (its ++ its2).toArray } (.tup (xs ++ ys))), I.laid (t' := s.toks) (fun b ob q => Heap.get?_push_of_some _ q) (Nat.le_refl _) ?_, rfl, q2 hx (fun w => z (r2.nil_iff.mpr w)) _ _ rfl (I.hok.fresh (Nat.le_refl _))⟩
    exact ⟨Heap.get?_push_size _ rfl, by rw [List.length_append]; exact hz, _, r1.append r2, IsTup.new _ _⟩
abbrev rAddA (K : PySem.W.Frag) : R2 := fun x y H Q => rI0 (fun i j => .int (i + j)) x y H Q ∨ (∃ i j, x = .str i ∧ y = .str j ∧ i.length + j.length ≤ sizeLine ∧ Q (.str (i ++ j)) H) ∨ rCatF K x y H Q ∨ rCatR x y H Q
theorem op_addA {X : Cx} : OpR X (binaryOp .Add) (rAddA X.K) := op_add.or (op_add_str.or (op_catF.or op_catR))
theorem k_add {K : PySem.W.Frag} : OpK K (rAddA K) gAdd := by
  intro Hs H x y v u P Q rx ry h q
  unfold gAdd at h
  split at h
  · exact .inl ⟨_, _, res_int rx, res_int ry, q _ h _ H (Same.refl H) (.int _)⟩
  · exact .inr (.inl ⟨_, _, res_str rx, res_str ry, h.1, q _ h.2 _ H (Same.refl H) (.str _)⟩)
  · obtain ⟨a, vs, rfl, ha, ra⟩ := res_tup rx
    obtain ⟨b, us, rfl, hb, rb⟩ := res_tup ry
    refine .inr (.inr (.inl ⟨a, b, vs, us, rfl, rfl, .inl ha, .inl hb, by rw [ra.length, rb.length]; exact h.1, fun e => ?_, fun _ e => ?_, fun _ _ p o zo np => ?_⟩))
    · subst e; cases ra; exact q _ h.2 _ H (Same.refl H) ry
    · subst e; cases rb; rw [List.append_nil] at h; exact q _ h.2 _ H (Same.refl H) rx
    · have s := (Same.refl H).upd_new (o := .frz o (.tup (vs ++ us))) np
      exact q _ h.2 _ _ s (.tup upd_same zo ((ra.append rb).fx s.fx))
  · split at h
    · rename_i i j ei ej
      obtain ⟨a, vs, rfl, ha, ra⟩ := mutl_ok ei rx
      obtain ⟨b, us, rfl, hb, rb⟩ := mutl_ok ej ry
      refine .inr (.inr (.inr ⟨a, b, vs, us, rfl, rfl, ha, hb, by rw [ra.length, rb.length]; exact h.1, fun p np => ?_⟩))
      have s := (Same.refl H).upd_new (o := .lst (vs ++ us)) np
      exact q _ h.2 _ _ s ⟨p, _, rfl, np, upd_same, (ra.append rb).fx s.fx⟩
    · exact h.elim
@[simp] def gMul : G2 := fun x y P => match x, y with
  | .val (.int i), .val (.int j) => IntMulOk i j ∧ P (.val (.int (i * j)))
  | .new xs, .val (.int k) => -(2 ^ 63) ≤ k ∧ k < 2 ^ 63 ∧ xs.length * k.toNat ≤ sizeLine ∧ P (.new (List.replicate k.toNat xs).flatten)
  | _, _ => False
theorem RepsF.rep {H : Hp} {vs : List V} {ds : List PD} (h : RepsF H vs ds) : ∀ k : Nat, RepsF H (List.replicate k vs).flatten (List.replicate k ds).flatten
  | 0 => .nil
  | k + 1 => by
    rw [List.replicate_succ, List.replicate_succ, List.flatten_cons, List.flatten_cons]
    exact h.append (RepsF.rep h k)
theorem op_mulG {X : Cx} : OpR X (binaryOp .Mult) (rI IntMulOk fun i j => .int (i * j)) := opI fun _ _ _ _ _ _ _ hc q => mul_int q hc
theorem op_mulA {X : Cx} : OpR X (binaryOp .Mult) (fun x y H Q => rI IntMulOk (fun i j => .int (i * j)) x y H Q ∨ rRep x y H Q) := op_mulG.or op_rep
theorem k_mul {K : PySem.W.Frag} : OpK K (fun x y H Q => rI IntMulOk (fun i j => .int (i * j)) x y H Q ∨ rRep x y H Q) gMul := by
  intro Hs H x y v u P Q rx ry h q
  unfold gMul at h
  split at h
  · exact .inl ⟨_, _, res_int rx, res_int ry, h.1, q _ h.2 _ H (Same.refl H) (.int _)⟩
  · rename_i k
    obtain ⟨a, vs, rfl, na, ha, ra⟩ := rx
    refine .inr ⟨a, k, vs, rfl, res_int ry, ha, h.1, h.2.1, by rw [ra.length]; exact h.2.2.1, fun p np => ?_⟩
    have s := (Same.refl H).upd_new (o := .lst (List.replicate k.toNat vs).flatten) np
    exact q _ h.2.2.2 _ _ s ⟨p, _, rfl, np, upd_same, (ra.rep _).fx s.fx⟩
  · exact h.elim

/-! ### in, not in -/
theorem op_inT {X : Cx} (hu : X.A.units + 65 < cLine) : OpR X (compareOp .In) (fun x y H Q => ∃ d ds, Dp X.K H x d ∧ Dp X.K H y (.tuple ds) ∧ SeqAt.shaped d = true ∧ SeqAt.shaped (.tuple ds) = true ∧ Q (.bl (ds.any fun z => PyData.eqv z d)) H) := by
  rintro pins s σ H x y v u Q I rx ry ⟨d, ds, hd, he, sd, se, q⟩
  obtain ⟨as, r1⟩ := Dp.reads I d x v hd rx
  obtain ⟨bs, r2⟩ := Dp.reads I (.tuple ds) y u he ry
  exact SeqAt.in_tuple_reads r2 r1 (SeqAt.canLay_of_shaped se) (SeqAt.canLay_of_shaped sd) (room_in_shaped sd hu) ⟨.bl _, H, I, rfl, q⟩
theorem op_notInT {X : Cx} (hu : X.A.units + 65 < cLine) : OpR X (compareOp .NotIn) (fun x y H Q => ∃ d ds, Dp X.K H x d ∧ Dp X.K H y (.tuple ds) ∧ SeqAt.shaped d = true ∧ SeqAt.shaped (.tuple ds) = true ∧ Q (.bl (!ds.any fun z => PyData.eqv z d)) H) := by
  rintro pins s σ H x y v u Q I rx ry ⟨d, ds, hd, he, sd, se, q⟩
  obtain ⟨as, r1⟩ := Dp.reads I d x v hd rx
  obtain ⟨bs, r2⟩ := Dp.reads I (.tuple ds) y u he ry
  exact SeqAt.notIn_tuple_reads r2 r1 (SeqAt.canLay_of_shaped se) (SeqAt.canLay_of_shaped sd) (room_in_shaped sd hu) ⟨.bl _, H, I, rfl, q⟩
/-- what is searched: a list's or a tuple's items -/
@[simp] def items : D → Option (List PD)
  | .val (.tuple xs) => some xs
  | .val (.list xs) => some xs
  | .new xs => some xs
  | .bor xs => some xs
  | _ => none
def shapedAll (ds : List PD) : Prop := SeqAt.shaped (.list ds) = true
theorem shaped_tup {ds : List PD} (h : shapedAll ds) : SeqAt.shaped (.tuple ds) = true := h
/-- whether a value is among others -/
def hasV (ds : List PD) (d : PD) : Bool := ds.any fun z => PyData.eqv z d
@[simp] def gIn (neg : Bool) : G2 := fun x y P => match asVal x, items y with
  | some d, some ds => SeqAt.shaped d = true ∧ shapedAll ds ∧ P (.val (.bool (if neg then !(hasV ds d) else hasV ds d)))
  | _, _ => False
theorem items_dp {K : PySem.W.Frag} {Hs H : Hp} {v : V} {x : D} {xs : List PD} (h : items x = some xs) (r : ResOk K Hs H v x) (hd : shapedAll xs) : Dp K H v (.list xs) ∨ Dp K H v (.tuple xs) := by
  cases x with
  | val d =>
    cases d with
    | tuple ys => cases h; exact .inr (RepF.dp K r (noDict_of (d := .tuple _) hd))
    | list ys => cases h; exact .inl (RepF.dp K r (noDict_of (d := .list _) hd))
    | _ => cases h
  | new ds => cases h; exact .inl (asVal_dp (x := .new xs) rfl r (noDict_of hd))
  | bor ds => cases h; exact .inl (asVal_dp (x := .bor xs) rfl r (noDict_of hd))
  | _ => cases h
abbrev rInA (K : PySem.W.Frag) : R2 := fun x y H Q => rInD K x y H Q ∨ ∃ d ds, Dp K H x d ∧ Dp K H y (.tuple ds) ∧ SeqAt.shaped d = true ∧ SeqAt.shaped (.tuple ds) = true ∧ Q (.bl (ds.any fun z => PyData.eqv z d)) H
abbrev rNotInA (K : PySem.W.Frag) : R2 := fun x y H Q => rNotInD K x y H Q ∨ ∃ d ds, Dp K H x d ∧ Dp K H y (.tuple ds) ∧ SeqAt.shaped d = true ∧ SeqAt.shaped (.tuple ds) = true ∧ Q (.bl (!ds.any fun z => PyData.eqv z d)) H
theorem op_inA {X : Cx} (hu : X.A.units + 65 < cLine) : OpR X (compareOp .In) (rInA X.K) := (op_inD hu).or (op_inT hu)
theorem op_notInA {X : Cx} (hu : X.A.units + 65 < cLine) : OpR X (compareOp .NotIn) (rNotInA X.K) := (op_notInD hu).or (op_notInT hu)
theorem k_in {K : PySem.W.Frag} : OpK K (rInA K) (gIn false) := by
  intro Hs H x y v u P Q rx ry h q
  unfold gIn at h
  split at h
  · rename_i d ds ed es
    rcases items_dp es ry h.2.1 with z | z
    · exact .inl ⟨d, ds, asVal_dp ed rx (noDict_of h.1), z, h.1, h.2.1, q _ h.2.2 _ H (Same.refl H) (.bl _)⟩
    · exact .inr ⟨d, ds, asVal_dp ed rx (noDict_of h.1), z, h.1, h.2.1, q _ h.2.2 _ H (Same.refl H) (.bl _)⟩
  · exact h.elim
theorem k_notIn {K : PySem.W.Frag} : OpK K (rNotInA K) (gIn true) := by
  intro Hs H x y v u P Q rx ry h q
  unfold gIn at h
  split at h
  · rename_i d ds ed es
    rcases items_dp es ry h.2.1 with z | z
    · exact .inl ⟨d, ds, asVal_dp ed rx (noDict_of h.1), z, h.1, h.2.1, q _ h.2.2 _ H (Same.refl H) (.bl _)⟩
    · exact .inr ⟨d, ds, asVal_dp ed rx (noDict_of h.1), z, h.1, h.2.1, q _ h.2.2 _ H (Same.refl H) (.bl _)⟩
  · exact h.elim
theorem hu65 {A : Around} {k : Nat} (hr : Room k A) : A.units + 65 < cLine := by have := hr.un; omega
section
variable {X : Cx} {w : Wx} {pos : Pos} {a b : Expr} {fa fb : EE}
theorem de_add (ha : DE X w a fa) (hb : DE X w b fb) : DE X w (.BinOp a .Add b pos) (eBin gAdd fa fb) := de_bin op_addA k_add ha hb
theorem de_mul (ha : DE X w a fa) (hb : DE X w b fb) : DE X w (.BinOp a .Mult b pos) (eBin gMul fa fb) := de_bin op_mulA k_mul ha hb
/-- one comparison as a value or a test; c is one of the rules below -/
structure CmpR (X : Cx) (op : CmpOp) (b : Expr) (g : G2) : Prop where
  ex : ∃ r, OpR X (compareOp op) r ∧ OpK X.K r g
  mark : behindInMarks op b = false
theorem c_lt : CmpR X .Lt b gLt := ⟨⟨_, op_lt, k_lt⟩, nomark _⟩
theorem c_le : CmpR X .LtE b gLe := ⟨⟨_, op_le, k_le⟩, nomark _⟩
theorem c_gt : CmpR X .Gt b gGt := ⟨⟨_, op_gt, k_gt⟩, nomark _⟩
theorem c_ge : CmpR X .GtE b gGe := ⟨⟨_, op_ge, k_ge⟩, nomark _⟩
theorem c_eq {k : Nat} (hr : Room k X.A) : CmpR X .Eq b gEq := ⟨⟨_, op_eq.or (op_eqD hr.units), k_eq⟩, nomark _⟩
theorem c_ne {k : Nat} (hr : Room k X.A) : CmpR X .NotEq b gNe := ⟨⟨_, op_ne.or (op_neD hr.units), k_ne⟩, nomark _⟩
theorem c_is : CmpR X .Is b gIs := ⟨⟨_, op_isN, k_is⟩, nomark _⟩
theorem c_isNot : CmpR X .IsNot b gIsNot := ⟨⟨_, op_notN, k_isNot⟩, nomark _⟩
theorem c_in {k : Nat} (hr : Room k X.A) (h : behindInMarks .In b = false := by rfl) : CmpR X .In b (gIn false) := ⟨⟨_, op_inA (hu65 hr), k_in⟩, h⟩
theorem c_notIn {k : Nat} (hr : Room k X.A) (h : behindInMarks .NotIn b = false := by rfl) : CmpR X .NotIn b (gIn true) := ⟨⟨_, op_notInA (hu65 hr), k_notIn⟩, h⟩
theorem de_c {op : CmpOp} {g : G2} (c : CmpR X op b g) (ha : DE X w a fa) (hb : DE X w b fb) : DE X w (.Compare a [op] [b] pos) (eBin g fa fb) := by
  obtain ⟨r, ho, k⟩ := c.ex
  exact de_cmp ho k ha hb c.mark
theorem dt_c {op : CmpOp} {g : G2} (c : CmpR X op b g) (ha : DE X w a fa) (hb : DE X w b fb) : DT X w (.Compare a [op] [b] pos) (tOf (eBin g fa fb)) := by
  obtain ⟨r, ho, k⟩ := c.ex
  exact dt_cmp ho k ha hb c.mark
theorem de_cc {op op' : CmpOp} {g g' : G2} {c : Expr} {fc : EE} (c1 : CmpR X op b g) (c2 : CmpR X op' c g') (ha : DE X w a fa) (hb : DE X w b fb) (hc : DE X w c fc) (hm : lastMarks [op, op'] [b, c] = false := by with_unfolding_all rfl) : DE X w (.Compare a [op, op'] [b, c] pos) (eChain g g' fa fb fc) := by
  obtain ⟨r, ho, k⟩ := c1.ex
  obtain ⟨r', ho', k'⟩ := c2.ex
  exact de_chain ho ho' k k' ha hb hc hm
theorem dt_cc {op op' : CmpOp} {g g' : G2} {c : Expr} {fc : EE} (c1 : CmpR X op b g) (c2 : CmpR X op' c g') (ha : DE X w a fa) (hb : DE X w b fb) (hc : DE X w c fc) (hm : lastMarks [op, op'] [b, c] = false := by with_unfolding_all rfl) : DT X w (.Compare a [op, op'] [b, c] pos) (tOf (eChain g g' fa fb fc)) := by
  obtain ⟨r, ho, k⟩ := c1.ex
  obtain ⟨r', ho', k'⟩ := c2.ex
  exact dt_chain ho ho' k k' ha hb hc hm

/-! ### subscripts -/
def gIx : G2 := fun x y P => match x, y with
  | .val (.str z), .val (.int i) => z.length ≤ sizeLine ∧ (match atI z.cps.toList i with | some c => P (.val (.str ⟨#[c]⟩)) | none => False)
  | x, .val (.int i) => (match seqy x with
    | some xs => (match atI xs i with | some d => P (.val d) | none => False)
    | none => False)
  | _, _ => False
theorem at_reps {H : Hp} {vs : List V} {ds : List PD} {i : Int} {d : PD} (r : RepsF H vs ds) (h : atI ds i = some d) : ∃ v, atI vs i = some v ∧ RepF H v d := by
  unfold atI at h ⊢
  rw [r.length]
  cases e : ixN ds.length i with
  | none => rw [e] at h; cases h
  | some j =>
    rw [e] at h
    exact r.get h
theorem k_ix {K : PySem.W.Frag} : OpK K (rIx K) gIx := by
  intro Hs H x y v u P Q rx ry h q
  unfold gIx at h
  split at h
  · rename_i z i
    split at h
    · rename_i c e
      exact .inr (.inr ⟨z, i, c, res_str rx, res_int ry, h.1, e, q _ h.2 _ H (Same.refl H) (.str _)⟩)
    · exact h.2.elim
  · rename_i x i _
    split at h
    · rename_i xs es
      split at h
      · rename_i d ed
        obtain ⟨a, vs, rfl, hs, r⟩ := seqy_ok es rx
        obtain ⟨u', eu, ru⟩ := at_reps r ed
        rcases hs with hs | hs
        · exact .inl ⟨a, vs, i, u', rfl, res_int ry, hs, eu, q _ h _ H (Same.refl H) ru⟩
        · exact .inr (.inl ⟨a, vs, i, u', rfl, res_int ry, hs, eu, q _ h _ H (Same.refl H) ru⟩)
      · exact h.elim
    · exact h.elim
  · exact h.elim
theorem de_ix (ha : DE X w a fa) (hb : DE X w b fb) (hs : PlainIx b := by exact fun _ _ => rfl) : DE X w (.Subscript a b pos) (eBin gIx fa fb) :=
  (pe_ix ix_seq ha hb hs).imp fun _ _ _ h => bin_imp k_ix h

/-! ### slices -/
abbrev EO := En → (Option Int → Prop) → (Ex → Prop) → Prop
def tDO (K : PySem.W.Frag) (w : Wx) (f : EO) : TO := fun σ H Q => ∃ H0 ρ P E, Fm K H0 H σ ρ ∧ f ρ P E ∧ (∀ d, P d → ∀ H', Same H H' → Q d H') ∧ ExTo w σ H E
abbrev DO (X : Cx) (w : Wx) (e : Option Expr) (f : EO) : Prop := PO X e (tDO X.K w f)
theorem _root_.L2.PO.imp {e : Option Expr} {t t' : TO} (h : PO X e t) (i : ∀ σ H Q, t' σ H Q → t σ H Q) : PO X e t' := ⟨fun pins s σ H Q I q => h.run pins s σ H Q I (i _ _ _ q)⟩
@[simp] def oNone : EO := fun _ P _ => P none
@[simp] def oSome (f : EE) : EO := fun ρ P E => f ρ (fun d => match d with | .val (.int i) => P (some i) | _ => False) E
theorem do_none : DO X w none oNone := po_none.imp fun σ H Q ⟨H0, ρ, P, E, F, hf, hP, hE⟩ => hP _ hf H (Same.refl H)
theorem do_some (h : DE X w a fa) : DO X w (some a) (oSome fa) := (po_some h).imp fun σ H Q ⟨H0, ρ, P, E, F, hf, hP, hE⟩ => ⟨H0, ρ, _, E, F, hf, fun d p v H1 s1 r => by
    obtain ⟨i, rfl, p⟩ := int_of (Q := fun i => P (some i)) p
    exact ⟨i, res_int r, hP _ p H1 s1⟩, hE⟩
/-- the slice of a list by value -/
def cutP {α : Type} (xs : List α) (lo hi : Option Int) : List α := (xs.drop (HT.sIx xs.length 0 lo)).take (HT.sIx xs.length xs.length hi - HT.sIx xs.length 0 lo)
@[simp] def gSl (x : D) (lo hi : Option Int) (P : D → Prop) : Prop := match x with
  | .val (.tuple xs) => P (.val (.tuple (cutP xs lo hi)))
  | .val (.str z) => z.length ≤ sizeLine ∧ P (.val (.str (cutS z lo hi)))
  | x => (match listy x with | some xs => P (.new (cutP xs lo hi)) | none => False)
@[simp] def eSl (f : EE) (l h : EO) : EE := fun ρ P E => f ρ (fun x => l ρ (fun lo => h ρ (fun hi => gSl x lo hi P) E) E) E
theorem cut_reps {H : Hp} {vs : List V} {ds : List PD} {lo hi : Option Int} (r : RepsF H vs ds) : RepsF H (cutV vs lo hi) (cutP ds lo hi) := by
  unfold cutV cutP
  rw [r.length]
  exact (r.drop _).take _
theorem cut_whole {xs : List PD} {lo hi : Option Int} (h : HT.sIx xs.length 0 lo = 0 ∧ HT.sIx xs.length xs.length hi = xs.length) : cutP xs lo hi = xs := by
  unfold cutP
  rw [h.1, h.2, List.drop_zero, Nat.sub_zero, List.take_length]
/-- t[lo:hi]: the object is known -/
def rSlF (K : PySem.W.Frag) : V → Option Int → Option Int → Hp → VK → Prop := fun x lo hi H Q => ∃ a xs, x = .ref a ∧ SqT K H a xs ∧
  (HT.sIx xs.length 0 lo = 0 ∧ HT.sIx xs.length xs.length hi = xs.length → Q (.ref a) H) ∧ (¬ (HT.sIx xs.length 0 lo = 0 ∧ HT.sIx xs.length xs.length hi = xs.length) → ∀ p o, o.dict = none → H p = none → Q (.ref p) (upd H p (.frz o (.tup (cutV xs lo hi)))))
theorem sl_tupF {X : Cx} : SlR X (rSlF X.K) := by
  intro pins s σ H x v vl vu lo hi sl Q I rx hs pl pu h
  obtain ⟨a, xs, rfl, hx, q1, q2⟩ := h
  cases rx
  obtain ⟨its, r, ht, hz⟩ := I.tuple hx
  have hlen : its.toArray.size = xs.length := by rw [List.size_toArray]; exact r.length.symm
  refine ⟨"tuple", _, PyProof.Rows.slot_tuple_getitem.lookup, ht.typeIs, ?_⟩
  by_cases hw : HT.sIx xs.length 0 lo = 0 ∧ HT.sIx xs.length xs.length hi = xs.length
  · exact L2.getItem_tuple_whole ht hs pl pu (by rw [hlen]; exact hw) ⟨.ref a, H, I, rfl, q1 hw⟩
  · refine HT.getItem_tuple_cut ht hs pl pu (by rw [hlen]; exact hw) ?_ (by rw [hlen]; exact hz)
    rw [hlen]
    refine ⟨.ref s.heap.objs.size, upd H s.heap.objs.size (.frz { cls := .type "tuple", data := .seq ((its.drop (HT.sIx xs.length 0 lo)).take (HT.sIx xs.length xs.length hi - HT.sIx xs.length 0 lo)).toArray } (.tup (cutV xs lo hi))), I.laid (t' := s.toks) (fun b ob q => Heap.get?_push_of_some _ q) (Nat.le_refl _) ?_, rfl, q2 hw _ _ rfl (I.hok.fresh (Nat.le_refl _))⟩
    exact ⟨Heap.get?_push_size _ rfl, Nat.le_trans (cutV_length xs lo hi) hz, _, (r.drop (HT.sIx xs.length 0 lo)).take (HT.sIx xs.length xs.length hi - HT.sIx xs.length 0 lo), IsTup.new _ _⟩
abbrev rSlAll (K : PySem.W.Frag) : V → Option Int → Option Int → Hp → VK → Prop := fun x lo hi H Q => rSlF K x lo hi H Q ∨ rSlL K x lo hi H Q ∨ rSlS x lo hi H Q
theorem sl_ok {K : PySem.W.Frag} {Hs H : Hp} {x : D} {v : V} {lo hi : Option Int} {P : D → Prop} {Q : VK} (r : ResOk K Hs H v x) (h : gSl x lo hi P) (q : ∀ d, P d → ∀ z H', Same H H' → ResOk K H H' z d → Q z H') : rSlAll K v lo hi H Q := by
  unfold gSl at h
  split at h
  · rename_i xs
    obtain ⟨a, vs, rfl, ha, ra⟩ := res_tup r
    refine .inl ⟨a, vs, rfl, .inl ha, fun hw => ?_, fun _ p o zo np => ?_⟩
    · rw [ra.length] at hw
      rw [cut_whole hw] at h
      exact q _ h _ H (Same.refl H) r
    · have s := (Same.refl H).upd_new (o := .frz o (.tup (cutV vs lo hi))) np
      exact q _ h _ _ s (.tup upd_same zo ((cut_reps ra).fx s.fx))
  · rename_i z
    exact .inr (.inr ⟨z, res_str r, h.1, q _ h.2 _ H (Same.refl H) (.str _)⟩)
  · split at h
    · rename_i xs es
      obtain ⟨a, vs, rfl, ha, ra⟩ := listy_ok es r
      refine .inr (.inl ⟨a, vs, rfl, ha, fun p np => ?_⟩)
      have s := (Same.refl H).upd_new (o := .lst (cutV vs lo hi)) np
      exact q _ h _ _ s ⟨p, _, rfl, np, upd_same, (cut_reps ra).fx s.fx⟩
    · exact h.elim
theorem de_sl {lo hi : Option Expr} {fl fh : EO} {p2 : Pos} (ha : DE X w a fa) (hl : DO X w lo fl) (hh : DO X w hi fh) : DE X w (.Subscript a (.Slice lo hi none p2) pos) (eSl fa fl fh) :=
  (pe_slice (sl_tupF.or (sl_list.or sl_str)) ha hl hh).imp fun σ H Q ⟨H0, ρ, P, E, F, hf, hP, hE⟩ => ⟨H0, ρ, _, E, F, hf, fun x p v H1 s1 r1 =>
    ⟨H0, ρ, _, E, F.mono s1, p, fun lo p2 H2 s2 => ⟨H0, ρ, _, E, F.mono (s1.trans s2), p2, fun hi p3 H3 s3 =>
      sl_ok (r1.mono (s2.trans s3)) p3 fun d pd z H4 s4 r4 => hP d pd z H4 (((s1.trans s2).trans s3).trans s4) (r4.weak ((s1.trans s2).trans s3)), hE.mono (s1.trans s2)⟩, hE.mono s1⟩, hE⟩
end
end Cr
set_option maxHeartbeats 2000000
/-! Fw5: what is walked, targets, comprehensions, statements, loops -/
namespace Cr
open PySem PySem.Spec PyProof.Rows L2

/-! ### a frame from here on -/
open Classical in
theorem Fm.rebase {K : PySem.W.Frag} {B : Bs} {H : Hp} {σ : St} {ρ : En} (F : Fm K B H σ ρ) : ∃ Hb, Same B.h Hb ∧ Fm K ⟨B.e, Hb⟩ H σ ρ ∧
    ∀ a o, H a = some o → (∀ (i : Nat) (ds : List PD), ρ[i]? = some (.new ds) → σ[i]? = some (some (.ref a)) → False) → Hb a = some o := by
  let own : Addr → Prop := fun a => ∃ (i : Nat) (ds : List PD), ρ[i]? = some (.new ds) ∧ σ[i]? = some (some (.ref a))
  refine ⟨fun a => if own a then none else H a, ?_, ⟨?_, ?_, F.len, ?_, F.apart⟩, ?_⟩
  · intro b o e
    have hn : ¬ own b := by
      rintro ⟨i, ds, e1, e2⟩
      obtain ⟨a, vs, q1, q2, _⟩ := F.slot i _ e1
      rw [e2] at q1
      have : b = a := by cases q1; rfl
      subst this
      rw [q2] at e; cases e
    show (if own b then none else H b) = some o
    rw [if_neg hn]
    exact F.same b o e
  · intro b o e
    have e' : (if own b then none else H b) = some o := e
    by_cases hn : own b
    · rw [if_pos hn] at e'; cases e'
    · rw [if_neg hn] at e'; exact e'
  · intro b o e
    have e2 := F.ent b o e
    have hn : ¬ own b := by
      rintro ⟨i, ds, e1, e3⟩
      obtain ⟨a, vs, q1, q2, _⟩ := F.slot i _ e1
      rw [e3] at q1
      have : b = a := by cases q1; rfl
      subst this
      rw [q2] at e2; cases e2
    show (if own b then none else H b) = some o
    rw [if_neg hn]
    exact F.same b o e2
  · intro i d e
    have z := F.slot i d e
    cases d with
    | new ds =>
      obtain ⟨a, vs, q1, q2, q3, q4⟩ := z
      exact ⟨a, vs, q1, if_pos ⟨i, ds, e, q1⟩, q3, q4⟩
    | unset => trivial
    | val d => exact z
    | bor ds => exact z
    | scr ds => exact z
    | ext φ => exact z
  · intro a o e h
    show (if own a then none else H a) = some o
    rw [if_neg (by rintro ⟨i, ds, e1, e2⟩; exact h i ds e1 e2)]
    exact e
theorem Fm.base {K : PySem.W.Frag} {B : Bs} {Hb H : Hp} {σ : St} {ρ : En} (s : Same B.h Hb) (e : Same B.e B.h) (F : Fm K ⟨B.e, Hb⟩ H σ ρ) : Fm K B H σ ρ := by
  refine ⟨s.trans F.same, e, F.len, fun i d q => ?_, F.apart⟩
  have z := F.slot i d q
  cases d with
  | new ds => obtain ⟨a, vs, q1, q2, q3, q4⟩ := z; exact ⟨a, vs, q1, s.free q2, q3, q4⟩
  | unset => trivial
  | val d => exact z
  | bor ds => exact z
  | scr ds => exact z
  | ext φ => exact z

/-! ### what is walked: its items by value; true: they stay whatever the frame's own lists do -/
abbrev EI := En → (Bool → List PD → Prop) → (Ex → Prop) → Prop
/-- an item: data; or, of a loop whose target is a row of names, a tuple of data made for it -/
def RepW (tp : Bool) (H : Hp) (v : V) (x : PD) : Prop := RepF H v x ∨ (tp = true ∧ ∃ a us ds, v = .ref a ∧ x = .tuple ds ∧ H a = some (.tup us) ∧ RepsF H us ds)
def isTupE : Expr → Bool
  | .Tuple _ _ _ => true
  | _ => false
def Walks (tp b : Bool) (Hs H : Hp) (J : It) (xs : List PD) : Prop := xs.length ≤ sizeLine ∧ ∃ Hw, Same Hw H ∧ (b = true → ∀ a o, Hw a = some o → (∀ ys, o ≠ .lst ys) ∨ Hs a = none) ∧
  ∀ H2, Same Hw H2 → (∀ i, i < xs.length → J.go i H2 ∧ ∀ v H3, J.yld i H2 v H3 → Same H2 H3 ∧ ∃ x, xs[i]? = some x ∧ RepW tp H3 v x) ∧ J.stop xs.length H2
def tDI (K : PySem.W.Frag) (w : Wx) (tp : Bool) (f : EI) : TI := fun σ H R => ∃ B ρ P E, Fm K B H σ ρ ∧ f ρ P E ∧ (∀ b xs, P b xs → ∀ J H', Same H H' → Walks tp b H H' J xs → R J H') ∧ ExTo w σ H E
abbrev DI (X : Cx) (w : Wx) (tg it : Expr) (f : EI) : Prop := PI X tg it (tDI X.K w (isTupE tg) f)
theorem _root_.L2.PI.imp {X : Cx} {tg it : Expr} {t t' : TI} (h : PI X tg it t) (i : ∀ σ H Q, t' σ H Q → t σ H Q) : PI X tg it t' := ⟨fun pins s σ H Q I q => h.run pins s σ H Q I (i _ _ _ q)⟩

/-- the heap without the lists but that at p -/
noncomputable def only (H : Hp) (p : Addr) : Hp := fun a => match H a with
  | some (.lst xs) => if a = p then some (.lst xs) else none
  | o => o
theorem only_same (H : Hp) (p : Addr) : Same (only H p) H := fun b o e => by
  unfold only at e
  split at e
  · rename_i xs q
    split at e
    · rw [q]; exact e
    · cases e
  · exact e
theorem only_at {H : Hp} {p : Addr} {o : HO} (h : H p = some o) : only H p p = some o := by
  unfold only
  rw [h]
  cases o <;> first | rfl | exact if_pos rfl
theorem only_fx (H : Hp) (p : Addr) : Fx H (only H p) := fun b o e n => by
  unfold only
  rw [e]
  cases o <;> first | rfl | exact absurd rfl (n _)
theorem only_lst {H : Hp} {p a : Addr} {o : HO} (h : only H p a = some o) : (∀ ys, o ≠ .lst ys) ∨ a = p := by
  unfold only at h
  split at h
  · split at h
    · rename_i hp; exact .inr hp
    · cases h
  · rename_i hn
    exact .inl fun ys e => by subst e; exact hn ys h
theorem rd_only {H : Hp} {p : Addr} {o : HO} (h : Rd H p o) : Rd (only H p) p o := by
  rcases h with h | ⟨u, h⟩
  · exact .inl (only_at h)
  · exact .inr ⟨u, only_at h⟩
theorem sql_only {K : PySem.W.Frag} {H : Hp} {p : Addr} {vs : List V} (h : SqL K H p vs) : SqL K (only H p) p vs := by
  rcases h with h | h
  · exact .inl (rd_only h)
  · exact .inr h

section
variable {X : Cx} {w : Wx} {tg : Expr} {e : Expr} {f : EE}
/-- a result's size is within the line -/
def sized (x : D) : Prop := match seqy x with
  | some xs => xs.length ≤ sizeLine
  | none => True
def tDz (K : PySem.W.Frag) (w : Wx) (f : EE) : TE := fun σ H Q => ∃ B ρ P E, Fm K B H σ ρ ∧ f ρ P E ∧ (∀ d, P d → sized d → ∀ v H', Same H H' → ResOk K H H' v d → Q v H') ∧ ExTo w σ H E
theorem de_sized (h : DE X w e f) : PE X e (tDz X.K w f) := by
  refine ⟨fun pins s σ H Q I hh => ?_⟩
  obtain ⟨B, ρ, P, E, F, hf, hP, hE⟩ := hh
  refine thn (h.run pins s σ H (fun v H1 => ∃ d, P d ∧ Same H H1 ∧ ResOk X.K H H1 v d) I ⟨B, ρ, _, E, F, hf, fun d p v H1 s1 r => ⟨d, p, s1, r⟩, hE⟩) ?_
  rintro u s1 ⟨v, H1, I1, rv, d, p, s, r⟩
  refine ⟨v, H1, I1, rv, hP d p ?_ v H1 s r⟩
  unfold sized
  split
  · rename_i xs es
    obtain ⟨a, vs, _, hs, rr⟩ := seqy_ok es r
    rw [← rr.length]
    rcases hs with hs | hs
    · obtain ⟨_, _, _, hz⟩ := I1.list hs; exact hz
    · obtain ⟨_, _, _, hz⟩ := I1.tuple hs; exact hz
  · trivial
/-- a list or a tuple -/
@[simp] def seqP (P : Bool → List PD → Prop) : D → Prop
  | .val (.tuple xs) => P true xs
  | .val (.list xs) => P true xs
  | .new xs => P true xs
  | .scr xs => P true xs
  | .bor xs => P false xs
  | _ => False
@[simp] def iSeq (f : EE) : EI := fun ρ P E => f ρ (seqP P) E
theorem walk_list {K : PySem.W.Frag} {tp b : Bool} {Hs H : Hp} {a : Addr} {vs : List V} {xs : List PD} (hb : b = true → (∀ ys, H a ≠ some (.lst ys)) ∨ Hs a = none) (hs : SqL K H a vs) (r : RepsF H vs xs) (hz : xs.length ≤ sizeLine) : Walks tp b Hs H (Itl K a) xs := by
  refine ⟨hz, only H a, only_same H a, fun eb c o e => ?_, fun H2 s2 => ?_⟩
  · rcases only_lst e with z | z
    · exact .inl z
    · subst z
      rcases hb eb with q | q
      · exact .inl fun ys ey => by subst ey; exact q ys (only_same H c _ _ e)
      · exact .inr q
  · have hs2 : SqL K H2 a vs := s2.seq (sql_only hs)
    have r2 : RepsF H2 vs xs := r.fx ((only_fx H a).trans s2.fx)
    refine ⟨fun i hi => ?_, vs, hs2, by rw [r2.length]; exact Nat.le_refl _⟩
    obtain ⟨v, ev, rv⟩ := r2.get (List.getElem?_eq_getElem hi)
    refine ⟨⟨vs, v, hs2, ev⟩, fun v' H3 y => ?_⟩
    obtain ⟨rfl, y⟩ := y
    have e2 := y vs hs2
    rw [ev] at e2
    cases e2
    exact ⟨Same.refl _, _, List.getElem?_eq_getElem hi, .inl rv⟩
theorem walk_tup {K : PySem.W.Frag} {tp b : Bool} {Hs H : Hp} {a : Addr} {vs : List V} {xs : List PD} (hs : Rd H a (.tup vs)) (r : RepsF H vs xs) (hz : xs.length ≤ sizeLine) : Walks tp b Hs H (Itt K a) xs := by
  refine ⟨hz, only H a, only_same H a, fun eb c o e => ?_, fun H2 s2 => ?_⟩
  · rcases only_lst e with z | z
    · exact .inl z
    · subst z
      refine .inl fun ys ey => ?_
      subst ey
      have q := only_same H c _ _ e
      rcases hs with hs | ⟨o, hs⟩ <;> (rw [hs] at q; cases q)
  · have hs2 : SqT K H2 a vs := by
      rcases hs with hs | ⟨o, hs⟩
      · exact .inl (.inl (s2 _ _ (only_at hs)))
      · exact .inl (.inr ⟨o, s2 _ _ (only_at hs)⟩)
    have r2 : RepsF H2 vs xs := r.fx ((only_fx H a).trans s2.fx)
    refine ⟨fun i hi => ?_, vs, hs2, by rw [r2.length]; exact Nat.le_refl _⟩
    obtain ⟨v, ev, rv⟩ := r2.get (List.getElem?_eq_getElem hi)
    refine ⟨⟨vs, v, hs2, ev⟩, fun v' H3 y => ?_⟩
    obtain ⟨rfl, y⟩ := y
    have e2 := y vs hs2
    rw [ev] at e2
    cases e2
    exact ⟨Same.refl _, _, List.getElem?_eq_getElem hi, .inl rv⟩
theorem seq_pie {tp : Bool} {pins : List (Addr × Obj)} {σ : St} {H H1 : Hp} {s1 : Shared} {R : It → Hp → Prop} {v : V} {u : Value} {x : D} {P : Bool → List PD → Prop} (I1 : Inv X pins σ H1 s1) (rv : RelV v u) (s : Same H H1) (r : ResOk X.K H H1 v x)
    (p : seqP P x)
    (hP : ∀ b xs, P b xs → ∀ J H', Same H H' → Walks tp b H H' J xs → R J H') : wpAny (model X.prog X.w) X.A (pyIter u) (PIE X pins σ tg R) X.xe s1 := by
  have goL : ∀ (b : Bool) (a : Addr) (vs : List V) (xs : List PD), u = .ref a → P b xs → (b = true → (∀ ys, H1 a ≠ some (.lst ys)) ∨ H a = none) → SqL X.K H1 a vs → RepsF H1 vs xs → wpAny (model X.prog X.w) X.A (pyIter u) (PIE X pins σ tg R) X.xe s1 := by
    rintro b a vs xs rfl p hb hs r
    obtain ⟨its, rv, pl, hz⟩ := I1.list hs
    refine wpAny_pyIter_list pl.isList ?_
    refine ⟨s1.heap.objs.size, [s1.heap.objs.size], _, _, H1, rfl, I1.kept (t' := s1.toks) fun b o e => Heap.get?_push_of_some _ e, turn_list a _, ⟨_, Heap.get?_push_size _ rfl, rfl, rfl⟩, fun b hb => ?_, hP b xs p _ _ s (walk_list hb hs r (by rw [← r.length]; exact hz))⟩
    have e : b = s1.heap.objs.size := by simpa using hb
    subst e
    exact I1.fpOk (Nat.le_refl _) (I1.hok.fresh (Nat.le_refl _))
  cases x with
  | val d =>
    cases d with
    | tuple xs =>
      obtain ⟨a, vs, rfl, hq, rr⟩ := res_tup r
      cases rv
      obtain ⟨its, rv, pl, hz⟩ := I1.tuple (show SqT X.K H1 a vs from .inl hq)
      refine wpAny_pyIter_tuple (show s1.heap.IsTuple a its.toArray from pl) ?_
      refine ⟨s1.heap.objs.size, [s1.heap.objs.size], _, _, H1, rfl, I1.kept (t' := s1.toks) fun b o e => Heap.get?_push_of_some _ e, turn_tuple a _, ⟨_, Heap.get?_push_size _ rfl, rfl, rfl⟩, fun b hb => ?_, hP true xs p _ _ s (walk_tup hq rr (by rw [← rr.length]; exact hz))⟩
      have e : b = s1.heap.objs.size := by simpa using hb
      subst e
      exact I1.fpOk (Nat.le_refl _) (I1.hok.fresh (Nat.le_refl _))
    | list xs =>
      cases r with
      | lst hq rr => cases rv; exact goL true _ _ xs rfl p (fun _ => .inl fun ys e => by rw [hq] at e; cases e) (.inl (.inr ⟨_, hq⟩)) rr
    | _ => exact p.elim
  | new xs => obtain ⟨a, vs, rfl, n, hq, rr⟩ := r; cases rv; exact goL true a vs xs rfl p (fun _ => .inr n) (.of hq) rr
  | bor xs => obtain ⟨a, vs, rfl, hq, rr⟩ := r; cases rv; exact goL false a vs xs rfl p (fun z => by cases z) (.inl hq) rr
  | scr xs =>
    obtain ⟨a, vs, rfl, hq, rr⟩ := r
    cases rv
    have fresh : ∀ ys, H1 a = some (.lst ys) → False := fun ys e => by
      rcases hq with ⟨o, hq⟩ | ⟨o, its, n, hk, _⟩
      · rw [hq] at e; cases e
      · have z := I1.bs a o (I1.mod.kin a o hk)
        rw [z.2] at e; cases e
    exact goL true a vs xs rfl p (fun _ => .inl fun ys e => fresh ys e) hq.sq rr
  | _ => exact p.elim
theorem di_seq (h : DE X w e f) : DI X w tg e (iSeq f) := by
  refine ⟨fun pins s σ H R I hh => ?_⟩
  obtain ⟨B, ρ, P, E, F, hf, hP, hE⟩ := hh
  refine thn (h.run pins s σ H (fun v H1 => ∃ x, Same H H1 ∧ ResOk X.K H H1 v x ∧ seqP P x) I
    ⟨B, ρ, _, E, F, hf, fun d p v H1 s1 r => ⟨d, s1, r, p⟩, hE⟩) ?_
  rintro u s1 ⟨v, H1, I1, rv, x, s, r, p⟩
  exact seq_pie I1 rv s r p hP
/-- range -/
def rng (lo : Int) (n : Nat) : List PD := (List.range n).map fun (i : Nat) => .int (lo + (i : Int))
theorem rng_len (lo : Int) (n : Nat) : (rng lo n).length = n := by unfold rng; rw [List.length_map, List.length_range]
theorem rng_get {lo : Int} {n i : Nat} (h : i < n) : (rng lo n)[i]? = some (.int (lo + i)) := by
  unfold rng
  rw [List.getElem?_map, List.getElem?_range h]
  rfl
theorem walk_rng {tp b : Bool} {Hs H : Hp} {lo : Int} {n : Nat} (hz : n ≤ sizeLine) : Walks tp b Hs H (Itr lo n) (rng lo n) := by
  refine ⟨(by rw [rng_len]; exact hz), fun _ => none, (fun _ _ e => nomatch e), (fun _ _ _ e => nomatch e), fun H2 _ => ⟨fun i hi => ?_, by show n ≤ (rng lo n).length; rw [rng_len]; exact Nat.le_refl _⟩⟩
  rw [rng_len] at hi
  refine ⟨hi, fun v H3 y => ?_⟩
  obtain ⟨rfl, rfl⟩ := y
  exact ⟨Same.refl _, _, rng_get hi, .inl (.int _)⟩
@[simp] def iRange1 (f : EE) : EI := fun ρ P E => f ρ (fun x => match x with | .val (.int n) => -(2 ^ 62) ≤ n ∧ n ≤ 16777216 ∧ P true (rng 0 n.toNat) | _ => False) E
@[simp] def iRange2 (f g : EE) : EI := fun ρ P E => f ρ (fun x => match x with | .val (.int a) => g ρ (fun y => match y with | .val (.int n) => (-(2 ^ 62) ≤ a ∧ a ≤ 16777216 ∧ -(2 ^ 62) ≤ n ∧ n ≤ 16777216 ∧ n - a ≤ 16777216) ∧ P true (rng a (n - a).toNat) | _ => False) E | _ => False) E
variable {a b : Expr} {fa fb : EE} {p pos : Pos}
theorem di_range1 (hg : Gl X "range") (hm : X.mg "range" = none) (ha : DE X w a fa) (hs : starEach [a] X.env = [(false, eval a X.env)] := by rfl) : DI X w tg (.Call (.Name "range" p) [a] [] pos) (iRange1 fa) :=
  (pi_range1 hg hm (pa_cons ha pa_nil hs) hs).imp fun σ H R ⟨B, ρ, P, E, F, hf, hP, hE⟩ => ⟨B, ρ, _, E, F, hf, fun d q v H1 s1 r => by
    obtain ⟨n, rfl, q⟩ := int_of (Q := fun n => -(2 ^ 62) ≤ n ∧ n ≤ 16777216 ∧ P true (rng 0 n.toNat)) q
    exact ⟨n, by rw [res_int r], q.1, by omega, hP true _ q.2.2 _ _ s1 (walk_rng (by rw [sizeLine_eq]; omega))⟩, hE⟩
theorem di_range2 (hg : Gl X "range") (hm : X.mg "range" = none) (ha : DE X w a fa) (hb : DE X w b fb) (hs : starEach [a, b] X.env = [(false, eval a X.env), (false, eval b X.env)] := by rfl) (hs2 : starEach [b] X.env = [(false, eval b X.env)] := by rfl) :
    DI X w tg (.Call (.Name "range" p) [a, b] [] pos) (iRange2 fa fb) :=
  (pi_range2 hg hm (pa_cons ha (pa_cons hb pa_nil hs2) (by rw [hs, hs2])) hs hs2).imp fun σ H R ⟨B, ρ, P, E, F, hf, hP, hE⟩ => ⟨B, ρ, _, E, F, hf, fun d q v H1 s1 r => by
    obtain ⟨n, rfl, q⟩ := int_of (Q := fun a => fb ρ (fun y => match y with | .val (.int n) => (-(2 ^ 62) ≤ a ∧ a ≤ 16777216 ∧ -(2 ^ 62) ≤ n ∧ n ≤ 16777216 ∧ n - a ≤ 16777216) ∧ P true (rng a (n - a).toNat) | _ => False) E) q
    refine ⟨B, ρ, _, E, F.mono s1, q, fun d2 q2 v2 H2 s2 r2 => ?_, hE.mono s1⟩
    obtain ⟨m, rfl, q2⟩ := int_of (Q := fun m => (-(2 ^ 62) ≤ n ∧ n ≤ 16777216 ∧ -(2 ^ 62) ≤ m ∧ m ≤ 16777216 ∧ m - n ≤ 16777216) ∧ P true (rng n (m - n).toNat)) q2
    exact ⟨n, m, by rw [res_int r, res_int r2], by omega, hP true _ q2.2 _ _ (s1.trans s2) (walk_rng (by rw [sizeLine_eq]; omega))⟩, hE⟩
/-- enumerate of a list -/
def enumP (xs : List PD) : List PD := xs.mapIdx fun i x => .tuple [.int (i : Nat), x]
@[simp] def iEnumD (f : EE) : EI := fun ρ P E => f ρ (fun x => match x with
  | .val (.list xs) => P true (enumP xs)
  | .new xs => P true (enumP xs)
  | .bor xs => P false (enumP xs)
  | _ => False) E
theorem walk_enum {K : PySem.W.Frag} {b : Bool} {Hs H : Hp} {a : Addr} {vs : List V} {xs : List PD} (hb : b = true → (∀ ys, H a ≠ some (.lst ys)) ∨ Hs a = none) (hs : SqL K H a vs) (r : RepsF H vs xs) (hz : xs.length ≤ sizeLine) : Walks true b Hs H (Ite K a) (enumP xs) := by
  refine ⟨by unfold enumP; rw [List.length_mapIdx]; exact hz, only H a, only_same H a, fun eb c o e => ?_, fun H2 s2 => ?_⟩
  · rcases only_lst e with z | z
    · exact .inl z
    · subst z
      rcases hb eb with q | q
      · exact .inl fun ys ey => by subst ey; exact q ys (only_same H c _ _ e)
      · exact .inr q
  · have hs2 : SqL K H2 a vs := s2.seq (sql_only hs)
    have r2 : RepsF H2 vs xs := r.fx ((only_fx H a).trans s2.fx)
    have hl : (enumP xs).length = xs.length := by unfold enumP; rw [List.length_mapIdx]
    refine ⟨fun i hi => ?_, vs, hs2, by rw [r2.length, hl]; exact Nat.le_refl _⟩
    rw [hl] at hi
    obtain ⟨v, ev, rv⟩ := r2.get (List.getElem?_eq_getElem hi)
    refine ⟨⟨vs, v, hs2, ev⟩, fun v' H3 y => ?_⟩
    obtain ⟨T, x, rfl, nT, rfl, y⟩ := y
    have e2 := y vs hs2
    rw [ev] at e2
    cases e2
    have s := (Same.refl H2).upd_new (o := .tup [.int (i : Nat), v]) nT
    refine ⟨s, .tuple [.int (i : Nat), xs[i]], ?_, .inr ⟨rfl, _, _, _, rfl, rfl, upd_same, .cons (.int _) (.cons (rv.fx s.fx) .nil)⟩⟩
    unfold enumP
    rw [List.getElem?_mapIdx, List.getElem?_eq_getElem hi]
    rfl
theorem di_enum {elts : List Expr} {kk : Nat} {tpos : Pos} (hg : Gl X "enumerate") (hm : X.mg "enumerate" = none) (ha : DE X w a fa) (hs : starEach [a] X.env = [(false, eval a X.env)] := by rfl) :
    DI X w (.Tuple elts kk tpos) (.Call (.Name "enumerate" p) [a] [] pos) (iEnumD fa) :=
  (pi_enum hg hm (pa_cons (de_sized ha) pa_nil hs) hs).imp fun σ H R ⟨B, ρ, P, E, F, hf, hP, hE⟩ => ⟨B, ρ, _, E, F, hf, fun x q hz v H1 s1 r => by
    cases x with
    | val d =>
      cases d with
      | list xs =>
        cases r with
        | lst hq rr => exact ⟨_, _, rfl, .inl (.inr ⟨_, hq⟩), hP true _ q _ _ s1 (walk_enum (fun _ => .inl fun ys e => by rw [hq] at e; cases e) (.inl (.inr ⟨_, hq⟩)) rr hz)⟩
      | _ => exact q.elim
    | new xs => obtain ⟨a, vs, rfl, n, hq, rr⟩ := r; exact ⟨a, vs, rfl, .of hq, hP true _ q _ _ s1 (walk_enum (fun _ => .inr n) (.of hq) rr hz)⟩
    | bor xs => obtain ⟨a, vs, rfl, hq, rr⟩ := r; exact ⟨a, vs, rfl, .inl hq, hP false _ q _ _ s1 (walk_enum (fun z => by cases z) (.inl hq) rr hz)⟩
    | _ => exact q.elim, hE⟩
end

/-! ### targets -/
abbrev Bd := PD → En → (En → Prop) → Prop
def tDG (K : PySem.W.Frag) (tp : Bool) (vs : List Nat) (t : Bd) : TG := fun v σ H Q => ∃ B ρ x P, Fm K B H σ ρ ∧ RepW tp H v x ∧ t x ρ P ∧ ∀ ρ' σ', P ρ' → Fm K B H σ' ρ' → (σ'.length = σ.length ∧ ∀ j, j ∉ vs → σ'[j]? = σ[j]?) → Q σ' H
abbrev DG (X : Cx) (tg : Expr) (vs : List Nat) (t : Bd) : Prop := PG X tg (tDG X.K (isTupE tg) vs t)
theorem _root_.L2.PG.imp {X : Cx} {tg : Expr} {t t' : TG} (h : PG X tg t) (i : ∀ v σ H Q, t' v σ H Q → t v σ H Q) : PG X tg t' := ⟨fun pins s σ H v u Q I r q => h.run pins s σ H v u Q I r (i _ _ _ _ q)⟩
@[simp] def bName (i : Nat) : Bd := fun x ρ P => P (ρ.set i (.val x))
@[simp] def bPair (i j : Nat) : Bd := fun x ρ P => match x with | .tuple [a, b] => P ((ρ.set i (.val a)).set j (.val b)) | _ => False
section
variable {X : Cx} {pos : Pos}
theorem dg_name {i : Nat} {x : Str} (hN : X.N.Nodup) (hi : X.N[i]? = some x) (hx : Loc X.env.scope x) (hf : X.fn x = true ∨ X.env.scope.names.lookup x = some .local := by first | exact .inl rfl | exact .inr rfl | assumption) : DG X (.Name x pos) [i] (bName i) :=
  (pg_name hN hi hx hf).imp fun v σ H Q ⟨B, ρ, x, P, F, r, h, q⟩ => q _ _ h (F.setRes (Same.refl H) (x := .val x) (r.resolve_right fun z => by cases z.1) trivial) ⟨List.length_set, fun j hj => by
    rw [List.getElem?_set_ne (by simp at hj; exact fun e => hj e.symm)]⟩
theorem dg_pair {i j k : Nat} {x y : Str} {p1 p2 : Pos} (hc : X.calm = true) (hN : X.N.Nodup) (hi : X.N[i]? = some x) (hx : Loc X.env.scope x) (hj : X.N[j]? = some y) (hy : Loc X.env.scope y)
    (hf : X.fn x = true ∨ X.env.scope.names.lookup x = some .local := by first | exact .inl rfl | exact .inr rfl | assumption) (hf2 : X.fn y = true ∨ X.env.scope.names.lookup y = some .local := by first | exact .inl rfl | exact .inr rfl | assumption)
    (h1 : (assignEach [(.Name x p1), (.Name y p2)] X.env).map (·.2) = assign (.Name x p1) X.env :: (assignEach [(.Name y p2)] X.env).map (·.2) := by rfl)
    (h2 : (assignEach [(.Name y p2)] X.env).map (·.2) = assign (.Name y p2) X.env :: (assignEach [] X.env).map (·.2) := by rfl)
    (hn : (assignEach [(.Name x p1), (.Name y p2)] X.env).length = 2 := by rfl) (hst : (assignEach [(.Name x p1), (.Name y p2)] X.env).findIdx? (·.1) = none := by rfl) :
    DG X (.Tuple [.Name x p1, .Name y p2] k pos) [i, j] (bPair i j) :=
  (pg_tup hc (pgs_cons (pg_name hN hi hx hf) (pgs_cons (pg_name hN hj hy hf2) pgs_nil h2) h1) hn hst).imp fun v σ H Q ⟨B, ρ, d, P, F, r, h, q⟩ => by
    unfold bPair at h
    split at h
    · rename_i a b
      obtain ⟨ad, us, ev, hq, rr⟩ : ∃ ad us, v = .ref ad ∧ SqT X.K H ad us ∧ RepsF H us [a, b] := by
        rcases r with r | ⟨_, ad, us, ds, ev, ex, hq, rr⟩
        · cases r with
          | tup hq _ rr => exact ⟨_, _, rfl, .inl (.inr ⟨_, hq⟩), rr⟩
        · cases ex
          exact ⟨ad, us, ev, .of hq, rr⟩
      cases rr with
      | cons ra rr =>
        cases rr with
        | cons rb rr =>
          cases rr
          refine ⟨ad, _, ev, hq, rfl, _, _, rfl, _, _, rfl, rfl, ?_⟩
          refine q _ _ h ((F.setRes (Same.refl H) (x := .val a) ra trivial).setRes (Same.refl H) (x := .val b) rb trivial) ⟨by rw [List.length_set, List.length_set], fun l hl => ?_⟩
          simp only [List.mem_cons, List.not_mem_nil, or_false, not_or] at hl
          rw [List.getElem?_set_ne (fun e => hl.2 e.symm), List.getElem?_set_ne (fun e => hl.1 e.symm)]
    · exact h.elim
end

/-! ### comprehensions -/
@[simp] def wipeD (ρ : En) : List Nat → En
  | [] => ρ
  | v :: vs => (wipeD ρ vs).set v .unset
theorem Fm.unset {K : PySem.W.Frag} {B : Bs} {H : Hp} {σ : St} {ρ : En} {i : Nat} (F : Fm K B H σ ρ) : Fm K B H (σ.set i none) (ρ.set i .unset) := by
  refine ⟨F.same, F.ent, by rw [List.length_set, List.length_set]; exact F.len, fun j d e => ?_, fun j k es fs a e1 e2 e3 e4 => ?_⟩
  · rcases get_set e with ⟨rfl, rfl, hl⟩ | ⟨hj, e⟩
    · trivial
    · rw [List.getElem?_set_ne (Ne.symm hj)]; exact F.slot j d e
  · rcases get_set e1 with ⟨_, z, _⟩ | ⟨hj, e1⟩
    · cases z
    · rcases get_set e2 with ⟨_, z, _⟩ | ⟨hk, e2⟩
      · cases z
      · rw [List.getElem?_set_ne (Ne.symm hj)] at e3
        rw [List.getElem?_set_ne (Ne.symm hk)] at e4
        exact F.apart j k es fs a e1 e2 e3 e4
theorem Fm.wipe {K : PySem.W.Frag} {B : Bs} {H : Hp} {σ : St} {ρ : En} (F : Fm K B H σ ρ) : ∀ vs : List Nat, Fm K B H (L2.wipe σ vs) (wipeD ρ vs)
  | [] => F
  | v :: vs => (Fm.wipe F vs).unset
theorem wipe_at (σ : St) (j : Nat) : ∀ vs : List Nat, (wipe σ vs)[j]? = if j ∈ vs then (if j < σ.length then some none else none) else σ[j]?
  | [] => by simp [wipe]
  | v :: vs => by
    unfold wipe
    by_cases e : v = j
    · subst e
      rw [if_pos List.mem_cons_self]
      by_cases hl : v < σ.length
      · rw [if_pos hl, List.getElem?_set_self (by rw [wipe_length]; exact hl)]
      · rw [if_neg hl, List.getElem?_eq_none (by rw [List.length_set, wipe_length]; omega)]
    · rw [List.getElem?_set_ne e, wipe_at σ j vs]
      by_cases hm : j ∈ vs
      · rw [if_pos hm, if_pos (List.mem_cons_of_mem _ hm)]
      · rw [if_neg hm, if_neg (by simp only [List.mem_cons, not_or]; exact ⟨fun z => e z.symm, hm⟩)]
theorem wipe_eq {σ σ' : St} {vs : List Nat} (hl : σ'.length = σ.length) (h : ∀ j, j ∉ vs → σ'[j]? = (wipe σ vs)[j]?) : wipe σ' vs = wipe σ vs := by
  refine List.ext_getElem? fun j => ?_
  rw [wipe_at, wipe_at, hl]
  by_cases hm : j ∈ vs
  · rw [if_pos hm, if_pos hm]
  · rw [if_neg hm, if_neg hm, h j hm, wipe_at, if_neg hm]

/-- the wish within a comprehension: nothing is raised -/
abbrev Wx.no (w : Wx) : Wx := ⟨fun _ _ _ _ => False, w.mg⟩
@[simp] def tTrue : ET := fun _ P _ => P true
/-- a new list is made of the items: by an invariant of what is made so far -/
def LcI (xs : List PD) (vs : List Nat) (t : Bd) (cond : ET) (elt : EE) (ρ : En) (P : D → Prop) : Prop := ∃ I : Nat → List PD → Prop, I 0 [] ∧
  (∀ i x acc, xs[i]? = some x → acc.length ≤ i → I i acc → t x (wipeD ρ vs) fun ρ' => cond ρ' (fun b => if b = true then elt ρ' (fun y => match y with | .val z => I (i + 1) (acc ++ [z]) | _ => False) (fun _ => False) else I (i + 1) acc) fun _ => False) ∧
  ∀ acc, acc.length ≤ xs.length → I xs.length acc → P (.new acc)
@[simp] def eLc (fi : EI) (vs : List Nat) (t : Bd) (cond : ET) (elt : EE) : EE := fun ρ P E => fi ρ (fun _ xs => LcI xs vs t cond elt ρ (@kontI ⟨P⟩)) E
theorem exNo {w : Wx} {σ : St} {H : Hp} : ExTo w.no σ H fun _ => False := fun _ e => e.elim
theorem lc_imp {K : PySem.W.Frag} {tp : Bool} {w : Wx} {fi : EI} {vs : List Nat} {t : Bd} {cond : ET} {elt : EE} {σ : St} {H : Hp} {Q : VK} (h : tD K w (eLc fi vs t cond elt) σ H Q) :
    tLc (tDI K w tp fi) (tDG K tp vs t) (tDT K w.no cond) (tD K w.no elt) vs σ H Q := by
  obtain ⟨B, ρ, P, E, F, hf, hP, hE⟩ := h
  refine ⟨B, ρ, _, E, F, hf, fun b xs q J H1 s1 wk D nD => ?_, hE⟩
  obtain ⟨I, i0, turn, fin⟩ := q
  obtain ⟨hz, Hw, sw, _, wk⟩ := wk
  refine ⟨fun i m H2 => m = xs.length - i ∧ i ≤ xs.length ∧ ∃ acc us, H2 D = some (.lst us) ∧ RepsF H2 us acc ∧ acc.length ≤ i ∧ I i acc ∧ Same H1 H2, ⟨xs.length, rfl, Nat.zero_le _, [], [], upd_same, .nil, Nat.le_refl _, i0, (Same.refl H1).upd_new nD⟩, ?_⟩
  rintro i m H2 ⟨rfl, hi, acc, us, hD, rr, hac, hI, s2⟩
  obtain ⟨go, stop⟩ := wk H2 (sw.trans s2)
  by_cases hlt : i < xs.length
  · obtain ⟨g, y⟩ := go i hlt
    refine .inr ⟨g, fun H3 => ∃ acc us, H3 D = some (.lst us) ∧ RepsF H3 us acc ∧ acc.length ≤ i + 1 ∧ I (i + 1) acc ∧ Same H1 H3, fun H3 q => ⟨xs.length - (i + 1), by omega, rfl, hlt, q⟩, fun v H3 yl => ?_⟩
    obtain ⟨s3, x, ex, rx⟩ := y v H3 yl
    have F3 : Fm K B H3 (L2.wipe σ vs) (wipeD ρ vs) := (F.mono ((s1.trans s2).trans s3)).wipe vs
    refine ⟨B, wipeD ρ vs, x, _, F3, rx, turn i x acc ex hac hI, fun ρ' σ' p F' hj => ⟨wipe_eq (by rw [hj.1, wipe_length]) hj.2, ?_⟩⟩
    refine ⟨B, ρ', _, _, F', p, fun c pc H4 s4 => ?_, exNo⟩
    have s14 := (s2.trans s3).trans s4
    cases c with
    | false => exact ⟨acc, us, s4 _ _ (s3 _ _ hD), rr.fx (s3.trans s4).fx, by omega, pc, s14⟩
    | true =>
      refine ⟨B, ρ', _, _, F'.mono s4, pc, fun y py v4 H5 s5 r5 => ?_, exNo⟩
      cases y with
      | val z =>
        have hD5 := s5 _ _ (s4 _ _ (s3 _ _ hD))
        have rr5 := rr.fx ((s3.trans s4).trans s5).fx
        refine ⟨us, hD5, by rw [rr.length]; omega, acc ++ [z], us ++ [v4], upd_same, ?_, by rw [List.length_append]; exact Nat.succ_le_succ hac, py, (s14.trans s5).upd_new nD⟩
        exact (rr5.append (.cons r5 .nil)).fx (Fx.upd_lst hD5)
      | _ => exact py.elim
  · have e : i = xs.length := by omega
    subst e
    refine .inl ⟨stop, hP _ (fin acc hac hI) _ _ (s1.trans s2) ⟨D, us, rfl, s1.free nD, hD, rr⟩⟩
end Cr
set_option maxHeartbeats 2000000
/-! Fw6: comprehensions as expressions, statements, loops -/
namespace Cr
open PySem PySem.Spec PyProof.Rows L2

/-! ### comprehensions -/
theorem _root_.L2.PTs.imp {X : Cx} {ifs : List Expr} {t t' : TT} (h : PTs X ifs t) (i : ∀ σ H Q, t' σ H Q → t σ H Q) : PTs X ifs t' := ⟨fun pins s σ H Q I q => h.run pins s σ H Q I (i _ _ _ q)⟩
section
variable {X : Cx} {w : Wx} {pos : Pos}
theorem dts_nil {K : PySem.W.Frag} : PTs X [] (tDT K w tTrue) := pts_nil.imp fun σ H Q ⟨B, ρ, P, E, F, hf, hP, hE⟩ => hP true hf H (Same.refl H)
theorem dts_one {c : Expr} {t : ET} (h : DT X w c t) : PTs X [c] (tDT X.K w t) := pts_one h
variable {elt tg iter : Expr} {ifs : List Expr} {scope : Scope} {own : List (Str × Nat)} {fi : EI} {t : Bd} {cond : ET} {f : EE}
theorem de_lc (own : List (Str × Nat)) (hc : X.calm = true) (hN : X.N.Nodup) (hi : DI X w tg iter fi) (ok : BlkOk X.N X.env.scope scope own)
    (hg : ∀ (s : Shared) (H : Hp) (C : Addr) (cl : List (Str × Addr)) (fp : List Addr), DG (X.blk s H scope (compEnvC scope cl C X.env) fp) tg (own.map (·.2)) t)
    (ht : ∀ (s : Shared) (H : Hp) (C : Addr) (cl : List (Str × Addr)) (fp : List Addr), PTs (X.blk s H scope (compEnvC scope cl C X.env) fp) ifs (tDT X.K w.no cond))
    (he : ∀ (s : Shared) (H : Hp) (C : Addr) (cl : List (Str × Addr)) (fp : List Addr), DE (X.blk s H scope (compEnvC scope cl C X.env) fp) w.no elt f) (hs : ∀ x, foldedSetIterable iter X.env x = pure x := by intro _; rfl) :
    DE X w (.ListComp elt [⟨tg, iter, ifs, 0⟩] scope pos) (eLc fi (own.map (·.2)) t cond f) :=
  (pe_lc hc hN hi ok hg ht he hs).imp fun _ _ _ h => lc_imp h
end

/-! ### statements -/
section
variable {X : Cx} {w : Wx} {pos : Pos} {st : Stmt} {rest : List Stmt} {f g : ES}
@[simp] def sNext : ES := fun d ρ => d.nx ρ
@[simp] def sSeq (f g : ES) : ES := fun d ρ => f { d with nx := g d } ρ
theorem dss_nil : DSs X w [] sNext := pss_nil.imp fun T σ H ⟨B, ρ, d, F, hf, N⟩ => N.nx ρ σ H F hf
theorem dss_cons (h1 : DS X w st f) (h2 : DSs X w rest g) : DSs X w (st :: rest) (sSeq f g) :=
  (pss_cons h1 h2).imp fun T σ H ⟨B, ρ, d, F, hf, N⟩ => ⟨B, ρ, _, F, hf, fun ρ' σ' H' F' q => ⟨B, ρ', d, F', q, N⟩, N.bk, N.ct, N.rt, N.ex⟩
theorem dss_one (h1 : DS X w st f) : DSs X w [st] f := pss_one h1
theorem ds_pass : DS X w (.Pass pos) sNext := ps_pass.imp fun T σ H ⟨B, ρ, d, F, hf, N⟩ => N.nx ρ σ H F hf
@[simp] def sBreak : ES := fun d ρ => d.bk ρ
@[simp] def sCont : ES := fun d ρ => d.ct ρ
theorem ds_break : DS X w (.Break pos) sBreak := ps_break.imp fun T σ H ⟨B, ρ, d, F, hf, N⟩ => N.bk ρ σ H F hf
theorem ds_continue : DS X w (.Continue pos) sCont := ps_continue.imp fun T σ H ⟨B, ρ, d, F, hf, N⟩ => N.ct ρ σ H F hf
@[simp] def sNever : ES := fun _ _ => False
theorem ds_never : DS X w st sNever := ps_never.imp fun T σ H ⟨B, ρ, d, F, hf, N⟩ => hf
variable {e : Expr} {fe : EE}
@[simp] def sExpr (fe : EE) : ES := fun d ρ => fe ρ (fun _ => d.nx ρ) fun x => d.ex x ρ
theorem ds_expr (h : DE X w e fe) (hs : swapsWith e none pos.line X.env = pure false := by rfl) : DS X w (.Expr e pos) (sExpr fe) :=
  (ps_expr h hs).imp fun T σ H ⟨B, ρ, d, F, hf, N⟩ => ⟨B, ρ, _, _, F, hf, fun _ p v H1 s1 _ => N.nx ρ σ H1 (F.mono s1) p, N.exTo F⟩
@[simp] def sRet (fe : EE) : ES := fun d ρ => fe ρ d.rt fun x => d.ex x ρ
theorem ds_ret (h : DE X w e fe) : DS X w (.Return (some e) pos) (sRet fe) :=
  (ps_ret h).imp fun T σ H ⟨B, ρ, d, F, hf, N⟩ => ⟨B, ρ, _, _, F, hf, fun r p v H1 s1 q => N.rt r v H1 (F.same.trans s1) (q.weak F.same) p, N.exTo F⟩
@[simp] def sRetN : ES := fun d ρ => d.rt (.val .none)
theorem ds_retN : DS X w (.Return none pos) sRetN := ps_retN.imp fun T σ H ⟨B, ρ, d, F, hf, N⟩ => N.rt (.val .none) _ _ F.same RepF.non hf
/-- return of a name: an own list is handed out as new -/
@[simp] def sRetV (i : Nat) : ES := fun d ρ => match ρ[i]? with
  | some (.new ds) => d.rt (.new ds)
  | _ => eVar i ρ d.rt fun _ => False
theorem ds_retV (i : Nat) {x : Str} {pos' : Pos} (hN : X.N[i]? = some x) (hv : Vis X.env.scope x) (hd : (x == ("__debug__" : Str)) = false := by decide) (hcd : (x == ("__classdict__" : Str)) = false := by decide) : DS X w (.Return (some (.Name x pos')) pos) (sRetV i) :=
  (ps_ret (pe_var hN hv hd hcd)).imp fun T σ H ⟨B, ρ, d, F, hf, N⟩ => by
    unfold sRetV at hf
    split at hf
    · rename_i ds e
      obtain ⟨a, vs, ev, n, q, r⟩ := F.slot i _ e
      exact ⟨_, ev, N.rt (.new ds) _ _ F.same ⟨a, vs, rfl, n, q, r⟩ hf⟩
    · obtain ⟨v, x, ev, p, r⟩ := var_ok F hf
      exact ⟨v, ev, N.rt _ _ _ F.same (r.weak F.same) p⟩
@[simp] def sIf (t : ET) (f g : ES) : ES := fun d ρ => t ρ (fun c => if c = true then f d ρ else g d ρ) fun x => d.ex x ρ
theorem ds_if {c : Expr} {a b : List Stmt} {t : ET} (hc : DT X w c t) (ha : DSs X w a f) (hb : DSs X w b g) : DS X w (.If c a b pos) (sIf t f g) :=
  (ps_if hc ha hb).imp fun T σ H ⟨B, ρ, d, F, hf, N⟩ => ⟨B, ρ, _, _, F, hf, fun c p H1 s1 => by
    cases c with
    | true => exact ⟨B, ρ, d, F.mono s1, p, N⟩
    | false => exact ⟨B, ρ, d, F.mono s1, p, N⟩, N.exTo F⟩
/-- name = e -/
@[simp] def sSet (i : Nat) (fe : EE) : ES := fun d ρ => fe ρ (fun x => Plain x ∧ d.nx (ρ.set i x)) fun x => d.ex x ρ
theorem set_imp {K : PySem.W.Frag} {i : Nat} {T : Ends} {σ : St} {H : Hp} (h : tDS K w (sSet i fe) T σ H) : tAsg (tD K w fe) (gName i) T σ H := by
  obtain ⟨B, ρ, d, F, hf, N⟩ := h
  exact ⟨B, ρ, _, _, F, hf, fun x p v H1 s1 r => N.nx _ _ _ (F.setRes s1 r p.1) p.2, N.exTo F⟩
theorem ds_set (i : Nat) {x : Str} {pos' : Pos} (hN : X.N.Nodup) (hi : X.N[i]? = some x) (hx : Loc X.env.scope x) (he : DE X w e fe) (hs : swapsWith e (some (.Name x pos')) pos.line X.env = pure false := by rfl)
    (hf : X.fn x = true ∨ X.env.scope.names.lookup x = some .local := by first | exact .inl rfl | exact .inr rfl | assumption) : DS X w (.Assign [.Name x pos'] e pos) (sSet i fe) :=
  (ps_set hN hi hx he hs hf).imp fun _ _ _ h => set_imp h
/-- name = [..] -/
theorem ds_setLc (i : Nat) {y : Str} {py spos : Pos} {elt tg iter : Expr} {ifs : List Expr} {scope : Scope} (own : List (Str × Nat)) {fi : EI} {t : Bd} {cond : ET} {f : EE} (hc : X.calm = true) (hN : X.N.Nodup) (hy : X.N[i]? = some y) (hyl : X.env.scope.names.lookup y = some .local)
    (hsw : swapsWith (.ListComp elt [⟨tg, iter, ifs, 0⟩] scope pos) (some (.Name y py)) spos.line X.env = pure true) (hi : DI X w tg iter fi) (ok : BlkOk X.N X.env.scope scope own)
    (hg : ∀ (s : Shared) (H : Hp) (C : Addr) (cl : List (Str × Addr)) (fp : List Addr), DG (X.blk s H scope (compEnvC scope cl C X.env) fp) tg (own.map (·.2)) t)
    (ht : ∀ (s : Shared) (H : Hp) (C : Addr) (cl : List (Str × Addr)) (fp : List Addr), PTs (X.blk s H scope (compEnvC scope cl C X.env) fp) ifs (tDT X.K w.no cond))
    (he : ∀ (s : Shared) (H : Hp) (C : Addr) (cl : List (Str × Addr)) (fp : List Addr), DE (X.blk s H scope (compEnvC scope cl C X.env) fp) w.no elt f) (hs : ∀ x, foldedSetIterable iter X.env x = pure x := by intro _; rfl) :
    DS X w (.Assign [.Name y py] (.ListComp elt [⟨tg, iter, ifs, 0⟩] scope pos) spos) (sSet i (eLc fi (own.map (·.2)) t cond f)) :=
  (ps_setLc hc hN hy hyl hsw hi ok hg ht he hs).imp fun T σ H h => lc_imp (set_imp h)
/-- target = e, by its value -/
@[simp] def sAsg (fe : EE) (t : Bd) : ES := fun d ρ => fe ρ (fun x => match x with | .val v => t v ρ d.nx | _ => False) fun x => d.ex x ρ
theorem ds_asg {tg : Expr} {vs : List Nat} {t : Bd} (he : DE X w e fe) (hg : DG X tg vs t) (hs : swapsWithSole [tg] e pos.line X.env = pure false := by rfl) (hw : swappedStores [tg] e X.env = pure none := by rfl)
    (h1 : (assignEach [tg] X.env).map (·.2) = [assign tg X.env] := by rfl) : DS X w (.Assign [tg] e pos) (sAsg fe t) :=
  (ps_asg he hg hs hw h1).imp fun T σ H ⟨B, ρ, d, F, hf, N⟩ => ⟨B, ρ, _, _, F, hf, fun x p v H1 s1 r => by
    cases x with
    | val z => exact ⟨B, ρ, z, _, F.mono s1, .inl r, p, fun ρ' σ' q F' _ => N.nx ρ' σ' H1 F' q⟩
    | _ => exact p.elim, N.exTo F⟩
/-- a, b = e1, e2 -/
@[simp] def sPar (i j : Nat) (fa fb : EE) : ES := fun d ρ => fa ρ (fun x => fb ρ (fun y => ∃ u v, x = .val u ∧ y = .val v ∧ d.nx ((ρ.set i (.val u)).set j (.val v))) fun x => d.ex x ρ) fun x => d.ex x ρ
theorem ds_par (i j : Nat) {x y : Str} {a b : Expr} {fa fb : EE} {px py pt : Pos} {kt k2 pt2} (hc : X.calm = true) (hN : X.N.Nodup) (hi : X.N[i]? = some x) (hj : X.N[j]? = some y) (hij : i ≠ j)
    (hx : X.env.scope.names.lookup x = some .local) (hy : X.env.scope.names.lookup y = some .local) (ha : DE X w a fa) (hb : DE X w b fb)
    (hw : swappedStores [.Tuple [.Name x px, .Name y py] kt pt] (.Tuple [a, b] k2 pt2) X.env = pure (some [x, y]))
    (hs : swapsWithSole [.Tuple [.Name x px, .Name y py] kt pt] (.Tuple [a, b] k2 pt2) pos.line X.env = pure false := by rfl)
    (h1 : starEach (a :: [b]) X.env = (false, eval a X.env) :: starEach [b] X.env := by rfl) (h2 : starEach (b :: []) X.env = (false, eval b X.env) :: starEach [] X.env := by rfl) :
    DS X w (.Assign [.Tuple [.Name x px, .Name y py] kt pt] (.Tuple [a, b] k2 pt2) pos) (sPar i j fa fb) :=
  (ps_par hc hN hi hj hij hx hy (pa_cons ha (pa_cons hb pa_nil h2) h1) hw hs).imp fun T σ H ⟨B, ρ, d, F, hf, N⟩ => ⟨B, ρ, _, _, F, hf, fun x p v H1 s1 r => ⟨B, ρ, _, _, F.mono s1, p, fun y p2 v2 H2 s2 r2 => by
    obtain ⟨u1, u2, rfl, rfl, q⟩ := p2
    exact ⟨v, v2, rfl, N.nx _ _ _ (((F.mono s1).setRes s2 (x := .val u1) (r.mono s2) trivial).setRes (Same.refl H2) (x := .val u2) r2 trivial) q⟩, N.exTo (F.mono s1)⟩, N.exTo F⟩
/-- name += e, ints -/
@[simp] def sAug (i : Nat) (g : Int → Int → Int) (fe : EE) : ES := fun d ρ => match ρ[i]? with
  | some (.val (.int a)) => fe ρ (fun y => match y with | .val (.int b) => d.nx (ρ.set i (.val (.int (g a b)))) | _ => False) fun x => d.ex x ρ
  | _ => False
theorem ds_aug (i : Nat) {x : Str} {op : Operator} {g : Int → Int → Int} {pos' : Pos} (hN : X.N.Nodup) (hi : X.N[i]? = some x) (hx : Loc X.env.scope x) (he : DE X w e fe) (ho : PIp X op (ipI g)) (hf : X.fn x = true ∨ X.env.scope.names.lookup x = some .local := by first | exact .inl rfl | exact .inr rfl | assumption) :
    DS X w (.AugAssign (.Name x pos') op e pos) (sAug i g fe) :=
  (ps_aug hN hi hx he ho hf).imp fun T σ H ⟨B, ρ, d, F, hf, N⟩ => by
    unfold sAug at hf
    split at hf
    · rename_i a ea
      obtain ⟨v, ev, r⟩ := F.slot i _ ea
      refine ⟨v, ev, B, ρ, _, _, F, hf, fun y p u H1 s1 r1 => ?_, N.exTo F⟩
      obtain ⟨b, rfl, p⟩ := int_of (Q := fun b => d.nx (ρ.set i (.val (.int (g a b))))) p
      cases r
      refine ⟨a, b, rfl, res_int r1, N.nx _ _ _ (F.setRes s1 (x := .val (.int (g a b))) (.int _) trivial) p⟩
    · exact hf.elim
/-- the own list in slot i is frozen ahead of a block -/
@[simp] def sFreeze (i : Nat) (f : ES) : ES := fun d ρ => match ρ[i]? with
  | some (.new ds) => f d (ρ.set i (.val (.list ds)))
  | _ => f d ρ
theorem dss_freeze (i : Nat) {sts : List Stmt} (h : DSs X w sts f) : DSs X w sts (sFreeze i f) := by
  refine ⟨fun pins s σ H T I hh => ?_⟩
  obtain ⟨B, ρ, d, F, hf, N⟩ := hh
  unfold sFreeze at hf
  split at hf
  · rename_i ds e
    obtain ⟨a, vs, ev, n, q, r⟩ := F.slot i _ e
    obtain ⟨o, J⟩ := freeze_at I q
    exact h.run pins s σ _ T J ⟨B, _, d, F.freeze e ev q, hf, N⟩
  · exact h.run pins s σ H T I ⟨B, ρ, d, F, hf, N⟩

/-! ### own lists written -/
/-- list.m(e) for an own list -/
@[simp] def sMut (i : Nat) (fa : EA) (h : List PD → List PD → (List PD → Prop) → Prop) : ES := fun d ρ => match ρ[i]? with
  | some (.new ds) => fa ρ (fun ys => match vals ys with | some zs => h ds zs (fun ds' => d.nx (ρ.set i (.new ds'))) | none => False) fun x => d.ex x ρ
  | _ => False
theorem ds_mut (i : Nat) {x name : Str} {id : String} {p1 p2 p3 : Pos} {es : List Expr} {fa : EA} {h : List PD → List PD → (List PD → Prop) → Prop} {r : V → List V → Hp → VK → Prop} (slot : Slot "list" name id) (hty : typeOf (.builtin id) = pure (.type "method_descriptor")) (hm : MtR X id r)
    (hN : X.N[i]? = some x) (hv : Vis X.env.scope x)
    (k : ∀ (H : Hp) (a : Addr) (vs us : List V) (ds zs : List PD) (P : List PD → Prop) (Q : VK), H a = some (.lst vs) → RepsF H vs ds → RepsF H us zs → h ds zs P → (∀ ds' vs', P ds' → RepsF H vs' ds' → ∀ u, Q u (upd H a (.lst vs'))) → r (.ref a) us H Q)
    (ha : DA X w (e :: es) fa)
    (hbase : attributeBase (.Name x p1) name X.env (eval (.Name x p1) X.env) = eval (.Name x p1) X.env := by rfl)
    (hfew : ((backTo p3 (starEach (e :: es) X.env)).all (fun x => !x.1) && (backToKw p3 (keywordEach [] X.env)).all (fun x => x.1.isSome)
      && decide ((e :: es).length + ([] : List Keyword).length + (if ([] : List Keyword).isEmpty then 0 else 1) < 30)) = true := by rfl)
    (hline : (p2.endLine == p3.line) = true := by rfl) (hs : starEach (e :: es) X.env = (false, eval e X.env) :: starEach es X.env := by rfl) (hplain : (backTo p3 (starEach es X.env)).any (·.1) = false := by rfl)
    (hd : (x == ("__debug__" : Str)) = false := by decide) (hcd : (x == ("__classdict__" : Str)) = false := by decide) (hsw : swapsWith (.Call (.Attribute (.Name x p1) name p2) (e :: es) [] p3) none pos.line X.env = pure false := by rfl) :
    DS X w (.Expr (.Call (.Attribute (.Name x p1) name p2) (e :: es) [] p3) pos) (sMut i fa h) :=
  (ps_expr (pe_bm PySem.F.plainAttrs_list slot hty hm (pe_var hN hv hd hcd) ha hbase hfew hline hs hplain) hsw).imp fun T σ H ⟨B, ρ, d, F, hf, N⟩ => by
    unfold sMut at hf
    split at hf
    · rename_i ds e
      obtain ⟨a, vs, ev, n, q, rr⟩ := F.slot i _ e
      refine ⟨.ref a, ev, .inl ⟨rfl, vs, .of q⟩, B, ρ, _, _, F, hf, fun ys p us H1 s1 ok => ?_, N.exTo F⟩
      split at p
      · rename_i zs ez
        have F1 := F.mono s1
        have q1 := s1 _ _ q
        refine k H1 a vs us ds zs _ _ q1 (rr.fx s1.fx) (vals_ok ez ok) p fun ds' vs' p' r' u => ?_
        exact N.nx _ _ _ (F1.upd e ev q1 r') p'
      · exact p.elim
    · exact hf.elim
@[simp] def hAppend (ds zs : List PD) (P : List PD → Prop) : Prop := match zs with | [z] => ds.length < sizeLine ∧ P (ds ++ [z]) | _ => False
theorem reps_one {H : Hp} {us : List V} {z : PD} (h : RepsF H us [z]) : ∃ u, us = [u] ∧ RepF H u z := by
  cases h with
  | cons a b => cases b; exact ⟨_, rfl, a⟩
theorem ds_append (i : Nat) {x : Str} {p1 p2 p3 : Pos} {fa : EA} (hN : X.N[i]? = some x) (hv : Vis X.env.scope x) (ha : DA X w [e] fa)
    (hbase : attributeBase (.Name x p1) "append" X.env (eval (.Name x p1) X.env) = eval (.Name x p1) X.env := by rfl)
    (hfew : ((backTo p3 (starEach [e] X.env)).all (fun x => !x.1) && (backToKw p3 (keywordEach [] X.env)).all (fun x => x.1.isSome)
      && decide ([e].length + ([] : List Keyword).length + (if ([] : List Keyword).isEmpty then 0 else 1) < 30)) = true := by rfl)
    (hline : (p2.endLine == p3.line) = true := by rfl) (hs : starEach (e :: []) X.env = (false, eval e X.env) :: starEach [] X.env := by rfl) (hplain : (backTo p3 (starEach [] X.env)).any (·.1) = false := by rfl)
    (hd : (x == ("__debug__" : Str)) = false := by decide) (hcd : (x == ("__classdict__" : Str)) = false := by decide) (hsw : swapsWith (.Call (.Attribute (.Name x p1) "append" p2) [e] [] p3) none pos.line X.env = pure false := by rfl) :
    DS X w (.Expr (.Call (.Attribute (.Name x p1) "append" p2) [e] [] p3) pos) (sMut i fa hAppend) :=
  ds_mut i PySem.F.slot_list_append PySem.F.type_list_append mt_append hN hv (fun H a vs us ds zs P Q q rr ru h k => by
    unfold hAppend at h
    split at h
    · obtain ⟨u, rfl, ru1⟩ := reps_one ru
      exact ⟨a, vs, u, rfl, rfl, q, by rw [rr.length]; exact h.1, k _ _ h.2 (rr.append (.cons ru1 .nil)) _⟩
    · exact h.elim) ha hbase hfew hline hs hplain hd hcd hsw
/-- xs.extend(e), e a new list -/
@[simp] def sExtend (i : Nat) (fe : EE) : ES := fun d ρ => match ρ[i]? with
  | some (.new ds) => fe ρ (fun y => match y with | .new zs => ds.length + zs.length ≤ sizeLine ∧ d.nx (ρ.set i (.new (ds ++ zs))) | _ => False) fun x => d.ex x ρ
  | _ => False
theorem ds_extend (i : Nat) {x : Str} {p1 p2 p3 : Pos} (hN : X.N[i]? = some x) (hv : Vis X.env.scope x) (ha : DE X w e fe)
    (hbase : attributeBase (.Name x p1) "extend" X.env (eval (.Name x p1) X.env) = eval (.Name x p1) X.env := by rfl)
    (hfew : ((backTo p3 (starEach [e] X.env)).all (fun x => !x.1) && (backToKw p3 (keywordEach [] X.env)).all (fun x => x.1.isSome)
      && decide ([e].length + ([] : List Keyword).length + (if ([] : List Keyword).isEmpty then 0 else 1) < 30)) = true := by rfl)
    (hline : (p2.endLine == p3.line) = true := by rfl) (hs : starEach (e :: []) X.env = (false, eval e X.env) :: starEach [] X.env := by rfl) (hplain : (backTo p3 (starEach [] X.env)).any (·.1) = false := by rfl)
    (hd : (x == ("__debug__" : Str)) = false := by decide) (hcd : (x == ("__classdict__" : Str)) = false := by decide) (hsw : swapsWith (.Call (.Attribute (.Name x p1) "extend" p2) [e] [] p3) none pos.line X.env = pure false := by rfl) :
    DS X w (.Expr (.Call (.Attribute (.Name x p1) "extend" p2) [e] [] p3) pos) (sExtend i fe) :=
  (ps_expr (pe_bm PySem.F.plainAttrs_list PySem.F.slot_list_extend PySem.F.type_list_extend mt_extend (pe_var hN hv hd hcd) (pa_cons ha pa_nil hs) hbase hfew hline hs hplain) hsw).imp fun T σ H ⟨B, ρ, d, F, hf, N⟩ => by
    unfold sExtend at hf
    split at hf
    · rename_i ds e
      obtain ⟨a, vs, ev, n, q, rr⟩ := F.slot i _ e
      refine ⟨.ref a, ev, .inl ⟨rfl, vs, .of q⟩, B, ρ, _, _, F, hf, fun y p u H1 s1 ok => ?_, N.exTo F⟩
      split at p
      · rename_i zs
        obtain ⟨b, us, rfl, nb, qb, ru⟩ := ok
        have q1 := s1 _ _ q
        have r1 := rr.fx s1.fx
        exact ⟨a, b, vs, us, rfl, rfl, q1, qb, by rw [r1.length, ru.length]; exact p.1, N.nx _ _ _ ((F.mono s1).upd e ev q1 (r1.append ru)) p.2⟩
      · exact p.elim
    · exact hf.elim
/-- xs[k] = e -/
@[simp] def sSub (i : Nat) (fe fk : EE) : ES := fun d ρ => match ρ[i]? with
  | some (.new ds) => fe ρ (fun y => match y with
    | .val z => fk ρ (fun k => match k with | .val (.int n) => (match ixN ds.length n with | some j => d.nx (ρ.set i (.new (ds.set j z))) | none => False) | _ => False) fun x => d.ex x ρ
    | _ => False) fun x => d.ex x ρ
  | _ => False
theorem ds_sub (i : Nat) {x : Str} {k : Expr} {fk : EE} {p1 p2 : Pos} (hN : X.N[i]? = some x) (hv : Vis X.env.scope x) (he : DE X w e fe) (hk : DE X w k fk)
    (ha : ∀ v, assign (.Subscript (.Name x p1) k p2) X.env v = (do
      let ov ← holding [v] (eval (.Name x p1) X.env)
      let iv ← holding [v, ov] (eval k X.env)
      standAt p2
      holding [v, ov, iv] (setItem ov iv v)
      release [v, ov, iv] []) := by intro _; rfl)
    (hs : swapsWithSole [.Subscript (.Name x p1) k p2] e pos.line X.env = pure false := by rfl) (hw : swappedStores [.Subscript (.Name x p1) k p2] e X.env = pure none := by rfl)
    (h1 : (assignEach [.Subscript (.Name x p1) k p2] X.env).map (·.2) = [assign (.Subscript (.Name x p1) k p2) X.env] := by rfl)
    (hd : (x == ("__debug__" : Str)) = false := by decide) (hcd : (x == ("__classdict__" : Str)) = false := by decide) :
    DS X w (.Assign [.Subscript (.Name x p1) k p2] e pos) (sSub i fe fk) :=
  (ps_asg he (pg_sub (pe_var hN hv hd hcd) hk set_list ha) hs hw h1).imp fun T σ H ⟨B, ρ, d, F, hf, N⟩ => by
    unfold sSub at hf
    split at hf
    · rename_i ds e
      refine ⟨B, ρ, _, _, F, hf, fun y p u H1 s1 r1 => ?_, N.exTo F⟩
      obtain ⟨a, vs, ev, n, q, rr⟩ := F.slot i _ e
      split at p
      · rename_i z
        refine ⟨.ref a, ev, B, ρ, _, _, F.mono s1, p, fun y2 p2 u2 H2 s2 r2 => ?_, N.exTo (F.mono s1)⟩
        obtain ⟨m, em, p3⟩ := int_of (Q := fun n => match ixN ds.length n with | some j => d.nx (ρ.set i (.new (ds.set j z))) | none => False) p2
        subst em
        cases ej : ixN ds.length m with
        | some j =>
          rw [ej] at p3
          have q2 := s2 _ _ (s1 _ _ q)
          have r3 := rr.fx (s1.trans s2).fx
          refine ⟨a, vs, m, j, rfl, res_int r2, q2, by rw [r3.length]; exact ej, ?_⟩
          exact N.nx _ _ _ ((F.mono (s1.trans s2)).upd e ev q2 (r3.set (RepF.fx s2.fx r1) j)) p3
        | none => rw [ej] at p3; exact p3.elim
      · exact p.elim
    · exact hf.elim
/-- xs[k] += e, ints -/
theorem get_list {X : Cx} : PGet X (fun o i H Q => ∃ p xs k j v, o = .ref p ∧ i = .int k ∧ H p = some (.lst xs) ∧ 0 ≤ k ∧ k.toNat = j ∧ xs[j]? = some v ∧ Q v H) := by
  rintro pins s σ H o i ov iv Q I ro ri ⟨p, xs, k, j, v, rfl, rfl, hp, h0, hj, hv, q⟩
  cases ro
  obtain ⟨t, rfl⟩ := ri
  obtain ⟨its, r, pl, hz⟩ := I.list (SqL.of hp)
  obtain ⟨u, eu, ru⟩ := r.get hv
  have hlt : j < xs.length := (List.getElem?_eq_some_iff.mp hv).1
  have hn := line63
  exact wpAny_getItem_list pl.isList h0 (by omega) (by rw [hj]; simpa using eu) ⟨v, H, I, ru, q⟩

@[simp] def sAugSub (i : Nat) (g : Int → Int → Int) (fk fe : EE) : ES := fun d ρ => match ρ[i]? with
  | some (.new ds) => fk ρ (fun k => match k with
    | .val (.int n) => 0 ≤ n ∧ (match ds[n.toNat]? with
      | some (.int a) => fe ρ (fun y => match y with | .val (.int b) => d.nx (ρ.set i (.new (ds.set n.toNat (.int (g a b))))) | _ => False) fun x => d.ex x ρ
      | _ => False)
    | _ => False) fun x => d.ex x ρ
  | _ => False
theorem ds_augSub (i : Nat) {x : Str} {k : Expr} {fk : EE} {g : Int → Int → Int} {op : Operator} {p1 p2 : Pos} (hN : X.N[i]? = some x) (hv : Vis X.env.scope x) (hk : DE X w k fk) (he : DE X w e fe) (ho : PIp X op (ipI g))
    (ha : ∀ ov iv new, augStore k ov iv new = (do holding [new, ov, iv] (setItem ov iv new); release [new, ov, iv] []; pure .next) := by intros; rfl)
    (hd : (x == ("__debug__" : Str)) = false := by decide) (hcd : (x == ("__classdict__" : Str)) = false := by decide) :
    DS X w (.AugAssign (.Subscript (.Name x p1) k p2) op e pos) (sAugSub i g fk fe) :=
  (ps_augS (pe_var hN hv hd hcd) hk get_list he ho set_list ha).imp fun T σ H ⟨B, ρ, d, F, hf, N⟩ => by
    unfold sAugSub at hf
    split at hf
    · rename_i ds e
      obtain ⟨a, vs, ev, n, q, rr⟩ := F.slot i _ e
      refine ⟨.ref a, ev, B, ρ, _, _, F, hf, fun y p u H1 s1 r1 => ?_, N.exTo F⟩
      obtain ⟨m, em, h0, p3⟩ := int_of (Q := fun n => 0 ≤ n ∧ (match ds[n.toNat]? with
        | some (.int a) => fe ρ (fun y => match y with | .val (.int b) => d.nx (ρ.set i (.new (ds.set n.toNat (.int (g a b))))) | _ => False) fun x => d.ex x ρ
        | _ => False)) p
      subst em
      have q1 := s1 _ _ q
      have r2 := rr.fx s1.fx
      cases ed : ds[m.toNat]? with
      | none => rw [ed] at p3; exact p3.elim
      | some z =>
        rw [ed] at p3
        cases z with
        | int c =>
          obtain ⟨v, ev2, rv⟩ := r2.get ed
          cases rv
          refine ⟨a, vs, m, m.toNat, .int c, rfl, res_int r1, q1, h0, rfl, ev2, B, ρ, _, _, F.mono s1, p3, fun y p u2 H2 s2 r3 => ?_, N.exTo (F.mono s1)⟩
          obtain ⟨b, eb, p4⟩ := int_of (Q := fun b => d.nx (ρ.set i (.new (ds.set m.toNat (.int (g c b)))))) p
          subst eb
          refine ⟨c, b, rfl, res_int r3, a, vs, m, m.toNat, rfl, res_int r1, s2 _ _ q1, ?_, ?_⟩
          · have hl : m.toNat < ds.length := (List.getElem?_eq_some_iff.mp ed).1
            rw [r2.length]
            unfold ixN
            rw [if_pos h0, if_pos (by omega)]
          · exact N.nx _ _ _ ((F.mono (s1.trans s2)).upd e ev (s2 _ _ q1) ((r2.fx s2.fx).set (.int _) _)) p4
        | _ => exact p3.elim
    · exact hf.elim

/-! ### loops -/
/-- the items are walked: by an invariant of the frame -/
def ForI (xs : List PD) (t : Bd) (body : ES) (d : Nd) (ρ : En) : Prop := ∃ I : Nat → En → Prop, I 0 ρ ∧
  (∀ i x ρ', xs[i]? = some x → I i ρ' → t x ρ' fun ρ'' => body { d with nx := I (i + 1), ct := I (i + 1), bk := d.nx } ρ'') ∧ ∀ ρ', I xs.length ρ' → d.nx ρ'
@[simp] def sFor (fi : EI) (t : Bd) (body : ES) : ES := fun d ρ => fi ρ (fun b xs => b = true ∧ ForI xs t body d ρ) fun x => d.ex x ρ
theorem ds_for {tg iter : Expr} {body : List Stmt} {fi : EI} {vs : List Nat} {t : Bd} {fb : ES} (hp : PassesOwn (model X.prog X.w) X.A X.env X.xe) (hc : X.calm = true) (hi : DI X w tg iter fi) (hg : DG X tg vs t) (hb : DSs X w body fb)
    (hs : ∀ x, foldedSetIterable iter X.env x = pure x := by intro _; rfl) : DS X w (.For tg iter body [] pos) (sFor fi t fb) :=
  (ps_for hp hc hi hg hb hs).imp fun T σ H ⟨B, ρ, d, F, hf, N⟩ => ⟨B, ρ, _, _, F, hf, fun b xs q J H1 s1 wk => by
    obtain ⟨eb, I, i0, turn, fin⟩ := q
    obtain ⟨hz, Hw, sw, hw, wk⟩ := wk
    have Fent := F.ent
    obtain ⟨Hb, sb, Fb, keep⟩ := (F.mono s1).rebase
    have swb : Same Hw Hb := fun a o e => by
      refine keep a o (sw a o e) fun i ds e1 e2 => ?_
      obtain ⟨a', us, q1, _, q3, _⟩ := F.slot i _ e1
      rw [e2] at q1
      have : a = a' := by cases q1; rfl
      subst this
      have q3' := s1 _ _ q3
      rw [sw a o e] at q3'
      cases q3'
      rcases hw eb a _ e with z | z
      · exact z _ rfl
      · rw [q3] at z; cases z
    refine ⟨fun i m σ' H' => m = xs.length - i ∧ i ≤ xs.length ∧ ∃ ρ', Fm X.K ⟨B.e, Hb⟩ H' σ' ρ' ∧ I i ρ', ⟨xs.length, rfl, Nat.zero_le _, ρ, Fb, i0⟩, ?_⟩
    rintro i m σ2 H2 ⟨rfl, hi, ρ2, F2, hI⟩
    obtain ⟨go, stop⟩ := wk H2 (swb.trans F2.same)
    by_cases hlt : i < xs.length
    · obtain ⟨g, y⟩ := go i hlt
      refine .inr ⟨g, fun σ' H' => ∃ ρ', Fm X.K ⟨B.e, Hb⟩ H' σ' ρ' ∧ I (i + 1) ρ', fun σ' H' q => ⟨xs.length - (i + 1), by omega, rfl, hlt, q⟩, fun v H3 yl => ?_⟩
      obtain ⟨s3, x, ex, rx⟩ := y v H3 yl
      refine ⟨⟨B.e, Hb⟩, ρ2, x, _, F2.mono s3, rx, turn i x ρ2 ex hI, fun ρ' σ' p F' _ => ?_⟩
      have low : ∀ {σ : St} {ρ : En} {H : Hp}, Fm X.K ⟨B.e, Hb⟩ H σ ρ → Fm X.K B H σ ρ := fun F => Fm.base sb (show Same B.e B.h from Fent) F
      exact ⟨⟨B.e, Hb⟩, ρ', _, F', p, ⟨fun ρ σ H F q => ⟨ρ, F, q⟩, fun ρ σ H F q => N.nx ρ σ H (low F) q, fun ρ σ H F q => ⟨ρ, F, q⟩,
        fun r v H s q p => N.rt r v H (sb.trans s) (q.weak sb) p, fun x ρ σ H cls dd F e q => N.ex x ρ σ H cls dd (low F) e q⟩⟩
    · have e : i = xs.length := by omega
      subst e
      exact .inl ⟨stop, N.nx ρ2 σ2 H2 (Fm.base sb F.ent F2) (fin ρ2 hI)⟩, N.exTo F⟩
def WhileI (t : ET) (body : ES) (d : Nd) (ρ : En) : Prop := ∃ I : Nat → En → Prop, (∃ m, I m ρ) ∧ ∀ m ρ', I m ρ' → t ρ' (fun b => if b = true then body { d with nx := fun ρ'' => ∃ m', m' < m ∧ I m' ρ'', ct := fun ρ'' => ∃ m', m' < m ∧ I m' ρ'', bk := d.nx } ρ' else d.nx ρ') fun x => d.ex x ρ'
@[simp] def sWhile (t : ET) (body : ES) : ES := fun d ρ => WhileI t body d ρ
theorem ds_while {c : Expr} {body : List Stmt} {t : ET} {fb : ES} (hp : PassesOwn (model X.prog X.w) X.A X.env X.xe) (hc : DT X w c t) (hb : DSs X w body fb) : DS X w (.While c body [] pos) (sWhile t fb) :=
  (ps_while hp hc hb).imp fun T σ H ⟨B, ρ, d, F, hf, N⟩ => by
    obtain ⟨I, ⟨m0, i0⟩, turn⟩ := hf
    refine ⟨fun m σ' H' => ∃ ρ', Fm X.K B H' σ' ρ' ∧ I m ρ', ⟨m0, ρ, F, i0⟩, ?_⟩
    rintro m σ2 H2 ⟨ρ2, F2, hI⟩
    refine ⟨B, ρ2, _, _, F2, turn m ρ2 hI, fun b p H3 s3 => ?_, N.exTo F2⟩
    cases b with
    | true =>
      refine ⟨fun σ' H' => ∃ m', m' < m ∧ ∃ ρ', Fm X.K B H' σ' ρ' ∧ I m' ρ', fun σ' H' ⟨m', hm, q⟩ => ⟨m', hm, q⟩, B, ρ2, _, F2.mono s3, p, ?_⟩
      exact ⟨fun ρ σ H F ⟨m', hm, q⟩ => ⟨m', hm, ρ, F, q⟩, N.nx, fun ρ σ H F ⟨m', hm, q⟩ => ⟨m', hm, ρ, F, q⟩, N.rt, N.ex⟩
    | false => exact N.nx ρ2 σ2 H3 (F2.mono s3) p
end
end Cr
set_option maxHeartbeats 2000000
/-! Fw7: built-in calls -/
namespace Cr
open PySem PySem.Spec PyProof.Rows L2

abbrev GC := List D → (D → Prop) → Prop
abbrev RC := List V → Hp → VK → Prop
def CallK (K : PySem.W.Frag) (r : RC) (g : GC) : Prop := ∀ Hs H vs ds P Q, AllOk K Hs H vs ds → g ds P → (∀ d, P d → ∀ z H', Same H H' → ResOk K H H' z d → Q z H') → r vs H Q
@[simp] def eCB (g : GC) (fa : EA) : EE := fun ρ P E => fa ρ (fun ds => g ds P) E
section
variable {X : Cx} {w : Wx} {pos p : Pos} {x : Str} {e : Expr} {es : List Expr} {fa : EA} {id T : String} {r : RC} {g : GC}
theorem cb_imp {K : PySem.W.Frag} (k : CallK K r g) {σ : St} {H : Hp} {Q : VK} (h : tD K w (eCB g fa) σ H Q) : tCB r (tDA K w fa) σ H Q := by
  obtain ⟨B, ρ, P, E, F, hf, hP, hE⟩ := h
  exact ⟨B, ρ, _, E, F, hf, fun ds p vs H1 s1 ok => k H H1 vs ds P Q ok p fun d pd z H2 s2 r2 => hP d pd z H2 (s1.trans s2) (r2.weak s1), hE⟩
theorem de_callB (hc : CallR X (.builtin id) r) (k : CallK X.K r g) (hg : Gl X x) (hm : X.mg x = none) (hv : bootBuiltins x = some (.builtin id)) (ha : DA X w (e :: es) fa) (hn : x ≠ "__name__" := by decide) (hdb : (x == ("__debug__" : Str)) = false := by decide)
    (he : starEach (e :: es) X.env = (false, eval e X.env) :: starEach es X.env := by rfl) (hpl : (backTo pos (starEach es X.env)).any (·.1) = false := by rfl) : DE X w (.Call (.Name x p) (e :: es) [] pos) (eCB g fa) :=
  (pe_callB hc hg hm hv ha hn hdb he hpl).imp fun _ _ _ h => cb_imp k h
theorem de_callTy (hc : CallR X (.type T) r) (k : CallK X.K r g) (hg : Gl X x) (hm : X.mg x = none) (hv : bootBuiltins x = some (.type T)) (ha : DA X w (e :: es) fa) (hn : x ≠ "__name__" := by decide) (hdb : (x == ("__debug__" : Str)) = false := by decide)
    (he : starEach (e :: es) X.env = (false, eval e X.env) :: starEach es X.env := by rfl) (hpl : (backTo pos (starEach es X.env)).any (·.1) = false := by rfl) : DE X w (.Call (.Name x p) (e :: es) [] pos) (eCB g fa) :=
  (pe_callTy hc hg hm hv ha hn hdb he hpl).imp fun _ _ _ h => cb_imp k h
end
theorem all1 {K : PySem.W.Frag} {Hs H : Hp} {vs : List V} {x : D} (h : AllOk K Hs H vs [x]) : ∃ v, vs = [v] ∧ ResOk K Hs H v x := by
  match vs, h with
  | [v], h => exact ⟨v, rfl, h.1⟩
  | [], h => exact h.elim
  | _ :: _ :: _, h => exact h.2.elim
theorem all2 {K : PySem.W.Frag} {Hs H : Hp} {vs : List V} {x y : D} (h : AllOk K Hs H vs [x, y]) : ∃ v u, vs = [v, u] ∧ ResOk K Hs H v x ∧ ResOk K Hs H u y := by
  match vs, h with
  | [v, u], h => exact ⟨v, u, rfl, h.1, h.2.1⟩
  | [], h => exact h.elim
  | [_], h => exact h.2.elim
  | _ :: _ :: _ :: _, h => exact h.2.2.elim

/-! ### len -/
@[simp] def gLen : GC := fun ds P => match ds with
  | [.val (.str z)] => z.length ≤ sizeLine ∧ P (.val (.int z.length))
  | [x] => (match seqy x with | some xs => P (.val (.int xs.length)) | none => False)
  | _ => False
abbrev rLenA (K : PySem.W.Frag) : RC := fun xs H Q => (∃ p ys, xs = [.ref p] ∧ (SqL K H p ys ∨ SqT K H p ys) ∧ Q (.int ys.length) H) ∨ ∃ z, xs = [.str z] ∧ z.length ≤ sizeLine ∧ Q (.int z.length) H
theorem call_lenA {X : Cx} : CallR X (.builtin "len") (rLenA X.K) := call_len_seq.or call_len_str
theorem k_len {K : PySem.W.Frag} : CallK K (rLenA K) gLen := by
  intro Hs H vs ds P Q ok h q
  unfold gLen at h
  split at h
  · obtain ⟨v, rfl, r⟩ := all1 ok
    exact .inr ⟨_, by rw [res_str r], h.1, q _ h.2 _ H (Same.refl H) (.int _)⟩
  · rename_i x _
    split at h
    · rename_i xs es
      obtain ⟨v, rfl, r⟩ := all1 ok
      obtain ⟨a, us, rfl, hs, rr⟩ := seqy_ok es r
      exact .inl ⟨a, us, rfl, hs, by rw [rr.length]; exact q _ h _ H (Same.refl H) (.int _)⟩
    · exact h.elim
  · exact h.elim

/-! ### min, max -/
@[simp] def gII (f : Int → Int → Int) : GC := fun ds P => match ds with
  | [.val (.int i), .val (.int j)] => P (.val (.int (f i j)))
  | _ => False
theorem gII_ok {f : Int → Int → Int} {ds : List D} {P : D → Prop} (h : gII f ds P) : ∃ i j, ds = [.val (.int i), .val (.int j)] ∧ P (.val (.int (f i j))) := by
  unfold gII at h
  split at h
  · exact ⟨_, _, rfl, h⟩
  · exact h.elim
theorem k_min2 {K : PySem.W.Frag} : CallK K (fun xs H Q => ∃ i j, xs = [.int i, .int j] ∧ Q (.int (if j < i then j else i)) H) (gII min) := by
  intro Hs H vs ds P Q ok h q
  obtain ⟨i, j, rfl, h⟩ := gII_ok h
  obtain ⟨v, u, rfl, r1, r2⟩ := all2 ok
  refine ⟨i, j, by rw [res_int r1, res_int r2], ?_⟩
  rw [show (if j < i then j else i) = min i j by rw [Int.min_def]; split <;> split <;> omega]
  exact q _ h _ H (Same.refl H) (.int _)
theorem k_max2 {K : PySem.W.Frag} : CallK K (fun xs H Q => ∃ i j, xs = [.int i, .int j] ∧ Q (.int (if j > i then j else i)) H) (gII max) := by
  intro Hs H vs ds P Q ok h q
  obtain ⟨i, j, rfl, h⟩ := gII_ok h
  obtain ⟨v, u, rfl, r1, r2⟩ := all2 ok
  refine ⟨i, j, by rw [res_int r1, res_int r2], ?_⟩
  rw [show (if j > i then j else i) = max i j by rw [Int.max_def]; split <;> split <;> omega]
  exact q _ h _ H (Same.refl H) (.int _)

/-! ### tuple, list, int, str -/
@[simp] def gTuple : GC := fun ds P => match ds with
  | [x] => (match seqy x with | some xs => P (.val (.tuple xs)) | none => False)
  | _ => False
@[simp] def gList : GC := fun ds P => match ds with
  | [x] => (match seqy x with | some xs => P (.new xs) | none => False)
  | _ => False
/-- tuple(xs): the object is known -/
theorem call_tupleF {X : Cx} : CallR X (.type "tuple") (fun xs H Q => ∃ p ys, xs = [.ref p] ∧ ((SqL X.K H p ys ∧ ∀ l o, o.dict = none → H l = none → Q (.ref l) (upd H l (.frz o (.tup ys)))) ∨ (SqT X.K H p ys ∧ Q (.ref p) H))) := by
  intro pins s σ H xs us Q I r h
  obtain ⟨p, ys, rfl, h⟩ := h
  obtain ⟨u, rfl, rx⟩ := vals1 r
  cases rx
  rcases h with ⟨hq, q⟩ | ⟨hq, q⟩
  · obtain ⟨its, r', pl, hz⟩ := I.list hq
    have hlen := r'.length
    refine call_tuple_list pl.isList (fun h' kp => ?_) (by simp only [List.size_toArray] <;> omega)
    have I1 : Inv X pins σ H { s with heap := h' } := I.kept (t' := s.toks) kp
    have I2 : Inv X pins σ (upd H h'.objs.size (.frz { cls := .type "tuple", data := .seq its.toArray } (.tup ys))) { s with heap := h'.push { cls := .type "tuple", data := .seq its.toArray } } :=
      I1.laid (t' := s.toks) (fun b o e => Heap.get?_push_of_some _ e) (Nat.le_refl _) (show ObjOk X.prog X.w _ _ _ (.frz _ (.tup ys)) from ⟨Heap.get?_push_size _ rfl, hz, its, r', IsTup.new _ _⟩)
    exact ⟨.ref h'.objs.size, _, I2, rfl, q _ _ rfl (I1.hok.fresh (Nat.le_refl _))⟩
  · obtain ⟨its, r', pl, hz⟩ := I.tuple hq
    exact call_tuple_same pl ⟨.ref p, H, I, rfl, q⟩
theorem k_tuple {K : PySem.W.Frag} : CallK K (fun xs H Q => ∃ p ys, xs = [.ref p] ∧ ((SqL K H p ys ∧ ∀ l o, o.dict = none → H l = none → Q (.ref l) (upd H l (.frz o (.tup ys)))) ∨ (SqT K H p ys ∧ Q (.ref p) H))) gTuple := by
  intro Hs H vs ds P Q ok h q
  unfold gTuple at h
  split at h
  · rename_i x
    split at h
    · rename_i xs es
      obtain ⟨v, rfl, r⟩ := all1 ok
      have goL : listy x = some xs → ∃ p ys, [v] = [V.ref p] ∧ ((SqL K H p ys ∧ ∀ l o, o.dict = none → H l = none → Q (.ref l) (upd H l (.frz o (.tup ys)))) ∨ (SqT K H p ys ∧ Q (.ref p) H)) := fun el => by
        obtain ⟨a, us, rfl, hs, rr⟩ := listy_ok el r
        refine ⟨a, us, rfl, .inl ⟨hs, fun l o zo nl => ?_⟩⟩
        have s := (Same.refl H).upd_new (o := .frz o (.tup us)) nl
        exact q _ h _ _ s (.tup upd_same zo (rr.fx s.fx))
      cases x with
      | val d =>
        cases d with
        | tuple ys =>
          cases es
          obtain ⟨a, us, rfl, ha, rr⟩ := res_tup r
          exact ⟨a, us, rfl, .inr ⟨.inl ha, q _ h _ H (Same.refl H) r⟩⟩
        | _ => exact goL es
      | _ => exact goL es
    · exact h.elim
  · exact h.elim
theorem k_list {K : PySem.W.Frag} : CallK K (fun xs H Q => ∃ p ys, xs = [.ref p] ∧ (SqL K H p ys ∨ SqT K H p ys) ∧ ∀ l, H l = none → Q (.ref l) (upd H l (.lst ys))) gList := by
  intro Hs H vs ds P Q ok h q
  unfold gList at h
  split at h
  · split at h
    · rename_i xs es
      obtain ⟨v, rfl, r⟩ := all1 ok
      obtain ⟨a, us, rfl, hs, rr⟩ := seqy_ok es r
      refine ⟨a, us, rfl, hs, fun l nl => ?_⟩
      have s := (Same.refl H).upd_new (o := .lst us) nl
      exact q _ h _ _ s ⟨l, us, rfl, nl, upd_same, rr.fx s.fx⟩
    · exact h.elim
  · exact h.elim
@[simp] def gInt1 : GC := fun ds P => match ds with
  | [.val (.int i)] => P (.val (.int i))
  | [.val (.bool b)] => P (.val (.int (if b then 1 else 0)))
  | _ => False
theorem k_int1 {K : PySem.W.Frag} : CallK K (fun xs H Q => (∃ i, xs = [.int i] ∧ Q (.int i) H) ∨ ∃ k, xs = [.bl k] ∧ Q (.int (if k then 1 else 0)) H) gInt1 := by
  intro Hs H vs ds P Q ok h q
  unfold gInt1 at h
  split at h
  · obtain ⟨v, rfl, r⟩ := all1 ok
    exact .inl ⟨_, by rw [res_int r], q _ h _ H (Same.refl H) (.int _)⟩
  · obtain ⟨v, rfl, r⟩ := all1 ok
    exact .inr ⟨_, by rw [res_bool r], q _ h _ H (Same.refl H) (.int _)⟩
  · exact h.elim
@[simp] def gStr1 : GC := fun ds P => match ds with
  | [.val (.int i)] => i.natAbs.log2 < 1920 ∧ P (.val (.str (toString i)))
  | _ => False
theorem k_str1 {K : PySem.W.Frag} : CallK K (fun xs H Q => ∃ i, xs = [.int i] ∧ i.natAbs.log2 < 1920 ∧ Q (.str (toString i)) H) gStr1 := by
  intro Hs H vs ds P Q ok h q
  unfold gStr1 at h
  split at h
  · obtain ⟨v, rfl, r⟩ := all1 ok
    exact ⟨_, by rw [res_int r], h.1, q _ h.2 _ H (Same.refl H) (.str _)⟩
  · exact h.elim

/-! ### repr -/
theorem call_repr {X : Cx} (hg : X.A.guards = some []) (hu : X.A.units + 65 < cLine) : CallR X (.builtin "repr") (fun xs H Q => (∃ x d, xs = [x] ∧ Dp X.K H x d ∧ d.showable = true ∧ d.hasDict = false ∧ d.depth ≤ 64 ∧ d.shown.length ≤ sizeLine ∧ Q (.str d.shown) H) ∨
    ∃ a kvs, xs = [V.ref a] ∧ H a = some (.dK (dkV kvs)) ∧ (PyData.dict (dkD kvs)).showable = true ∧ (PyData.dict (dkD kvs)).depth ≤ 64 ∧ (PyData.dict (dkD kvs)).shown.length ≤ sizeLine ∧ Q (.str (PyData.dict (dkD kvs)).shown) H) := by
  rintro pins s σ H xs us Q I r (⟨x, d, rfl, hd, h1, h2, h3, h4, q⟩ | ⟨a, kvs, rfl, ea, h1, h3, h4, q⟩)
  case inr =>
    obtain ⟨u, rfl, ru⟩ := vals1 r
    obtain rfl : u = Value.ref a := ru
    obtain ⟨rd, hs⟩ := dict_reads I ea
    exact repr_of_reads' rd h1 (fun _ => hs) hg (by omega) (fun _ _ e => e) (fun h' t tk hk => ⟨.str _, H, I.kept hk, ⟨t, rfl⟩, q⟩) h4
  obtain ⟨u, rfl, ru⟩ := vals1 r
  have dsp : isDisplay d = true → wpAny (model X.prog X.w) X.A (call (.builtin "repr") [u]) (EP X pins σ Q) X.xe s := fun e => by
    obtain ⟨as, rd⟩ := Dp.reads I d x u hd ru
    obtain ⟨a, rfl⟩ := isRef_of_reads rd e
    exact repr_of_reads' rd h1 (PyData.noDict_hsm h2) hg (by omega) (fun _ _ e => e) (fun h' t tk hk => ⟨.str d.shown, H, I.kept hk, ⟨t, rfl⟩, q⟩) h4
  cases d with
  | none => cases hd; cases ru; simp only [PyData.shown] at q; exact P.repr_of_none ⟨.str _, H, I.tok _, ⟨_, rfl⟩, q⟩
  | bool b => cases hd; cases ru; simp only [PyData.shown] at q; exact P.repr_of_bool ⟨.str _, H, I.tok _, ⟨_, rfl⟩, q⟩
  | int i =>
    cases hd
    obtain ⟨t, rfl⟩ := ru
    simp only [PyData.shown] at q
    exact P.repr_of_int (by simpa [PyData.showable] using h1) ⟨.str _, H, I.tok _, ⟨_, rfl⟩, q⟩
  | str z =>
    cases hd
    obtain ⟨t, rfl⟩ := ru
    simp only [PyData.shown] at q h4
    exact P.repr_of_str ⟨.str _, H, I.tok _, ⟨_, rfl⟩, q⟩ h4
  | list ys => exact dsp rfl
  | tuple ys => exact dsp rfl
  | dict kvs => cases hd
/-- no dict within, or a dict itself -/
def okD (d : PD) : Prop := d.hasDict = false ∨ ∃ kvs, d = .dict kvs
@[simp] def gRepr : GC := fun ds P => match ds with
  | [x] => (match asVal x with
    | some d => d.showable = true ∧ okD d ∧ d.depth ≤ 64 ∧ d.shown.length ≤ sizeLine ∧ P (.val (.str d.shown))
    | none => False)
  | _ => False
theorem k_repr {K : PySem.W.Frag} : CallK K (fun xs H Q => (∃ x d, xs = [x] ∧ Dp K H x d ∧ d.showable = true ∧ d.hasDict = false ∧ d.depth ≤ 64 ∧ d.shown.length ≤ sizeLine ∧ Q (.str d.shown) H) ∨
    ∃ a kvs, xs = [V.ref a] ∧ H a = some (.dK (dkV kvs)) ∧ (PyData.dict (dkD kvs)).showable = true ∧ (PyData.dict (dkD kvs)).depth ≤ 64 ∧ (PyData.dict (dkD kvs)).shown.length ≤ sizeLine ∧ Q (.str (PyData.dict (dkD kvs)).shown) H) gRepr := by
  intro Hs H vs ds P Q ok h q
  unfold gRepr at h
  split at h
  · rename_i x
    split at h
    · rename_i d ed
      obtain ⟨v, rfl, r⟩ := all1 ok
      rcases h.2.1 with hd | ⟨kvs, rfl⟩
      · exact .inl ⟨v, d, rfl, asVal_dp ed r hd, h.1, hd, h.2.2.1, h.2.2.2.1, q _ h.2.2.2.2 _ H (Same.refl H) (.str _)⟩
      · cases x with
        | val d =>
          cases ed
          cases r with
          | dct ea => exact .inr ⟨_, _, rfl, ea, h.1, h.2.2.1, h.2.2.2.1, q _ h.2.2.2.2 _ H (Same.refl H) (.str _)⟩
        | _ => cases ed
    · exact h.elim
  · exact h.elim

/-! ### sorted: ints, pairs of ints; of a list or a tuple -/
theorem collect_seqT {prog : Program} {w : World} {A : Around} {E : Value → Shared → Prop} {s : Shared} {l : Addr} {T : String} {o : Obj} {vs : List Value} {n : Nat} {Q : List Value → Shared → Prop} (hT : T = "list" ∨ T = "tuple")
    (ho : s.heap.get? l = some o) (hc : o.cls = .type T) (hd : o.data = .seq vs.toArray n) (hsz : vs.length ≤ sizeLine)
    (h : Q vs { s with heap := (s.heap.push (seqObj "list" #[] 0)).update s.heap.objs.size (Obj.mapSeq (· ++ vs.toArray)) }) : wpAny (model prog w) A (collect (.ref l)) Q E s := by
  unfold collect
  refine wpAny_bind (wpAny_runValue (codeAny_builtin entry_proto_collect' ?_))
  show wpAny _ _ (do again (.builtin "list.__iadd__" ⟨[← newList [], .ref l], []⟩)) _ _ s
  refine wpAny_bind (wpAny_newList (wpAny_pure ⟨Code.quiet_builtin _ (by decide +kernel), codeAny_builtin entry_list_iadd' ?_⟩))
  show wpAny _ _ (Builtin.List.listExtendWith (.ref s.heap.objs.size) (.ref l) (.ref s.heap.objs.size)) _ _ { s with heap := s.heap.push (seqObj "list" #[] 0) }
  unfold Builtin.List.listExtendWith
  have ho1 : (s.heap.push (seqObj "list" #[] 0)).get? l = some o := Heap.get?_push_of_some _ ho
  have hnew : (s.heap.push (seqObj "list" #[] 0)).get? s.heap.objs.size = some (seqObj "list" #[] 0) := Heap.get?_push_size _ rfl
  refine wpAny_bind (wpAny_typeOf (T := T) ⟨o, ho1, hc⟩ ?_)
  have eL : (Value.type "list" == Value.type "list") = true := by rfl
  have eT : (Value.type "tuple" == Value.type "tuple") = true := by rfl
  rw [if_pos (by rcases hT with rfl | rfl <;> simp [eL, eT])]
  refine wpAny_bind (listItems_at ho1 hd ?_)
  refine wpAny_bind (listItems_at (xs := #[]) (n := 0) hnew rfl ?_)
  rw [if_neg (by simp)]
  refine wpAny_bind (listUpdate_at (xs := #[]) (n := 0) hnew rfl ?_ (Nat.zero_le _) (by show (#[] ++ vs.toArray).size ≤ sizeLine + 1; simp only [Array.size_append, List.size_toArray, List.length_nil]; omega))
  refine wpAny_pure ?_
  refine wpAny_bind (wpAny_load (get?_update_seq hnew _) ?_)
  show wpAny _ _ (pure ((#[] : Array Value) ++ vs.toArray).toList) Q E _
  rw [show ((#[] : Array Value) ++ vs.toArray).toList = vs by simp]
  exact wpAny_pure h
theorem sorted_seq {prog : Program} {w : World} {A : Around} {E : Value → Shared → Prop} {s : Shared} {l : Addr} {T : String} {o : Obj} {vs : List Value} {n : Nat} {ltv : Value → Value → Bool} {Q : Value → Shared → Prop} (O : SrtO.Swo ltv) (hT : T = "list" ∨ T = "tuple")
    (ho : s.heap.get? l = some o) (hc : o.cls = .type T) (hd : o.data = .seq vs.toArray n) (hz : vs.length ≤ sizeLine)
    (hS : 2 ≤ vs.length → ∀ (h₁ : Heap) (a : Addr), h₁.get? a = some (seqObj "list" vs.toArray 0) → (∀ b o, s.heap.get? b = some o → b ≠ a ∧ h₁.get? b = some o) → SrtO.SortableO prog w A.in1.in1 { s with heap := h₁ } a vs ltv)
    (h : ∀ out : List Value, SrtO.Srtd ltv out → SrtO.Stb ltv out vs → Q (.ref (s.heap.objs.size + 1)) { s with heap := sortedAll s.heap vs out.toArray }) :
    wpAny (model prog w) A (call (.builtin "sorted") [.ref l]) Q E s := by
  refine Calls.call_function_entry kind_sorted plain_sorted entry_sorted (args_sorted1 _) ?_
  unfold Builtin.«sorted»
  refine wpAny_bind (m := checkCount "sorted" 1 1 _) (wpAny_pure ?_)
  refine wpAny_bind (collect_seqT hT ho hc hd hz ?_)
  refine wpAny_bind (wpAny_newList ?_ hz)
  have size1 : ((s.heap.push (seqObj "list" #[] 0)).update s.heap.objs.size (Obj.mapSeq (· ++ vs.toArray))).objs.size = s.heap.objs.size + 1 := by
    rw [Heap.size_update, size_push']
  have atL : (((s.heap.push (seqObj "list" #[] 0)).update s.heap.objs.size (Obj.mapSeq (· ++ vs.toArray))).push (seqObj "list" vs.toArray 0)).get? (s.heap.objs.size + 1) = some (seqObj "list" vs.toArray 0) := by
    rw [← size1]; exact Heap.get?_push_size _ rfl
  have stays : ∀ b o, s.heap.get? b = some o → b ≠ s.heap.objs.size + 1 ∧ (((s.heap.push (seqObj "list" #[] 0)).update s.heap.objs.size (Obj.mapSeq (· ++ vs.toArray))).push (seqObj "list" vs.toArray 0)).get? b = some o := by
    intro b o q
    have lt : b < s.heap.objs.size := Heap.lt_size q
    refine ⟨Nat.ne_of_lt (Nat.lt_succ_of_lt lt), Heap.get?_push_of_some _ ?_⟩
    rw [Heap.get?_update_ne _ _ _ _ (Nat.ne_of_lt lt)]
    exact Heap.get?_push_of_some _ q
  show wpAny _ _ _ _ _ { s with heap := ((s.heap.push (seqObj "list" #[] 0)).update s.heap.objs.size (Obj.mapSeq (· ++ vs.toArray))).push (seqObj "list" vs.toArray 0) }
  rw [size1]
  refine wpAny_bind (wpAny_holding (wpAny_call_entry slot_list_sort ⟨_, atL, rfl⟩ entry_list_sort (SrtO.list_sort_ord O atL hz (fun h2 => hS h2 _ _ atL stays) fun out hs hb => ⟨_, rfl, ?_⟩) (args_list_sort _)))
  exact wpAny_pure ⟨_, rfl, h out hs hb⟩

def encPr (p : Int × Int) : PD := .tuple [.int p.1, .int p.2]
def lexLe (p q : Int × Int) : Prop := p.1 < q.1 ∨ (p.1 = q.1 ∧ p.2 ≤ q.2)
def rSortA (K : PySem.W.Frag) : RC := fun vs H Q => ∃ (a : Addr) (xs : List V), vs = [.ref a] ∧ (SqL K H a xs ∨ SqT K H a xs) ∧
  ((∃ ns : List Int, xs = ns.map V.int ∧ ∀ (ns' : List Int) (p : Addr), ns'.Perm ns → ns'.Pairwise (· ≤ ·) → H p = none → Q (.ref p) (upd H p (.lst (ns'.map V.int)))) ∨
   ∃ k : V → Int × Int, (∀ x ∈ xs, ∃ t, x = V.ref t ∧ ∃ ob, ob.dict = none ∧ H t = some (.frz ob (.tup [.int (k x).1, .int (k x).2]))) ∧ ∀ ys p, ys.Perm xs → ys.Pairwise (fun x y => SrtO.lexB (k y) (k x) = false) → H p = none → Q (.ref p) (upd H p (.lst ys)))
theorem call_sortA {X : Cx} : CallR X (.builtin "sorted") (rSortA X.K) := by
  rintro pins s σ H vs us Q I r ⟨a, xs, rfl, hs, q⟩
  rw [Vals.ref1 r]
  obtain ⟨its, rv, o, n, T, hT, ho, hc, hd, hz⟩ : ∃ (its : List Value), Vals xs its ∧ ∃ (o : Obj) (n : Nat) (T : String), (T = "list" ∨ T = "tuple") ∧ s.heap.get? a = some o ∧ o.cls = .type T ∧ o.data = .seq its.toArray n ∧ xs.length ≤ sizeLine := by
    rcases hs with hs | hs
    · obtain ⟨its, r, ⟨o, n, e, c, _, d⟩, z⟩ := I.list hs
      exact ⟨its, r, o, n, "list", .inl rfl, e, c, d, z⟩
    · obtain ⟨its, r, ⟨o, e, c, n, d⟩, z⟩ := I.tuple hs
      exact ⟨its, r, o, n, "tuple", .inr rfl, e, c, d, z⟩
  have hl := rv.length
  rcases q with ⟨ns, rfl, q⟩ | ⟨k, hx, q⟩
  · have hi := rv.ints
    refine sorted_seq SrtO.swo_int hT ho hc hd (by omega) (fun h2 h₁ a' _ _ => SrtO.ints_sortable hi h2) fun out h1 h2 => ?_
    obtain ⟨k1, k2, k3⟩ := SrtO.ints_out hi h1 h2
    obtain ⟨ep, he'⟩ := PyProof.Rows.sortedAll_at s.heap its out.toArray
    have hlen : ((out.map SrtO.iv).map V.int).length ≤ sizeLine := by
      rw [List.length_map, k2.length_eq]
      rwa [List.length_map] at hz
    exact ⟨.ref _, upd H (s.heap.objs.size + 1) (.lst ((out.map SrtO.iv).map V.int)), I.laid (t' := s.toks) (fun _ _ => PyProof.Rows.sortedAll_old) (Nat.le_succ _) ⟨hlen, out, ep, vals_of_ints k1, he'⟩, rfl, q _ _ k2 k3 (I.hok.fresh (Nat.le_succ _))⟩
  · obtain ⟨e1, e2⟩ := refs_back rv fun x m => by
      obtain ⟨t, e, _⟩ := hx x m
      exact ⟨t, e⟩
    have hp : ∀ v ∈ its, Srt.IsPair s.heap v (k (backV v)).1 (k (backV v)).2 := fun v hv => by
      obtain ⟨t, rfl⟩ := e2 v hv
      have hm : V.ref t ∈ xs := by rw [e1]; exact List.mem_map.mpr ⟨_, hv, rfl⟩
      obtain ⟨t', e, _, _, ht⟩ := hx _ hm
      cases e
      obtain ⟨_, _, its2, r2, o, ho, hc, n, hd⟩ := I.hok _ _ ht
      obtain ⟨u1, u2, rfl, ri, rj⟩ := vals2 r2
      obtain ⟨t1, rfl⟩ := ri
      obtain ⟨t2, rfl⟩ := rj
      exact ⟨t, o, t1, t2, n, rfl, ho, hc, hd⟩
    refine sorted_seq (SrtO.swo_lex fun u => k (backV u)) hT ho hc hd (by omega) (fun h2 h₁ a' ha kk => ?_) fun out h1 h2 => ?_
    · refine SrtO.pairs_sortableO (s := { s with heap := h₁ }) (by omega) (fun v hm => (hp v hm).keeps fun b o e _ => (kk b o e).2) fun o e => ?_
      have e' : some o = some (seqObj "list" its.toArray 0) := e.symm.trans ha
      cases e'
      intro c
      exact absurd (Value.type.inj c) (by decide)
    · have h3 : ∀ u ∈ out, ∃ a, u = Value.ref a := fun u hu => e2 u (h2.perm.mem_iff.mp hu)
      obtain ⟨ep, he'⟩ := PyProof.Rows.sortedAll_at s.heap its out.toArray
      have hpm : (out.map backV).Perm xs := by rw [e1]; exact h2.perm.map backV
      refine ⟨.ref _, upd H (s.heap.objs.size + 1) (.lst (out.map backV)), I.laid (t' := s.toks) (fun _ _ => PyProof.Rows.sortedAll_old) (Nat.le_succ _) ⟨by rw [hpm.length_eq]; exact hz, out, ep, vals_back h3, he'⟩, rfl, q _ _ hpm ?_ (I.hok.fresh (Nat.le_succ _))⟩
      exact SrtO.srtd_map h1
@[simp] def gSorted : GC := fun ds P => match ds with
  | [x] => (match seqy x with
    | some xs => (∃ ns : List Int, xs = ns.map .int ∧ ∀ ns' : List Int, ns'.Perm ns → ns'.Pairwise (· ≤ ·) → P (.new (ns'.map .int))) ∨
        ∃ prs : List (Int × Int), xs = prs.map encPr ∧ ∀ ps : List (Int × Int), ps.Perm prs → ps.Pairwise lexLe → P (.new (ps.map encPr))
    | none => False)
  | _ => False
open Classical in
noncomputable def pairAt (H : Hp) (v : V) : Int × Int := if h : ∃ p : Int × Int, ∃ t, v = .ref t ∧ ∃ ob, H t = some (.frz ob (.tup [.int p.1, .int p.2])) then h.choose else (0, 0)
theorem pairAt_of {H : Hp} {t : Addr} {i j : Int} {ob : Obj} (h : H t = some (.frz ob (.tup [.int i, .int j]))) : pairAt H (.ref t) = (i, j) := by
  unfold pairAt
  have ex : ∃ p : Int × Int, ∃ t', V.ref t = .ref t' ∧ ∃ ob, H t' = some (.frz ob (.tup [.int p.1, .int p.2])) := ⟨(i, j), t, rfl, ob, h⟩
  rw [dif_pos ex]
  obtain ⟨t', e, ob', q⟩ := ex.choose_spec
  cases e
  rw [h] at q
  have q' := HO.tup.inj (HO.frz.inj (Option.some.inj q)).2
  injection q' with a b
  injection b with b _
  exact Prod.ext (V.int.inj a).symm (V.int.inj b).symm
theorem reps_pairs {H : Hp} : ∀ {vs : List V} {prs : List (Int × Int)}, RepsF H vs (prs.map encPr) → (∀ x ∈ vs, ∃ t, x = V.ref t ∧ ∃ ob, ob.dict = none ∧ H t = some (.frz ob (.tup [.int (pairAt H x).1, .int (pairAt H x).2]))) ∧ vs.map (pairAt H) = prs
  | [], [], _ => ⟨fun x h => by simp at h, rfl⟩
  | v :: vs, p :: prs, h => by
    cases h with
    | cons a b =>
      obtain ⟨ih1, ih2⟩ := reps_pairs b
      cases a with
      | @tup ad ob us _ hq zo rr =>
        cases rr with
        | cons ra rr =>
          cases rr with
          | cons rb rr =>
            cases rr
            cases ra
            cases rb
            have e := pairAt_of hq
            refine ⟨fun x hx => ?_, ?_⟩
            · rcases List.mem_cons.mp hx with rfl | hx
              · exact ⟨ad, rfl, ob, zo, by rw [e]; exact hq⟩
              · exact ih1 x hx
            · rw [List.map_cons, e, ih2]
  | [], _ :: _, h => by cases h
  | _ :: _, [], h => by cases h
theorem reps_of_pairs {H : Hp} : ∀ {ys : List V}, (∀ x ∈ ys, ∃ t, x = V.ref t ∧ ∃ ob, ob.dict = none ∧ H t = some (.frz ob (.tup [.int (pairAt H x).1, .int (pairAt H x).2]))) → RepsF H ys ((ys.map (pairAt H)).map encPr)
  | [], _ => .nil
  | y :: ys, h => by
    obtain ⟨t, e, ob, zo, q⟩ := h y List.mem_cons_self
    refine .cons ?_ (reps_of_pairs fun x hx => h x (List.mem_cons_of_mem _ hx))
    rw [e] at q ⊢
    exact .tup q zo (.cons (.int _) (.cons (.int _) .nil))
theorem k_sorted {K : PySem.W.Frag} : CallK K (rSortA K) gSorted := by
  intro Hs H vs ds P Q ok h q
  unfold gSorted at h
  split at h
  · split at h
    · rename_i xs es
      obtain ⟨v, rfl, r⟩ := all1 ok
      obtain ⟨a, us, rfl, hs, rr⟩ := seqy_ok es r
      rcases h with ⟨ns, rfl, h⟩ | ⟨prs, rfl, h⟩
      · refine ⟨a, us, rfl, hs, .inl ⟨ns, RepsF.of_ints rr, fun ns' p h1 h2 np => ?_⟩⟩
        have s := (Same.refl H).upd_new (o := .lst (ns'.map V.int)) np
        exact q _ (h ns' h1 h2) _ _ s ⟨p, _, rfl, np, upd_same, RepsF.ints ns'⟩
      · obtain ⟨h1, h2⟩ := reps_pairs rr
        refine ⟨a, us, rfl, hs, .inr ⟨pairAt H, h1, fun ys p hp hw np => ?_⟩⟩
        have s := (Same.refl H).upd_new (o := .lst ys) np
        have hy : ∀ x ∈ ys, ∃ t, x = V.ref t ∧ ∃ ob, ob.dict = none ∧ H t = some (.frz ob (.tup [.int (pairAt H x).1, .int (pairAt H x).2])) := fun x hx => h1 x (hp.mem_iff.mp hx)
        refine q _ (h (ys.map (pairAt H)) ?_ ?_) _ _ s ⟨p, _, rfl, np, upd_same, (reps_of_pairs hy).fx s.fx⟩
        · rw [← h2]; exact hp.map _
        · refine List.pairwise_map.mpr (hw.imp fun {x y} z => ?_)
          have z' := SrtO.lexB_no.mp z
          unfold lexLe
          omega
    · exact h.elim
  · exact h.elim
end Cr
set_option maxHeartbeats 2000000
/-! Fw8: a list that callees write (dice), isinstance, the law's end -/
namespace Cr
open PySem PySem.Spec PyProof.Rows L2

/-! ### dice: a list of ints of which only an invariant is known -/
def dcF (κ : List Int → Prop) (a : Addr) : Heap → Prop := fun h => ∃ (ns : List Int) (its : List Value) (n : Nat), κ ns ∧ ns.length ≤ sizeLine ∧ Vals (ns.map V.int) its ∧ h.get? a = some { cls := .type "list", data := .seq its.toArray n }
def dice (κ : List Int → Prop) : Hp → V → Prop := fun H v => ∃ a, v = .ref a ∧ H a = some (.ext (dcF κ a))
theorem dice_stab {κ : List Int → Prop} {v : V} : Stab (dice κ) v := fun H H' s ⟨a, e, q⟩ => ⟨a, e, s _ _ q (fun _ z => nomatch z)⟩
theorem dice_obj {P : Program} {w : World} {H H' : Hp} {h : Heap} {a : Addr} {κ : List Int → Prop} {ns : List Int} (k : κ ns) (x : ObjOk P w H h a (.lst (ns.map V.int))) : ObjOk P w H' h a (.ext (dcF κ a)) := by
  obtain ⟨z, its, n, r, e⟩ := x
  refine ⟨⟨ns, its, n, k, by rwa [List.length_map] at z, r, e⟩, ⟨_, e⟩, fun h1 h2 q st => ?_⟩
  obtain ⟨ms, js, m, k, z, r, e⟩ := q
  exact ⟨ms, js, m, k, z, r, st _ e⟩
theorem obj_dice {P : Program} {w : World} {H H' : Hp} {h : Heap} {a : Addr} {κ : List Int → Prop} (x : ObjOk P w H h a (.ext (dcF κ a))) : ∃ ns, κ ns ∧ ObjOk P w H' h a (.lst (ns.map V.int)) := by
  obtain ⟨⟨ns, its, n, k, z, r, e⟩, _, _⟩ := x
  exact ⟨ns, k, by rw [List.length_map]; exact z, its, n, r, e⟩
section
variable {X : Cx}
theorem pss_open {st : List Stmt} {t : TS} (h : PSs X st t) : PSs X st (fun T σ H => ∃ a κ, H a = some (.ext (dcF κ a)) ∧ ∀ ns, κ ns → t T σ (upd H a (.lst (ns.map V.int)))) := by
  refine ⟨fun pins s σ H T I ⟨a, κ, e, q⟩ => ?_⟩
  obtain ⟨ns, k, o⟩ := obj_dice (H' := H) (I.hok a _ e)
  obtain ⟨z, its, n, r, eq⟩ := o
  exact h.run pins s σ _ T (ghost (o' := .lst (ns.map V.int)) I e trivial ⟨z, its, n, r, eq⟩) (q ns k)
theorem pss_close {st : List Stmt} {t : TS} (h : PSs X st t) : PSs X st (fun T σ H => ∃ a κ, t { T with rt := fun v H' => ∃ ns, H' a = some (.lst (ns.map V.int)) ∧ κ ns ∧ T.rt v (upd H' a (.ext (dcF κ a))) } σ H) := by
  refine ⟨fun pins s σ H T I ⟨a, κ, q⟩ => ?_⟩
  refine thn (h.run pins s σ H _ I q) ?_
  intro fl s' q
  cases fl with
  | ret u =>
    obtain ⟨v, σ', H', J, rv, ns, e, k, q⟩ := q
    exact ⟨v, σ', _, ghost J e trivial (dice_obj k (J.hok a _ e)), rv, q⟩
  | next => exact q
  | brk => exact q
  | cont => exact q
end
theorem upd_self' {H : Hp} {a : Addr} {o : HO} (h : H a = some o) : upd H a o = H := by
  funext b
  by_cases e : b = a
  · subst e; rw [upd_same, h]
  · rw [upd_ne e]
/-- an own list, told as dice from here on -/
theorem Fm.dice {K : PySem.W.Frag} {B : Bs} {H : Hp} {σ : St} {ρ : En} {i : Nat} {a : Addr} {κ : List Int → Prop} {vs : List V} {ds : List PD} (F : Fm K B H σ ρ) (hi : ρ[i]? = some (.new ds)) (hs : σ[i]? = some (some (.ref a))) (hH : H a = some (.lst vs)) :
    Fm K B (L2.upd H a (.ext (dcF κ a))) σ (ρ.set i (.ext (Cr.dice κ))) := by
  obtain ⟨a', vs', q1, q2, q3, q4⟩ := F.slot i _ hi
  rw [hs] at q1
  have ea : a = a' := by cases q1; rfl
  subst ea
  have fx : Fx H (L2.upd H a (.ext (dcF κ a))) := Fx.upd_lst hH
  have keep : ∀ b u, b ≠ a → H b = some u → (L2.upd H a (.ext (dcF κ a))) b = some u := fun b u n e => by rw [upd_ne n]; exact e
  refine ⟨F.same.upd_new q2, F.ent, by rw [List.length_set]; exact F.len, fun j d e => ?_, fun j k es' fs b e1 e2 e3 e4 => ?_⟩
  · rcases get_set e with ⟨rfl, rfl, hl⟩ | ⟨hj, e⟩
    · exact ⟨.ref a, hs, dice_stab, a, rfl, upd_same⟩
    · have z := F.slot j d e
      cases d with
      | unset => trivial
      | val d => obtain ⟨v, e, r⟩ := z; exact ⟨v, e, r.fx fx⟩
      | new ds' =>
        obtain ⟨b, us, e', n, q, r⟩ := z
        have hb : b ≠ a := fun z => by subst z; exact hj (F.apart j i _ _ _ e hi e' hs)
        exact ⟨b, us, e', n, keep b _ hb q, r.fx fx⟩
      | bor ds' => obtain ⟨b, us, e', q, r⟩ := z; exact ⟨b, us, e', q, r.fx fx⟩
      | scr ds' => obtain ⟨b, us, e', q, r⟩ := z; exact ⟨b, us, e', q.fx fx, r.fx fx⟩
      | ext φ => obtain ⟨v, e, st, r⟩ := z; exact ⟨v, e, st, st _ _ fx r⟩
  · have h1 : ρ[j]? = some (.new es') := by
      rcases get_set e1 with ⟨_, z, _⟩ | ⟨_, e1⟩
      · cases z
      · exact e1
    have h2 : ρ[k]? = some (.new fs) := by
      rcases get_set e2 with ⟨_, z, _⟩ | ⟨_, e2⟩
      · cases z
      · exact e2
    exact F.apart j k _ _ b h1 h2 e3 e4
section
variable {X : Cx} {w : Wx}
@[simp] def sDice (κ : List Int → Prop) (i : Nat) (f : ES) : ES := fun d ρ => match ρ[i]? with
  | some (.new ds) => ∃ ns, ds = ns.map PyData.int ∧ κ ns ∧ f d (ρ.set i (.ext (dice κ)))
  | _ => False
theorem dss_dice (κ : List Int → Prop) (i : Nat) {sts : List Stmt} {f : ES} (h : DSs X w sts f) : DSs X w sts (sDice κ i f) := by
  refine ⟨fun pins s σ H T I hh => ?_⟩
  obtain ⟨B, ρ, d, F, hf, N⟩ := hh
  unfold sDice at hf
  split at hf
  · rename_i ds e
    obtain ⟨ns, rfl, k, hf⟩ := hf
    obtain ⟨a, vs, ev, n, q, r⟩ := F.slot i _ e
    have ee := RepsF.of_ints r
    subst ee
    exact h.run pins s σ _ T (ghost I q trivial (dice_obj k (I.hok a _ q))) ⟨B, _, d, F.dice e ev q, hf, N⟩
  · exact hf.elim
@[simp] def eDice (κ : List Int → Prop) (f : EE) : EE := fun ρ P E => f ρ (fun d => match d with | .new ds => ∃ ns, ds = ns.map PyData.int ∧ κ ns ∧ P (.ext (dice κ)) | _ => False) E
theorem de_dice (κ : List Int → Prop) {e : Expr} {f : EE} (h : DE X w e f) : DE X w e (eDice κ f) := by
  refine ⟨fun pins s σ H Q I hh => ?_⟩
  obtain ⟨B, ρ, P, E, F, hf, hP, hE⟩ := hh
  refine thn (h.run pins s σ H (fun v H' => ∃ ns a, v = .ref a ∧ κ ns ∧ P (.ext (dice κ)) ∧ Same H H' ∧ H a = none ∧ H' a = some (.lst (ns.map V.int))) I ⟨B, ρ, _, E, F, hf, fun d p v H' s' r => ?_, hE⟩) ?_
  · split at p
    · obtain ⟨ns, rfl, k, p⟩ := p
      obtain ⟨a, vs, rfl, n, q, r⟩ := r
      have ee := RepsF.of_ints r
      subst ee
      exact ⟨ns, a, rfl, k, p, s', n, q⟩
    · exact p.elim
  · rintro u s1 ⟨v, H1, I1, rv, ns, a, rfl, k, p, s', n, q⟩
    exact ⟨.ref a, _, ghost I1 q trivial (dice_obj k (I1.hok a _ q)), rv, hP _ p _ _ (s'.upd_new n) ⟨dice_stab, a, rfl, upd_same⟩⟩
end

/-! ### isinstance with built-in classes -/
@[simp] def tyName : D → Option String
  | .val .none => some "NoneType"
  | .val (.bool _) => some "bool"
  | .val (.int _) => some "int"
  | .val (.str _) => some "str"
  | .val (.tuple _) => some "tuple"
  | .val (.list _) => some "list"
  | .val (.dict _) => some "dict"
  | .new _ => some "list"
  | .bor _ => some "list"
  | _ => none
@[simp] def isSub (t T : String) : Bool := t == T || (t == "bool" && T == "int")
theorem ty_of {K : PySem.W.Frag} {Hs H : Hp} {v : V} {x : D} {t : String} (h : tyName x = some t) (r : ResOk K Hs H v x) : TyX K H v (.type t) := by
  have rdl : ∀ a vs, Rd H a (.lst vs) → TyX K H (.ref a) (.type "list") := fun a vs h => by
    rcases h with h | ⟨o, h⟩
    · exact .base (.lst h)
    · exact .base (.frz h)
  cases x with
  | val d =>
    cases d with
    | none => cases h; cases r; exact .base .non
    | bool b => cases h; cases r; exact .base (.bl b)
    | int b => cases h; cases r; exact .base (.int b)
    | str b => cases h; cases r; exact .base (.str b)
    | tuple b => cases h; cases r with | tup q _ _ => exact .fTuple q
    | list b => cases h; cases r with | lst q _ => exact .base (.frz q)
    | dict b => cases h; cases r with | dct q => exact .base (.dK q)
  | new ds => cases h; obtain ⟨a, vs, rfl, _, q, _⟩ := r; exact .base (.lst q)
  | bor ds => cases h; obtain ⟨a, vs, rfl, q, _⟩ := r; exact rdl a vs q
  | _ => cases h
def kindsV : List String := ["NoneType", "bool", "int", "str", "tuple", "list", "dict"]
def kindsT : List String := ["bool", "int", "str", "tuple", "list"]
theorem kit_table : ∀ t ∈ kindsV, ∀ T ∈ kindsT, kitB t T = some (isSub t T) := by decide +kernel
theorem tyName_mem {x : D} {t : String} (h : tyName x = some t) : t ∈ kindsV := by
  cases x with
  | val d => cases d <;> first | (cases h; decide) | cases h
  | new ds => cases h; decide
  | bor ds => cases h; decide
  | _ => cases h
section
variable {X : Cx} {w : Wx} {pos p p2 : Pos} {e : Expr} {f : EE}
@[simp] def eIsI (T : String) (f : EE) : EE := fun ρ P E => f ρ (fun x => match tyName x with | some t => P (.val (.bool (isSub t T))) | none => False) E
theorem de_isI {T : String} {y : Str} (hT : T ∈ kindsT) (hg : Gl X "isinstance") (hm : X.mg "isinstance" = none) (hgy : Gl X y) (hmy : X.mg y = none) (hy : bootBuiltins y = some (.type T)) (h : DE X w e f)
    (hny : y ≠ "__name__" := by decide) (hdy : (y == ("__debug__" : Str)) = false := by decide)
    (he : starEach (e :: [.Name y p2]) X.env = (false, eval e X.env) :: starEach [.Name y p2] X.env := by rfl) (he2 : starEach [.Name y p2] X.env = (false, eval (.Name y p2) X.env) :: starEach [] X.env := by rfl) (hpl : (backTo pos (starEach [.Name y p2] X.env)).any (·.1) = false := by rfl) :
    DE X w (.Call (.Name "isinstance" p) [e, .Name y p2] [] pos) (eIsI T f) :=
  (pe_callB call_isi hg hm (by decide +kernel) (pa_cons h (pa_cons (pe_bltn (v := .ty T) hgy hmy hy rfl hny hdy) pa_nil he2) he) (by decide) (by decide) he hpl).imp fun σ H Q ⟨B, ρ, P, E, F, hf, hP, hE⟩ => ⟨B, ρ, _, E, F, hf, fun x q v H1 s1 r => by
    split at q
    · rename_i t et
      exact ⟨v, .ty T, .type t, .type T, _, rfl, .ty T, ty_of et r, kit_ty (kit_table t (tyName_mem et) T hT), hP _ q _ H1 s1 (.bl _)⟩
    · exact q.elim, hE⟩
/-- isinstance(x, (T1, T2)) -/
@[simp] def eIsI2 (T1 T2 : String) (f : EE) : EE := fun ρ P E => f ρ (fun x => match tyName x with | some t => P (.val (.bool (isSub t T1 || isSub t T2))) | none => False) E
theorem de_isI2 {T1 T2 : String} {y1 y2 : Str} {q1 q2 : Pos} {k : Nat} (hT1 : T1 ∈ kindsT) (hT2 : T2 ∈ kindsT) (hg : Gl X "isinstance") (hm : X.mg "isinstance" = none) (hgy1 : Gl X y1) (hmy1 : X.mg y1 = none) (hy1 : bootBuiltins y1 = some (.type T1))
    (hgy2 : Gl X y2) (hmy2 : X.mg y2 = none) (hy2 : bootBuiltins y2 = some (.type T2)) (h : DE X w e f)
    (hny1 : y1 ≠ "__name__" := by decide) (hdy1 : (y1 == ("__debug__" : Str)) = false := by decide) (hny2 : y2 ≠ "__name__" := by decide) (hdy2 : (y2 == ("__debug__" : Str)) = false := by decide)
    (he : starEach (e :: [.Tuple [.Name y1 q1, .Name y2 q2] k p2]) X.env = (false, eval e X.env) :: starEach [.Tuple [.Name y1 q1, .Name y2 q2] k p2] X.env := by rfl)
    (he2 : starEach [.Tuple [.Name y1 q1, .Name y2 q2] k p2] X.env = (false, eval (.Tuple [.Name y1 q1, .Name y2 q2] k p2) X.env) :: starEach [] X.env := by rfl)
    (hi1 : starEach [.Name y1 q1, .Name y2 q2] X.env = (false, eval (.Name y1 q1) X.env) :: starEach [.Name y2 q2] X.env := by rfl) (hi2 : starEach [.Name y2 q2] X.env = (false, eval (.Name y2 q2) X.env) :: starEach [] X.env := by rfl)
    (hpl : (backTo pos (starEach [.Tuple [.Name y1 q1, .Name y2 q2] k p2] X.env)).any (·.1) = false := by rfl) :
    DE X w (.Call (.Name "isinstance" p) [e, .Tuple [.Name y1 q1, .Name y2 q2] k p2] [] pos) (eIsI2 T1 T2 f) :=
  (pe_callB call_isiT hg hm (by decide +kernel) (pa_cons h (pa_cons (pe_tup (pa_cons (pe_bltn (v := .ty T1) hgy1 hmy1 hy1 rfl hny1 hdy1) (pa_cons (pe_bltn (v := .ty T2) hgy2 hmy2 hy2 rfl hny2 hdy2) pa_nil hi2) hi1)) pa_nil he2) he) (by decide) (by decide) he hpl).imp
    fun σ H Q ⟨B, ρ, P, E, F, hf, hP, hE⟩ => ⟨B, ρ, _, E, F, hf, fun x q v H1 s1 r => by
    split at q
    · rename_i t et
      refine ⟨by show 2 ≤ sizeLine; decide, fun tp np => ?_⟩
      have s2 := (Same.refl H1).upd_new (o := .tup [.ty T1, .ty T2]) np
      refine ⟨v, tp, [.ty T1, .ty T2], .type t, [.type T1, .type T2], isSub t T1 || isSub t T2, rfl, upd_same, .cons (.ty T1) (.cons (.ty T2) .nil), ty_of et (r.mono s2), ?_, hP _ q _ _ (s1.trans s2) (.bl _)⟩
      refine kitAny_cons (kit_ty (kit_table t (tyName_mem et) T1 hT1)) (fun e1 => kitAny_cons (kit_ty (kit_table t (tyName_mem et) T2 hT2)) (fun e2 => ?_) fun e2 => ?_) fun e1 => ?_
      · rw [e1, e2]; exact kitAny_nil
      · rw [e2, Bool.or_true]
      · rw [e1, Bool.true_or]
    · exact q.elim, hE⟩
end

/-! ### the law's end -/
theorem law_run {P : Program} {w : World} {K : PySem.W.Frag} {mg mb : Str → Option Value} {k : Nat} {fa a : Addr} {fd : FuncData} {x : Str} {S : DSp} {s₁ : Shared} {vs : List Value} {ns : List Int}
    (KX : K.In s₁.heap) (hns : s₁.heap.Ns mainGlobals mg) (hb : s₁.heap.Ns builtinsNs mb) (hbb : ∀ x : Str, x ≠ "__name__" → mb x = bootBuiltins x) (hlim : s₁.heap.NoLimit) (hg : s₁.gens = #[])
    (ha : s₁.heap.get? a = some { cls := .type "list", data := .seq vs.toArray }) (hi : IntsAre vs ns) (hl : ns.length ≤ sizeLine) (hr : Room k callerA)
    (F : ∀ base : Heap, K.In base → base.Ns mainGlobals mg → FnD P w K mg base k fa fd [x] S) (hbind : ∀ (s : Shared) (u : Value), BindsTo s fd ⟨[u], []⟩ [(x, u)])
    (hS : S [.scr (ns.map PyData.int)] (fun d => d = .val (.bool true)) fun _ => False) :
    codeAny (model P w) callerA (.call (.ref fa) ⟨[.ref a], []⟩) (fun r s' => r = .ok (.ret (.bool true)) ∧ OldK s₁.heap s'.heap ∧ s'.os = s₁.os ∧ AllBare s'.gens) s₁ := by
  have rv := vals_ints hi
  have lenV := hi.length
  have main : ∀ H : Hp, Only H → SqK K H a (ns.map V.int) → HOk P w H s₁.heap → (∀ b, H b ≠ none → b = a) → (H a ≠ none → K.lookup a = none) →
      codeAny (model P w) callerA (.call (.ref fa) ⟨[.ref a], []⟩) (fun r s' => r = .ok (.ret (.bool true)) ∧ OldK s₁.heap s'.heap ∧ s'.os = s₁.os ∧ AllBare s'.gens) s₁ := by
    intro H hO hSq hok hA hK
    have dictFree : ∀ {b : Addr} {o : Obj} {es : Array DictEntry} {ep : Nat}, s₁.heap.get? b = some o → o.data = .dict es ep → H b = none := by
      intro b o es ep e d
      cases q : H b with
      | none => rfl
      | some u =>
        obtain rfl : b = a := hA b (by rw [q]; simp)
        rw [ha] at e; cases e
        cases (show Data.seq vs.toArray _ = Data.dict es ep from d)
    have nsIn : ∀ {b : Addr} {m : Str → Option Value}, s₁.heap.Ns b m → (hidT s₁.heap H).Ns b m := fun {b m} ⟨o, es, ep, e, d, r⟩ => ⟨o, es, ep, hidT_get e (dictFree e d), d, r⟩
    have kIn : K.In (hidT s₁.heap H) := fun b o e => hidT_get (KX b o e) (by
      cases q : H b with
      | none => rfl
      | some u =>
        obtain rfl : b = a := hA b (by rw [q]; simp)
        rw [hK (by rw [q]; simp)] at e; cases e)
    have hM : Mod K mg (hidT s₁.heap H) := ⟨kIn, nsIn hns, ⟨mb, nsIn hb, hbb⟩, let ⟨mc, h1, h2⟩ := hlim; ⟨mc, nsIn h1, h2⟩⟩
    have e0 : Env0 P w K mg (hidT s₁.heap H) callerA [] s₁ H := ⟨rfl, hM, fun b o e => of_hidT e, Nat.le_of_eq (hidT_size _ _), trivial, fun b hb => absurd (show b ∈ ([] : List Addr) from hb) (by simp), hok, .of_eq hg⟩
    have sp : spD K mg [x].length S [.ref a] H (fun v _ => v = .bl true) (fun _ _ _ => False) :=
      ⟨[.scr (ns.map PyData.int)], _, _, rfl, ⟨⟨a, _, rfl, hSq, RepsF.ints ns⟩, trivial⟩, hS, fun d e v H' _ r => by subst e; exact res_bool r, fun _ e => e.elim⟩
    refine codeAny_mono ((F _ kIn (nsIn hns)).run callerA [] s₁ H ⟨[.ref a], []⟩ [.ref a] [.ref a] _ _ hr rfl e0 (hbind s₁ (.ref a)) (.cons rfl .nil) sp) ?_
    intro r s' h
    cases r with
    | error e => obtain ⟨_, _, _, _, _, _, _, _, _, _, _, _, z⟩ := h; exact z.elim
    | ok fl =>
      cases fl with
      | next => exact h.elim
      | brk => exact h.elim
      | cont => exact h.elim
      | ret u =>
        obtain ⟨v, H', os, bare, un, hok', r', q⟩ := h
        obtain rfl : v = .bl true := q
        obtain rfl : u = Value.bool true := r'
        refine ⟨rfl, OldK.of_keep fun b o e => ?_, os, bare⟩
        cases q : H b with
        | none => exact un.keep b o e q (by intro z; exact absurd (show b ∈ ([] : List Addr) from z) (by simp)) (by simp)
        | some u =>
          rcases hO b with z | ⟨ob, xs, z⟩
          · rw [q] at z; cases z
          · obtain ⟨e1, _⟩ := hok b _ z
            obtain ⟨e2, _⟩ := hok' b _ (un.frzs b ob _ z)
            rw [e] at e1; cases e1
            exact e2
  cases hk : K.lookup a with
  | some o =>
    have e := KX a o hk
    rw [ha] at e
    cases e
    exact main (fun _ => none) (fun _ => .inl rfl) (.inr ⟨_, vs.toArray, _, hk, rfl, rfl, rfl, by rw [List.size_toArray, lenV]; exact hl, by simpa using rv⟩) (fun b u z => by cases (show (none : Option HO) = some u from z)) (fun b z => absurd rfl z) fun z => absurd rfl z
  | none =>
    refine main (fun b => if b = a then some (.frz { cls := .type "list", data := .seq vs.toArray } (.lst (ns.map V.int))) else none) (fun b => ?_) (.inl ⟨{ cls := .type "list", data := .seq vs.toArray }, if_pos rfl⟩) (fun b u z => ?_) (fun b z => ?_) fun _ => hk
    · by_cases hb : b = a
      · exact .inr ⟨_, _, if_pos hb⟩
      · exact .inl (if_neg hb)
    · by_cases hb : b = a
      · cases (if_pos hb).symm.trans z
        subst hb
        exact ⟨ha, by rw [List.length_map]; exact hl, vs, _, rv, ha⟩
      · cases (if_neg hb).symm.trans z
    · by_cases hb : b = a
      · exact hb
      · exact absurd (if_neg hb) z
theorem walk_law {l : PySem.W.OpenLaw} {n k : Nat} {q : Program} {loose : List Str} {XP : (Str → Option Value) → Heap → Prop} {YP : World → Heap → Prop} {d : DefRec} {K : Params → PySem.W.Frag} {S : DSp} {x : Str}
    (hn : l.most = some n) (hn2 : n ≤ sizeLine) (hdf : d.params.defaults = []) (hr : Room k callerA)
    (hY : ∀ (w : World) (h : Heap), YP w h → (K w.params).In h)
    (F : ∀ (w : World) (mg : Str → Option Value) (fa : Addr) (h : Heap), (K w.params).In h → h.Ns mainGlobals mg → mg d.name = some (.ref fa) →
      ∃ fd : FuncData, (∀ (s : Shared) (u : Value), BindsTo s fd ⟨[u], []⟩ [(x, u)]) ∧ ∀ base : Heap, (K w.params).In base → base.Ns mainGlobals mg → FnD l.prog w (K w.params) mg base k fa fd [x] S)
    (hS : ∀ ns : List Int, ns.length ≤ n → S [.scr (ns.map PyData.int)] (fun d => d = .val (.bool true)) fun _ => False) :
    PySem.W.WalkO q loose XP YP l.row.toRowW d [] (fun f vs => PySem.call f vs) := by
  refine Att.attach_call hn hdf fun w s₀ s₁ mg mb fa o pm cd doc a vs ns G Y ho hd hcd hmg hobj hints hlen hg => ?_
  have KX := hY w _ Y
  obtain ⟨fd, hb, hF⟩ := F w mg fa _ KX G.T.g hmg
  exact law_run KX G.T.g G.T.b G.T.builtins G.T.nolimit hg hobj hints (Nat.le_trans hlen hn2) hr hF hb (hS ns hlen)
end Cr
set_option maxHeartbeats 4000000
/-! Fw9: the draws of the laws: a state of two ints, a deck of ints -/
namespace Cr
open PySem PySem.Spec PyProof.Rows L2

def kapS (ns : List Int) : Prop := ∃ i j, ns = [i, j] ∧ 0 ≤ j ∧ j < 2 ^ 40
def kapD (ns : List Int) : Prop := ∀ n ∈ ns, 0 ≤ n ∧ n < 1000
def c_l_take : DSp := fun ds P _ => ∃ n : Int, ds = [.ext (dice kapS), .val (.int n)] ∧ 0 < n ∧ n ≤ 1000000 ∧ ∀ r : Int, 0 ≤ r → r < n → P (.val (.int r))
def c_l_next : DSp := fun ds P _ => ds = [.ext (dice kapD)] ∧ ∀ r : Int, 0 ≤ r → r < 1000 → P (.val (.int r))
theorem log9 {n : Int} (h0 : 0 < n) (h : n ≤ 1000000) : CDivW i n := by
  refine ⟨h0, ?_⟩
  have h1 : n.natAbs < 2 ^ 20 := by omega
  exact Nat.lt_trans (PySem.Flt.log2_lt_of (by decide) h1) (by decide)
theorem mulW {i j : Int} (hi : i.natAbs < 2 ^ 100) (hj : j.natAbs < 2 ^ 100) : CMulW i j := wide_mul hi hj (by decide) (by decide) (by decide)
theorem mulA {i j : Int} (hi : i.natAbs < 2 ^ 100) (hj : j.natAbs < 2 ^ 100) : IntMulOk i j := (mulW hi hj).ok
theorem mulR {i j : Int} (h1 : -(2 ^ 64) < j) (h2 : j < 2 ^ 64) : IntMulOk i j := .of_right (intBits_le_64 h1 h2)
section
variable {P : Program} {w : World} {K : PySem.W.Frag} {mg : Str → Option Value} {base : Heap}
theorem at0 {α : Type} {a b : α} : atI [a, b] 0 = some a := atI_nat (j := 0) rfl
theorem at1 {α : Type} {a b : α} : atI [a, b] 1 = some b := atI_nat (j := 1) rfl
theorem take_of {x qual : Str} {st : Stmt} {f : Addr} {fd : FuncData} {N ps : List Str} (hN : N.length = 3) (F : Fun K x qual st f fd) (S : FnScope N ps (defScope st)) (hps : ps.length = 2)
    (hbody : ∀ (cdv : Value) (A : Around) (outer : List Env) (s : Shared) (H : Hp) (E : XK), ∃ t, PSs (cxOf (L2N.CX P w) P w K mg base N qual (defScope st) f cdv A outer s H E) (defBody st) t ∧ ∀ (a : Addr) (i j n : Int) (T : Ends) (H : Hp), H a = some (.lst [.int i, .int j]) → 0 ≤ j → j < 2 ^ 40 → 0 < n → n ≤ 1000000 →
      (∀ r i' j' : Int, 0 ≤ r → r < n → 0 ≤ j' → j' < 2 ^ 40 → T.rt (.int r) (upd H a (.lst [.int i', .int j']))) → t T [some (.ref a), some (.int n), none] H) :
    FnD P w K mg base 1 f fd ps c_l_take := by
  refine fnG_of F S ?_ ?_
  · rintro vs H Q E ⟨ds, P, E', hl, ha, _⟩
    rw [ha.length, hl]
  · rintro cdv A outer s H vs Q E hr hg ⟨ds, P', E', hl, ha, ⟨n, rfl, h0, h1, hS⟩, hP, hE⟩
    obtain ⟨t, ht, hq⟩ := hbody cdv A outer s H E
    refine ⟨_, pss_open (pss_close ht), ?_⟩
    match vs, ha with
    | [v, u], ha =>
      obtain ⟨⟨_, a, rfl, ea⟩, hn, _⟩ := ha
      cases hn
      refine ⟨a, kapS, ea, ?_⟩
      rintro _ ⟨i, j, rfl, j0, j1⟩
      have est : L2.start N [V.ref a, V.int n] = [some (.ref a), some (.int n), none] := by unfold L2.start; rw [hN]; rfl
      rw [est]
      refine ⟨a, kapS, hq a i j n _ _ upd_same j0 j1 h0 h1 fun r i' j' r0 r1 k0 k1 => ?_⟩
      refine ⟨[i', j'], upd_same, ⟨i', j', rfl, k0, k1⟩, ?_⟩
      rw [upd_upd, upd_upd, upd_self' ea]
      exact hP _ (hS r r0 r1) _ H (Same.refl H) (.int r)
theorem next_of {x qual : Str} {st : Stmt} {f : Addr} {fd : FuncData} {N ps : List Str} (hN : N.length = 1) (F : Fun K x qual st f fd) (S : FnScope N ps (defScope st)) (hps : ps.length = 1)
    (hbody : ∀ (cdv : Value) (A : Around) (outer : List Env) (s : Shared) (H : Hp) (E : XK), ∃ t, PSs (cxOf (L2N.CX P w) P w K mg base N qual (defScope st) f cdv A outer s H E) (defBody st) t ∧ ∀ (a : Addr) (ns : List Int) (T : Ends) (H : Hp), H a = some (.lst (ns.map V.int)) →
      (ns = [] → T.rt (.int 0) H) → (∀ n, ns.getLast? = some n → T.rt (.int n) (upd H a (.lst (ns.dropLast.map V.int)))) → t T [some (.ref a)] H) :
    FnD P w K mg base 1 f fd ps c_l_next := by
  refine fnG_of F S ?_ ?_
  · rintro vs H Q E ⟨ds, P, E', hl, ha, _⟩
    rw [ha.length, hl]
  · rintro cdv A outer s H vs Q E hr hg ⟨ds, P', E', hl, ha, ⟨rfl, hS⟩, hP, hE⟩
    obtain ⟨t, ht, hq⟩ := hbody cdv A outer s H E
    refine ⟨_, pss_open (pss_close ht), ?_⟩
    match vs, ha with
    | [v], ha =>
      obtain ⟨⟨_, a, rfl, ea⟩, _⟩ := ha
      refine ⟨a, kapD, ea, ?_⟩
      intro ns kn
      have est : L2.start N [V.ref a] = [some (.ref a)] := by unfold L2.start; rw [hN]; rfl
      rw [est]
      refine ⟨a, kapD, hq a ns _ _ upd_same (fun e => ?_) fun n hn => ?_⟩
      · refine ⟨ns, upd_same, kn, ?_⟩
        rw [upd_upd, upd_self' ea]
        exact hP _ (hS 0 (by decide) (by decide)) _ H (Same.refl H) (.int 0)
      · refine ⟨ns.dropLast, upd_same, fun m hm => kn m (List.dropLast_subset _ hm), ?_⟩
        rw [upd_upd, upd_upd, upd_self' ea]
        have hm := kn n (List.mem_of_getLast? hn)
        exact hP _ (hS n hm.1 hm.2) _ H (Same.refl H) (.int n)
end
end Cr
set_option maxHeartbeats 4000000
/-! Fw10: rules for loops over pure readings, data that is small, webs -/
namespace Cr
open PySem PySem.Spec PyProof.Rows L2

/-! ### loops -/
theorem ForI.go {xs : List PD} {t : Bd} {body : ES} {d : Nd} {ρ : En} (I : Nat → En → Prop) (h0 : I 0 ρ)
    (hs : ∀ i x ρ', xs[i]? = some x → I i ρ' → t x ρ' fun ρ'' => body { d with nx := I (i + 1), ct := I (i + 1), bk := d.nx } ρ'') (he : ∀ ρ', I xs.length ρ' → d.nx ρ') : ForI xs t body d ρ := ⟨I, h0, hs, he⟩
theorem ForI.rng {lo : Int} {n : Nat} {t : Bd} {body : ES} {d : Nd} {ρ : En} (I : Nat → En → Prop) (h0 : I 0 ρ)
    (hs : ∀ i ρ', i < n → I i ρ' → t (.int (lo + i)) ρ' fun ρ'' => body { d with nx := I (i + 1), ct := I (i + 1), bk := d.nx } ρ'') (he : ∀ ρ', I n ρ' → d.nx ρ') : ForI (rng lo n) t body d ρ := by
  refine ⟨I, h0, fun i x ρ' e hI => ?_, fun ρ' h => he _ (by simpa [Cr.rng] using h)⟩
  have hi : i < n := by
    obtain ⟨h, _⟩ := List.getElem?_eq_some_iff.mp e
    simpa [Cr.rng] using h
  have ex : x = .int (lo + i) := by
    simp [Cr.rng, hi] at e
    exact e.symm
  subst ex
  exact hs i ρ' hi hI
theorem ForI.map {α : Type} {f : α → PD} {ts : List α} {t : Bd} {body : ES} {d : Nd} {ρ : En} (I : List α → En → Prop) (h0 : I [] ρ)
    (hs : ∀ a x b ρ', ts = a ++ x :: b → I a ρ' → t (f x) ρ' fun ρ'' => body { d with nx := I (a ++ [x]), ct := I (a ++ [x]), bk := d.nx } ρ'') (he : ∀ ρ', I ts ρ' → d.nx ρ') : ForI (ts.map f) t body d ρ := by
  refine ⟨fun i => I (ts.take i), by simpa using h0, fun i x ρ' e hI => ?_, fun ρ' h => he _ (by simpa using h)⟩
  rw [List.getElem?_map] at e
  cases e2 : ts[i]? with
  | none => rw [e2] at e; cases e
  | some y =>
    rw [e2] at e
    cases e
    obtain ⟨hi, ey⟩ := List.getElem?_eq_some_iff.mp e2
    have := hs (ts.take i) y (ts.drop (i + 1)) ρ' (by rw [← ey]; simp) hI
    have e3 : ts.take (i + 1) = ts.take i ++ [y] := by rw [List.take_add_one, e2]; rfl
    show t (f y) ρ' fun ρ'' => body { d with nx := I (ts.take (i + 1)), ct := I (ts.take (i + 1)), bk := d.nx } ρ''
    rw [e3]
    exact this
theorem ForI.nil {t : Bd} {body : ES} {d : Nd} {ρ : En} (h : d.nx ρ) : ForI [] t body d ρ := ⟨fun _ ρ' => ρ' = ρ, rfl, fun i x ρ' e => by simp at e, fun ρ' e => e ▸ h⟩
theorem WhileI.go {t : ET} {body : ES} {d : Nd} {ρ : En} (I : Nat → En → Prop) (m : Nat) (h0 : I m ρ)
    (hs : ∀ m ρ', I m ρ' → t ρ' (fun b => if b = true then body { d with nx := fun ρ'' => ∃ m', m' < m ∧ I m' ρ'', ct := fun ρ'' => ∃ m', m' < m ∧ I m' ρ'', bk := d.nx } ρ' else d.nx ρ') fun x => d.ex x ρ') : WhileI t body d ρ := ⟨I, ⟨m, h0⟩, hs⟩
/-- exact comprehensions -/
theorem LcI.flt {xs : List PD} {vs : List Nat} {t : Bd} {cond : ET} {elt : EE} {ρ : En} {P : D → Prop} (g : PD → Option PD)
    (hs : ∀ x ∈ xs, ∀ (Q : PD → Prop) (R : Prop), (∀ y, g x = some y → Q y) → (g x = none → R) → t x (wipeD ρ vs) fun ρ' => cond ρ' (fun b => if b = true then elt ρ' (fun y => match y with | .val z => Q z | _ => False) (fun _ => False) else R) fun _ => False)
    (he : P (.new (xs.filterMap g))) : LcI xs vs t cond elt ρ P := by
  refine ⟨fun i acc => acc = (xs.take i).filterMap g, rfl, fun i x acc e _ ea => ?_, fun acc _ ea => by have ea : acc = (xs.take xs.length).filterMap g := ea; rw [List.take_length] at ea; rw [ea]; exact he⟩
  have hm : x ∈ xs := List.mem_of_getElem? e
  have e3 : xs.take (i + 1) = xs.take i ++ [x] := by rw [List.take_add_one, e]; rfl
  refine hs x hm (fun z => acc ++ [z] = (xs.take (i + 1)).filterMap g) (acc = (xs.take (i + 1)).filterMap g) (fun y ey => ?_) fun ey => ?_
  · rw [e3, List.filterMap_append, ← ea]; simp [ey]
  · rw [e3, List.filterMap_append, ← ea]; simp [ey]
theorem LcI.map {α : Type} {f : α → PD} {ts : List α} {vs : List Nat} {t : Bd} {elt : EE} {ρ : En} {P : D → Prop} (g : α → PD)
    (hs : ∀ x ∈ ts, ∀ (Q : PD → Prop), Q (g x) → t (f x) (wipeD ρ vs) fun ρ' => elt ρ' (fun y => match y with | .val z => Q z | _ => False) (fun _ => False))
    (he : P (.new (ts.map g))) : LcI (ts.map f) vs t tTrue elt ρ P := by
  refine ⟨fun i acc => acc = (ts.take i).map g, rfl, fun i x acc e _ ea => ?_, fun acc _ ea => by have ea : acc = (ts.take (ts.map f).length).map g := ea; rw [List.length_map, List.take_length] at ea; rw [ea]; exact he⟩
  rw [List.getElem?_map] at e
  cases e2 : ts[i]? with
  | none => rw [e2] at e; cases e
  | some y =>
    rw [e2] at e
    cases e
    have e3 : ts.take (i + 1) = ts.take i ++ [y] := by rw [List.take_add_one, e2]; rfl
    show t (f y) (wipeD ρ vs) fun ρ' => elt ρ' (fun y => match y with | .val z => acc ++ [z] = (ts.take (i + 1)).map g | _ => False) (fun _ => False)
    exact hs y (List.mem_of_getElem? e2) (fun z => acc ++ [z] = (ts.take (i + 1)).map g) (by rw [e3, List.map_append, ← ea]; rfl)
theorem LcI.fltm {α : Type} {f : α → PD} {ts : List α} {vs : List Nat} {t : Bd} {cond : ET} {elt : EE} {ρ : En} {P : D → Prop} (g : α → Option PD)
    (hs : ∀ x ∈ ts, ∀ (Q : PD → Prop) (R : Prop), (∀ y, g x = some y → Q y) → (g x = none → R) → t (f x) (wipeD ρ vs) fun ρ' => cond ρ' (fun b => if b = true then elt ρ' (fun y => match y with | .val z => Q z | _ => False) (fun _ => False) else R) fun _ => False)
    (he : P (.new (ts.filterMap g))) : LcI (ts.map f) vs t cond elt ρ P := by
  refine ⟨fun i acc => acc = (ts.take i).filterMap g, rfl, fun i x acc e _ ea => ?_, fun acc _ ea => by have ea : acc = (ts.take (ts.map f).length).filterMap g := ea; rw [List.length_map, List.take_length] at ea; rw [ea]; exact he⟩
  rw [List.getElem?_map] at e
  cases e2 : ts[i]? with
  | none => rw [e2] at e; cases e
  | some y =>
    rw [e2] at e
    cases e
    have e3 : ts.take (i + 1) = ts.take i ++ [y] := by rw [List.take_add_one, e2]; rfl
    refine hs y (List.mem_of_getElem? e2) (fun z => acc ++ [z] = (ts.take (i + 1)).filterMap g) (acc = (ts.take (i + 1)).filterMap g) (fun z ez => ?_) fun ez => ?_
    · rw [e3, List.filterMap_append, ← ea]; simp [ez]
    · rw [e3, List.filterMap_append, ← ea]; simp [ez]
/-- the numbers lo .. lo + n - 1 -/
def up (lo : Int) (n : Nat) : List Int := (List.range n).map fun (i : Nat) => lo + (i : Int)
theorem rng_up (lo : Int) (n : Nat) : rng lo n = (up lo n).map .int := by simp [rng, up, Function.comp_def]
theorem mem_up {lo x : Int} {n : Nat} : x ∈ up lo n ↔ lo ≤ x ∧ x < lo + n := by
  simp only [up, List.mem_map, List.mem_range]
  constructor
  · rintro ⟨i, h, rfl⟩; omega
  · rintro ⟨h1, h2⟩; exact ⟨(x - lo).toNat, by omega, by omega⟩
@[simp] theorem up_length (lo : Int) (n : Nat) : (up lo n).length = n := by simp [up]
theorem up_get {lo : Int} {n i : Nat} (h : i < n) : (up lo n)[i]? = some (lo + i) := by simp [up, h]
theorem up_inc (lo : Int) (n : Nat) : (up lo n).Pairwise (· < ·) := by
  unfold up
  rw [List.pairwise_map]
  exact List.pairwise_lt_range.imp fun h => by omega
theorem up_succ (lo : Int) (n : Nat) : up lo (n + 1) = up lo n ++ [lo + n] := by simp [up, List.range_succ]
theorem up_split {lo : Int} {n : Nat} {a b : List Int} {x : Int} (h : up lo n = a ++ x :: b) : x = lo + a.length ∧ a = up lo a.length ∧ a.length < n := by
  have hl : a.length < n := by have := congrArg List.length h; simp at this; omega
  have e1 : (up lo n)[a.length]? = some x := by rw [h]; simp
  rw [up_get hl] at e1
  have e2 : a = (up lo n).take a.length := by rw [h]; simp
  refine ⟨(Option.some.inj e1).symm, ?_, hl⟩
  rw [e2]
  unfold up
  rw [← List.map_take, List.take_range, List.length_map, List.length_range, Nat.min_eq_left (by omega)]
theorem LcI.rng {lo : Int} {n : Nat} {vs : List Nat} {t : Bd} {elt : EE} {ρ : En} {P : D → Prop} (g : Int → PD)
    (hs : ∀ x : Int, lo ≤ x → x < lo + n → ∀ (Q : PD → Prop), Q (g x) → t (.int x) (wipeD ρ vs) fun ρ' => elt ρ' (fun y => match y with | .val z => Q z | _ => False) (fun _ => False))
    (he : P (.new ((up lo n).map g))) : LcI (Cr.rng lo n) vs t tTrue elt ρ P := by
  rw [rng_up]
  exact LcI.map g (fun x hx Q q => hs x (mem_up.mp hx).1 (mem_up.mp hx).2 Q q) he
theorem LcI.frng {lo : Int} {n : Nat} {vs : List Nat} {t : Bd} {cond : ET} {elt : EE} {ρ : En} {P : D → Prop} (g : Int → Option PD)
    (hs : ∀ x : Int, lo ≤ x → x < lo + n → ∀ (Q : PD → Prop) (R : Prop), (∀ y, g x = some y → Q y) → (g x = none → R) → t (.int x) (wipeD ρ vs) fun ρ' => cond ρ' (fun b => if b = true then elt ρ' (fun y => match y with | .val z => Q z | _ => False) (fun _ => False) else R) fun _ => False)
    (he : P (.new ((up lo n).filterMap g))) : LcI (Cr.rng lo n) vs t cond elt ρ P := by
  rw [rng_up]
  exact LcI.fltm g (fun x hx Q R q r => hs x (mem_up.mp hx).1 (mem_up.mp hx).2 Q R q r) he

/-! ### values -/
theorem sizeLine_big : (16777216 : Nat) ≤ sizeLine := by decide
theorem int_pow_le : True := trivial
theorem atI_at {α : Type} {xs : List α} {n : Nat} {x : α} (h : xs[n]? = some x) : atI xs (n : Int) = some x := atI_nat h
@[simp] theorem eqv_int (a b : Int) : PyData.eqv (.int a) (.int b) = decide (a = b) := by rw [PyData.eqv]; rfl
@[simp] theorem eqv_pr (p q : Int × Int) : PyData.eqv (encPr p) (encPr q) = decide (p = q) := by
  obtain ⟨a, b⟩ := p
  obtain ⟨c, d⟩ := q
  rw [encPr, encPr, PyData.eqv, PyData.eqvAll, PyData.eqvAll, PyData.eqvAll, eqv_int, eqv_int]
  by_cases h : a = c <;> by_cases h' : b = d <;> simp [h, h']
@[simp] theorem eqv_tup (xs ys : List PD) : PyData.eqv (.tuple xs) (.tuple ys) = PyData.eqvAll xs ys := by simp [PyData.eqv]
@[simp] theorem eqvAll_ints : ∀ xs ys : List Int, PyData.eqvAll (xs.map .int) (ys.map .int) = decide (xs = ys)
  | [], [] => by simp [PyData.eqvAll]
  | [], _ :: _ => by simp [PyData.eqvAll]
  | _ :: _, [] => by simp [PyData.eqvAll]
  | x :: xs, y :: ys => by
    rw [List.map_cons, List.map_cons, PyData.eqvAll, eqv_int, eqvAll_ints xs ys]
    by_cases h : x = y <;> by_cases h' : xs = ys <;> simp [h, h']
@[simp] theorem eqvAll_prs : ∀ xs ys : List (Int × Int), PyData.eqvAll (xs.map encPr) (ys.map encPr) = decide (xs = ys)
  | [], [] => by simp [PyData.eqvAll]
  | [], _ :: _ => by simp [PyData.eqvAll]
  | _ :: _, [] => by simp [PyData.eqvAll]
  | x :: xs, y :: ys => by
    rw [List.map_cons, List.map_cons, PyData.eqvAll, eqv_pr, eqvAll_prs xs ys]
    by_cases h : x = y <;> by_cases h' : xs = ys <;> simp [h, h']
@[simp] theorem any_ints (xs : List Int) (z : Int) : ((xs.map PyData.int).any fun y => PyData.eqv y (.int z)) = decide (z ∈ xs) := by
  rw [List.any_map]
  simp only [Function.comp_def, eqv_int, eqv_pr]
  induction xs with
  | nil => rfl
  | cons x xs ih =>
    rw [List.any_cons, ih]
    by_cases h : x = z
    · simp [h]
    · have h' : z ≠ x := fun e => h e.symm
      simp [h, h']
@[simp] theorem any_prs (xs : List (Int × Int)) (z : Int × Int) : ((xs.map encPr).any fun y => PyData.eqv y (encPr z)) = decide (z ∈ xs) := by
  rw [List.any_map]
  simp only [Function.comp_def, eqv_int, eqv_pr]
  induction xs with
  | nil => rfl
  | cons x xs ih =>
    rw [List.any_cons, ih]
    by_cases h : x = z
    · simp [h]
    · have h' : z ≠ x := fun e => h e.symm
      simp [h, h']
/-- data that is small: its text has at most m signs, it is at most k deep -/
def tiny (m k : Nat) (d : PD) : Prop := d.showable = true ∧ d.canLay0 = true ∧ d.depth ≤ k ∧ d.shown.length ≤ m
theorem tiny.mono {m k m' k' : Nat} {d : PD} (h : tiny m k d) (hm : m ≤ m') (hk : k ≤ k') : tiny m' k' d := ⟨h.1, h.2.1, Nat.le_trans h.2.2.1 hk, Nat.le_trans h.2.2.2 hm⟩
theorem tiny.shaped {m k : Nat} {d : PD} (h : tiny m k d) (hk : k ≤ 64) : SeqAt.shaped d = true := Bool.and_eq_true_iff.mpr ⟨h.2.1, decide_eq_true (Nat.le_trans h.2.2.1 hk)⟩
theorem tiny.dict {m k : Nat} {d : PD} (h : tiny m k d) : d.hasDict = false := PyData.hasDict_of_canLay d h.2.1
theorem tiny.rep {m k : Nat} {d : PD} (h : tiny m k d) (hk : k ≤ 64) (hm : m ≤ sizeLine) : d.showable = true ∧ okD d ∧ d.depth ≤ 64 ∧ d.shown.length ≤ sizeLine :=
  ⟨h.1, .inl h.dict, Nat.le_trans h.2.2.1 hk, Nat.le_trans h.2.2.2 hm⟩
theorem tiny.int {i : Int} (h0 : 0 ≤ i) (h : i < 10 ^ 6) : tiny 6 0 (.int i) := by
  refine ⟨?_, rfl, Nat.le_refl _, ?_⟩
  · rw [PyData.showable]
    have h1 : i.natAbs < 2 ^ 20 := by omega
    exact decide_eq_true (Nat.lt_trans (PySem.Flt.log2_lt_of (by decide) h1) (by decide))
  · rw [PyData.shown]
    exact toString_length_le h0 (by decide) h
theorem tiny.bool (b : Bool) : tiny 5 0 (.bool b) := by
  refine ⟨rfl, rfl, Nat.le_refl _, ?_⟩
  cases b <;> rw [PyData.shown] <;> decide
theorem tiny.none : tiny 5 0 .none := ⟨rfl, rfl, Nat.le_refl _, by rw [PyData.shown]; decide⟩
theorem tinyAll {m k : Nat} : ∀ {xs : List PD}, (∀ x ∈ xs, tiny m k x) → PyData.showableAll xs = true ∧ PyData.canLayAll0 xs = true ∧ PyData.depthAll xs ≤ k ∧ piled (PyData.shownAll xs) ≤ xs.length * (m + 2) ∧ (PyData.shownAll xs = [] → xs = [])
  | [], _ => ⟨rfl, rfl, Nat.zero_le _, by simp [PyData.shownAll, piled], fun _ => rfl⟩
  | x :: xs, h => by
    obtain ⟨a1, a2, a3, a4⟩ := h x (List.mem_cons_self ..)
    obtain ⟨b1, b2, b3, b4, _⟩ := tinyAll fun y hy => h y (List.mem_cons_of_mem _ hy)
    refine ⟨?_, ?_, ?_, ?_, ?_⟩
    · rw [PyData.showableAll, a1, b1]; rfl
    · rw [PyData.canLayAll0, a2, b2]; rfl
    · rw [PyData.depthAll]; exact Nat.max_le.mpr ⟨a3, b3⟩
    · rw [PyData.shownAll, piled_cons, List.length_cons, Nat.succ_mul]; omega
    · rw [PyData.shownAll]; intro e; cases e
theorem join_le (ts : List Str) : (Str.join ", " ts).length ≤ piled ts := by
  cases ts with
  | nil => exact Nat.zero_le _
  | cons t ts => have := join_length_add (t :: ts) (by simp); omega
theorem tiny.tup {m k L M : Nat} {xs : List PD} (h : ∀ x ∈ xs, tiny m k x) (hl : xs.length ≤ L) (hM : L * (m + 2) + 3 ≤ M) : tiny M (k + 1) (.tuple xs) := by
  obtain ⟨b1, b2, b3, b4, _⟩ := tinyAll h
  refine ⟨b1, b2, by rw [PyData.depth]; omega, ?_⟩
  rw [PyData.shown]
  have h1 := join_le (PyData.shownAll xs)
  have h2 : xs.length * (m + 2) ≤ L * (m + 2) := Nat.mul_le_mul_right _ hl
  unfold tupleText
  rw [PySem.strLen_append, PySem.strLen_append]
  have h3 : Str.length ("(" : Str) = 1 := by decide
  have h4 : Str.length ((if (PyData.shownAll xs).length == 1 then ",)" else ")" : String) : Str) ≤ 2 := by split <;> decide
  omega
theorem tiny.lst {m k L M : Nat} {xs : List PD} (h : ∀ x ∈ xs, tiny m k x) (hl : xs.length ≤ L) (hM : L * (m + 2) + 3 ≤ M) : tiny M (k + 1) (.list xs) := by
  obtain ⟨b1, b2, b3, b4, _⟩ := tinyAll h
  refine ⟨b1, b2, by rw [PyData.depth]; omega, ?_⟩
  rw [PyData.shown, listText_eq_join]
  have h1 := join_le (PyData.shownAll xs)
  have h2 : xs.length * (m + 2) ≤ L * (m + 2) := Nat.mul_le_mul_right _ hl
  rw [PySem.strLen_append, PySem.strLen_append]
  have h3 : Str.length ("[" : Str) = 1 := by decide
  have h4 : Str.length ("]" : Str) = 1 := by decide
  omega
theorem tiny.ints {xs : List Int} {L M : Nat} (h : ∀ x ∈ xs, 0 ≤ x ∧ x < 10 ^ 6) (hl : xs.length ≤ L) (hM : L * 8 + 3 ≤ M) : tiny M 1 (.tuple (xs.map .int)) :=
  tiny.tup (m := 6) (k := 0) (fun x hx => by obtain ⟨i, hi, rfl⟩ := List.mem_map.mp hx; exact tiny.int (h i hi).1 (h i hi).2) (by simpa using hl) hM
theorem tiny.pr {p : Int × Int} (h : (0 ≤ p.1 ∧ p.1 < 10 ^ 6) ∧ 0 ≤ p.2 ∧ p.2 < 10 ^ 6) : tiny 19 1 (encPr p) :=
  tiny.ints (xs := [p.1, p.2]) (L := 2) (fun x hx => by simp at hx; rcases hx with rfl | rfl; exact h.1; exact h.2) (Nat.le_refl _) (by decide)
theorem tiny.prs {ps : List (Int × Int)} {L M : Nat} (h : ∀ p ∈ ps, (0 ≤ p.1 ∧ p.1 < 10 ^ 6) ∧ 0 ≤ p.2 ∧ p.2 < 10 ^ 6) (hl : ps.length ≤ L) (hM : L * 21 + 3 ≤ M) : tiny M 2 (.tuple (ps.map encPr)) :=
  tiny.tup (m := 19) (k := 1) (fun x hx => by obtain ⟨p, hp, rfl⟩ := List.mem_map.mp hx; exact tiny.pr (h p hp)) (by simpa using hl) hM
end Cr
set_option maxHeartbeats 4000000
/-! Fw11: webs as plain data -/
namespace Cr
open PySem PySem.Spec PyProof.Rows L2

structure Wb where
  n : Int
  ts : List (Int × Int)
  deriving DecidableEq
def encW (W : Wb) : PD := .tuple [.int W.n, .tuple (W.ts.map encPr)]
def lexLt (p q : Int × Int) : Prop := p.1 < q.1 ∨ (p.1 = q.1 ∧ p.2 < q.2)
def TsOk (n : Int) (ts : List (Int × Int)) : Prop := (∀ p ∈ ts, 0 ≤ p.1 ∧ p.1 < p.2 ∧ p.2 < n) ∧ ts.Pairwise lexLt
structure WebOk (W : Wb) : Prop where
  lo : 3 ≤ W.n
  hi : W.n ≤ 20
  ts : TsOk W.n W.ts
theorem lexLt.ne {p q : Int × Int} (h : lexLt p q) : p ≠ q := by
  rintro rfl
  rcases h with h | ⟨_, h⟩ <;> omega
theorem lexLt.trans {p q r : Int × Int} (h : lexLt p q) (g : lexLt q r) : lexLt p r := by
  unfold lexLt at *
  omega
theorem TsOk.nodup {n : Int} {ts : List (Int × Int)} (h : TsOk n ts) : ts.Nodup := h.2.imp fun h => h.ne
theorem TsOk.len {n : Int} {ts : List (Int × Int)} (h : TsOk n ts) (hn : n ≤ 20) : ts.length ≤ 400 := by
  have : ∀ (ts : List (Int × Int)) (k : Int), ts.Pairwise lexLt → (∀ p ∈ ts, 0 ≤ p.1 ∧ p.1 < 20 ∧ 0 ≤ p.2 ∧ p.2 < 20 ∧ k ≤ p.1 * 20 + p.2) → k ≤ 400 → (ts.length : Int) ≤ 400 - k := by
    intro ts
    induction ts with
    | nil => intro k _ _ h; simp; omega
    | cons p ts ih =>
      intro k hp hb hk
      obtain ⟨h1, h2⟩ := List.pairwise_cons.mp hp
      have hb0 := hb p (List.mem_cons_self ..)
      have := ih (k + 1) h2 (fun q hq => by
        have a := h1 q hq
        have b := hb q (List.mem_cons_of_mem _ hq)
        unfold lexLt at a
        omega) (by omega)
      rw [List.length_cons]
      omega
  have := this ts 0 h.2 (fun p hp => by have := h.1 p hp; omega) (by decide)
  omega
def adj (W : Wb) (a b : Int) : Prop := (min a b, max a b) ∈ W.ts
instance (W : Wb) (a b : Int) : Decidable (adj W a b) := inferInstanceAs (Decidable ((min a b, max a b) ∈ W.ts))
theorem adj_comm {W : Wb} {a b : Int} : adj W a b ↔ adj W b a := by
  unfold adj
  rw [Int.min_comm, Int.max_comm]
theorem WebOk.adj {W : Wb} (h : WebOk W) {a b : Int} (e : adj W a b) : 0 ≤ a ∧ a < W.n ∧ 0 ≤ b ∧ b < W.n ∧ a ≠ b := by
  have := h.ts.1 _ e
  simp only at this
  omega
def degT (ts : List (Int × Int)) (p : Int) : Int := ((ts.countP fun q => decide (q.1 = p ∨ q.2 = p) : Nat) : Int)
def deg (W : Wb) (p : Int) : Int := degT W.ts p
def degs (W : Wb) : List Int := (up 0 W.n.toNat).map (deg W)
def nbrs (W : Wb) (p : Int) : List Int := (up 0 W.n.toNat).filter fun o => decide (adj W p o)
def otherOf (p : Int) (q : Int × Int) : Option Int := if q.1 = p then some q.2 else if q.2 = p then some q.1 else none
def found (ts : List (Int × Int)) (p : Int) : List Int := ts.filterMap (otherOf p)
theorem found_len (ts : List (Int × Int)) (p : Int) : ((found ts p).length : Int) = degT ts p := by
  unfold found degT
  congr 1
  induction ts with
  | nil => rfl
  | cons q ts ih =>
    rw [List.filterMap_cons, List.countP_cons]
    unfold otherOf at ih ⊢
    by_cases h1 : q.1 = p
    · simp [h1]; simpa using ih
    · by_cases h2 : q.2 = p
      · simp [h1, h2]; simpa using ih
      · simp [h1, h2]; simpa using ih
theorem mem_found {n : Int} {ts : List (Int × Int)} (h : TsOk n ts) {p y : Int} : y ∈ found ts p ↔ (min p y, max p y) ∈ ts := by
  unfold found
  rw [List.mem_filterMap]
  constructor
  · rintro ⟨q, hq, e⟩
    obtain ⟨q1, q2⟩ := q
    have := h.1 _ hq
    unfold otherOf at e
    simp only at e this
    split at e
    · cases e; subst p; rw [show min q1 y = q1 by omega, show max q1 y = y by omega]; exact hq
    · split at e
      · cases e; subst p; rw [show min q2 y = y by omega, show max q2 y = q2 by omega]; exact hq
      · cases e
  · intro hm
    have := h.1 _ hm
    refine ⟨_, hm, ?_⟩
    unfold otherOf
    simp only at this ⊢
    by_cases hpy : p ≤ y
    · rw [if_pos (by omega)]; congr 1; omega
    · rw [if_neg (by omega), if_pos (by omega)]; congr 1; omega
theorem found_nodup {n : Int} {ts : List (Int × Int)} (h : TsOk n ts) (p : Int) : (found ts p).Nodup := by
  induction ts with
  | nil => exact List.nodup_nil
  | cons q ts ih =>
    have h' : TsOk n ts := ⟨fun x hx => h.1 x (List.mem_cons_of_mem _ hx), (List.pairwise_cons.mp h.2).2⟩
    have nd := (List.nodup_cons.mp h.nodup).1
    unfold found
    rw [List.filterMap_cons]
    split
    · exact ih h'
    · rename_i y e
      refine List.nodup_cons.mpr ⟨fun hy => ?_, ih h'⟩
      have hy := (mem_found h').mp hy
      have e2 : (min p y, max p y) = q := by
        have := h.1 q (List.mem_cons_self ..)
        obtain ⟨q1, q2⟩ := q
        unfold otherOf at e
        simp only at e this
        split at e
        · cases e; subst p; rw [show min q1 y = q1 by omega, show max q1 y = y by omega]
        · split at e
          · cases e; subst p; rw [show min q2 y = y by omega, show max q2 y = q2 by omega]
          · cases e
      exact nd (e2 ▸ hy)
theorem nbrs_inc (W : Wb) (p : Int) : (nbrs W p).Pairwise (· < ·) := (up_inc _ _).filter _
theorem mem_nbrs {W : Wb} (h : WebOk W) {p y : Int} : y ∈ nbrs W p ↔ adj W p y := by
  unfold nbrs
  rw [List.mem_filter, mem_up, decide_eq_true_eq]
  have := h.lo
  exact ⟨fun h => h.2, fun e => ⟨by have := h.adj e; omega, e⟩⟩
theorem found_perm {W : Wb} (h : WebOk W) (p : Int) : (found W.ts p).Perm (nbrs W p) := by
  refine (List.perm_ext_iff_of_nodup (found_nodup h.ts p) ((nbrs_inc W p).imp fun h => by omega)).mpr fun y => ?_
  rw [mem_found h.ts, mem_nbrs h]
  rfl
theorem srt_unique {xs ys : List Int} (hp : xs.Perm ys) (hx : xs.Pairwise (· ≤ ·)) (hy : ys.Pairwise (· < ·)) : xs = ys :=
  hp.eq_of_pairwise (fun a b _ _ h1 h2 => by omega) hx (hy.imp fun h => by omega)
theorem srt_unique' {xs ys : List Int} (hp : xs.Perm ys) (hx : xs.Pairwise (· ≤ ·)) (hy : ys.Pairwise (· ≤ ·)) : xs = ys :=
  hp.eq_of_pairwise (fun a b _ _ h1 h2 => by omega) hx hy
theorem srt_uniqueP {xs ys : List (Int × Int)} (hp : xs.Perm ys) (hx : xs.Pairwise lexLe) (hy : ys.Pairwise lexLe) : xs = ys :=
  hp.eq_of_pairwise (fun a b _ _ h1 h2 => by unfold lexLe at h1 h2; exact Prod.ext (by omega) (by omega)) hx hy
theorem lt_le {ps : List (Int × Int)} (h : ps.Pairwise lexLt) : ps.Pairwise lexLe := h.imp fun h => by unfold lexLt at h; unfold lexLe; omega
theorem nbrs_deg {W : Wb} (h : WebOk W) (p : Int) : ((nbrs W p).length : Int) = deg W p := by
  rw [← (found_perm h p).length_eq]
  exact found_len _ _
theorem deg_le {W : Wb} (h : WebOk W) (p : Int) : 0 ≤ deg W p ∧ deg W p ≤ W.n := by
  rw [← nbrs_deg h]
  have := List.length_filter_le (fun o => decide (adj W p o)) (up 0 W.n.toNat)
  rw [up_length] at this
  have h2 := h.lo
  unfold nbrs
  omega
/-- all pairs of the first n numbers -/
def pairsFrom (a n : Int) : List (Int × Int) := (up (a + 1) (n - (a + 1)).toNat).map fun b => (a, b)
def allPairs (n : Int) : List (Int × Int) := (up 0 n.toNat).flatMap fun a => pairsFrom a n
theorem degT_app (a b : List (Int × Int)) (p : Int) : degT (a ++ b) p = degT a p + degT b p := by simp [degT]
theorem degT_one (q : Int × Int) (p : Int) : degT [q] p = if q.1 = p ∨ q.2 = p then 1 else 0 := by
  unfold degT
  by_cases h : q.1 = p ∨ q.2 = p <;> simp [h]
theorem set_up {α : Type} {n : Nat} {f : Int → α} {a : Int} (x : α) (h0 : 0 ≤ a) : ((up 0 n).map f).set a.toNat x = (up 0 n).map fun p => if p = a then x else f p := by
  refine List.ext_getElem? fun i => ?_
  rw [List.getElem?_set]
  by_cases hi : i < n
  · simp only [List.length_map, up_length, List.getElem?_map, up_get hi]
    by_cases e : a.toNat = i
    · rw [if_pos e, if_pos (by omega)]; simp; intro h; omega
    · rw [if_neg e]; simp; intro h; omega
  · simp only [List.length_map, up_length, List.getElem?_map]
    have e1 : (up 0 n)[i]? = none := List.getElem?_eq_none (by simp; omega)
    rw [e1]
    by_cases e : a.toNat = i
    · rw [if_pos e, if_neg (by omega)]; rfl
    · rw [if_neg e]; rfl
theorem get_up {α : Type} {n : Nat} {f : Int → α} {a : Int} (h0 : 0 ≤ a) (h : a < n) : ((up 0 n).map f)[a.toNat]? = some (f a) := by
  rw [List.getElem?_map, up_get (by omega)]
  simp
  congr 1; omega
theorem atI_up {α : Type} {n : Nat} {f : Int → α} {a : Int} (h0 : 0 ≤ a) (h : a < n) : atI ((up 0 n).map f) a = some (f a) := by
  have e := get_up (f := f) h0 h
  have := atI_nat (j := a.toNat) e
  rwa [show ((a.toNat : Nat) : Int) = a by omega] at this
theorem ixN_ok {n : Nat} {i : Int} (h0 : 0 ≤ i) (h : i < n) : ixN n i = some i.toNat := by
  unfold ixN
  simp [h0, h]
@[simp] theorem at_0 {α : Type} (a : α) (xs : List α) : atI (a :: xs) 0 = some a := atI_nat (j := 0) rfl
@[simp] theorem at_1 {α : Type} (a b : α) (xs : List α) : atI (a :: b :: xs) 1 = some b := atI_nat (j := 1) rfl
@[simp] theorem at_2 {α : Type} (a b c : α) (xs : List α) : atI (a :: b :: c :: xs) 2 = some c := atI_nat (j := 2) rfl
@[simp] theorem gIx_tup (xs : List PD) (i : Int) (P : D → Prop) : gIx (.val (.tuple xs)) (.val (.int i)) P = (match atI xs i with | some d => P (.val d) | none => False) := rfl
@[simp] theorem gIx_lst (xs : List PD) (i : Int) (P : D → Prop) : gIx (.val (.list xs)) (.val (.int i)) P = (match atI xs i with | some d => P (.val d) | none => False) := rfl
@[simp] theorem gIx_new (xs : List PD) (i : Int) (P : D → Prop) : gIx (.new xs) (.val (.int i)) P = (match atI xs i with | some d => P (.val d) | none => False) := rfl
@[simp] theorem gIx_bor (xs : List PD) (i : Int) (P : D → Prop) : gIx (.bor xs) (.val (.int i)) P = (match atI xs i with | some d => P (.val d) | none => False) := rfl
@[simp] theorem gIx_scr (xs : List PD) (i : Int) (P : D → Prop) : gIx (.scr xs) (.val (.int i)) P = (match atI xs i with | some d => P (.val d) | none => False) := rfl
@[simp] theorem gIx_str (z : Str) (i : Int) (P : D → Prop) : gIx (.val (.str z)) (.val (.int i)) P = (z.length ≤ sizeLine ∧ (match atI z.cps.toList i with | some c => P (.val (.str ⟨#[c]⟩)) | none => False)) := rfl
@[simp] theorem gIx_W0 (W : Wb) (P : D → Prop) : gIx (.val (encW W)) (.val (.int 0)) P = P (.val (.int W.n)) := by simp [encW]
@[simp] theorem gIx_W1 (W : Wb) (P : D → Prop) : gIx (.val (encW W)) (.val (.int 1)) P = P (.val (.tuple (W.ts.map encPr))) := by simp [encW]
theorem up_at {n : Nat} {a : Int} (h0 : 0 ≤ a) (h : a < n) : (up 0 n)[a.toNat]? = some a := by
  rw [up_get (by omega)]; congr 1; omega
theorem canLay_ints (xs : List Int) : PyData.canLayAll0 (xs.map .int) = true ∧ PyData.depthAll (xs.map .int) = 0 := by
  induction xs with
  | nil => exact ⟨rfl, rfl⟩
  | cons x xs ih => rw [List.map_cons, PyData.canLayAll0, PyData.depthAll, ih.1, ih.2]; exact ⟨rfl, rfl⟩
theorem canLay_prs (xs : List (Int × Int)) : PyData.canLayAll0 (xs.map encPr) = true ∧ PyData.depthAll (xs.map encPr) ≤ 1 := by
  induction xs with
  | nil => exact ⟨rfl, by decide⟩
  | cons x xs ih =>
    rw [List.map_cons, PyData.canLayAll0, PyData.depthAll, ih.1]
    exact ⟨rfl, Nat.max_le.mpr ⟨Nat.le_of_eq rfl, ih.2⟩⟩
theorem shp_of {xs : List PD} {k : Nat} (h : PyData.canLayAll0 xs = true ∧ PyData.depthAll xs ≤ k) (hk : k ≤ 63) : SeqAt.shaped (.tuple xs) = true ∧ shapedAll xs :=
  have q : SeqAt.shaped (.tuple xs) = true := Bool.and_eq_true_iff.mpr ⟨h.1, decide_eq_true (by rw [PyData.depth]; omega)⟩
  ⟨q, q⟩
@[simp] theorem shp_ints (xs : List Int) : SeqAt.shaped (.tuple (xs.map .int)) = true := (shp_of ⟨(canLay_ints xs).1, Nat.le_of_eq (canLay_ints xs).2⟩ (by decide)).1
@[simp] theorem shpA_ints (xs : List Int) : shapedAll (xs.map .int) := (shp_of ⟨(canLay_ints xs).1, Nat.le_of_eq (canLay_ints xs).2⟩ (by decide)).2
@[simp] theorem shp_prs (xs : List (Int × Int)) : SeqAt.shaped (.tuple (xs.map encPr)) = true := (shp_of (canLay_prs xs) (by decide)).1
@[simp] theorem shpA_prs (xs : List (Int × Int)) : shapedAll (xs.map encPr) := (shp_of (canLay_prs xs) (by decide)).2
@[simp] theorem shp_pr (a b : Int) : SeqAt.shaped (.tuple [.int a, .int b]) = true := shp_ints [a, b]
@[simp] theorem shp_encPr (p : Int × Int) : SeqAt.shaped (encPr p) = true := shp_ints [p.1, p.2]
@[simp] theorem has_prs' (xs : List (Int × Int)) (a b : Int) : hasV (xs.map encPr) (.tuple [.int a, .int b]) = decide ((a, b) ∈ xs) := any_prs xs (a, b)
@[simp] theorem has_prs2 (xs : List (Int × Int)) (z : Int × Int) : hasV (xs.map encPr) (encPr z) = decide (z ∈ xs) := any_prs xs z
@[simp] theorem has_ints2 (xs : List Int) (z : Int) : hasV (xs.map PyData.int) (.int z) = decide (z ∈ xs) := any_ints xs z
@[simp] theorem shp_int (i : Int) : SeqAt.shaped (.int i) = true := rfl
@[simp] theorem shp_bool (i : Bool) : SeqAt.shaped (.bool i) = true := rfl
theorem cpow10 : CPow 10 18 := ⟨by decide, by decide, by decide⟩
theorem flat_len (n : Int) (i : Nat) (h : n ≤ 20) : ((up 0 i).flatMap fun a => pairsFrom a n).length ≤ 20 * i := by
  induction i with
  | zero => simp [up]
  | succ i ih =>
    rw [up_succ, List.flatMap_append, List.length_append]
    have : (List.flatMap (fun a => pairsFrom a n) [0 + (i : Int)]).length ≤ 20 := by simp [pairsFrom]; omega
    omega
/-- enumerate, of ints -/
def enumI (ms : List Int) : List (Int × Int) := ms.mapIdx fun i x => ((i : Int), x)
theorem enumP_ints (ms : List Int) : enumP (ms.map .int) = (enumI ms).map encPr := by
  unfold enumP enumI
  refine List.ext_getElem? fun i => ?_
  simp [encPr, Function.comp_def]
theorem enum_split {ms : List Int} {pre post : List (Int × Int)} {x y : Int} (h : enumI ms = pre ++ (x, y) :: post) : 0 ≤ x ∧ x < ms.length := by
  have hm : (x, y) ∈ enumI ms := by rw [h]; simp
  unfold enumI at hm
  rw [List.mem_mapIdx] at hm
  obtain ⟨i, hi, e⟩ := hm
  cases e
  omega
theorem WebOk.tiny {W : Wb} (h : WebOk W) : tiny 20000 3 (encW W) := by
  have h1 := h.lo
  have h2 := h.hi
  refine Cr.tiny.tup (m := 8500) (k := 2) (L := 2) (fun x hx => ?_) (Nat.le_refl _) (by decide)
  simp only [List.mem_cons, List.not_mem_nil, or_false] at hx
  rcases hx with rfl | rfl
  · exact (Cr.tiny.int (by omega) (by omega)).mono (by decide) (by decide)
  · exact (Cr.tiny.prs (L := 400) (fun p hp => by have := h.ts.1 p hp; omega) (h.ts.len h2) (Nat.le_refl _)).mono (by decide) (by decide)
end Cr
set_option maxHeartbeats 4000000
/-! Fw12: pairs in order, puts, closings, as plain data -/
namespace Cr
open PySem PySem.Spec PyProof.Rows L2

theorem up_app (lo : Int) (a b : Nat) : up lo (a + b) = up lo a ++ up (lo + a) b := by
  refine List.ext_getElem? fun i => ?_
  rw [List.getElem?_append]
  simp only [up_length]
  split
  · rw [up_get (by omega), up_get (by omega)]
  · by_cases h : i < a + b
    · rw [up_get h, up_get (by omega)]; congr 1; omega
    · rw [List.getElem?_eq_none (by simp; omega), List.getElem?_eq_none (by simp; omega)]
theorem up_cons (lo : Int) (n : Nat) : up lo (n + 1) = lo :: up (lo + 1) n := by
  have := up_app lo 1 n
  rw [Nat.add_comm, this]
  simp [up]
def rowsTo (i : Nat) (n : Int) : List (Int × Int) := (up 0 i).flatMap fun a => pairsFrom a n
def preP (i j : Nat) (n : Int) : List (Int × Int) := rowsTo i n ++ (up ((i : Int) + 1) j).map fun b => ((i : Int), b)
theorem preP_zero (i : Nat) (n : Int) : preP i 0 n = rowsTo i n := by simp [preP, up]
theorem preP_succ (i j : Nat) (n : Int) : preP i (j + 1) n = preP i j n ++ [((i : Int), (i : Int) + 1 + j)] := by simp [preP, up_succ]
theorem preP_end (i : Nat) (n : Int) : preP i (n - ((i : Int) + 1)).toNat n = rowsTo (i + 1) n := by simp [preP, rowsTo, up_succ, pairsFrom]
theorem rowsTo_end (n : Int) : rowsTo n.toNat n = allPairs n := rfl
theorem all_split {n : Int} {i j : Nat} (h : (i : Int) + 1 + j < n) : ∃ suf, allPairs n = preP i j n ++ ((i : Int), (i : Int) + 1 + j) :: suf := by
  obtain ⟨k, hk⟩ : ∃ k, n.toNat = i + (k + 1) := ⟨n.toNat - i - 1, by omega⟩
  obtain ⟨m, hm⟩ : ∃ m, (n - ((i : Int) + 1)).toNat = j + (m + 1) := ⟨(n - ((i : Int) + 1)).toNat - j - 1, by omega⟩
  refine ⟨(up ((i : Int) + 1 + j + 1) m).map (fun b => ((i : Int), b)) ++ (up (0 + (i : Int) + 1) k).flatMap fun a => pairsFrom a n, ?_⟩
  unfold allPairs preP rowsTo
  rw [hk, up_app, up_cons, List.flatMap_append, List.flatMap_cons]
  rw [show pairsFrom (0 + (i : Int)) n = (up ((i : Int) + 1) j).map (fun b => ((i : Int), b)) ++ ((i : Int), (i : Int) + 1 + j) :: (up ((i : Int) + 1 + j + 1) m).map (fun b => ((i : Int), b)) by
    unfold pairsFrom
    rw [Int.zero_add, hm, up_app, up_cons]
    simp]
  simp only [List.append_assoc, List.cons_append]
theorem mem_all {n : Int} {p : Int × Int} : p ∈ allPairs n ↔ 0 ≤ p.1 ∧ p.1 < p.2 ∧ p.2 < n := by
  unfold allPairs pairsFrom
  rw [List.mem_flatMap]
  constructor
  · rintro ⟨a, ha, hp⟩
    obtain ⟨b, hb, rfl⟩ := List.mem_map.mp hp
    have := mem_up.mp ha
    have := mem_up.mp hb
    simp only
    omega
  · rintro ⟨h0, h1, h2⟩
    exact ⟨p.1, mem_up.mpr (by omega), List.mem_map.mpr ⟨p.2, mem_up.mpr (by omega), rfl⟩⟩
theorem pairsFrom_lt (a n : Int) : (pairsFrom a n).Pairwise Cr.lexLt := by
  unfold pairsFrom
  rw [List.pairwise_map]
  exact (up_inc _ _).imp fun h => .inr ⟨rfl, h⟩
theorem all_lt (n : Int) : (allPairs n).Pairwise Cr.lexLt := by
  unfold allPairs
  rw [List.pairwise_flatMap]
  refine ⟨fun a _ => pairsFrom_lt a n, (up_inc _ _).imp fun h p hp q hq => ?_⟩
  unfold pairsFrom at hp hq
  obtain ⟨b, _, rfl⟩ := List.mem_map.mp hp
  obtain ⟨c, _, rfl⟩ := List.mem_map.mp hq
  exact .inl h
theorem all_ok (n : Int) : TsOk n (allPairs n) := ⟨fun p hp => mem_all.mp hp, all_lt n⟩
theorem TsOk.filter {n : Int} {ts : List (Int × Int)} (h : TsOk n ts) (f : Int × Int → Bool) : TsOk n (ts.filter f) :=
  ⟨fun p hp => h.1 p (List.mem_filter.mp hp).1, h.2.filter f⟩
def isPut (W : Wb) (more : Int) (p : Int × Int) : Prop := W.n + more ≤ deg W p.1 + deg W p.2 ∧ p ∉ W.ts
instance (W : Wb) (more : Int) (p : Int × Int) : Decidable (isPut W more p) := inferInstanceAs (Decidable (_ ∧ _))
def putsOf (W : Wb) (more : Int) : List (Int × Int) := (allPairs W.n).filter fun p => decide (isPut W more p)
theorem mem_puts {W : Wb} {more : Int} {p : Int × Int} : p ∈ putsOf W more ↔ (0 ≤ p.1 ∧ p.1 < p.2 ∧ p.2 < W.n) ∧ isPut W more p := by
  unfold putsOf
  rw [List.mem_filter, mem_all, decide_eq_true_eq]
theorem puts_ok (W : Wb) (more : Int) : TsOk W.n (putsOf W more) := (all_ok W.n).filter _
theorem puts_len {W : Wb} (h : WebOk W) (more : Int) : (putsOf W more).length ≤ 400 := (puts_ok W more).len h.hi
theorem rows_len {n : Int} (i : Nat) (h : n ≤ 20) : (rowsTo i n).length ≤ 20 * i := flat_len n i h
theorem pre_len {n : Int} {i j : Nat} (h : n ≤ 20) (hi : (i : Int) < n) (hj : (i : Int) + 1 + j ≤ n) : (preP i j n).length ≤ 400 := by
  have := rows_len i h
  unfold preP
  rw [List.length_append, List.length_map, up_length]
  omega
theorem pre_filter_len {n : Int} {i j : Nat} (h : n ≤ 20) (hi : (i : Int) < n) (hj : (i : Int) + 1 + j ≤ n) (f : Int × Int → Bool) : ((preP i j n).filter f).length ≤ 400 :=
  Nat.le_trans (List.length_filter_le _ _) (pre_len h hi hj)
def noPut (W : Wb) (more : Int) (l : List (Int × Int)) : Prop := l.filter (fun p => decide (isPut W more p)) = []
def putF (W : Wb) (more : Int) (l : List (Int × Int)) : List (Int × Int) := l.filter fun p => decide (isPut W more p)
theorem noPut_nil {W : Wb} {more : Int} : noPut W more [] := rfl
theorem noPut_snoc {W : Wb} {more : Int} {l : List (Int × Int)} {p : Int × Int} (h : noPut W more l) (hp : ¬ isPut W more p) : noPut W more (l ++ [p]) := by
  unfold noPut at *
  rw [List.filter_append, h]
  simp [hp]
theorem noPut_head {W : Wb} {more : Int} {l suf : List (Int × Int)} {p : Int × Int} (h : noPut W more l) (e : allPairs W.n = l ++ p :: suf) (hp : isPut W more p) : (putsOf W more).head? = some p := by
  unfold noPut at h
  unfold putsOf
  rw [e, List.filter_append, h]
  simp [hp]
theorem putF_snoc {W : Wb} {more : Int} {l : List (Int × Int)} {p : Int × Int} : putF W more (l ++ [p]) = if isPut W more p then putF W more l ++ [p] else putF W more l := by
  unfold putF
  rw [List.filter_append]
  by_cases hp : isPut W more p <;> simp [hp]
theorem putF_len {W : Wb} (h : W.n ≤ 20) {i j : Nat} (hi : (i : Int) < W.n) (hj : (i : Int) + 1 + j ≤ W.n) (more : Int) : (putF W more (preP i j W.n)).length ≤ 400 := pre_filter_len h hi hj _
theorem atI_degs {W : Wb} {a : Int} (h0 : 0 ≤ a) (h : a < W.n) : atI ((degs W).map PyData.int) a = some (.int (deg W a)) := by
  unfold degs
  rw [List.map_map]
  exact atI_up (f := fun p => PyData.int (deg W p)) h0 (by omega)
/-- a web with a tie more -/
def insP (p : Int × Int) : List (Int × Int) → List (Int × Int)
  | [] => [p]
  | q :: qs => if p.1 < q.1 ∨ (p.1 = q.1 ∧ p.2 < q.2) then p :: q :: qs else q :: insP p qs
def Wb.put (W : Wb) (p : Int × Int) : Wb := ⟨W.n, insP p W.ts⟩
theorem insP_perm (p : Int × Int) : ∀ ts, (insP p ts).Perm (p :: ts)
  | [] => .refl _
  | q :: qs => by
    unfold insP
    split
    · exact .refl _
    · exact (List.Perm.cons q (insP_perm p qs)).trans (.swap ..)
theorem mem_insP {p q : Int × Int} {ts : List (Int × Int)} : q ∈ insP p ts ↔ q = p ∨ q ∈ ts := by
  rw [(insP_perm p ts).mem_iff, List.mem_cons]
theorem insP_lt {p : Int × Int} : ∀ {ts : List (Int × Int)}, ts.Pairwise Cr.lexLt → p ∉ ts → (insP p ts).Pairwise Cr.lexLt
  | [], _, _ => List.pairwise_singleton ..
  | q :: qs, h, hn => by
    obtain ⟨h1, h2⟩ := List.pairwise_cons.mp h
    unfold insP
    split
    · rename_i hlt
      refine List.pairwise_cons.mpr ⟨fun r hr => ?_, h⟩
      rcases List.mem_cons.mp hr with rfl | hr
      · exact hlt
      · exact Cr.lexLt.trans hlt (h1 r hr)
    · rename_i hlt
      have hn' : p ≠ q ∧ p ∉ qs := ⟨fun e => hn (e ▸ List.mem_cons_self ..), fun e => hn (List.mem_cons_of_mem _ e)⟩
      refine List.pairwise_cons.mpr ⟨fun r hr => ?_, insP_lt h2 hn'.2⟩
      rcases mem_insP.mp hr with rfl | hr
      · have hne := hn'.1
        unfold Cr.lexLt
        by_cases e1 : q.1 < r.1
        · exact .inl e1
        · by_cases e2 : q.2 < r.2
          · exact .inr ⟨by omega, e2⟩
          · exact absurd (Prod.ext (by omega) (by omega)) hne
      · exact h1 r hr
theorem put_ok {W : Wb} (h : WebOk W) {p : Int × Int} (hp : 0 ≤ p.1 ∧ p.1 < p.2 ∧ p.2 < W.n) (hn : p ∉ W.ts) : WebOk (W.put p) :=
  ⟨h.lo, h.hi, fun q hq => by
    rcases mem_insP.mp hq with rfl | hq
    · exact hp
    · exact h.ts.1 q hq, insP_lt h.ts.2 hn⟩
theorem put_sorted {W : Wb} (h : WebOk W) {p : Int × Int} (hn : p ∉ W.ts) {ps : List (Int × Int)} (hp : ps.Perm (W.ts ++ [p])) (hs : ps.Pairwise lexLe) : ps = (W.put p).ts := by
  refine srt_uniqueP (hp.trans ?_) hs (lt_le (insP_lt h.ts.2 hn))
  exact (List.perm_append_comm).trans (insP_perm p W.ts).symm
theorem put_deg {W : Wb} (p : Int × Int) (x : Int) : deg (W.put p) x = deg W x + degT [p] x := by
  unfold deg
  have : degT (W.put p).ts x = degT (p :: W.ts) x := by
    unfold degT Wb.put
    simp only
    rw [(insP_perm p W.ts).countP_eq]
  rw [this, show p :: W.ts = [p] ++ W.ts from rfl, degT_app]
  omega
end Cr
set_option maxHeartbeats 4000000
/-! Fw13: closings, as plain data -/
namespace Cr
open PySem PySem.Spec PyProof.Rows L2

structure Sub (W C : Wb) : Prop where
  n : W.n = C.n
  ts : ∀ p ∈ W.ts, p ∈ C.ts
theorem Sub.refl (W : Wb) : Sub W W := ⟨rfl, fun _ h => h⟩
theorem Sub.trans {A B C : Wb} (h : Sub A B) (g : Sub B C) : Sub A C := ⟨h.n.trans g.n, fun p hp => g.ts p (h.ts p hp)⟩
theorem Sub.deg {W C : Wb} (hW : WebOk W) (hC : WebOk C) (h : Sub W C) (p : Int) : deg W p ≤ deg C p := by
  rw [← nbrs_deg hW, ← nbrs_deg hC]
  have : (nbrs W p).length ≤ (nbrs C p).length := List.Nodup.length_le_of_subset ((nbrs_inc W p).imp fun h => by omega) fun y hy =>
    (mem_nbrs hC).mpr (h.ts _ ((mem_nbrs hW).mp hy))
  omega
theorem web_eq {A B : Wb} (hA : WebOk A) (hB : WebOk B) (h : Sub A B) (g : Sub B A) : A = B := by
  have : A.ts = B.ts := srt_uniqueP ((List.perm_ext_iff_of_nodup hA.ts.nodup hB.ts.nodup).mpr fun p => ⟨h.ts p, g.ts p⟩) (lt_le hA.ts.2) (lt_le hB.ts.2)
  cases A; cases B
  simp only at this
  have e := h.n
  simp only at e
  rw [this, e]
theorem puts_nil {W : Wb} {more : Int} (h : putsOf W more = []) {p : Int × Int} (hp : 0 ≤ p.1 ∧ p.1 < p.2 ∧ p.2 < W.n) (hd : W.n + more ≤ deg W p.1 + deg W p.2) : p ∈ W.ts := by
  by_cases hm : p ∈ W.ts
  · exact hm
  · have : p ∈ putsOf W more := mem_puts.mpr ⟨hp, hd, hm⟩
    rw [h] at this
    cases this
theorem put_sub {W D : Wb} {more : Int} (hW : WebOk W) (hD : WebOk D) (h : Sub W D) (hc : putsOf D more = []) {p : Int × Int} (hp : p ∈ putsOf W more) : Sub (W.put p) D := by
  obtain ⟨q1, q2⟩ := mem_puts.mp hp
  refine ⟨h.n, fun q hq => ?_⟩
  rcases mem_insP.mp hq with rfl | hq
  · have a := h.deg hW hD q.1
    have b := h.deg hW hD q.2
    have c := h.n
    exact puts_nil hc ⟨q1.1, q1.2.1, by omega⟩ (by have := q2.1; omega)
  · exact h.ts q hq
theorem sub_put (W : Wb) (p : Int × Int) : Sub W (W.put p) := ⟨rfl, fun q hq => mem_insP.mpr (.inr hq)⟩
structure Reach (more : Int) (W C : Wb) : Prop where
  sub : Sub W C
  min : ∀ D, WebOk D → Sub W D → putsOf D more = [] → Sub C D
theorem Reach.refl (more : Int) (W : Wb) : Reach more W W := ⟨Sub.refl W, fun _ _ h _ => h⟩
theorem Reach.step {more : Int} {W C : Wb} (hC : WebOk C) (h : Reach more W C) {p : Int × Int} (hp : p ∈ putsOf C more) : Reach more W (C.put p) :=
  ⟨h.sub.trans (sub_put C p), fun D hD s c => put_sub hC hD (h.min D hD s c) c hp⟩
theorem Reach.uniq {more : Int} {W A B : Wb} (hA : WebOk A) (hB : WebOk B) (a : Reach more W A) (b : Reach more W B) (ca : putsOf A more = []) (cb : putsOf B more = []) : A = B :=
  web_eq hA hB (a.min B hB b.sub cb) (b.min A hA a.sub ca)
theorem puts_put {W : Wb} (h : WebOk W) {more : Int} {p : Int × Int} (hp : p ∈ putsOf W more) : WebOk (W.put p) ∧ (W.put p).ts.length = W.ts.length + 1 :=
  ⟨put_ok h (mem_puts.mp hp).1 (mem_puts.mp hp).2.2, (insP_perm p W.ts).length_eq⟩
theorem TsOk.len2 {n : Int} {ts : List (Int × Int)} (h : TsOk n ts) (h0 : 1 ≤ n) : (ts.length : Int) ≤ n * n - 1 := by
  have : ∀ (ts : List (Int × Int)) (k : Int), ts.Pairwise Cr.lexLt → (∀ p ∈ ts, 0 ≤ p.1 ∧ p.1 < n ∧ 0 ≤ p.2 ∧ p.2 < n ∧ k ≤ p.1 * n + p.2) → k ≤ n * n → (ts.length : Int) ≤ n * n - k := by
    intro ts
    induction ts with
    | nil => intro k _ _ h; simp; omega
    | cons p ts ih =>
      intro k hp hb hk
      obtain ⟨h1, h2⟩ := List.pairwise_cons.mp hp
      have hb0 := hb p (List.mem_cons_self ..)
      have hle : p.1 * n + p.2 + 1 ≤ n * n := by
        have : (p.1 + 1) * n ≤ n * n := Int.mul_le_mul_of_nonneg_right (by omega) (by omega)
        rw [Int.add_mul] at this
        omega
      have := ih (k + 1) h2 (fun q hq => by
        have a := h1 q hq
        have b := hb q (List.mem_cons_of_mem _ hq)
        refine ⟨b.1, b.2.1, b.2.2.1, b.2.2.2.1, ?_⟩
        rcases a with a | ⟨a, a'⟩
        · have : (p.1 + 1) * n ≤ q.1 * n := Int.mul_le_mul_of_nonneg_right (by omega) (by omega)
          rw [Int.add_mul] at this
          omega
        · rw [← a]; omega) (by omega)
      rw [List.length_cons]
      omega
  exact this ts 1 h.2 (fun p hp => by
    have := h.1 p hp
    have h2 : 0 ≤ p.1 * n := Int.mul_nonneg this.1 (by omega)
    omega) (by have : 1 * 1 ≤ n * n := Int.mul_le_mul h0 h0 (by omega) (by omega); omega)
/-- the web behind some puts -/
def after (W : Wb) (ps : List (Int × Int)) : Wb := ps.foldl Wb.put W
theorem after_snoc (W : Wb) (ps : List (Int × Int)) (p : Int × Int) : after W (ps ++ [p]) = (after W ps).put p := by simp [after]
def Steps (more : Int) (W : Wb) (ps : List (Int × Int)) : Prop := ∀ a p b, ps = a ++ p :: b → WebOk (after W a) ∧ (putsOf (after W a) more).head? = some p
theorem Steps.nil {more : Int} {W : Wb} : Steps more W [] := fun a p b h => by simp at h
theorem Steps.snoc {more : Int} {W : Wb} {ps : List (Int × Int)} {p : Int × Int} (h : Steps more W ps) (ok : WebOk (after W ps)) (hp : (putsOf (after W ps) more).head? = some p) : Steps more W (ps ++ [p]) := by
  intro a q b e
  rcases List.eq_nil_or_concat b with rfl | ⟨b', x, rfl⟩
  · obtain ⟨e1, e2⟩ := List.append_inj' e rfl
    cases e2
    subst e1
    exact ⟨ok, hp⟩
  · have e' : ps ++ [p] = (a ++ q :: b') ++ [x] := by rw [e]; simp
    obtain ⟨e1, e2⟩ := List.append_inj' e' rfl
    exact h a q b' e1
theorem Steps.closed {more : Int} {W : Wb} {ps : List (Int × Int)} (h : Steps more W ps) (hc : putsOf W more = []) : ps = [] := by
  cases ps with
  | nil => rfl
  | cons p ps =>
    have := (h [] p ps rfl).2
    rw [show after W [] = W from rfl, hc] at this
    cases this
theorem head_mem {α : Type} {l : List α} {a : α} (h : l.head? = some a) : a ∈ l := List.mem_of_mem_head? (by rw [h]; rfl)
theorem puts_more {W : Wb} {more : Int} (h : putsOf W more = []) : putsOf W (more + 1) = [] := by
  cases e : putsOf W (more + 1) with
  | nil => rfl
  | cons p ps =>
    have hp : p ∈ putsOf W (more + 1) := by rw [e]; exact List.mem_cons_self ..
    obtain ⟨a, b⟩ := mem_puts.mp hp
    have : p ∈ putsOf W more := mem_puts.mpr ⟨a, by have := b.1; omega, b.2⟩
    rw [h] at this
    cases this
theorem filterMap_pairs (l : List Int) (a : Int) (f : Int × Int → Bool) : l.filterMap (fun x => if f (a, x) = true then some (encPr (a, x)) else none) = ((l.map fun b => (a, b)).filter f).map encPr := by
  induction l with
  | nil => rfl
  | cons x l ih =>
    rw [List.filterMap_cons, List.map_cons, List.filter_cons]
    by_cases h : f (a, x) = true <;> simp [h, ih]
theorem rows_filter_succ (f : Int × Int → Bool) (i : Nat) (n : Int) : (rowsTo (i + 1) n).filter f = (rowsTo i n).filter f ++ (pairsFrom i n).filter f := by
  simp [rowsTo, up_succ, List.filter_append]
@[simp] theorem after_nil (W : Wb) : after W [] = W := rfl
@[simp] theorem isNon_pr (p : Int × Int) : isNon (.val (encPr p)) = false := rfl
@[simp] theorem isNon_W (W : Wb) : isNon (.val (encW W)) = false := rfl
@[simp] theorem tyName_W (W : Wb) : tyName (.val (encW W)) = some "tuple" := rfl
@[simp] theorem tyName_pr (p : Int × Int) : tyName (.val (encPr p)) = some "tuple" := rfl
end Cr
set_option maxHeartbeats 4000000
/-! Fw14: dicts as values -/
namespace Cr
open PySem PySem.Spec PyProof.Rows L2
section
variable {X : Cx} {w : Wx} {pos : Pos}
theorem de_dict0 : DE X w (.Dict [] [] pos) (eC (.dict [])) :=
  pe_dnewK.imp fun σ H Q ⟨H0, ρ, P, E, F, hf, hP, hE⟩ => fun p np => hP _ hf _ _ ((Same.refl H).upd_new np) (.dct (kvs := []) upd_same)
/-- {k: n}, a key that is an int or a text, an int -/
@[simp] def eDict1 (fk fv : EE) : EE := fun ρ P E => fk ρ (fun x => fv ρ (fun y => match x, y with
  | .val (.int i), .val (.int n) => P (.val (.dict [(.int i, .int n)]))
  | .val (.str i), .val (.int n) => P (.val (.dict [(.str i, .int n)]))
  | _, _ => False) E) E
theorem de_dict1 {k e : Expr} {fk fv : EE} (hk : DE X w k fk) (hv : DE X w e fv) : DE X w (.Dict [some k] [e] pos) (eDict1 fk fv) :=
  (pe_disp (pps_cons hk hv pps_nil) rfl rfl (by intro z; cases z) (by show 1 ≤ 15; decide)).imp fun σ H Q ⟨H0, ρ, P, E, F, hf, hP, hE⟩ => fun p np => by
    have s0 : Same H (L2.upd H p (.dK [])) := (Same.refl H).upd_new np
    refine ⟨H0, ρ, _, E, F.mono s0, hf, fun x px v H1 s1 r1 => ?_, fun x ex cls dd H' s' ok => hE x ex cls dd H' (s0.trans s') ok⟩
    refine ⟨H0, ρ, _, E, F.mono (s0.trans s1), px, fun y py u H2 s2 r2 => ?_, fun x ex cls dd H' s' ok => hE x ex cls dd H' ((s0.trans s1).trans s') ok⟩
    have e2 : H2 p = some (.dK []) := s2 _ _ (s1 _ _ upd_same)
    have sf : ∀ o, Same H (L2.upd H2 p o) := fun o b ob hb => by
      have hne : b ≠ p := fun e => by subst e; rw [np] at hb; cases hb
      rw [upd_ne hne]
      exact s2 _ _ (s1 _ _ (s0 _ _ hb))
    split at py
    · rename_i i n
      obtain rfl := res_int r1
      obtain rfl := res_int r2
      exact ⟨e2, [(.inl i, .int n)], rfl, by show 1 ≤ 15; decide, hP _ py _ _ (sf _) (.dct (kvs := [(.inl i, n)]) upd_same)⟩
    · rename_i i n
      obtain rfl : v = .str i := by cases r1; rfl
      obtain rfl := res_int r2
      exact ⟨e2, [(.inr i, .int n)], rfl, by show 1 ≤ 15; decide, hP _ py _ _ (sf _) (.dct (kvs := [(.inr i, n)]) upd_same)⟩
    · exact py.elim
end
end Cr
set_option maxHeartbeats 4000000
/-! Fw15: tuples turned about -/
namespace PySem
theorem crAdjN (n : Nat) : Builtin.Slice.sliceAdjust none none (-1) (n : Int) = ((n : Int) - 1, -1) := rfl
theorem crAdj0 (n : Nat) : Builtin.Slice.sliceAdjust none (some 0) (-1) (n : Int) = ((n : Int) - 1, min 0 ((n : Int) - 1)) := rfl
theorem crPlN (n : Nat) : Builtin.Slice.slicePlaces ((n : Int) - 1) (-1) (-1) = n := by
  unfold Builtin.Slice.slicePlaces
  simp only [show ¬ ((-1 : Int) > 0) by decide, if_false, Int.neg_neg, Int.ediv_one]
  split <;> omega
theorem crPl0 (n : Nat) : Builtin.Slice.slicePlaces ((n : Int) - 1) (min 0 ((n : Int) - 1)) (-1) = n - 1 := by
  unfold Builtin.Slice.slicePlaces
  simp only [show ¬ ((-1 : Int) > 0) by decide, if_false, Int.neg_neg, Int.ediv_one]
  split <;> omega
theorem crPick {α : Type} (xs : Array α) (k : Nat) (hk : k ≤ xs.size) : ((List.range k).filterMap fun (m : Nat) => xs[((xs.size : Int) - 1 + (m : Int) * (-1)).toNat]?) = xs.toList.reverse.take k := by
  induction k with
  | zero => simp
  | succ k ih =>
    rw [List.range_succ, List.filterMap_append, ih (by omega), List.take_add_one]
    congr 1
    have e : ((xs.size : Int) - 1 + (k : Int) * (-1)).toNat = xs.size - 1 - k := by omega
    simp only [List.filterMap_cons, List.filterMap_nil, e]
    rw [List.getElem?_reverse (by rw [Array.length_toList]; omega), Array.length_toList, Array.getElem?_toList]
    have : xs[xs.size - 1 - k]? = some xs[xs.size - 1 - k] := Array.getElem?_eq_getElem (by omega)
    rw [this]
    rfl
section
open PyProof.Rows HT
variable {prog : Program} {w : World} {A : Around} {E : Value → Shared → Prop} {s : Shared}
theorem crApplied {sl : Addr} {vl vu vs : Value} {hi : Option Int} {n k : Nat} {Q : Int × Int × Nat → Shared → Prop} (hs : s.heap.IsSliceOf sl vl vu vs) (pl : IsPart vl none) (pu : IsPart vu hi) (ps : IsPart vs (some (-1)))
    (hk : (hi = none ∧ k = n) ∨ (hi = some 0 ∧ k = n - 1)) (h : Q ((n : Int) - 1, -1, k) s) : wpAny (model prog w) A (Builtin.Slice.sliceApplied (.ref sl) (pure (n : Int))) Q E s := by
  obtain ⟨os, hos, hcs, hds⟩ := id hs
  unfold Builtin.Slice.sliceApplied Builtin.Slice.sliceFields
  refine wpAny_bind (wpAny_bind (wpAny_field hos hds (x := vl) rfl (wpAny_bind (wpAny_field hos hds (x := vu) rfl (wpAny_bind (wpAny_field hos hds (x := vs) rfl (wpAny_pure ?_)))))))
  refine wpAny_bind (slicePart_ ps ?_)
  show wpAny _ _ (if ((-1 : Int) == 0) = true then _ else _) _ _ s
  rw [if_neg (by decide)]
  refine wpAny_bind (slicePart_ pl (wpAny_bind (slicePart_ pu (wpAny_bind (wpAny_pure ?_)))))
  rcases hk with ⟨rfl, rfl⟩ | ⟨rfl, rfl⟩
  · show wpAny _ _ (pure ((k : Int) - 1, (-1 : Int), Builtin.Slice.slicePlaces ((k : Int) - 1) (-1) (-1))) _ _ s
    rw [crPlN]
    exact wpAny_pure h
  · show wpAny _ _ (pure ((n : Int) - 1, (-1 : Int), Builtin.Slice.slicePlaces ((n : Int) - 1) (min 0 ((n : Int) - 1)) (-1))) _ _ s
    rw [crPl0]
    exact wpAny_pure h
theorem crRevT {t sl : Addr} {items : Array Value} {vl vu vs : Value} {hi : Option Int} {k : Nat} {Q : Value → Shared → Prop} (ht : IsTup s.heap t items) (hs : s.heap.IsSliceOf sl vl vu vs) (pl : IsPart vl none) (pu : IsPart vu hi) (ps : IsPart vs (some (-1)))
    (hk : (hi = none ∧ k = items.size) ∨ (hi = some 0 ∧ k = items.size - 1))
    (h : Q (.ref s.heap.objs.size) { s with heap := s.heap.push { cls := .type "tuple", data := .seq (items.toList.reverse.take k).toArray } })
    (hsz : items.size ≤ sizeLine) : wpAny (model prog w) A (getItem (.ref t) (.ref sl)) Q E s := by
  have hle : k ≤ items.size := by rcases hk with ⟨_, rfl⟩ | ⟨_, rfl⟩ <;> omega
  have htake : sizeOk (.seq (items.toList.reverse.take k).toArray) := by
    show (items.toList.reverse.take k).toArray.size ≤ sizeLine
    rw [List.size_toArray, List.length_take]
    omega
  obtain ⟨os, hos, hcs, hds⟩ := id hs
  have hTs : s.TypeIs (.ref sl) "slice" := ⟨os, hos, hcs⟩
  unfold getItem
  try with_reducible refine wpAny_holding ?_
  first | refine wpAny_bind (wpAny_pure ?_) | skip
  refine wpAny_bind (wpAny_sequenceKey ht.typeIs (by decide) ?_)
  refine wpAny_bind (wpAny_callSpecial?_slot (name := Str.ofString "__getitem__") ht.typeIs PyProof.Rows.slot_tuple_getitem
    (wpAny_call_entry PyProof.Rows.slot_tuple_getitem ht.typeIs entry_tuple_getitem ?_ (args_tuple_getitem _ _)))
  show wpAny _ _ (Builtin.Tuple.tupleItemsOf (.ref t) >>= _) _ _ s
  refine wpAny_bind (tupleItemsOf_ ht ?_)
  refine wpAny_bind (wpAny_typeOf hTs ?_)
  rw [if_pos (by decide)]
  refine wpAny_bind (crApplied hs pl pu ps hk ?_)
  have hno : ¬ ((((items.size : Int) - 1) == 0 && (-1 : Int) == 1 && k == items.size) = true) := by
    intro q
    rw [Bool.and_eq_true, Bool.and_eq_true] at q
    exact absurd (eq_of_beq q.1.2) (by decide)
  show wpAny _ _ (if (((items.size : Int) - 1) == 0 && (-1 : Int) == 1 && k == items.size) = true then _ else _) _ _ s
  rw [if_neg hno, crPick items k hle]
  first
    | exact wpAny_bind (m := Builtin.Tuple.tupleExact _) (wpAny_newObj_type (wpAny_pure ⟨_, rfl, wpAny_pure h⟩) htake)
    | exact wpAny_bind (m := Builtin.Tuple.tupleExact _) (wpAny_newObj_type (wpAny_bind (wpAny_pure (wpAny_pure ⟨_, rfl, wpAny_pure h⟩))) htake)
    | exact wpAny_bind (wpAny_bind (m := Builtin.Tuple.tupleExact _) (wpAny_newObj_type (wpAny_pure (wpAny_pure ⟨_, rfl, wpAny_pure h⟩)) htake))
    | exact wpAny_bind (wpAny_bind (m := Builtin.Tuple.tupleExact _) (wpAny_newObj_type (wpAny_pure ⟨_, rfl, wpAny_pure h⟩) htake))
end
end PySem
namespace Cr
open PySem PySem.Spec PyProof.Rows L2
theorem vals_take {xs : List V} {its : List Value} (r : Vals xs its) (k : Nat) : Vals (xs.take k) (its.take k) := by
  induction k generalizing xs its with
  | zero => exact .nil
  | succ k ih =>
    cases r with
    | nil => exact .nil
    | cons a b => exact .cons a (ih b)
/-- [::-1] (z = false), [:0:-1] (z = true), of a tuple -/
def tRevT (K : PySem.W.Frag) (z : Bool) (te : TE) : TE := fun σ H Q => te σ H fun x H1 => ∃ a xs, x = .ref a ∧ SqT K H1 a xs ∧ ∀ p o, o.dict = none → H1 p = none → Q (.ref p) (upd H1 p (.frz o (.tup (xs.reverse.take (if z then xs.length - 1 else xs.length)))))
section
variable {X : Cx} {w : Wx} {e : Expr} {te : TE} {fe : EE} {k k2 : Nat} {p1 p2 p3 p4 pos : Pos}
theorem pe_revT {z : Bool} {hi : Option Expr} {th : TO} (he : PE X e te) (hh : PO X hi th) (hz : ∀ σ H Q, Q (if z then some 0 else none) H → th σ H Q) : PE X (.Subscript e (.Slice none hi (some (.UnaryOp .USub (.Constant (.int 1) k p1) p2)) p3) pos) (tRevT X.K z te) := by
  refine ⟨fun pins s σ H Q I h => ?_⟩
  refine Subscript_ (thn (he.run pins s σ H _ I h) fun v s1 ⟨x, H1, I1, r1, q1⟩ => ?_)
  obtain ⟨a, xs, ex, hx, q⟩ := q1
  subst ex
  cases r1
  have hst : PO X (some (.UnaryOp .USub (.Constant (.int 1) k p1) p2)) (tPart (tUn (rU fun i => .int (-i)) (tC (.int 1)))) := po_some (pe_un un_neg pe_int)
  refine wpAny_Slice (thn (po_none.run pins s1 σ H1 (fun o H2 => o = none ∧ H2 = H1) I1 ⟨rfl, rfl⟩) fun vl s2 ⟨l, H2, I2, pl, el, e2⟩ => ?_)
  subst el e2
  refine thn (hh.run pins s2 σ H2 (fun o H3 => o = (if z then some 0 else none) ∧ H3 = H2) I2 (hz _ _ _ ⟨rfl, rfl⟩)) fun vu s3 ⟨u, H3, I3, pu, eu, e3⟩ => ?_
  subst eu e3
  refine thn (hst.run pins s3 σ H3 (fun o H4 => o = some (-1) ∧ H4 = H3) I3 ⟨1, rfl, -1, rfl, rfl, rfl⟩) fun vs s4 ⟨o, H4, I4, ps, eo, e4⟩ => ?_
  subst eo e4
  have I5 : Inv X pins σ H4 { s4 with heap := s4.heap.push { cls := .type "slice", data := .fields #[vl, vu, vs] } } := I4.kept (t' := s4.toks) fun b ob q => Heap.get?_push_of_some _ q
  obtain ⟨its, r, ht, hz2⟩ := I5.tuple hx
  have hlen := r.length
  show wpAny (model X.prog X.w) X.A (subscriptTail e (.Slice none hi (some (.UnaryOp .USub (.Constant (.int 1) k p1) p2)) p3) (.ref a) (.ref s4.heap.objs.size)) (EP X pins σ Q) X.xe { s4 with heap := s4.heap.push { cls := .type "slice", data := .fields #[vl, vu, vs] } }
  refine tail_any (ops := [.ref a, .ref s4.heap.objs.size]) ht.typeIs (PyProof.Rows.slot_tuple_getitem.lookup) ?_ (by with_unfolding_all rfl)
  refine crRevT ht (Heap.IsSliceOf.new _ vl vu vs) pl pu ps (k := if z then its.length - 1 else its.length) ?_ ?_ (by rw [List.size_toArray]; omega)
  · cases z <;> simp
  · rw [← hlen]
    refine ⟨.ref _, _, I5.laid (t' := s4.toks) (o := .frz { cls := .type "tuple", data := .seq (its.reverse.take (if z then xs.length - 1 else xs.length)).toArray } (.tup (xs.reverse.take (if z then xs.length - 1 else xs.length)))) (fun b ob q => Heap.get?_push_of_some _ q) (Nat.le_refl _) ?_, rfl, q _ _ rfl (I5.hok.fresh (Nat.le_refl _))⟩
    exact ⟨Heap.get?_push_size _ rfl, by rw [List.length_take, List.length_reverse]; omega, _, vals_take r.reverse _, IsTup.new _ _⟩
/-- a tuple from the last to the first; without its first -/
@[simp] def eRev (f : EE) : EE := fun ρ P E => f ρ (fun x => match x with | .val (.tuple xs) => P (.val (.tuple xs.reverse)) | _ => False) E
@[simp] def eRev0 (f : EE) : EE := fun ρ P E => f ρ (fun x => match x with | .val (.tuple xs) => P (.val (.tuple (xs.drop 1).reverse)) | _ => False) E
theorem tup_of_P {x : D} {Q : List PD → Prop} (h : match x with | .val (.tuple xs) => Q xs | _ => False) : ∃ xs, x = .val (.tuple xs) ∧ Q xs := by
  cases x with
  | val d => cases d with
    | tuple xs => exact ⟨_, rfl, h⟩
    | _ => exact h.elim
  | _ => exact h.elim
theorem de_rev (he : DE X w e fe) : DE X w (.Subscript e (.Slice none none (some (.UnaryOp .USub (.Constant (.int 1) k p1) p2)) p3) pos) (eRev fe) :=
  (pe_revT (z := false) he po_none fun σ H Q q => q).imp fun σ H Q ⟨H0, ρ, P, E, F, hf, hP, hE⟩ => ⟨H0, ρ, _, E, F, hf, fun x px v H1 s1 r1 => by
    obtain ⟨xs, rfl, px⟩ := tup_of_P (Q := fun xs => P (.val (.tuple xs.reverse))) px
    cases r1 with
    | tup h _ r =>
      refine ⟨_, _, rfl, .inl (.inr ⟨_, h⟩), fun p o zo np => ?_⟩
      have s2 : ∀ o, Same H1 (L2.upd H1 p o) := fun o => (Same.refl H1).upd_new np
      refine hP _ px _ _ (s1.trans (s2 _)) (.tup upd_same zo (RepsF.fx (s2 _).fx ?_))
      rw [if_neg (by decide), List.take_of_length_le (by rw [List.length_reverse]; exact Nat.le_refl _)]
      exact r.reverse, hE⟩
theorem de_rev0 (he : DE X w e fe) : DE X w (.Subscript e (.Slice none (some (.Constant (.int 0) k2 p4)) (some (.UnaryOp .USub (.Constant (.int 1) k p1) p2)) p3) pos) (eRev0 fe) :=
  (pe_revT (z := true) he (po_some pe_int) fun σ H Q q => ⟨0, rfl, q⟩).imp fun σ H Q ⟨H0, ρ, P, E, F, hf, hP, hE⟩ => ⟨H0, ρ, _, E, F, hf, fun x px v H1 s1 r1 => by
    obtain ⟨xs, rfl, px⟩ := tup_of_P (Q := fun xs => P (.val (.tuple (xs.drop 1).reverse))) px
    cases r1 with
    | tup h _ r =>
      refine ⟨_, _, rfl, .inl (.inr ⟨_, h⟩), fun p o zo np => ?_⟩
      have s2 : ∀ o, Same H1 (L2.upd H1 p o) := fun o => (Same.refl H1).upd_new np
      refine hP _ px _ _ (s1.trans (s2 _)) (.tup upd_same zo (RepsF.fx (s2 _).fx ?_))
      rw [if_pos rfl, ← List.reverse_drop]
      exact (r.drop 1).reverse, hE⟩
end
end Cr
set_option maxHeartbeats 4000000
/-! Fw16: things that are asked about: ints in bounds, pairs, rows of puts -/
namespace Cr
open PySem PySem.Spec PyProof.Rows L2
def isIntIn (lo hi : Int) : PD → Bool
  | .int i => decide (lo ≤ i ∧ i ≤ hi)
  | _ => false
def isIntD : PD → Bool
  | .int _ => true
  | _ => false
def isTupD : PD → Bool
  | .tuple _ => true
  | _ => false
def asPair : PD → Option (Int × Int)
  | .tuple [.int a, .int b] => some (a, b)
  | _ => none
@[simp] theorem asPair_pr (p : Int × Int) : asPair (encPr p) = some p := rfl
theorem asPair_some {d : PD} {p : Int × Int} (h : asPair d = some p) : d = encPr p := by
  unfold asPair at h
  split at h
  · cases h; rfl
  · cases h
def isPutD (W : Wb) (more : Int) (d : PD) : Bool := match asPair d with
  | some p => decide (p ∈ putsOf W more)
  | none => false
theorem isPutD_true {W : Wb} {more : Int} {d : PD} (h : isPutD W more d = true) : ∃ p, d = encPr p ∧ p ∈ putsOf W more := by
  unfold isPutD at h
  split at h
  · rename_i p e
    exact ⟨p, asPair_some e, of_decide_eq_true h⟩
  · cases h
theorem isPutD_pr (W : Wb) (more : Int) (p : Int × Int) : isPutD W more (encPr p) = decide (p ∈ putsOf W more) := rfl
theorem isPutD_not {W : Wb} {more : Int} {d : PD} (h : ∀ p, d = encPr p → p ∉ putsOf W more) : isPutD W more d = false := by
  cases e : isPutD W more d with
  | false => rfl
  | true =>
    obtain ⟨p, rfl, hp⟩ := isPutD_true e
    exact absurd hp (h p rfl)
theorem isIntIn_true {lo hi : Int} {d : PD} (h : isIntIn lo hi d = true) : ∃ i, d = .int i ∧ lo ≤ i ∧ i ≤ hi := by
  cases d with
  | int i => exact ⟨i, rfl, of_decide_eq_true h⟩
  | _ => cases h
/-- whether a row of things is a row of puts -/
def goPuts (more : Int) : Wb → List PD → Bool
  | _, [] => true
  | W, d :: ds => match asPair d with
    | some p => if p ∈ putsOf W more then goPuts more (W.put p) ds else false
    | none => false
def arePuts (more : Int) (W : Wb) : PD → Bool
  | .tuple ds => goPuts more W ds
  | _ => false
/-- what may be shown -/
def okR (d : PD) : Prop := d.showable = true ∧ okD d ∧ d.depth ≤ 64 ∧ d.shown.length ≤ sizeLine
theorem tiny.okR {m k : Nat} {d : PD} (h : tiny m k d) (hk : k ≤ 64) (hm : m ≤ 16777216) : okR d := h.rep hk (Nat.le_trans hm sizeLine_big)
def isDictB : PD → Bool
  | .dict _ => true
  | _ => false
def okRb (d : PD) : Bool := d.showable && (!d.hasDict || isDictB d) && decide (d.depth ≤ 64) && decide (d.shown.length ≤ 1000)
theorem okRb_ok {d : PD} (h : okRb d = true) : okR d := by
  unfold okRb at h
  simp only [Bool.and_eq_true, Bool.or_eq_true, Bool.not_eq_true', decide_eq_true_eq] at h
  obtain ⟨⟨⟨h1, h2⟩, h3⟩, h4⟩ := h
  refine ⟨h1, ?_, h3, Nat.le_trans h4 (Nat.le_trans (by decide) sizeLine_big)⟩
  rcases h2 with h2 | h2
  · exact .inl h2
  · cases d with
    | dict kvs => exact .inr ⟨kvs, rfl⟩
    | _ => cases h2
theorem atI_mem {α : Type} {xs : List α} {i : Int} (h0 : 0 ≤ i) (h : i < xs.length) : ∃ x, atI xs i = some x ∧ x ∈ xs := by
  obtain ⟨x, hx⟩ : ∃ x, xs[i.toNat]? = some x := ⟨_, List.getElem?_eq_getElem (by omega)⟩
  have := atI_nat (xs := xs) (j := i.toNat) hx
  rw [show ((i.toNat : Nat) : Int) = i by omega] at this
  exact ⟨x, this, List.mem_of_getElem? hx⟩
@[simp] theorem atI_last {α : Type} (xs : List α) (a : α) : atI (xs ++ [a]) (-1) = some a := by
  unfold atI ixN
  rw [if_neg (by decide), if_pos (by simp; omega)]
  simp
  rw [show (-1 + ((xs.length : Int) + 1)).toNat = xs.length by omega]
  simp
@[simp] theorem tyName_val_int (i : Int) : tyName (.val (.int i)) = some "int" := rfl
theorem cutP_len {α : Type} (xs : List α) (lo hi : Option Int) : (cutP xs lo hi).length ≤ xs.length := by
  unfold cutP
  rw [List.length_take, List.length_drop]
  omega
theorem cutP_sub {α : Type} {xs : List α} {lo hi : Option Int} {x : α} (h : x ∈ cutP xs lo hi) : x ∈ xs := by
  unfold cutP at h
  exact List.mem_of_mem_drop (List.mem_of_mem_take h)
/-- a short row of small things -/
def rowT (n : Nat) (xs : List PD) : Prop := xs.length ≤ n ∧ ∀ x ∈ xs, tiny 100 2 x
theorem rowT.app {n m k : Nat} {xs ys : List PD} (h : rowT n xs) (g : rowT m ys) (hk : n + m ≤ k) : rowT k (xs ++ ys) :=
  ⟨by rw [List.length_append]; have := h.1; have := g.1; omega, fun x hx => by
    rcases List.mem_append.mp hx with hx | hx
    · exact h.2 x hx
    · exact g.2 x hx⟩
theorem rowT.one {x : PD} (h : tiny 100 2 x) : rowT 1 [x] := ⟨Nat.le_refl _, fun y hy => by rw [List.mem_singleton] at hy; rw [hy]; exact h⟩
theorem rowT.cut {n : Nat} {xs : List PD} (h : rowT n xs) (lo hi : Option Int) : rowT n (cutP xs lo hi) := ⟨Nat.le_trans (cutP_len ..) h.1, fun x hx => h.2 x (cutP_sub hx)⟩
theorem rowT.rev {n : Nat} {xs : List PD} (h : rowT n xs) : rowT n xs.reverse := ⟨by rw [List.length_reverse]; exact h.1, fun x hx => h.2 x (List.mem_reverse.mp hx)⟩
theorem rowT.tup {n : Nat} {xs : List PD} (h : rowT n xs) (hn : n ≤ 1000) : okR (.tuple xs) := (tiny.tup (m := 100) (k := 2) (L := 1000) (M := 103000) h.2 (Nat.le_trans h.1 hn) (by decide)).okR (by decide) (by decide)
theorem rowT.lst {n : Nat} {xs : List PD} (h : rowT n xs) (hn : n ≤ 1000) : okR (.list xs) := (tiny.lst (m := 100) (k := 2) (L := 1000) (M := 103000) h.2 (Nat.le_trans h.1 hn) (by decide)).okR (by decide) (by decide)
theorem put_perm : ∀ (ps : List (Int × Int)) (W : Wb), (after W ps).ts.Perm (W.ts ++ ps)
  | [], W => by simp
  | p :: ps, W => by
    have h := put_perm ps (W.put p)
    exact h.trans (((insP_perm p W.ts).append_right ps).trans List.perm_middle.symm)
theorem after_n : ∀ (ps : List (Int × Int)) (W : Wb), (after W ps).n = W.n
  | [], _ => rfl
  | p :: ps, W => after_n ps (W.put p)
theorem goPuts_map {more : Int} : ∀ {ps : List (Int × Int)} {W : Wb}, (∀ a p b, ps = a ++ p :: b → p ∈ putsOf (after W a) more) → goPuts more W (ps.map encPr) = true
  | [], _, _ => rfl
  | p :: ps, W, h => by
    have h1 : p ∈ putsOf W more := h [] p ps rfl
    rw [List.map_cons, goPuts, asPair_pr]
    simp only [h1, if_true]
    exact goPuts_map fun a q b e => h (p :: a) q b (by rw [e]; rfl)
end Cr
set_option maxHeartbeats 4000000
/-! Fw17: least and greatest, the place of an int, lists of ranges, things taken out and put elsewhere -/
namespace Cr
open PySem PySem.Spec PyProof.Rows L2
theorem holds_ints {h : Heap} : ∀ {ns : List Int} {us : List Value}, Vals (ns.map V.int) us → PySem.W.HoldAll h us ns
  | [], _, .nil => PySem.W.HoldAll.nil
  | n :: ns, _, .cons r t => by
    obtain ⟨k, rfl⟩ := r
    exact PySem.W.HoldAll.cons (PySem.W.holds_int n k) (holds_ints t)
theorem minOf_is : ∀ (xs : List Int) (x : Int), PySem.W.minOf x xs ∈ x :: xs ∧ ∀ y ∈ x :: xs, PySem.W.minOf x xs ≤ y
  | [], x => ⟨List.mem_singleton.mpr rfl, fun y hy => by rw [List.mem_singleton] at hy; rw [hy]; exact Int.le_refl _⟩
  | z :: xs, x => by
    have hstep : PySem.W.minOf x (z :: xs) = PySem.W.minOf (if PySem.W.DatumOrd.lt z x = true then z else x) xs := rfl
    obtain ⟨a, b⟩ := minOf_is xs (if PySem.W.DatumOrd.lt z x = true then z else x)
    rw [hstep]
    have hlt : PySem.W.DatumOrd.lt z x = decide (z < x) := rfl
    rw [hlt] at a b ⊢
    by_cases h : z < x
    · simp only [h, decide_true, if_true] at a b ⊢
      refine ⟨?_, fun y hy => ?_⟩
      · rcases List.mem_cons.mp a with e | e
        · rw [e]; simp
        · exact List.mem_cons_of_mem _ (List.mem_cons_of_mem _ e)
      · rcases List.mem_cons.mp hy with rfl | hy
        · have := b z (List.mem_cons_self ..); omega
        · exact b y hy
    · simp only [h, decide_false, Bool.false_eq_true, if_false] at a b ⊢
      refine ⟨?_, fun y hy => ?_⟩
      · rcases List.mem_cons.mp a with e | e
        · rw [e]; simp
        · exact List.mem_cons_of_mem _ (List.mem_cons_of_mem _ e)
      · rcases List.mem_cons.mp hy with rfl | hy
        · exact b y (List.mem_cons_self ..)
        · rcases List.mem_cons.mp hy with rfl | hy
          · have := b x (List.mem_cons_self ..); omega
          · exact b y (List.mem_cons_of_mem _ hy)
theorem call_minA {X : Cx} (hc : X.calm = true) (hu : X.A.units + 65 < cLine) : CallR X (.builtin "min") (fun vs H Q => ∃ (a : Addr) (ns : List Int), vs = [V.ref a] ∧ (SqL X.K H a (ns.map V.int) ∨ SqT X.K H a (ns.map V.int)) ∧ 0 < ns.length ∧ ∀ m, m ∈ ns → (∀ y, y ∈ ns → m ≤ y) → Q (.int m) H) := by
  intro pins s σ H vs us Q I r h
  obtain ⟨a, ns, rfl, hs, hne, q⟩ := h
  rcases hs with hs | hs
  · exact cr_min hc pins s σ H _ us Q I r ⟨a, ns, rfl, hs, hne, q⟩
  · obtain ⟨its, rv, ht, _⟩ := I.tuple hs
    rw [Vals.ref1 r]
    cases ns with
    | nil => cases hne
    | cons n ns =>
      refine PySem.W.min_tuple_datum (I.ok.hd hc) (vs := its.toArray) ht (holds_ints (h := s.heap) (by simpa using rv)) (by show X.A.units + 1 + 0 < cLine; omega) fun i v h' tk hi hv hk => ?_
      obtain ⟨t, rfl⟩ := PySem.W.int_of_holds hv
      obtain ⟨m1, m2⟩ := minOf_is ns n
      exact ⟨.int _, H, I.kept hk, ⟨_, rfl⟩, q _ m1 m2⟩
@[simp] def gMinA : GC := fun ds P => match ds with
  | [x] => (match seqy x with
    | some xs => ∃ ns : List Int, xs = ns.map .int ∧ ns ≠ [] ∧ ∀ m, m ∈ ns → (∀ y ∈ ns, m ≤ y) → P (.val (.int m))
    | none => False)
  | _ => False
theorem k_minA {K : PySem.W.Frag} : CallK K (fun vs H Q => ∃ (a : Addr) (ns : List Int), vs = [V.ref a] ∧ (SqL K H a (ns.map V.int) ∨ SqT K H a (ns.map V.int)) ∧ 0 < ns.length ∧ ∀ m, m ∈ ns → (∀ y, y ∈ ns → m ≤ y) → Q (.int m) H) gMinA := by
  intro Hs H vs ds P Q ok h q
  unfold gMinA at h
  split at h
  · split at h
    · rename_i xs es
      obtain ⟨v, rfl, r⟩ := all1 ok
      obtain ⟨a, us, rfl, hs, rr⟩ := seqy_ok es r
      obtain ⟨ns, rfl, hne, h⟩ := h
      obtain rfl := RepsF.of_ints rr
      exact ⟨a, ns, rfl, hs, List.length_pos_iff.mpr hne, fun m h1 h2 => q _ (h m h1 h2) _ H (Same.refl H) (.int m)⟩
    · exact h.elim
  · exact h.elim

/-! ### x.index(n), of a list or a tuple of ints -/
def tIdxA (K : PySem.W.Frag) (to : TE) (t : TA) : TE := fun σ H Q => to σ H fun x H1 => ∃ a, x = .ref a ∧
  (((∃ xs, SqL K H1 a xs) ∧ t σ H1 fun us H2 => ∃ (ns : List Int) (k : Int), us = [V.int k] ∧ SqL K H2 a (ns.map V.int) ∧ k ∈ ns ∧ Q (.int (ns.idxOf k : Nat)) H2) ∨
   ((∃ o xs, H1 a = some (.frz o (.tup xs)) ∧ o.dict = none) ∧ t σ H1 fun us H2 => ∃ (ns : List Int) (k : Int), us = [V.int k] ∧ SqT K H2 a (ns.map V.int) ∧ k ∈ ns ∧ Q (.int (ns.idxOf k : Nat)) H2))
section
variable {X : Cx} {w : Wx} {o e : Expr} {to te : TE} {t : TA} {fo fe : EE} {fa : EA} {apos cpos : Pos}
theorem pe_idxA (ho : PE X o to) (ha : PA X [e] t)
    (hbase : attributeBase o "index" X.env (eval o X.env) = eval o X.env := by rfl)
    (hfew : ((backTo cpos (starEach [e] X.env)).all (fun x => !x.1) && (backToKw cpos (keywordEach [] X.env)).all (fun x => x.1.isSome)
      && decide ([e].length + ([] : List Keyword).length + (if ([] : List Keyword).isEmpty then 0 else 1) < 30)) = true := by rfl)
    (hline : (apos.endLine == cpos.line) = true := by rfl) (hs : starEach [e] X.env = (false, eval e X.env) :: starEach [] X.env := by rfl) (hplain : (backTo cpos (starEach [] X.env)).any (·.1) = false := by rfl) :
    PE X (.Call (.Attribute o "index" apos) [e] [] cpos) (tIdxA X.K to t) := by
  refine ⟨fun pins s σ H Q I h => ?_⟩
  refine wpAny_Call_method_late hbase hfew hline rfl (thn (ho.run pins s σ H _ I h) fun v s1 ⟨x, H1, I1, r1, q1⟩ => ?_)
  obtain ⟨a, rfl, q1⟩ := q1
  obtain rfl : v = Value.ref a := r1
  rcases q1 with ⟨⟨xs, hl⟩, q1⟩ | ⟨⟨ob, xs, hl, hd⟩, q1⟩
  · obtain ⟨h1, h2⟩ := tyV_is (T := "list") (x := .ref a) I1 (show RelV (.ref a) (.ref a) from rfl) (.inl ⟨rfl, xs, hl⟩)
    refine ⟨"list", "list.index", PySem.F.plainAttrs_list, PySem.F.slot_list_index, PySem.F.type_list_index, h1, h2, ?_⟩
    have hA := ha.run cpos pins s1 σ H1 _ I1 q1
    rw [hs] at hA ⊢
    refine Calls.callWith_builtin (by show (false || (backTo cpos (starEach [] X.env)).any (·.1)) = false; rw [hplain] <;> rfl) (Calls.evalArgs_plain ?_)
    refine thn hA fun us s2 ⟨vs, H2, I2, r2, ns, k, ev, hq, hm, q2⟩ => ?_
    subst ev
    obtain ⟨u, rfl, t, rfl⟩ := vals1 r2
    obtain ⟨its, rv, pl, hz⟩ := I2.list hq
    exact SeqAt.list_index_ints pl.isList rv.ints (by simpa using hz) hm ⟨.int _, H2, I2.tok _, ⟨_, rfl⟩, q2⟩
  · obtain ⟨hg, hz0, its0, r0, oo, hoo, hcc, _⟩ := I1.hok a _ hl
    have h1 : s1.TypeIs (.ref a) "tuple" := ⟨oo, hoo, hcc⟩
    have h2 : ∀ b, Value.ref a = .ref b → ∃ ob, s1.heap.get? b = some ob ∧ ob.dict = none := fun b e => by cases e; exact ⟨ob, hg, hd⟩
    refine ⟨"tuple", "tuple.index", PySem.F.plainAttrs_tuple, PySem.F.slot_tuple_index, PySem.F.type_tuple_index, h1, h2, ?_⟩
    have hA := ha.run cpos pins s1 σ H1 _ I1 q1
    rw [hs] at hA ⊢
    refine Calls.callWith_builtin (by show (false || (backTo cpos (starEach [] X.env)).any (·.1)) = false; rw [hplain] <;> rfl) (Calls.evalArgs_plain ?_)
    refine thn hA fun us s2 ⟨vs, H2, I2, r2, ns, k, ev, hq, hm, q2⟩ => ?_
    subst ev
    obtain ⟨u, rfl, t, rfl⟩ := vals1 r2
    obtain ⟨its, rv, pl, hz⟩ := I2.tuple hq
    exact SeqAt.tuple_index_ints pl rv.ints hm ⟨.int _, H2, I2.tok _, ⟨_, rfl⟩, q2⟩
/-- the place of an int in a list or a tuple of ints -/
@[simp] def eIndex (fo : EE) (fa : EA) : EE := fun ρ P E => fo ρ (fun x => match seqy x with
  | some ds => fa ρ (fun ys => match ys with
    | [.val (.int k)] => ∃ ns : List Int, ds = ns.map .int ∧ k ∈ ns ∧ P (.val (.int (ns.idxOf k : Nat)))
    | _ => False) E
  | none => False) E
theorem de_index (ho : DE X w o fo) (ha : DA X w [e] fa)
    (hbase : attributeBase o "index" X.env (eval o X.env) = eval o X.env := by rfl)
    (hfew : ((backTo cpos (starEach [e] X.env)).all (fun x => !x.1) && (backToKw cpos (keywordEach [] X.env)).all (fun x => x.1.isSome)
      && decide ([e].length + ([] : List Keyword).length + (if ([] : List Keyword).isEmpty then 0 else 1) < 30)) = true := by rfl)
    (hline : (apos.endLine == cpos.line) = true := by rfl) (hs : starEach [e] X.env = (false, eval e X.env) :: starEach [] X.env := by rfl) (hplain : (backTo cpos (starEach [] X.env)).any (·.1) = false := by rfl) :
    DE X w (.Call (.Attribute o "index" apos) [e] [] cpos) (eIndex fo fa) :=
  (pe_idxA ho ha hbase hfew hline hs hplain).imp fun σ H Q ⟨H0, ρ, P, E, F, hf, hP, hE⟩ => ⟨H0, ρ, _, E, F, hf, fun x px v H1 s1 r1 => by
    cases es : seqy x with
    | none => rw [es] at px; exact px.elim
    | some ds =>
      rw [es] at px
      have args : ∀ (ys : List D) (vs us : List V) (H2 : Hp), RepsF H1 vs ds → Same H1 H2 → AllOk X.K H1 H2 us ys → (match ys with | [.val (.int k)] => ∃ ns : List Int, ds = ns.map .int ∧ k ∈ ns ∧ P (.val (.int (ns.idxOf k : Nat))) | _ => False) →
          ∃ (ns : List Int) (k : Int), us = [V.int k] ∧ vs = ns.map V.int ∧ k ∈ ns ∧ Q (.int (ns.idxOf k : Nat)) H2 := fun ys vs us H2 rr s2 ok p => by
        split at p
        · rename_i k
          obtain ⟨v2, rfl, r2⟩ := all1 ok
          obtain ⟨ns, rfl, hm, p⟩ := p
          exact ⟨ns, k, by rw [res_int r2], RepsF.of_ints rr, hm, hP _ p _ _ (s1.trans s2) (.int _)⟩
        · exact p.elim
      have goL : listy x = some ds → ∃ a, v = .ref a ∧ ((∃ xs, SqL X.K H1 a xs) ∧ tDA X.K w fa σ H1 fun us H2 => ∃ (ns : List Int) (k : Int), us = [V.int k] ∧ SqL X.K H2 a (ns.map V.int) ∧ k ∈ ns ∧ Q (.int (ns.idxOf k : Nat)) H2) := fun el => by
        obtain ⟨a, vs, rfl, hs, rr⟩ := listy_ok el r1
        refine ⟨a, rfl, ⟨vs, hs⟩, H0, ρ, _, E, F.mono s1, px, fun ys p us H2 s2 ok => ?_, hE.mono s1⟩
        obtain ⟨ns, k, eu, ev, hm, q⟩ := args ys vs us H2 rr s2 ok p
        exact ⟨ns, k, eu, by rw [← ev]; exact s2.seq hs, hm, q⟩
      have pack : (∃ a, v = .ref a ∧ ((∃ xs, SqL X.K H1 a xs) ∧ tDA X.K w fa σ H1 fun us H2 => ∃ (ns : List Int) (k : Int), us = [V.int k] ∧ SqL X.K H2 a (ns.map V.int) ∧ k ∈ ns ∧ Q (.int (ns.idxOf k : Nat)) H2)) → _ := fun ⟨a, e, z⟩ => (⟨a, e, .inl z⟩ : ∃ a, v = V.ref a ∧ (((∃ xs, SqL X.K H1 a xs) ∧ tDA X.K w fa σ H1 fun us H2 => ∃ (ns : List Int) (k : Int), us = [V.int k] ∧ SqL X.K H2 a (ns.map V.int) ∧ k ∈ ns ∧ Q (.int (ns.idxOf k : Nat)) H2) ∨
        ((∃ (o : Obj) (xs : List V), H1 a = some (HO.frz o (.tup xs)) ∧ o.dict = none) ∧ tDA X.K w fa σ H1 fun us H2 => ∃ (ns : List Int) (k : Int), us = [V.int k] ∧ SqT X.K H2 a (ns.map V.int) ∧ k ∈ ns ∧ Q (.int (ns.idxOf k : Nat)) H2)))
      cases x with
      | val d =>
        cases d with
        | tuple ys =>
          cases es
          cases r1 with
          | @tup a ob us _ hq zo rr =>
            refine ⟨a, rfl, .inr ⟨⟨ob, us, hq, zo⟩, H0, ρ, _, E, F.mono s1, px, fun ys p us2 H2 s2 ok => ?_, hE.mono s1⟩⟩
            obtain ⟨ns, k, eu, ev, hm, q⟩ := args ys us us2 H2 rr s2 ok p
            exact ⟨ns, k, eu, by rw [← ev]; exact .inl (.inr ⟨ob, s2 _ _ hq⟩), hm, q⟩
        | _ => exact pack (goL es)
      | _ => exact pack (goL es), hE⟩
end
end Cr
set_option maxHeartbeats 4000000
/-! Fw18: lists of ranges; a thing taken out of one list and put into another -/
namespace Cr
open PySem PySem.Spec PyProof.Rows L2
/-! ### range as a thing -/
abbrev ER := En → (Int → Int → Prop) → (Ex → Prop) → Prop
def tDR (K : PySem.W.Frag) (w : Wx) (f : ER) : St → Hp → (Int → Int → Hp → Prop) → Prop := fun σ H Q => ∃ B ρ P E, Fm K B H σ ρ ∧ f ρ P E ∧ (∀ a b, P a b → ∀ H', Same H H' → Q a b H') ∧ ExTo w σ H E
section
variable {X : Cx} {w : Wx} {a b e : Expr} {fa fb fe : EE} {fr : ER} {p pos : Pos}
abbrev DR (X : Cx) (w : Wx) (e : Expr) (f : ER) : Prop := PRg X e (tDR X.K w f)
theorem prg_imp {t t' : St → Hp → (Int → Int → Hp → Prop) → Prop} (h : PRg X e t) (i : ∀ σ H Q, t' σ H Q → t σ H Q) : PRg X e t' := fun pins s σ H Q I q => h pins s σ H Q I (i _ _ _ q)
@[simp] def rg1 (fa : EE) : ER := fun ρ P E => fa ρ (fun x => match x with | .val (.int n) => P 0 n | _ => False) E
@[simp] def rg2 (fa fb : EE) : ER := fun ρ P E => fa ρ (fun x => match x with | .val (.int i) => fb ρ (fun y => match y with | .val (.int n) => P i n | _ => False) E | _ => False) E
theorem dr_1 (hg : Gl X "range") (hm : X.mg "range" = none) (ha : DE X w a fa) (na : starEach [a] X.env = (false, eval a X.env) :: starEach [] X.env := by rfl) : DR X w (.Call (.Name "range" p) [a] [] pos) (rg1 fa) :=
  prg_imp (prg_1 hg hm ha na) fun σ H Q ⟨B, ρ, P, E, F, hf, hP, hE⟩ => ⟨B, ρ, _, E, F, hf, fun d q v H1 s1 r => by
    obtain ⟨n, rfl, q⟩ := int_of (Q := fun n => P 0 n) q
    exact ⟨n, res_int r, hP _ _ q _ s1⟩, hE⟩
theorem dr_2 (hg : Gl X "range") (hm : X.mg "range" = none) (ha : DE X w a fa) (hb : DE X w b fb) (na : starEach [a, b] X.env = (false, eval a X.env) :: starEach [b] X.env := by rfl)
    (nb : starEach [b] X.env = (false, eval b X.env) :: starEach [] X.env := by rfl) (hp : (backTo pos (starEach [b] X.env)).any (·.1) = false := by rfl) : DR X w (.Call (.Name "range" p) [a, b] [] pos) (rg2 fa fb) :=
  prg_imp (prg_2 hg hm ha hb na nb hp) fun σ H Q ⟨B, ρ, P, E, F, hf, hP, hE⟩ => ⟨B, ρ, _, E, F, hf, fun d q v H1 s1 r => by
    obtain ⟨n, rfl, q⟩ := int_of (Q := fun i => fb ρ (fun y => match y with | .val (.int n) => P i n | _ => False) E) q
    refine ⟨B, ρ, _, E, F.mono s1, q, fun d2 q2 v2 H2 s2 r2 => ?_, hE.mono s1⟩
    obtain ⟨m, rfl, q2⟩ := int_of (Q := fun m => P n m) q2
    exact ⟨n, m, res_int r, res_int r2, hP _ _ q2 _ (s1.trans s2)⟩, hE⟩
/-- list(range(..)) -/
@[simp] def eListRg (fr : ER) : EE := fun ρ P E => fr ρ (fun a b => (-16777216 ≤ a ∧ a ≤ 16777216 ∧ -16777216 ≤ b ∧ b ≤ 16777216 ∧ b - a ≤ 16777216) ∧ P (.new (rng a (b - a).toNat))) E
theorem reps_rg {H : Hp} (a b : Int) : RepsF H (rgV a b) (rng a (b - a).toNat) := by
  have := RepsF.ints (H := H) ((List.range (b - a).toNat).map fun (i : Nat) => a + (i : Int))
  rw [List.map_map, List.map_map] at this
  exact this
theorem de_listRg (hc : X.calm = true) (hg : Gl X "list") (hm : X.mg "list" = none) (he : DR X w e fr) (na : starEach [e] X.env = (false, eval e X.env) :: starEach [] X.env := by rfl) : DE X w (.Call (.Name "list" p) [e] [] pos) (eListRg fr) :=
  (pe_listRg hc hg hm he na).imp fun σ H Q ⟨B, ρ, P, E, F, hf, hP, hE⟩ => ⟨B, ρ, _, E, F, hf, fun a b q H1 s1 => by
    refine ⟨⟨by omega, by omega, by omega, by omega, by omega⟩, fun l nl => ?_⟩
    have s := (Same.refl H1).upd_new (o := .lst (rgV a b)) nl
    refine hP _ q.2 _ _ (s1.trans s) ⟨l, _, rfl, s1.free nl, upd_same, reps_rg a b⟩, hE⟩
end
/-! ### x.append(y.pop(k)) -/
section
variable {X : Cx} {w : Wx} {k : Expr} {fk : EE} {p1 p2 p3 p4 p5 p6 pos : Pos}
@[simp] def sAppPop (i j : Nat) (fk : EE) : ES := fun d ρ => match ρ[i]?, ρ[j]? with
  | some (.new xs), some (.new ys) => i ≠ j ∧ fk ρ (fun k => match k with
    | .val (.int n) => (match ixN ys.length n with
      | some m => (match ys[m]? with
        | some z => -(2 ^ 63) ≤ n ∧ n < 2 ^ 63 ∧ xs.length < sizeLine ∧ d.nx ((ρ.set j (.new (ys.eraseIdx m))).set i (.new (xs ++ [z])))
        | none => False)
      | none => False)
    | _ => False) fun x => d.ex x ρ
  | _, _ => False
theorem ds_appPop (i j : Nat) {x y : Str} (hN : X.N[i]? = some x) (hv : Vis X.env.scope x) (hN2 : X.N[j]? = some y) (hv2 : Vis X.env.scope y) (hij : i ≠ j) (hk : DE X w k fk)
    (hbase : attributeBase (.Name x p1) "append" X.env (eval (.Name x p1) X.env) = eval (.Name x p1) X.env := by rfl)
    (hbase2 : attributeBase (.Name y p4) "pop" X.env (eval (.Name y p4) X.env) = eval (.Name y p4) X.env := by rfl)
    (hfew : ((backTo p3 (starEach [Expr.Call (.Attribute (.Name y p4) "pop" p5) [k] [] p6] X.env)).all (fun x => !x.1) && (backToKw p3 (keywordEach [] X.env)).all (fun x => x.1.isSome)
      && decide ([Expr.Call (.Attribute (.Name y p4) "pop" p5) [k] [] p6].length + ([] : List Keyword).length + (if ([] : List Keyword).isEmpty then 0 else 1) < 30)) = true := by rfl)
    (hfew2 : ((backTo p6 (starEach [k] X.env)).all (fun x => !x.1) && (backToKw p6 (keywordEach [] X.env)).all (fun x => x.1.isSome)
      && decide ([k].length + ([] : List Keyword).length + (if ([] : List Keyword).isEmpty then 0 else 1) < 30)) = true := by rfl)
    (hline : (p2.endLine == p3.line) = true := by rfl) (hline2 : (p5.endLine == p6.line) = true := by rfl)
    (hs : starEach [Expr.Call (.Attribute (.Name y p4) "pop" p5) [k] [] p6] X.env = (false, eval (.Call (.Attribute (.Name y p4) "pop" p5) [k] [] p6) X.env) :: starEach [] X.env := by rfl)
    (hs2 : starEach [k] X.env = (false, eval k X.env) :: starEach [] X.env := by rfl)
    (hplain : (backTo p3 (starEach [] X.env)).any (·.1) = false := by rfl) (hplain2 : (backTo p6 (starEach [] X.env)).any (·.1) = false := by rfl)
    (hd : (x == ("__debug__" : Str)) = false := by decide) (hcd : (x == ("__classdict__" : Str)) = false := by decide) (hd2 : (y == ("__debug__" : Str)) = false := by decide) (hcd2 : (y == ("__classdict__" : Str)) = false := by decide)
    (hsw : swapsWith (.Call (.Attribute (.Name x p1) "append" p2) [.Call (.Attribute (.Name y p4) "pop" p5) [k] [] p6] [] p3) none pos.line X.env = pure false := by rfl) :
    DS X w (.Expr (.Call (.Attribute (.Name x p1) "append" p2) [.Call (.Attribute (.Name y p4) "pop" p5) [k] [] p6] [] p3) pos) (sAppPop i j fk) :=
  (ps_expr (pe_bm PySem.F.plainAttrs_list PySem.F.slot_list_append PySem.F.type_list_append mt_append (pe_var hN hv hd hcd)
    (pa_cons (pe_bm PySem.F.plainAttrs_list PySem.F.slot_list_pop PySem.F.type_list_pop mt_popAt (pe_var hN2 hv2 hd2 hcd2) (pa_cons hk pa_nil hs2) hbase2 hfew2 hline2 hs2 hplain2) pa_nil hs) hbase hfew hline hs hplain) hsw).imp fun T σ H ⟨B, ρ, d, F, hf, N⟩ => by
    unfold sAppPop at hf
    split at hf
    · rename_i xs ys ei ej
      obtain ⟨a, vs, ev, n, q, rr⟩ := F.slot i _ ei
      obtain ⟨b, ws, ev2, n2, q2, rr2⟩ := F.slot j _ ej
      have hab : a ≠ b := fun e => hij (F.apart i j xs ys a ei ej ev (e ▸ ev2))
      refine ⟨.ref a, ev, .inl ⟨rfl, vs, .of q⟩, .ref b, ev2, .inl ⟨rfl, ws, .of q2⟩, B, ρ, _, _, F, hf.2, fun z pz v H1 s1 r1 => ?_, N.exTo F⟩
      split at pz
      · rename_i m
        obtain rfl := res_int r1
        split at pz
        · rename_i l el
          split at pz
          · rename_i z ez
            obtain ⟨h1, h2, h3, h4⟩ := pz
            have F1 := F.mono s1
            have qa := s1 _ _ q
            have qb := s1 _ _ q2
            have ra := rr.fx s1.fx
            have rb := rr2.fx s1.fx
            obtain ⟨u, eu, ru⟩ := rb.get ez
            rw [← rb.length] at el
            refine ⟨b, ws, m, l, u, rfl, rfl, qb, h1, h2, (ixN_seq el).1, eu, ?_⟩
            have F2 := F1.upd ej ev2 qb (rb.eraseIdx l)
            have fx : Fx H1 (L2.upd H1 b (.lst (ws.eraseIdx l))) := Fx.upd_lst qb
            have qa2 : L2.upd H1 b (.lst (ws.eraseIdx l)) a = some (.lst vs) := by rw [upd_ne hab]; exact qa
            refine ⟨a, vs, u, rfl, rfl, qa2, by rw [ra.length]; exact h3, ?_⟩
            have ei2 : (ρ.set j (.new (ys.eraseIdx l)))[i]? = some (.new xs) := by rw [List.getElem?_set_ne (Ne.symm hij)]; exact ei
            exact N.nx _ _ _ (F2.upd ei2 ev qa2 ((ra.fx fx).append (.cons (ru.fx fx) .nil))) h4
          · exact pz.elim
        · exact pz.elim
      · exact pz.elim
    · exact hf.elim
end
end Cr
set_option maxHeartbeats 4000000
/-! Fw19: list(reversed(a list)), tuple(reversed(..)) -/
namespace RT
open PySem PySem.Spec PyProof.Rows L2
open PySem.W
section
variable {prog : Program} {w : World} {A : Around} {E : Value → Shared → Prop} {s : Shared}
theorem crExtRev {R : Result → Shared → Prop} {it l S : Addr} {items : Array Value} {c0 : Nat} {res : Value} (hh : A.handled = none) (hit : s.heap.IsRevIter it l ((items.size : Int) - 1)) (hl : s.heap.IsList l items) (hne : l ≠ it) (hn : items.size ≤ sizeLine)
    (hSi : S ≠ it) (hSl : S ≠ l) (hS : s.heap.get? S = some { cls := .type "list", dict := none, data := .seq #[] c0, slots := #[] })
    (hR : ∀ h' tk acc' c', (∀ b o, b ≠ S → b ≠ it → s.heap.get? b = some o → h'.get? b = some o) → h'.get? S = some { cls := .type "list", dict := none, data := .seq acc' c', slots := #[] } →
      ItemsOf (fun i v => items[items.size - 1 - i]? = some v) acc' items.size → R (.ok (.ret res)) { s with heap := h', toks := tk }) :
    wpAny (model prog w) A.in1 (Builtin.List.listExtendWith (.ref S) (.ref it) res)
      (fun fin s' => match fin with | .done f => R (.ok f) s' | .again c' => c'.quiet = true ∧ codeAny (model prog w) A c' R s') (fun e s' => R (.error e) s') s := by
  have W := (Walks.listRev (prog := prog) (w := w) (A := A.in1) hh it l hne items).toS
  have hSf : S ∉ [it, l] := by simp only [List.mem_cons, List.not_mem_nil, or_false, not_or]; exact ⟨hSi, hSl⟩
  have hT : s.TypeIs (.ref it) "list_reverseiterator" := Heap.IsRevIter.typeIs hit
  have h1 : Builtin.List.listSameRef (.ref S) (.ref it) = false := by simp [Builtin.List.listSameRef, hSi]
  unfold Builtin.List.listExtendWith
  refine wpAny_bind (wpAny_typeOf hT ?_)
  rw [if_neg (by rw [h1]; decide)]
  refine wpAny_bind (wpAny_pyIter_revIter hit ?_)
  refine wpAny_bind (wpAny_holding ?_)
  unfold Builtin.List.listLengthHint
  refine wpAny_bind (wpAny_specialOf hT nolen_lri ?_)
  show wpAny _ A.in1 (specialOf (Value.ref it) (Str.ofString "__length_hint__") >>= _) _ _ _
  refine wpAny_bind (wpAny_specialOf hT hint_lri ?_)
  generalize hid : ("list_reverseiterator.__length_hint__" : String) = id0
  wp_delta
  rw [show splitId id0 = some ("list_reverseiterator", "__length_hint__") from by subst hid; decide +kernel]
  subst hid
  refine wpAny_bind (wpAny_isInstance (b := true) hT (by rw [isSubtype_type]; kernel_rfl) ?_)
  refine wpAny_pure ?_
  rw [if_neg (by decide)]
  have e0 : ((items.size : Nat) : Int) - 1 - ((0 : Nat) : Int) = (items.size : Int) - 1 := by omega
  refine wpAny_pure ⟨plainId_quiet F.plain_extend_loop _, codeAny_extend_loopS W hn S hSf res items.size 0 _ #[] c0 rfl (Nat.zero_le _) ⟨Nat.zero_le _, by rw [e0]; exact hit, hl⟩ hS (ItemsOf.nil _) fun s' acc' c' hm hS' hacc => ?_⟩
  rw [Moved.eq_with hm]
  refine hR s'.heap s'.toks acc' c' (fun b o hb hb2 e => hm.heap b o (fun hmem => ?_) e) hS' hacc
  rcases List.mem_cons.mp hmem with e' | hmem
  · exact hb e'
  · exact hb2 (List.mem_singleton.mp hmem)
theorem crInitRev {R : Result → Shared → Prop} {it l S : Addr} {items : Array Value} (hh : A.handled = none) (hit : s.heap.IsRevIter it l ((items.size : Int) - 1)) (hl : s.heap.IsList l items) (hne : l ≠ it) (hn : items.size ≤ sizeLine)
    (hSi : S ≠ it) (hSl : S ≠ l) (hS : s.heap.get? S = some { cls := .type "list", data := .seq #[] })
    (hR : ∀ h' tk acc' c', (∀ b o, b ≠ S → b ≠ it → s.heap.get? b = some o → h'.get? b = some o) → h'.get? S = some { cls := .type "list", dict := none, data := .seq acc' c', slots := #[] } →
      ItemsOf (fun i v => items[items.size - 1 - i]? = some v) acc' items.size → R (.ok (.ret .none)) { s with heap := h', toks := tk }) :
    wpAny (model prog w) A.in1 (Builtin.«list.__init__» ⟨[.ref S, .ref it], []⟩)
      (fun fin s' => match fin with | .done f => R (.ok f) s' | .again c' => c'.quiet = true ∧ codeAny (model prog w) A c' R s') (fun e s' => R (.error e) s') s := by
  show wpAny _ _ (do let old ← Builtin.List.listItems (.ref S); Builtin.List.listUpdate (.ref S) (fun _ => #[]); letGo old.toList.reverse; Builtin.List.listExtendWith (.ref S) (.ref it) .none) _ _ s
  refine wpAny_bind ?_
  unfold Builtin.List.listItems
  refine wpAny_bind (wpAny_seqItems hS rfl (wpAny_pure ?_))
  show wpAny _ _ (updateSeq S (fun _ => #[]) >>= fun _ => letGo (#[] : Array Value).toList.reverse >>= fun _ => Builtin.List.listExtendWith (.ref S) (.ref it) .none) _ _ s
  refine wpAny_bind (wpAny_updateSeq hS rfl ?_)
  have hS2 := Heap.get?_update_self (Obj.mapSeq (fun _ => (#[] : Array Value))) hS rfl
  have oth : ∀ b o, b ≠ S → s.heap.get? b = some o → (s.heap.update S (Obj.mapSeq (fun _ => (#[] : Array Value)))).get? b = some o :=
    fun b o hb e => (Heap.get?_update_other _ _ (Ne.symm hb)).trans e
  obtain ⟨ol, hol, hlr⟩ := id hl
  refine wpAny_bind (wpAny_letGo ?_)
  refine crExtRev (s := { s with heap := s.heap.update S (Obj.mapSeq (fun _ => (#[] : Array Value))) }) hh (hit.at fun o e => oth it o (Ne.symm hSi) e) ⟨ol, oth l ol (Ne.symm hSl) hol, hlr⟩ hne hn hSi hSl hS2 fun h' tk acc' c' hk hS' hacc => ?_
  exact hR h' tk acc' c' (fun b o hb hb2 e => hk b o hb hb2 (oth b o hb e)) hS' hacc
theorem crListRev {it l : Addr} {items : Array Value} {Q : Value → Shared → Prop} (hh : A.handled = none) (hit : s.heap.IsRevIter it l ((items.size : Int) - 1)) (hl : s.heap.IsList l items) (hne : l ≠ it) (hn : items.size ≤ sizeLine)
    (hQ : ∀ h' tk acc' c', (∀ b o, b ≠ it → s.heap.get? b = some o → h'.get? b = some o) →
      h'.get? s.heap.objs.size = some { cls := .type "list", dict := none, data := .seq acc' c', slots := #[] } → ItemsOf (fun i v => items[items.size - 1 - i]? = some v) acc' items.size → Q (.ref s.heap.objs.size) { s with heap := h', toks := tk }) :
    wpAny (model prog w) A (call (.type "list") [.ref it]) Q E s := by
  obtain ⟨oi, hoi, _⟩ := id hit
  obtain ⟨ol, hol, _⟩ := id hl
  refine callType_codes (Q₁ := fun obj s1 => obj = .ref s.heap.objs.size ∧ s1 = { s with heap := s.heap.push { cls := .type "list", data := .seq #[] } }) F.called_list (F.typeCall_list_1 _) F.entry_list_init
    (code_list_new _ ⟨rfl, rfl⟩) fun obj s1 h1 => ?_
  obtain ⟨rfl, rfl⟩ := h1
  have hS : (s.heap.push { cls := .type "list", data := .seq #[] }).get? s.heap.objs.size = some { cls := .type "list", data := .seq #[] } := Heap.get?_push_size _ rfl
  refine ⟨⟨_, hS, rfl⟩, F.args_list_init_2 _ _, crInitRev (A := A.in1) (s := { s with heap := s.heap.push { cls := .type "list", data := .seq #[] } }) hh (hit.at fun o e => Heap.get?_push_of_some _ e) (hl.push _) hne hn (Nat.ne_of_gt (Heap.lt_size hoi)) (Nat.ne_of_gt (Heap.lt_size hol)) hS fun h' tk acc' c' hk hS' hacc => ?_⟩
  exact ⟨rfl, hQ h' tk acc' c' (fun b o hb e => hk b o (Nat.ne_of_lt (Heap.lt_size e)) hb (Heap.get?_push_of_some _ e)) hS' hacc⟩
end
end RT
namespace Cr
open PySem PySem.Spec PyProof.Rows L2
def tLstRevA (K : PySem.W.Frag) (te : TE) : TE := fun σ H Q => te σ H fun v H1 => ∃ (a : Addr) (xs : List V), v = .ref a ∧ SqL K H1 a xs ∧ ∀ q, H1 q = none → Q (.ref q) (upd H1 q (.lst xs.reverse))
section
variable {X : Cx} {w : Wx} {e : Expr} {te : TE} {fe : EE} {p p2 pos pos2 : Pos}
theorem pe_listRev (hc : X.calm = true) (hg : Gl X "list") (hm : X.mg "list" = none) (hg2 : Gl X "reversed") (hm2 : X.mg "reversed" = none) (he : PE X e te)
    (hs : starEach [e] X.env = (false, eval e X.env) :: starEach [] X.env := by rfl)
    (hs2 : starEach [.Call (.Name "reversed" p2) [e] [] pos2] X.env = (false, eval (.Call (.Name "reversed" p2) [e] [] pos2) X.env) :: starEach [] X.env := by rfl) :
    PE X (.Call (.Name "list" p) [.Call (.Name "reversed" p2) [e] [] pos2] [] pos) (tLstRevA X.K te) := by
  refine ⟨fun pins s σ H Q I h => ?_⟩
  refine Call_ (ld_blt I hg hm boot_list (PyProof.Rows.callWith_type1 (args_cons (Call_ (ld_blt I hg2 hm2 PyProof.Rows.boot_reversed (PyProof.Rows.callWith_type1 (args_cons (thn (he.run pins s σ H _ I h) fun u s1 ⟨v, H1, I1, r1, q1⟩ => args_nil ?_) hs) hs rfl))) hs2) hs2 rfl))
  obtain ⟨a, xs, ev, hq, q⟩ := q1
  subst ev
  obtain rfl : u = Value.ref a := r1
  obtain ⟨its, rv, p', hz⟩ := I1.list hq
  refine call_reversed_list p'.isList (args_nil ?_)
  have k0 : ∀ b o, s1.heap.get? b = some o → (s1.heap.push (revObj a ((its.toArray.size : Int) - 1))).get? b = some o := fun b o e => Heap.get?_push_of_some _ e
  have I2 : Inv X pins σ H1 { s1 with heap := s1.heap.push (revObj a ((its.toArray.size : Int) - 1)) } := I1.kept (t' := s1.toks) k0
  have hl := p'.isList
  obtain ⟨ol, hol, _⟩ := id hl
  have hne : a ≠ s1.heap.objs.size := Nat.ne_of_lt (Heap.lt_size hol)
  have hn : its.toArray.size ≤ sizeLine := by rw [List.size_toArray, ← rv.length]; exact hz
  refine RT.crListRev (s := { s1 with heap := s1.heap.push (revObj a ((its.toArray.size : Int) - 1)) }) (I1.ok.hd hc) ⟨_, Heap.get?_push_size _ rfl, rfl, rfl⟩ (hl.push _) hne hn fun h' tk acc c' hk hS hi => ?_
  refine ⟨.ref (s1.heap.push (revObj a ((its.toArray.size : Int) - 1))).objs.size, upd H1 (s1.heap.push (revObj a ((its.toArray.size : Int) - 1))).objs.size (.lst xs.reverse),
    I2.turnedNew (t' := tk) (ch := [s1.heap.objs.size]) (fun b o hb e => hk b o (fun z => hb (by rw [z]; exact List.mem_singleton.mpr rfl)) e) (fun b hb => by
      rw [List.mem_singleton] at hb
      subst hb
      exact I1.fpOk (Nat.le_refl _) (I1.hok.fresh (Nat.le_refl _))) (Nat.le_refl _) (show ObjOk X.prog X.w _ _ _ (.lst xs.reverse) from ⟨by rw [List.length_reverse]; exact hz, acc.toList, c', RT.vals_rev rv hi, ?_⟩), rfl, q _ (I2.hok.fresh (Nat.le_refl _))⟩
  rw [Array.toArray_toList]
  exact hS
/-- list(reversed(a list)) -/
@[simp] def eListRev (f : EE) : EE := fun ρ P E => f ρ (fun x => match listy x with | some xs => P (.new xs.reverse) | none => False) E
theorem de_listRev (hc : X.calm = true) (hg : Gl X "list") (hm : X.mg "list" = none) (hg2 : Gl X "reversed") (hm2 : X.mg "reversed" = none) (he : DE X w e fe)
    (hs : starEach [e] X.env = (false, eval e X.env) :: starEach [] X.env := by rfl)
    (hs2 : starEach [.Call (.Name "reversed" p2) [e] [] pos2] X.env = (false, eval (.Call (.Name "reversed" p2) [e] [] pos2) X.env) :: starEach [] X.env := by rfl) :
    DE X w (.Call (.Name "list" p) [.Call (.Name "reversed" p2) [e] [] pos2] [] pos) (eListRev fe) :=
  (pe_listRev hc hg hm hg2 hm2 he hs hs2).imp fun σ H Q ⟨H0, ρ, P, E, F, hf, hP, hE⟩ => ⟨H0, ρ, _, E, F, hf, fun x px v H1 s1 r1 => by
    cases el : listy x with
    | none => rw [el] at px; exact px.elim
    | some xs =>
      rw [el] at px
      obtain ⟨a, us, rfl, hs, rr⟩ := listy_ok el r1
      refine ⟨a, us, rfl, hs, fun l nl => ?_⟩
      have s := (Same.refl H1).upd_new (o := .lst us.reverse) nl
      exact hP _ px _ _ (s1.trans s) ⟨l, _, rfl, s1.free nl, upd_same, (rr.reverse).fx s.fx⟩, hE⟩
end
end Cr
set_option maxHeartbeats 4000000
/-! Fw20: tuple(reversed(a tuple)) -/
namespace RT
open PySem PySem.Spec PyProof.Rows L2
open PySem.W
theorem crSlotHint : Slot "reversed" "__length_hint__" "reversed.__length_hint__" :=
  .of (owner := "reversed") (n := "__length_hint__") (by rw [typeLookup_type, builtinLookup_eq_fast]; kernel_rfl) (by decide +kernel) (by decide +kernel) (by decide +kernel)
    (by first | exact .inl (by decide +kernel) | exact .inr (by decide +kernel)) (by rw [isSubtype_type]; kernel_rfl)
theorem crEntryHint : entryFor table "reversed.__length_hint__" = some Builtin.«reversed.__length_hint__» := entryFor_of_tree (by kernel_rfl)
theorem crArgsHint (a : Value) : argsOk "reversed.__length_hint__" ⟨[a], []⟩ := by
  unfold argsOk; rw [signature?_of (id := "reversed.__length_hint__") (n := ['_', '_', 't', 'n', 'i', 'h', '_', 'h', 't', 'g', 'n', 'e', 'l', '_', '_']) (o := ['d', 'e', 's', 'r', 'e', 'v', 'e', 'r']) (by kernel_rfl) owner_rt]; kernel_rfl
theorem crBindHint (self : Value) : bindSpecial (.builtin "reversed.__length_hint__") self = pure (.builtin "reversed.__length_hint__", [self]) := by
  have hop : withoutEnding? "reversed.__length_hint__" "#opaque" = none := by decide +kernel
  have hdat : withoutEnding? "reversed.__length_hint__" "#data" = none := by decide +kernel
  have hk : builtinKind "reversed.__length_hint__" = some .method := by decide +kernel
  simp only [bindSpecial, typeOf, builtinType, hop, hdat, hk]; rfl
section
variable {prog : Program} {w : World} {A : Around} {E : Value → Shared → Prop} {s : Shared}
theorem crHintCall {it t : Addr} {items : Array Value} {Q : Value → Shared → Prop} (hit : IsRt s.heap it t ((items.size : Int) - 1)) (ht : IsTup s.heap t items) (hfit : (items.size : Int) < 2 ^ 63)
    (h : ∀ u tk, Q (.int items.size u) { s with toks := tk }) : wpAny (model prog w) A (call (.builtin "reversed.__length_hint__") [.ref it]) Q E s := by
  obtain ⟨o, ho, hc, hd⟩ := id hit
  refine wpAny_call_entry crSlotHint hit.typeIs crEntryHint ?_ (crArgsHint _)
  unfold Builtin.«reversed.__length_hint__»
  refine wpAny_bind (wpAny_of_eq (a := Value.ref it) rfl ?_)
  refine wpAny_bind (wpAny_field ho hd (x := .ref t) rfl ?_)
  rw [if_neg (show ¬ ((Value.ref t == Value.none) = true) from Bool.false_ne_true)]
  refine wpAny_bind (len_tuple ht hfit ?_)
  refine wpAny_bind (wpAny_of_eq (a := some ((items.size : Nat) : Int)) rfl ?_)
  try dsimp only
  refine wpAny_bind (wpAny_field (s := { s with toks := s.toks + 1 + 1 }) ho hd (x := rawInt ((items.size : Int) - 1)) rfl ?_)
  show wpAny _ _ (if (items.size : Int) < (items.size : Int) - 1 + 1 then _ else retInt ((items.size : Int) - 1 + 1)) _ _ _
  rw [if_neg (by omega), show (items.size : Int) - 1 + 1 = items.size by omega]
  refine wpAny_bind (wpAny_mkInt (wpAny_pure ⟨_, rfl, ?_⟩))
  exact h _ _
theorem crHintRt {it t : Addr} {items : Array Value} {Q : Bool → Shared → Prop} (hit : IsRt s.heap it t ((items.size : Int) - 1)) (ht : IsTup s.heap t items) (hn : items.size ≤ sizeLine)
    (h : ∀ b tk, Q b { s with toks := tk }) : wpAny (model prog w) A (Builtin.List.listLengthHint (.ref it)) Q E s := by
  have hT : s.TypeIs (.ref it) "reversed" := IsRt.typeIs hit
  rw [sizeLine_eq] at hn
  unfold Builtin.List.listLengthHint
  refine wpAny_bind (wpAny_specialOf hT (by rw [typeLookup_type, builtinLookup_eq_fast]; kernel_rfl : typeLookup (.type "reversed") "__len__" = pure none) ?_)
  show wpAny _ A (specialOf (Value.ref it) (Str.ofString "__length_hint__") >>= _) _ _ _
  refine wpAny_bind (wpAny_specialOf hT (by rw [typeLookup_type, builtinLookup_eq_fast]; kernel_rfl : typeLookup (.type "reversed") "__length_hint__" = pure (some (.builtin "reversed.__length_hint__"))) ?_)
  generalize hid : ("reversed.__length_hint__" : String) = id0
  wp_delta
  rw [show splitId id0 = some ("reversed", "__length_hint__") from by subst hid; decide +kernel]
  subst hid
  refine wpAny_bind (wpAny_isInstance (b := true) hT (by rw [isSubtype_type]; kernel_rfl) ?_)
  rw [if_neg (by decide)]
  try dsimp only
  rw [if_neg (by decide +kernel)]
  refine wpAny_bind (wpAny_rule ?_)
  refine wpAny_bind (wpAny_of_eq (crBindHint _) ?_)
  try dsimp only
  refine wpAny_bind (wpAny_attempt (crHintCall hit ht (by omega) fun u tk => ?_))
  show wpAny _ _ (asInt? (.int (items.size : Nat) u) >>= _) _ _ _
  have ea : asInt? (Value.int ((items.size : Nat) : Int) u) = pure (some ((items.size : Nat) : Int)) := rfl
  rw [ea]
  refine wpAny_bind ?_
  refine wpAny_pure ?_
  try dsimp only
  have e1 : Builtin.List.listFitsIndex ((items.size : Nat) : Int) = true := by
    unfold Builtin.List.listFitsIndex
    have a1 : -(2 ^ 63 : Int) ≤ (items.size : Int) := by omega
    have a2 : (items.size : Int) < 2 ^ 63 := by omega
    simp only [a1, a2, decide_true, Bool.and_self, Bool.true_and, Bool.and_true]
  rw [e1, if_neg (by decide), if_neg (by omega)]
  rw [if_neg (show ¬ (Builtin.List.listTooLong ((items.size : Nat) : Int).toNat = true) by rw [Int.toNat_natCast, notLongL (by rw [sizeLine_eq]; exact hn)]; decide)]
  exact wpAny_pure (h _ _)
end
theorem crTupAt {h h' : Heap} {t : Addr} {items : Array Value} (x : IsTup h t items) (e : ∀ o, h.get? t = some o → h'.get? t = some o) : IsTup h' t items := let ⟨o, ho, r⟩ := x; ⟨o, e _ ho, r⟩
theorem crWalksRt {prog : Program} {w : World} {A : Around} (hh : A.handled = none) (I l : Addr) (hne : l ≠ I) (items : Array Value) (hsz : items.size ≤ sizeLine) :
    Walks prog w A I [I, l] [I] items.size (fun i v => items[items.size - 1 - i]? = some v) (fun i h => i ≤ items.size ∧ IsRt h I l ((items.size : Int) - 1 - (i : Int)) ∧ IsTup h l items) where
  sub := fun b hb => by simp at hb; simp [hb]
  frame := fun _ _ _ x hk => ⟨x.1, x.2.1.at fun o e => hk I (by simp) o e, crTupAt x.2.2 fun o e => hk l (by simp) o e⟩
  item := fun i s Q E hi x hQ => by
    have e : (items.size : Int) - 1 - (i : Int) = ((items.size - 1 - i : Nat) : Int) := by omega
    have hit := x.2.1
    rw [e] at hit
    have hx : items[items.size - 1 - i]? = some (items[items.size - 1 - i]'(by omega)) := Array.getElem?_eq_getElem (by omega)
    refine next_rt_item hit x.2.2 hx hsz fun h' hit' hs' => ?_
    have e2 : ((items.size - 1 - i : Nat) : Int) - 1 = (items.size : Int) - 1 - ((i + 1 : Nat) : Int) := by omega
    rw [e2] at hit'
    exact hQ _ h' (s.toks + 1) hx ⟨hi, hit', crTupAt x.2.2 fun o eo => (hs'.2 l hne).trans eo⟩ fun b o hb eo => hs'.extBut b o (fun h => hb (by simp [h])) eo
  done := fun s Q E x hQ => by
    have e : (items.size : Int) - 1 - (items.size : Int) = -1 := by omega
    have hit := x.2.1
    rw [e] at hit
    exact next_rt_end hh hit fun h' he' => hQ h' s.toks fun b o hb eo => he' b o (fun h => hb (by simp [h])) eo
  self := fun _ _ _ _ x hQ => iter_rt x.2.1 hQ
section
variable {prog : Program} {w : World} {A : Around} {E : Value → Shared → Prop} {s : Shared}
theorem crCollectRt {it l : Addr} {items : Array Value} {Q : List Value → Shared → Prop} (hh : A.handled = none) (hit : IsRt s.heap it l ((items.size : Int) - 1)) (hl : IsTup s.heap l items) (hne : l ≠ it) (hn : items.size ≤ sizeLine)
    (hQ : ∀ (h' : Heap) (tk : Nat) (acc : Array Value), (∀ b o, b ≠ it → s.heap.get? b = some o → h'.get? b = some o) → ItemsOf (fun i v => items[items.size - 1 - i]? = some v) acc items.size → Q acc.toList { s with heap := h', toks := tk }) :
    wpAny (model prog w) A (collect (.ref it)) Q E s := by
  have W := (crWalksRt (prog := prog) (w := w) (A := A.in1) hh it l hne items hn).toS
  obtain ⟨oi, hoi, _⟩ := id hit
  obtain ⟨ol, hol, _⟩ := id hl
  have hSi : s.heap.objs.size ≠ it := Nat.ne_of_gt (Heap.lt_size hoi)
  have hSl : s.heap.objs.size ≠ l := Nat.ne_of_gt (Heap.lt_size hol)
  have hSf : s.heap.objs.size ∉ [it, l] := by simp only [List.mem_cons, List.not_mem_nil, or_false, not_or]; exact ⟨hSi, hSl⟩
  unfold collect
  refine wpAny_bind (wpAny_runValue (codeAny_builtin F.entry_proto_collect ?_))
  rw [Around.under_plainId F.plain_proto_collect _]
  show wpAny _ A.in1 (newList [] >>= fun l' => again (.builtin "list.__iadd__" ⟨[l', .ref it], []⟩)) _ _ s
  refine wpAny_bind (wpAny_newObj_type ?_)
  refine wpAny_pure ⟨plainId_quiet F.plain_list_iadd _, codeAny_builtin F.entry_list_iadd ?_⟩
  rw [Around.under_plainId F.plain_list_iadd _]
  have hS1 : (s.heap.push { cls := .type "list", data := .seq ([] : List Value).toArray }).get? s.heap.objs.size = some { cls := .type "list", data := .seq ([] : List Value).toArray } := Heap.get?_push_size _ rfl
  have hit1 : IsRt (s.heap.push { cls := .type "list", data := .seq ([] : List Value).toArray }) it l ((items.size : Int) - 1) := hit.at fun o e => Heap.get?_push_of_some _ e
  have hl1 : IsTup (s.heap.push { cls := .type "list", data := .seq ([] : List Value).toArray }) l items := crTupAt hl fun o e => Heap.get?_push_of_some _ e
  have hT : ({ s with heap := s.heap.push { cls := .type "list", data := .seq ([] : List Value).toArray } } : Shared).TypeIs (.ref it) "reversed" := IsRt.typeIs (s := { s with heap := s.heap.push { cls := .type "list", data := .seq ([] : List Value).toArray } }) hit1
  have h1 : Builtin.List.listSameRef (.ref s.heap.objs.size) (.ref it) = false := by simp [Builtin.List.listSameRef, hSi]
  show wpAny _ A.in1 (Builtin.List.listExtendWith (.ref s.heap.objs.size) (.ref it) (.ref s.heap.objs.size)) _ _ _
  unfold Builtin.List.listExtendWith
  refine wpAny_bind (wpAny_typeOf hT ?_)
  rw [if_neg (by rw [h1]; decide)]
  refine wpAny_bind (iter_rt (s := { s with heap := s.heap.push { cls := .type "list", data := .seq ([] : List Value).toArray } }) hit1 ?_)
  refine wpAny_bind (wpAny_holding (crHintRt (s := { s with heap := s.heap.push { cls := .type "list", data := .seq ([] : List Value).toArray } }) hit1 hl1 hn fun b tk => ?_))
  have e0 : ((items.size : Nat) : Int) - 1 - ((0 : Nat) : Int) = (items.size : Int) - 1 := by omega
  refine wpAny_ite_split (fun _ => ?_) (fun _ => ?_)
  · refine wpAny_bind (wpAny_rule ?_)
    refine wpAny_bind ?_
    show wpAny _ _ (updateSeq s.heap.objs.size (·.push .none) >>= fun _ => updateSeq s.heap.objs.size (·.pop)) _ _ _
    refine wpAny_bind (wpAny_updateSeq hS1 rfl ?_)
    have hS2 := Heap.get?_update_self (Obj.mapSeq (·.push Value.none)) hS1 rfl
    refine wpAny_updateSeq (hz := by seq_fits) hS2 rfl ?_
    have hS3 := Heap.get?_update_self (Obj.mapSeq (·.pop)) hS2 rfl
    refine wpAny_pure ⟨plainId_quiet F.plain_extend_loop _, codeAny_extend_loopS W hn _ hSf _ items.size 0 _ _ _ rfl (Nat.zero_le _) ⟨Nat.zero_le _, by rw [e0]; exact hit1.at fun o e => (Heap.get?_update_other _ _ hSi).trans ((Heap.get?_update_other _ _ hSi).trans e), crTupAt hl1 fun o e => (Heap.get?_update_other _ _ hSl).trans ((Heap.get?_update_other _ _ hSl).trans e)⟩ hS3 (ItemsOf.nil _) fun s' acc' c' hm hS' hacc => ?_⟩
    show wpAny _ A (load s.heap.objs.size >>= _) _ _ s'
    refine wpAny_bind (wpAny_load hS' ?_)
    refine wpAny_pure ?_
    rw [Moved.eq_with hm]
    refine hQ s'.heap s'.toks acc' (fun b o hb e => hm.heap b o (fun hmem => ?_) ?_) hacc
    · rcases List.mem_cons.mp hmem with e' | hmem
      · exact absurd (Heap.lt_size e) (by rw [e']; exact Nat.lt_irrefl _)
      · exact hb (List.mem_singleton.mp hmem)
    · have hbS : s.heap.objs.size ≠ b := Nat.ne_of_gt (Heap.lt_size e)
      exact (Heap.get?_update_other _ _ hbS).trans ((Heap.get?_update_other _ _ hbS).trans (Heap.get?_push_of_some _ e))
  · refine wpAny_pure ⟨plainId_quiet F.plain_extend_loop _, codeAny_extend_loopS W hn _ hSf _ items.size 0 _ _ _ rfl (Nat.zero_le _) ⟨Nat.zero_le _, by rw [e0]; exact hit1, hl1⟩ hS1 (ItemsOf.nil _) fun s' acc' c' hm hS' hacc => ?_⟩
    show wpAny _ A (load s.heap.objs.size >>= _) _ _ s'
    refine wpAny_bind (wpAny_load hS' ?_)
    refine wpAny_pure ?_
    rw [Moved.eq_with hm]
    refine hQ s'.heap s'.toks acc' (fun b o hb e => hm.heap b o (fun hmem => ?_) (Heap.get?_push_of_some _ e)) hacc
    rcases List.mem_cons.mp hmem with e' | hmem
    · exact absurd (Heap.lt_size e) (by rw [e']; exact Nat.lt_irrefl _)
    · exact hb (List.mem_singleton.mp hmem)
end
end RT
set_option maxHeartbeats 4000000
/-! Fw21: tuple(reversed(x)), x a list or a tuple -/
namespace RT
open PySem PySem.Spec PyProof.Rows L2
open PySem.W
section
variable {prog : Program} {w : World} {A : Around} {E : Value → Shared → Prop} {s : Shared}
theorem crNewRt {it l : Addr} {items : Array Value} {Q₁ : Value → Shared → Prop} (hh : A.handled = none) (hit : IsRt s.heap it l ((items.size : Int) - 1)) (hl : IsTup s.heap l items) (hne : l ≠ it) (hn : items.size ≤ sizeLine)
    (h : ∀ (h' : Heap) (tk : Nat) (acc : Array Value), (∀ b o, b ≠ it → s.heap.get? b = some o → h'.get? b = some o) → ItemsOf (fun i v => items[items.size - 1 - i]? = some v) acc items.size →
      Q₁ (.ref h'.objs.size) { s with heap := h'.push { cls := .type "tuple", data := .seq acc }, toks := tk }) :
    codeAny (model prog w) A (.call (.builtin "tuple.__new__") ⟨[.type "tuple", .ref it], []⟩) (wants Q₁ E) s := by
  refine codeAny_of_tree ?_
  show wpAny _ A.in1 (do checkBuiltinCall "tuple.__new__" ⟨[.type "tuple", .ref it], []⟩; again (.builtin "tuple.__new__" ⟨[.type "tuple", .ref it], []⟩)) _ _ s
  refine wpAny_bind (wpAny_of_eq (F.newCall_tuple_1 _) (wpAny_pure ⟨plainId_quiet F.plain_tuple_new _, codeAny_builtin F.entry_tuple_new ?_⟩))
  rw [Around.under_plainId F.plain_tuple_new _]
  have hsub := sub_tuple_self
  have hinit := init_tuple_lookup
  have hmh := madeHere_tuple
  have hTI : s.TypeIs (.ref it) "reversed" := IsRt.typeIs hit
  have hh1 : A.in1.handled = none := hh
  wp_walk using wpAny_typeOf hTI, crCollectRt (A := A.in1) hh1 hit hl hne hn
  intro h' tk acc hk hacc
  show wpAny _ _ (Builtin.Tuple.tupleExact acc.toList.toArray >>= fun v => ret v) _ _ _
  unfold Builtin.Tuple.tupleExact
  refine wpAny_bind (wpAny_newObj_type ?_ (by show acc.toList.toArray.size ≤ sizeLine; simp only [Array.toArray_toList]; rw [hacc.1]; exact hn))
  refine wpAny_pure ?_
  have e : acc.toList.toArray = acc := by simp
  rw [e]
  exact h h' tk acc hk hacc
theorem crTupleRt {it l : Addr} {items : Array Value} {Q : Value → Shared → Prop} (hh : A.handled = none) (hit : IsRt s.heap it l ((items.size : Int) - 1)) (hl : IsTup s.heap l items) (hne : l ≠ it) (hn : items.size ≤ sizeLine)
    (hQ : ∀ (h' : Heap) (tk : Nat) (acc : Array Value), (∀ b o, b ≠ it → s.heap.get? b = some o → h'.get? b = some o) → ItemsOf (fun i v => items[items.size - 1 - i]? = some v) acc items.size →
      Q (.ref h'.objs.size) { s with heap := h'.push { cls := .type "tuple", data := .seq acc }, toks := tk }) :
    wpAny (model prog w) A (call (.type "tuple") [.ref it]) Q E s := by
  refine callType_codes (Q₁ := fun obj s₁ => s₁.TypeIs obj "tuple" ∧ Q obj s₁) F.called_tuple (F.typeCall_tuple_1 _) F.entry_object_init
    (crNewRt (A := A.in1) hh hit hl hne hn fun h' tk acc hk hacc => ⟨⟨_, Heap.get?_push_size _ rfl, rfl⟩, hQ h' tk acc hk hacc⟩) fun obj s₁ h₁ => ?_
  exact ⟨h₁.1, F.args_object_init_2 obj _, object_init_meets F.called_tuple.init.lookup F.called_tuple.made (by decide) prog w A.in1 _ s₁ ⟨h₁.1, rfl, h₁.2⟩⟩
end
end RT
namespace Cr
open PySem PySem.Spec PyProof.Rows L2
def tTupRevA (K : PySem.W.Frag) (te : TE) : TE := fun σ H Q => te σ H fun v H1 => ∃ (a : Addr) (xs : List V), v = .ref a ∧ (SqL K H1 a xs ∨ SqT K H1 a xs) ∧ ∀ q o, o.dict = none → H1 q = none → Q (.ref q) (upd H1 q (.frz o (.tup xs.reverse)))
section
variable {X : Cx} {w : Wx} {e : Expr} {te : TE} {fe : EE} {p p2 pos pos2 : Pos}
theorem pe_tupRevA (hc : X.calm = true) (hg : Gl X "tuple") (hm : X.mg "tuple" = none) (hg2 : Gl X "reversed") (hm2 : X.mg "reversed" = none) (he : PE X e te)
    (hs : starEach [e] X.env = (false, eval e X.env) :: starEach [] X.env := by rfl)
    (hs2 : starEach [.Call (.Name "reversed" p2) [e] [] pos2] X.env = (false, eval (.Call (.Name "reversed" p2) [e] [] pos2) X.env) :: starEach [] X.env := by rfl) :
    PE X (.Call (.Name "tuple" p) [.Call (.Name "reversed" p2) [e] [] pos2] [] pos) (tTupRevA X.K te) := by
  refine ⟨fun pins s σ H Q I h => ?_⟩
  refine Call_ (ld_blt I hg hm boot_tuple (PyProof.Rows.callWith_type1 (args_cons (Call_ (ld_blt I hg2 hm2 PyProof.Rows.boot_reversed (PyProof.Rows.callWith_type1 (args_cons (thn (he.run pins s σ H _ I h) fun u s1 ⟨v, H1, I1, r1, q1⟩ => args_nil ?_) hs) hs rfl))) hs2) hs2 rfl))
  obtain ⟨a, xs, ev, hq, q⟩ := q1
  subst ev
  obtain rfl : u = Value.ref a := r1
  rcases hq with hq | hq
  · obtain ⟨its, rv, p', hz⟩ := I1.list hq
    refine call_reversed_list p'.isList (args_nil ?_)
    have k0 : ∀ b o, s1.heap.get? b = some o → (s1.heap.push (revObj a ((its.toArray.size : Int) - 1))).get? b = some o := fun b o e => Heap.get?_push_of_some _ e
    have I2 : Inv X pins σ H1 { s1 with heap := s1.heap.push (revObj a ((its.toArray.size : Int) - 1)) } := I1.kept (t' := s1.toks) k0
    obtain ⟨f0, f1, f2, f3, f4, f5⟩ := I1.fpOk (H' := H1) (b := s1.heap.objs.size) (Nat.le_refl _) (I1.hok.fresh (Nat.le_refl _))
    have hl := p'.isList
    obtain ⟨ol, hol, _⟩ := id hl
    have hne : a ≠ s1.heap.objs.size := Nat.ne_of_lt (Heap.lt_size hol)
    have hn : its.toArray.size ≤ sizeLine := by rw [List.size_toArray, ← rv.length]; exact hz
    refine RT.call_tuple_rev (s := { s1 with heap := s1.heap.push (revObj a ((its.toArray.size : Int) - 1)) }) (I1.ok.hd hc) ⟨_, Heap.get?_push_size _ rfl, rfl, rfl⟩ (hl.push _) hne hn fun h' tk acc hk hi => ?_
    have I3 : Inv X pins σ H1 { s1 with heap := h', toks := tk } := I2.turned (t' := tk) (fun b o hb e => hk b o hb e) f0 f1 f3 f4 f5
    refine ⟨.ref h'.objs.size, upd H1 h'.objs.size (.frz { cls := .type "tuple", data := .seq acc } (.tup xs.reverse)), I3.laid (t' := tk) (fun c o e => Heap.get?_push_of_some _ e) (Nat.le_refl _) (show ObjOk X.prog X.w _ _ _ (.frz _ (.tup xs.reverse)) from ⟨Heap.get?_push_size _ rfl, by rw [List.length_reverse]; exact hz, acc.toList, RT.vals_rev rv hi, ?_⟩), rfl, q _ _ rfl (I3.hok.fresh (Nat.le_refl _))⟩
    rw [Array.toArray_toList]
    exact IsTup.new _ _
  · obtain ⟨its, rv, p', hz⟩ := I1.tuple hq
    have hl := rv.length
    have hn := line63
    refine RT.call_reversed_tup p' (fun A E Q k => len_tuple p' (by simp only [List.size_toArray] <;> omega) k) (args_nil ?_)
    have k0 : ∀ b o, s1.heap.get? b = some o → (s1.heap.push (RT.rtObj a ((its.toArray.size : Int) - 1))).get? b = some o := fun b o e => Heap.get?_push_of_some _ e
    have I2 : Inv X pins σ H1 { s1 with heap := s1.heap.push (RT.rtObj a ((its.toArray.size : Int) - 1)), toks := s1.toks + 1 + 1 } := I1.kept (t' := s1.toks + 1 + 1) k0
    obtain ⟨f0, f1, f2, f3, f4, f5⟩ := I1.fpOk (H' := H1) (b := s1.heap.objs.size) (Nat.le_refl _) (I1.hok.fresh (Nat.le_refl _))
    obtain ⟨ol, hol, _⟩ := id p'
    have hne : a ≠ s1.heap.objs.size := Nat.ne_of_lt (Heap.lt_size hol)
    have hn2 : its.toArray.size ≤ sizeLine := by rw [List.size_toArray, ← rv.length]; exact hz
    refine RT.crTupleRt (s := { s1 with heap := s1.heap.push (RT.rtObj a ((its.toArray.size : Int) - 1)), toks := s1.toks + 1 + 1 }) (I1.ok.hd hc) ⟨_, Heap.get?_push_size _ rfl, rfl, rfl⟩ (RT.crTupAt p' fun o e => k0 _ o e) hne hn2 fun h' tk acc hk hi => ?_
    have I3 : Inv X pins σ H1 { s1 with heap := h', toks := tk } := I2.turned (t' := tk) (fun b o hb e => hk b o hb e) f0 f1 f3 f4 f5
    refine ⟨.ref h'.objs.size, upd H1 h'.objs.size (.frz { cls := .type "tuple", data := .seq acc } (.tup xs.reverse)), I3.laid (t' := tk) (fun c o e => Heap.get?_push_of_some _ e) (Nat.le_refl _) (show ObjOk X.prog X.w _ _ _ (.frz _ (.tup xs.reverse)) from ⟨Heap.get?_push_size _ rfl, by rw [List.length_reverse]; exact hz, acc.toList, RT.vals_rev rv hi, ?_⟩), rfl, q _ _ rfl (I3.hok.fresh (Nat.le_refl _))⟩
    rw [Array.toArray_toList]
    exact IsTup.new _ _
/-- tuple(reversed(x)) -/
@[simp] def eTupRev (f : EE) : EE := fun ρ P E => f ρ (fun x => match seqy x with | some xs => P (.val (.tuple xs.reverse)) | none => False) E
theorem de_tupRev (hc : X.calm = true) (hg : Gl X "tuple") (hm : X.mg "tuple" = none) (hg2 : Gl X "reversed") (hm2 : X.mg "reversed" = none) (he : DE X w e fe)
    (hs : starEach [e] X.env = (false, eval e X.env) :: starEach [] X.env := by rfl)
    (hs2 : starEach [.Call (.Name "reversed" p2) [e] [] pos2] X.env = (false, eval (.Call (.Name "reversed" p2) [e] [] pos2) X.env) :: starEach [] X.env := by rfl) :
    DE X w (.Call (.Name "tuple" p) [.Call (.Name "reversed" p2) [e] [] pos2] [] pos) (eTupRev fe) :=
  (pe_tupRevA hc hg hm hg2 hm2 he hs hs2).imp fun σ H Q ⟨H0, ρ, P, E, F, hf, hP, hE⟩ => ⟨H0, ρ, _, E, F, hf, fun x px v H1 s1 r1 => by
    cases el : seqy x with
    | none => rw [el] at px; exact px.elim
    | some xs =>
      rw [el] at px
      obtain ⟨a, us, rfl, hs, rr⟩ := seqy_ok el r1
      refine ⟨a, us, rfl, hs, fun l o zo nl => ?_⟩
      have s := (Same.refl H1).upd_new (o := .frz o (.tup us.reverse)) nl
      exact hP _ px _ _ (s1.trans s) (.tup upd_same zo ((rr.reverse).fx s.fx)), hE⟩
end
end Cr
set_option maxHeartbeats 4000000
namespace Cr
/-! rows of places: links, rings, turns -/
def tieOf (a b : Int) : Int × Int := (min a b, max a b)
theorem tieOf_comm (a b : Int) : tieOf a b = tieOf b a := by unfold tieOf; rw [Int.min_comm, Int.max_comm]
theorem tieOf_eq {a b c d : Int} : tieOf a b = tieOf c d ↔ (a = c ∧ b = d) ∨ (a = d ∧ b = c) := by
  unfold tieOf
  constructor
  · intro h
    have h1 := congrArg Prod.fst h
    have h2 := congrArg Prod.snd h
    simp only at h1 h2
    omega
  · rintro (⟨rfl, rfl⟩ | ⟨rfl, rfl⟩)
    · rfl
    · exact tieOf_comm _ _
def links : List Int → List (Int × Int)
  | a :: b :: r => tieOf a b :: links (b :: r)
  | _ => []
@[simp] theorem links_nil : links [] = [] := rfl
@[simp] theorem links_one (a : Int) : links [a] = [] := rfl
@[simp] theorem links_cc (a b : Int) (r : List Int) : links (a :: b :: r) = tieOf a b :: links (b :: r) := rfl
/-- the ties where one row ends and the next one begins -/
def joint (xs ys : List Int) : List (Int × Int) := match xs.getLast?, ys.head? with
  | some a, some b => [tieOf a b]
  | _, _ => []
@[simp] theorem joint_nil (ys : List Int) : joint [] ys = [] := by simp [joint]
@[simp] theorem joint_nil' (xs : List Int) : joint xs [] = [] := by unfold joint; cases xs.getLast? <;> rfl
@[simp] theorem joint_snoc (xs ys : List Int) (a b : Int) : joint (xs ++ [a]) (b :: ys) = [tieOf a b] := by simp [joint]
theorem joint_cons (x : Int) (xs ys : List Int) (h : xs ≠ []) : joint (x :: xs) ys = joint xs ys := by
  unfold joint
  rw [List.getLast?_cons]
  cases e : xs.getLast? with
  | none => exact absurd (List.getLast?_eq_none_iff.mp e) h
  | some z => rfl
theorem links_app : ∀ xs ys : List Int, links (xs ++ ys) = links xs ++ joint xs ys ++ links ys
  | [], ys => by simp
  | [a], [] => by simp
  | [a], b :: ys => by simp [joint]
  | a :: b :: r, ys => by
    have ih := links_app (b :: r) ys
    rw [List.cons_append, List.cons_append, links_cc, links_cc, joint_cons a (b :: r) ys (by simp)]
    rw [List.cons_append] at ih
    rw [ih]
    simp
theorem joint_rev (xs ys : List Int) : joint ys.reverse xs.reverse = joint xs ys := by
  unfold joint
  rw [List.getLast?_reverse, List.head?_reverse]
  cases xs.getLast? <;> cases ys.head? <;> simp [tieOf_comm]
theorem links_rev : ∀ xs : List Int, links xs.reverse = (links xs).reverse
  | [] => rfl
  | [a] => rfl
  | a :: b :: r => by
    have ih := links_rev (b :: r)
    rw [List.reverse_cons, links_app, ih, links_cc, List.reverse_cons]
    simp [joint, tieOf_comm]
/-- a ring's ties -/
def rties (ps : List Int) : List (Int × Int) := joint ps ps ++ links ps
@[simp] theorem rties_nil : rties [] = [] := rfl
theorem rties_cons (a : Int) (r : List Int) : rties (a :: r) = tieOf ((a :: r).getLast (by simp)) a :: links (a :: r) := by
  unfold rties joint
  rw [List.getLast?_eq_some_getLast (by simp)]
  simp
theorem rties_app {a b : List Int} (ha : a ≠ []) (hb : b ≠ []) : rties (a ++ b) = joint b a ++ (links a ++ joint a b ++ links b) := by
  unfold rties
  rw [links_app]
  congr 1
  unfold joint
  rw [List.getLast?_append, List.head?_append]
  cases e : b.getLast? with
  | none => exact absurd (List.getLast?_eq_none_iff.mp e) hb
  | some z =>
    cases e2 : a.head? with
    | none => exact absurd (List.head?_eq_none_iff.mp e2) ha
    | some y => rfl
def Rot (xs ys : List Int) : Prop := ∃ a b, xs = a ++ b ∧ ys = b ++ a
theorem Rot.refl (xs : List Int) : Rot xs xs := ⟨[], xs, rfl, by simp⟩
theorem Rot.symm {xs ys : List Int} (h : Rot xs ys) : Rot ys xs := by obtain ⟨a, b, h1, h2⟩ := h; exact ⟨b, a, h2, h1⟩
theorem Rot.trans {xs ys zs : List Int} (h : Rot xs ys) (g : Rot ys zs) : Rot xs zs := by
  obtain ⟨a, b, rfl, rfl⟩ := h
  obtain ⟨c, d, e, rfl⟩ := g
  rcases List.append_eq_append_iff.mp e with ⟨e', rfl, rfl⟩ | ⟨e', rfl, rfl⟩
  · exact ⟨e', d ++ b, by simp, by simp⟩
  · exact ⟨a ++ c, e', by simp, by simp⟩
theorem Rot.rev {xs ys : List Int} (h : Rot xs ys) : Rot xs.reverse ys.reverse := by
  obtain ⟨a, b, rfl, rfl⟩ := h
  exact ⟨b.reverse, a.reverse, by simp, by simp⟩
theorem Rot.perm {xs ys : List Int} (h : Rot xs ys) : xs.Perm ys := by
  obtain ⟨a, b, rfl, rfl⟩ := h
  exact List.perm_append_comm
theorem Rot.nil {xs ys : List Int} (h : Rot xs ys) : xs = [] ↔ ys = [] := by
  obtain ⟨a, b, rfl, rfl⟩ := h
  simp [and_comm]
theorem Rot.ties {xs ys : List Int} (h : Rot xs ys) : (rties xs).Perm (rties ys) := by
  obtain ⟨a, b, rfl, rfl⟩ := h
  by_cases ha : a = []
  · subst ha; simp
  by_cases hb : b = []
  · subst hb; simp
  rw [rties_app ha hb, rties_app hb ha]
  have h1 : (joint b a ++ (links a ++ joint a b ++ links b)).Perm (joint a b ++ (joint b a ++ (links a ++ links b))) := by
    refine (List.Perm.append_left _ ((List.perm_append_comm (l₁ := links a) (l₂ := joint a b)).append_right _)).trans ?_
    simp only [List.append_assoc]
    exact (List.append_assoc .. ▸ List.append_assoc .. ▸ (List.perm_append_comm (l₁ := joint b a) (l₂ := joint a b)).append_right (links a ++ links b) : (joint b a ++ (joint a b ++ (links a ++ links b))).Perm _)
  refine h1.trans ?_
  refine List.Perm.append_left _ ?_
  refine (List.Perm.append_left _ List.perm_append_comm).trans ?_
  rw [← List.append_assoc]
  exact List.perm_append_comm.append_right _
theorem rties_rev (xs : List Int) : (rties xs.reverse).Perm (rties xs) := by
  unfold rties
  rw [joint_rev, links_rev]
  exact List.Perm.append_left _ (List.reverse_perm _)
def Turn (xs ys : List Int) : Prop := Rot xs ys ∨ Rot xs.reverse ys
theorem Turn.refl (xs : List Int) : Turn xs xs := .inl (.refl xs)
theorem Turn.symm {xs ys : List Int} (h : Turn xs ys) : Turn ys xs := by
  rcases h with h | h
  · exact .inl h.symm
  · refine .inr ?_
    have := h.rev.symm
    rwa [List.reverse_reverse] at this
theorem Turn.trans {xs ys zs : List Int} (h : Turn xs ys) (g : Turn ys zs) : Turn xs zs := by
  rcases h with h | h <;> rcases g with g | g
  · exact .inl (h.trans g)
  · exact .inr (h.rev.trans g)
  · exact .inr (h.trans g)
  · refine .inl ?_
    have := h.rev.trans g
    rwa [List.reverse_reverse] at this
theorem Turn.ofRev (xs : List Int) : Turn xs xs.reverse := .inr (.refl _)
theorem Turn.perm {xs ys : List Int} (h : Turn xs ys) : xs.Perm ys := by
  rcases h with h | h
  · exact h.perm
  · exact (List.reverse_perm xs).symm.trans h.perm
theorem Turn.ties {xs ys : List Int} (h : Turn xs ys) : (rties xs).Perm (rties ys) := by
  rcases h with h | h
  · exact h.ties
  · exact (rties_rev xs).symm.trans h.ties

/-- a ring told: its least place first, then the lesser one beside it -/
def minL (ps : List Int) : Int := match ps with | [] => 0 | a :: r => r.foldl min a
theorem minL_is : ∀ (r : List Int) (a : Int), r.foldl min a ∈ a :: r ∧ ∀ y ∈ a :: r, r.foldl min a ≤ y
  | [], a => by simp
  | z :: r, a => by
    rw [List.foldl_cons]
    obtain ⟨h1, h2⟩ := minL_is r (min a z)
    have hm := h2 (min a z) (List.mem_cons_self ..)
    refine ⟨?_, fun y hy => ?_⟩
    · rcases List.mem_cons.mp h1 with e | e
      · rw [e]
        rcases Int.le_total a z with h | h
        · rw [Int.min_eq_left h]; simp
        · rw [Int.min_eq_right h]; simp
      · exact List.mem_cons_of_mem _ (List.mem_cons_of_mem _ e)
    · rcases List.mem_cons.mp hy with rfl | hy
      · omega
      · rcases List.mem_cons.mp hy with rfl | hy
        · omega
        · exact h2 y (List.mem_cons_of_mem _ hy)
theorem minL_mem {ps : List Int} (h : ps ≠ []) : minL ps ∈ ps ∧ ∀ y ∈ ps, minL ps ≤ y := by
  cases ps with
  | nil => exact absurd rfl h
  | cons a r => exact minL_is r a
theorem minL_eq {ps : List Int} {m : Int} (h1 : m ∈ ps) (h2 : ∀ y ∈ ps, m ≤ y) : minL ps = m := by
  obtain ⟨a, b⟩ := minL_mem (List.ne_nil_of_mem h1)
  have := b m h1
  have := h2 _ a
  omega
/-- begun at a place -/
def rotAt (ps : List Int) (m : Int) : List Int := ps.drop (ps.idxOf m) ++ ps.take (ps.idxOf m)
theorem rotAt_rot (ps : List Int) (m : Int) : Rot ps (rotAt ps m) := ⟨ps.take (ps.idxOf m), ps.drop (ps.idxOf m), by simp, rfl⟩
theorem rotAt_head {ps : List Int} {m : Int} (h : m ∈ ps) : (rotAt ps m).head? = some m := by
  unfold rotAt
  have hl := List.idxOf_lt_length_iff.mpr h
  rw [List.head?_append, List.head?_drop, List.getElem?_eq_getElem hl]
  simp
def flip1 : List Int → List Int
  | [] => []
  | a :: r => a :: r.reverse
def goesDown (ps : List Int) : Bool := match ps with
  | _ :: b :: r => decide ((b :: r).getLast (by simp) < b)
  | _ => false
def toldAt (m : Int) (ps : List Int) : List Int := if goesDown (rotAt ps m) then flip1 (rotAt ps m) else rotAt ps m
def told (ps : List Int) : List Int := toldAt (minL ps) ps
theorem flip1_turn (ps : List Int) : Turn ps (flip1 ps) := by
  cases ps with
  | nil => exact .refl _
  | cons a r => exact .inr ⟨r.reverse, [a], by simp, by simp [flip1]⟩
theorem toldAt_turn (m : Int) (ps : List Int) : Turn ps (toldAt m ps) := by
  unfold toldAt
  split
  · exact Turn.trans (.inl (rotAt_rot _ _)) (flip1_turn _)
  · exact .inl (rotAt_rot _ _)
theorem told_turn (ps : List Int) : Turn ps (told ps) := toldAt_turn _ _
/-- told already -/
structure Canon (ps : List Int) : Prop where
  nd : ps.Nodup
  len : 3 ≤ ps.length
  low : ∀ y ∈ ps, ps.head? = some y ∨ ∃ x, ps.head? = some x ∧ x ≤ y
  up : goesDown ps = false
theorem told_canon {ps : List Int} (hn : ps.Nodup) (hl : 3 ≤ ps.length) : Canon (told ps) := by
  have hne : ps ≠ [] := by intro e; subst e; simp at hl
  obtain ⟨hm, hle⟩ := minL_mem hne
  have hp := (told_turn ps).perm
  refine ⟨hp.nodup hn, by rw [← hp.length_eq]; exact hl, fun y hy => ?_, ?_⟩
  · have hh : (told ps).head? = some (minL ps) := by
      unfold told toldAt
      have := rotAt_head hm
      split
      · cases e : rotAt ps (minL ps) with
        | nil => rw [e] at this; cases this
        | cons a r => rw [e] at this; simpa [flip1] using this
      · exact this
    exact .inr ⟨_, hh, hle y (hp.mem_iff.mpr hy)⟩
  · have hr := (rotAt_rot ps (minL ps)).perm
    have hn' := hr.nodup hn
    have hl' := hr.length_eq
    unfold told toldAt
    generalize rotAt ps (minL ps) = qs at *
    split
    · rename_i h
      match qs, h with
      | a :: b :: [], h => simp at hl'; omega
      | a :: b :: c :: r, h =>
        unfold goesDown at h
        simp only [decide_eq_true_eq] at h
        have e : flip1 (a :: b :: c :: r) = a :: (b :: c :: r).reverse := rfl
        rw [e]
        cases e2 : (b :: c :: r).reverse with
        | nil => simp at e2
        | cons x s =>
          unfold goesDown
          rw [decide_eq_false_iff_not]
          have hx : x = (b :: c :: r).getLast (by simp) := by
            have := congrArg List.head? e2
            rw [List.head?_reverse, List.getLast?_eq_some_getLast (by simp)] at this
            simpa using this.symm
          have hb : (x :: s).getLast (by simp) = b := by
            have := congrArg List.getLast? e2
            rw [List.getLast?_reverse, List.getLast?_eq_some_getLast (by simp)] at this
            simpa using this.symm
          rw [hb, hx]
          omega
    · rename_i h
      simpa using h
theorem Canon.head {ps : List Int} (h : Canon ps) : ps.head? = some (minL ps) := by
  have := h.len
  match ps, h with
  | [], h => simp at this
  | a :: r, h =>
    have : minL (a :: r) = a := minL_eq (List.mem_cons_self ..) fun y hy => by
      rcases h.low y hy with e | ⟨x, e, l⟩
      · simp at e; omega
      · simp at e; omega
    rw [this]; rfl
theorem rot_head {xs ys : List Int} (hn : xs.Nodup) (h : Rot xs ys) (he : xs.head? = ys.head?) : xs = ys := by
  obtain ⟨a, b, rfl, rfl⟩ := h
  cases a with
  | nil => simp
  | cons x a =>
    cases b with
    | nil => simp
    | cons y b =>
      simp at he
      subst he
      simp at hn
theorem minL_perm {xs ys : List Int} (h : xs.Perm ys) : minL xs = minL ys := by
  by_cases hx : xs = []
  · subst hx
    rw [List.nil_perm.mp h]
  · have hy : ys ≠ [] := fun e => hx (by subst e; exact List.perm_nil.mp h)
    obtain ⟨a, b⟩ := minL_mem hy
    exact minL_eq (h.mem_iff.mpr a) fun z hz => b z (h.mem_iff.mp hz)
theorem canon_uniq {xs ys : List Int} (hx : Canon xs) (hy : Canon ys) (h : Turn xs ys) : xs = ys := by
  have hm := minL_perm h.perm
  have h1 := hx.head
  have h2 := hy.head
  rw [← hm, ← h1] at h2
  rcases h with h | h
  · exact rot_head hx.nd h h2.symm
  · -- a turn about
    exfalso
    have hl := hx.len
    match xs, hx with
    | [], hx => simp at hl
    | [a], hx => simp at hl
    | [a, b], hx => simp at hl
    | a :: b :: c :: r, hx =>
      have hrot : Rot (flip1 (a :: b :: c :: r)) ys := by
        have r1 : Rot (flip1 (a :: b :: c :: r)) (a :: b :: c :: r).reverse := ⟨[a], (b :: c :: r).reverse, by simp [flip1], by simp⟩
        exact r1.trans h
      have hn : (flip1 (a :: b :: c :: r)).Nodup := by
        have : (a :: b :: c :: r).Perm (flip1 (a :: b :: c :: r)) := by
          unfold flip1
          exact List.Perm.cons _ (List.reverse_perm _).symm
        exact this.nodup hx.nd
      have e := rot_head hn hrot (by rw [h2]; rfl)
      have u1 := hx.up
      have u2 := hy.up
      rw [← e] at u2
      have e1 : flip1 (a :: b :: c :: r) = a :: (b :: c :: r).reverse := rfl
      rw [e1] at u2
      cases e2 : (b :: c :: r).reverse with
      | nil => simp at e2
      | cons x s =>
        rw [e2] at u2
        unfold goesDown at u1 u2
        rw [decide_eq_false_iff_not] at u1 u2
        have hx' : x = (b :: c :: r).getLast (by simp) := by
          have := congrArg List.head? e2
          rw [List.head?_reverse, List.getLast?_eq_some_getLast (by simp)] at this
          simpa using this.symm
        have hb : (x :: s).getLast (by simp) = b := by
          have := congrArg List.getLast? e2
          rw [List.getLast?_reverse, List.getLast?_eq_some_getLast (by simp)] at this
          simpa using this.symm
        rw [hb, hx'] at u2
        have hne : (b :: c :: r).getLast (by simp) ≠ b := fun e => by
          have hnd := (List.nodup_cons.mp hx.nd).2
          have : b ∈ c :: r := by
            have q := List.getLast_mem (l := c :: r) (by simp)
            rw [List.getLast_cons (by simp)] at e
            rw [e] at q
            exact q
          exact (List.nodup_cons.mp hnd).1 this
        omega
theorem told_of_turn {xs ys : List Int} (hn : xs.Nodup) (hl : 3 ≤ xs.length) (h : Turn xs ys) : told xs = told ys :=
  canon_uniq (told_canon hn hl) (told_canon (h.perm.nodup hn) (by rw [← h.perm.length_eq]; exact hl)) ((told_turn xs).symm.trans (h.trans (told_turn ys)))
theorem told_told {xs : List Int} (hn : xs.Nodup) (hl : 3 ≤ xs.length) : told (told xs) = told xs := (told_of_turn hn hl (told_turn xs)).symm
end Cr
set_option maxHeartbeats 4000000
/-! Fw23: rows of things that are places, ways, rings -/
namespace Cr
open PySem PySem.Spec PyProof.Rows L2
def asInts : List PD → Option (List Int)
  | [] => some []
  | .int i :: r => match asInts r with | some l => some (i :: l) | none => none
  | _ :: _ => none
theorem asInts_some : ∀ {xs : List PD} {ps : List Int}, asInts xs = some ps → xs = ps.map .int
  | [], ps, h => by cases h; rfl
  | .int i :: r, ps, h => by
    unfold asInts at h
    split at h
    · rename_i l e
      cases h
      rw [asInts_some e]; rfl
    · cases h
  | .none :: r, ps, h => by cases h
  | .bool _ :: r, ps, h => by cases h
  | .str _ :: r, ps, h => by cases h
  | .tuple _ :: r, ps, h => by cases h
  | .list _ :: r, ps, h => by cases h
  | .dict _ :: r, ps, h => by cases h
@[simp] theorem asInts_map : ∀ ps : List Int, asInts (ps.map .int) = some ps
  | [] => rfl
  | p :: ps => by rw [List.map_cons, asInts, asInts_map ps]
theorem asInts_app : ∀ (xs ys : List PD), asInts (xs ++ ys) = (match asInts xs, asInts ys with | some a, some b => some (a ++ b) | _, _ => none)
  | [], ys => by simp [asInts]; cases asInts ys <;> rfl
  | .int i :: r, ys => by
    rw [List.cons_append, asInts, asInts_app r ys, asInts]
    cases asInts r <;> cases asInts ys <;> rfl
  | .none :: r, ys => by simp [asInts]
  | .bool _ :: r, ys => by simp [asInts]
  | .str _ :: r, ys => by simp [asInts]
  | .tuple _ :: r, ys => by simp [asInts]
  | .list _ :: r, ys => by simp [asInts]
  | .dict _ :: r, ys => by simp [asInts]
theorem asInts_none {xs : List PD} {x : PD} (hx : x ∈ xs) (h : isIntD x = false) : asInts xs = none := by
  cases e : asInts xs with
  | none => rfl
  | some ps =>
    rw [asInts_some e] at hx
    obtain ⟨i, _, rfl⟩ := List.mem_map.mp hx
    cases h
/-- unlike places of a web -/
def plOk (n : Int) (ps : List Int) : Prop := ps.Nodup ∧ ∀ p ∈ ps, 0 ≤ p ∧ p < n
instance (n : Int) (ps : List Int) : Decidable (plOk n ps) := inferInstanceAs (Decidable (_ ∧ _))
theorem plOk.len {n : Int} {ps : List Int} (h : plOk n ps) : ps.length ≤ n.toNat := by
  have := List.Nodup.length_le_of_subset h.1 (l₂ := up 0 n.toNat) fun p hp => mem_up.mpr (by have := h.2 p hp; omega)
  rwa [up_length] at this
def placesOf (n : Int) : PD → Option (List Int)
  | .tuple xs => match asInts xs with
    | some ps => if plOk n ps then some ps else none
    | none => none
  | _ => none
theorem placesOf_some {n : Int} {d : PD} {ps : List Int} (h : placesOf n d = some ps) : d = .tuple (ps.map .int) ∧ plOk n ps := by
  unfold placesOf at h
  split at h
  · rename_i xs
    split at h
    · rename_i qs e
      split at h
      · cases h
        rw [asInts_some e]
        exact ⟨rfl, by assumption⟩
      · cases h
    · cases h
  · cases h
theorem placesOf_ok {n : Int} {ps : List Int} (h : plOk n ps) : placesOf n (.tuple (ps.map .int)) = some ps := by simp [placesOf, h]
theorem placesOf_map (n : Int) (ps : List Int) : placesOf n (.tuple (ps.map .int)) = if plOk n ps then some ps else none := by simp [placesOf]
def wayB (W : Wb) : List Int → Bool
  | a :: b :: r => decide (adj W a b) && wayB W (b :: r)
  | _ => true
def isWayD (W : Wb) (k : Nat) (d : PD) : Bool := match placesOf W.n d with
  | some ps => decide (k ≤ ps.length) && wayB W ps
  | none => false
def endsB (W : Wb) (ps : List Int) : Bool := match ps.head?, ps.getLast? with
  | some a, some b => decide (adj W a b)
  | _, _ => false
def isRingD (W : Wb) (d : PD) : Bool := match placesOf W.n d with
  | some ps => decide (3 ≤ ps.length) && wayB W ps && endsB W ps
  | none => false
theorem adj_tie {W : Wb} {a b : Int} : adj W a b ↔ tieOf a b ∈ W.ts := Iff.rfl
theorem wayB_iff {W : Wb} : ∀ {ps : List Int}, wayB W ps = true ↔ ∀ t ∈ links ps, t ∈ W.ts
  | [] => by simp [wayB]
  | [a] => by simp [wayB]
  | a :: b :: r => by
    rw [wayB, Bool.and_eq_true, wayB_iff (ps := b :: r), links_cc, decide_eq_true_iff, adj_tie]
    simp
theorem endsB_iff {W : Wb} {ps : List Int} (h : ps ≠ []) : endsB W ps = true ↔ ∀ t ∈ joint ps ps, t ∈ W.ts := by
  unfold endsB joint
  cases e1 : ps.head? with
  | none => exact absurd (List.head?_eq_none_iff.mp e1) h
  | some a =>
    cases e2 : ps.getLast? with
    | none => exact absurd (List.getLast?_eq_none_iff.mp e2) h
    | some b => simp [adj_tie, tieOf_comm]
/-- a ring of a web, by its ties -/
structure RingOk (W : Wb) (ps : List Int) : Prop where
  pl : plOk W.n ps
  len : 3 ≤ ps.length
  ts : ∀ t ∈ rties ps, t ∈ W.ts
theorem isRingD_iff {W : Wb} {d : PD} : isRingD W d = true ↔ ∃ ps, d = .tuple (ps.map .int) ∧ RingOk W ps := by
  unfold isRingD
  constructor
  · intro h
    split at h
    · rename_i ps e
      obtain ⟨rfl, ok⟩ := placesOf_some e
      simp only [Bool.and_eq_true, decide_eq_true_eq] at h
      obtain ⟨⟨h1, h2⟩, h3⟩ := h
      have hne : ps ≠ [] := by intro e; subst e; simp at h1
      refine ⟨ps, rfl, ok, h1, fun t ht => ?_⟩
      rcases List.mem_append.mp ht with ht | ht
      · exact (endsB_iff hne).mp h3 t ht
      · exact wayB_iff.mp h2 t ht
    · cases h
  · rintro ⟨ps, rfl, ok⟩
    have hne : ps ≠ [] := by intro e; subst e; have := ok.len; simp at this
    rw [placesOf_ok ok.pl]
    simp only [Bool.and_eq_true, decide_eq_true_eq]
    exact ⟨⟨ok.len, wayB_iff.mpr fun t ht => ok.ts t (List.mem_append_right _ ht)⟩, (endsB_iff hne).mpr fun t ht => ok.ts t (List.mem_append_left _ ht)⟩
theorem isRingD_ps {W : Wb} {ps : List Int} (h : plOk W.n ps) : isRingD W (.tuple (ps.map .int)) = (decide (3 ≤ ps.length) && wayB W ps && endsB W ps) := by
  unfold isRingD; rw [placesOf_ok h]
/-- a thing whose rows are not too long -/
def shortD : PD → Prop
  | .tuple xs => xs.length ≤ 100000
  | _ => True
theorem cpow30 : CPow 10 30 := ⟨by decide, by decide, by decide⟩
theorem wayB_take {W : Wb} {ps : List Int} {j : Nat} (h : wayB W ps = true) : wayB W (ps.take j) = true := by
  rw [wayB_iff] at h ⊢
  intro t ht
  refine h t ?_
  have := links_app (ps.take j) (ps.drop j)
  rw [List.take_append_drop] at this
  rw [this]
  simp [ht]
theorem wayB_snoc {W : Wb} : ∀ {ps : List Int} {a b : Int}, wayB W (ps ++ [a, b]) = (wayB W (ps ++ [a]) && decide (adj W a b))
  | [], a, b => by simp [wayB]
  | [c], a, b => by simp [wayB, Bool.and_assoc]
  | c :: d :: r, a, b => by
    have := wayB_snoc (W := W) (ps := d :: r) (a := a) (b := b)
    simp only [List.cons_append] at this ⊢
    rw [wayB, wayB, this, Bool.and_assoc]
end Cr
set_option maxHeartbeats 4000000
/-! Fw24: slices, comprehensions of which only a property is known -/
namespace Cr
open PySem PySem.Spec PyProof.Rows L2
@[simp] theorem cutP_map {α β : Type} (f : α → β) (xs : List α) (lo hi : Option Int) : cutP (xs.map f) lo hi = (cutP xs lo hi).map f := by
  unfold cutP
  rw [List.length_map, ← List.map_drop, ← List.map_take]
theorem cutP_to {α : Type} (xs : List α) {k : Int} (h : 0 ≤ k) : cutP xs none (some k) = xs.take k.toNat := by
  unfold cutP HT.sIx
  simp only [if_neg (show ¬ k < 0 by omega), List.drop_zero, Nat.sub_zero]
  rcases Nat.le_total k.toNat xs.length with h | h
  · rw [Nat.min_eq_left h]
  · rw [Nat.min_eq_right h, List.take_length, List.take_of_length_le h]
theorem cutP_from {α : Type} (xs : List α) {k : Int} (h : 0 ≤ k) : cutP xs (some k) none = xs.drop k.toNat := by
  unfold cutP HT.sIx
  simp only [if_neg (show ¬ k < 0 by omega)]
  rcases Nat.le_total k.toNat xs.length with h | h
  · rw [Nat.min_eq_left h, List.take_of_length_le (by rw [List.length_drop]; omega)]
  · rw [Nat.min_eq_right h, List.drop_length, List.drop_of_length_le h]; simp
theorem cutP_last {α : Type} (xs : List α) : cutP xs none (some (-1)) = xs.dropLast := by
  unfold cutP HT.sIx
  simp only [if_pos (show (-1 : Int) < 0 by decide), List.drop_zero, Nat.sub_zero]
  rw [List.dropLast_eq_take]
  congr 1; omega
theorem cutP_mid {α : Type} (xs : List α) {a b : Int} (h : 0 ≤ a) (h2 : 0 ≤ b) : cutP xs (some a) (some b) = (xs.drop a.toNat).take (b.toNat - a.toNat) := by
  unfold cutP HT.sIx
  simp only [if_neg (show ¬ a < 0 by omega), if_neg (show ¬ b < 0 by omega)]
  rcases Nat.le_total a.toNat xs.length with ha | ha
  · rcases Nat.le_total b.toNat xs.length with hb | hb
    · rw [Nat.min_eq_left ha, Nat.min_eq_left hb]
    · rw [Nat.min_eq_left ha, Nat.min_eq_right hb, List.take_of_length_le (by rw [List.length_drop]; omega), List.take_of_length_le (by rw [List.length_drop]; omega)]
  · rw [Nat.min_eq_right ha, List.drop_length, List.drop_of_length_le ha]; simp
@[simp] theorem cutP_to1 {α : Type} (xs : List α) : cutP xs none (some 1) = xs.take 1 := cutP_to xs (by decide)
@[simp] theorem cutP_from1 {α : Type} (xs : List α) : cutP xs (some 1) none = xs.drop 1 := cutP_from xs (by decide)
@[simp] theorem cutP_m1 {α : Type} (xs : List α) : cutP xs none (some (-1)) = xs.dropLast := cutP_last xs
@[simp] theorem cutP_toN {α : Type} (xs : List α) (k : Nat) : cutP xs none (some (k : Int)) = xs.take k := by rw [cutP_to xs (by omega)]; rfl
@[simp] theorem cutP_fromN {α : Type} (xs : List α) (k : Nat) : cutP xs (some (k : Int)) none = xs.drop k := by rw [cutP_from xs (by omega)]; rfl
/-- of the items only a property is known -/
theorem LcI.all {β : Type} {xs : List PD} {vs : List Nat} {t : Bd} {elt : EE} {ρ : En} {P : D → Prop} (f : β → PD) (φ : Nat → β → Prop)
    (hs : ∀ i x, xs[i]? = some x → ∀ (Q : PD → Prop), (∀ b, φ i b → Q (f b)) → t x (wipeD ρ vs) fun ρ' => elt ρ' (fun y => match y with | .val z => Q z | _ => False) (fun _ => False))
    (he : ∀ bs : List β, bs.length = xs.length → (∀ i b, bs[i]? = some b → φ i b) → P (.new (bs.map f))) : LcI xs vs t tTrue elt ρ P := by
  refine ⟨fun i acc => ∃ bs : List β, acc = bs.map f ∧ bs.length = i ∧ ∀ j b, bs[j]? = some b → φ j b, ⟨[], rfl, rfl, fun j b e => by simp at e⟩, ?_, ?_⟩
  · rintro i x acc e _ ⟨bs, rfl, hl, hb⟩
    refine hs i x e (fun z => ∃ bs' : List β, bs.map f ++ [z] = bs'.map f ∧ bs'.length = i + 1 ∧ ∀ j b, bs'[j]? = some b → φ j b) fun b hφ => ?_
    refine ⟨bs ++ [b], by simp, by simp [hl], fun j c ec => ?_⟩
    rw [List.getElem?_append] at ec
    split at ec
    · exact hb j c ec
    · rename_i hj
      have : j = i := by
        have := (List.getElem?_eq_some_iff.mp ec).1
        simp at this; omega
      subst this
      rw [hl, Nat.sub_self] at ec
      simp at ec
      subst ec
      exact hφ
  · rintro acc _ ⟨bs, rfl, hl, hb⟩
    exact he bs hl hb
theorem LcI.allR {β : Type} {lo : Int} {n : Nat} {vs : List Nat} {t : Bd} {elt : EE} {ρ : En} {P : D → Prop} (f : β → PD) (φ : Nat → β → Prop)
    (hs : ∀ i : Nat, i < n → ∀ (Q : PD → Prop), (∀ b, φ i b → Q (f b)) → t (.int (lo + i)) (wipeD ρ vs) fun ρ' => elt ρ' (fun y => match y with | .val z => Q z | _ => False) (fun _ => False))
    (he : ∀ bs : List β, bs.length = n → (∀ i b, bs[i]? = some b → φ i b) → P (.new (bs.map f))) : LcI (Cr.rng lo n) vs t tTrue elt ρ P := by
  refine LcI.all (xs := Cr.rng lo n) f φ (fun i x e Q q => ?_) fun bs hl hb => he bs (by rw [hl]; exact rng_len ..) hb
  have hi : i < n := by
    have := (List.getElem?_eq_some_iff.mp e).1
    rwa [rng_len] at this
  rw [rng_get hi] at e
  cases e
  exact hs i hi Q q
/-- with a test -/
theorem LcI.sub {β : Type} {xs : List PD} {vs : List Nat} {t : Bd} {cond : ET} {elt : EE} {ρ : En} {P : D → Prop} (f : β → PD) (φ : β → Prop)
    (hs : ∀ (i : Nat) x, xs[i]? = some x → ∀ (Q : PD → Prop) (R : Prop), (∀ b, φ b → Q (f b)) → R → t x (wipeD ρ vs) fun ρ' => cond ρ' (fun b => if b = true then elt ρ' (fun y => match y with | .val z => Q z | _ => False) (fun _ => False) else R) fun _ => False)
    (he : ∀ bs : List β, bs.length ≤ xs.length → (∀ b ∈ bs, φ b) → P (.new (bs.map f))) : LcI xs vs t cond elt ρ P := by
  refine ⟨fun i acc => ∃ bs : List β, acc = bs.map f ∧ bs.length ≤ i ∧ ∀ b ∈ bs, φ b, ⟨[], rfl, Nat.le_refl _, fun b e => by simp at e⟩, ?_, ?_⟩
  · rintro i x acc e _ ⟨bs, rfl, hl, hb⟩
    refine hs i x e (fun z => ∃ bs' : List β, bs.map f ++ [z] = bs'.map f ∧ bs'.length ≤ i + 1 ∧ ∀ b ∈ bs', φ b) _ (fun b hφ => ?_) ⟨bs, rfl, by omega, hb⟩
    refine ⟨bs ++ [b], by simp, by simp; omega, fun c hc => ?_⟩
    rcases List.mem_append.mp hc with hc | hc
    · exact hb c hc
    · simp at hc; subst hc; exact hφ
  · rintro acc _ ⟨bs, rfl, hl, hb⟩
    exact he bs hl hb
theorem LcI.subR {β : Type} {lo : Int} {n : Nat} {vs : List Nat} {t : Bd} {cond : ET} {elt : EE} {ρ : En} {P : D → Prop} (f : β → PD) (φ : β → Prop)
    (hs : ∀ i : Nat, i < n → ∀ (Q : PD → Prop) (R : Prop), (∀ b, φ b → Q (f b)) → R → t (.int (lo + i)) (wipeD ρ vs) fun ρ' => cond ρ' (fun b => if b = true then elt ρ' (fun y => match y with | .val z => Q z | _ => False) (fun _ => False) else R) fun _ => False)
    (he : ∀ bs : List β, bs.length ≤ n → (∀ b ∈ bs, φ b) → P (.new (bs.map f))) : LcI (Cr.rng lo n) vs t cond elt ρ P := by
  refine LcI.sub (xs := Cr.rng lo n) f φ (fun i x e Q R q r => ?_) fun bs hl hb => he bs (by have := rng_len lo n; unfold Cr.rng at hl this; omega) hb
  have hi : i < n := by
    have := (List.getElem?_eq_some_iff.mp e).1
    rwa [rng_len] at this
  rw [rng_get hi] at e
  cases e
  exact hs i hi Q R q r
theorem atI_lastI {qs : List Int} {b : Int} (h : qs.getLast? = some b) : atI (qs.map PyData.int) (-1) = some (.int b) := by
  obtain ⟨ys, rfl⟩ := List.getLast?_eq_some_iff.mp h
  simp
theorem atI_headI {qs : List Int} {b : Int} (h : qs.head? = some b) : atI (qs.map PyData.int) 0 = some (.int b) := by
  cases qs with
  | nil => cases h
  | cons x r => cases h; simp
theorem atI_int {qs : List Int} {b : Int} {i : Nat} (h : qs[i]? = some b) : atI (qs.map PyData.int) (i : Int) = some (.int b) := atI_at (by rw [List.getElem?_map, h]; rfl)
theorem atI_any {qs : List Int} {i : Int} (h0 : 0 ≤ i) (h : i < qs.length) : ∃ b, qs[i.toNat]? = some b ∧ atI (qs.map PyData.int) i = some (.int b) := by
  obtain ⟨b, hb⟩ : ∃ b, qs[i.toNat]? = some b := ⟨_, List.getElem?_eq_getElem (by omega)⟩
  refine ⟨b, hb, ?_⟩
  have := atI_int hb
  rwa [show ((i.toNat : Nat) : Int) = i by omega] at this
@[simp] theorem shpL_ints (xs : List Int) : SeqAt.shaped (.list (xs.map .int)) = true := shpA_ints xs
@[simp] theorem shpL_prs (xs : List (Int × Int)) : SeqAt.shaped (.list (xs.map encPr)) = true := shpA_prs xs
@[simp] theorem shpL_nil : SeqAt.shaped (.list []) = true := rfl
@[simp] theorem shpT_nil : SeqAt.shaped (.tuple []) = true := rfl
@[simp] theorem shpA_nil : shapedAll [] := rfl
@[simp] theorem eqv_lst (xs ys : List PD) : PyData.eqv (.list xs) (.list ys) = PyData.eqvAll xs ys := by simp [PyData.eqv]
@[simp] theorem eqvAll_nil' (xs : List PD) : PyData.eqvAll xs [] = decide (xs = []) := by cases xs <;> simp [PyData.eqvAll]
@[simp] theorem sh_bool (b : Bool) : (PyData.bool b).showable = true := rfl
@[simp] theorem okD_bool (b : Bool) : okD (.bool b) := ((tiny.bool b).rep (by decide) (by have := sizeLine_big; omega)).2.1
@[simp] theorem dp_bool (b : Bool) : (PyData.bool b).depth = 0 := rfl
@[simp] theorem shn_bool (b : Bool) : (PyData.bool b).shown.length ≤ sizeLine := ((tiny.bool b).rep (by decide) (by have := sizeLine_big; omega)).2.2.2
theorem emodB {n : Int} (h : 0 < n) (x : Int) : 0 ≤ x % n ∧ x % n < n := ⟨Int.emod_nonneg _ (by omega), Int.emod_lt_of_pos _ h⟩
end Cr
set_option maxHeartbeats 4000000
/-! Fw25: sorted as a function by value -/
namespace Cr
open PySem PySem.Spec PyProof.Rows L2
def srtI (ns : List Int) : List Int := ns.mergeSort fun a b => decide (a ≤ b)
def lexB (p q : Int × Int) : Bool := decide (p.1 < q.1) || (decide (p.1 = q.1) && decide (p.2 ≤ q.2))
theorem lexB_iff {p q : Int × Int} : lexB p q = true ↔ lexLe p q := by simp [lexB, lexLe]
def srtP (ps : List (Int × Int)) : List (Int × Int) := ps.mergeSort lexB
theorem srtI_perm (ns : List Int) : (srtI ns).Perm ns := List.mergeSort_perm _ _
theorem srtP_perm (ps : List (Int × Int)) : (srtP ps).Perm ps := List.mergeSort_perm _ _
@[simp] theorem srtI_len (ns : List Int) : (srtI ns).length = ns.length := (srtI_perm ns).length_eq
@[simp] theorem srtP_len (ps : List (Int × Int)) : (srtP ps).length = ps.length := (srtP_perm ps).length_eq
@[simp] theorem mem_srtI {ns : List Int} {x : Int} : x ∈ srtI ns ↔ x ∈ ns := (srtI_perm ns).mem_iff
@[simp] theorem mem_srtP {ns : List (Int × Int)} {x : Int × Int} : x ∈ srtP ns ↔ x ∈ ns := (srtP_perm ns).mem_iff
theorem srtI_le (ns : List Int) : (srtI ns).Pairwise (· ≤ ·) := by
  have := List.pairwise_mergeSort (le := fun a b : Int => decide (a ≤ b)) (fun a b c h g => by simp at *; omega) (fun a b => by simp; omega) ns
  exact this.imp fun h => by simpa using h
theorem srtP_le (ps : List (Int × Int)) : (srtP ps).Pairwise lexLe := by
  have := List.pairwise_mergeSort (le := lexB) (fun a b c h g => by
    rw [lexB_iff] at *
    unfold lexLe at *
    omega) (fun a b => by
    simp only [lexB, Bool.or_eq_true, Bool.and_eq_true, decide_eq_true_eq]
    omega) ps
  exact this.imp fun h => lexB_iff.mp h
theorem srtI_uniq {xs ys : List Int} (hp : xs.Perm ys) (hx : xs.Pairwise (· ≤ ·)) : xs = srtI ys := srt_unique' (hp.trans (srtI_perm ys).symm) hx (srtI_le ys)
theorem srtP_uniq {xs ys : List (Int × Int)} (hp : xs.Perm ys) (hx : xs.Pairwise lexLe) : xs = srtP ys := srt_uniqueP (hp.trans (srtP_perm ys).symm) hx (srtP_le ys)
theorem srtI_congr {xs ys : List Int} (hp : xs.Perm ys) : srtI xs = srtI ys := srtI_uniq ((srtI_perm xs).trans hp) (srtI_le xs)
theorem srtP_congr {xs ys : List (Int × Int)} (hp : xs.Perm ys) : srtP xs = srtP ys := srtP_uniq ((srtP_perm xs).trans hp) (srtP_le xs)
theorem srtI_id {xs : List Int} (h : xs.Pairwise (· ≤ ·)) : srtI xs = xs := (srtI_uniq (.refl _) h).symm
theorem srtP_id {xs : List (Int × Int)} (h : xs.Pairwise lexLe) : srtP xs = xs := (srtP_uniq (.refl _) h).symm
theorem srtP_lt {xs : List (Int × Int)} (h : xs.Nodup) : (srtP xs).Pairwise lexLt := by
  have h1 := srtP_le xs
  have h2 : (srtP xs).Nodup := (srtP_perm xs).symm.nodup h
  refine (h1.and h2).imp fun {p q} ⟨a, b⟩ => ?_
  unfold lexLe at a
  unfold lexLt
  have : ¬ (p.1 = q.1 ∧ p.2 = q.2) := fun h => b (Prod.ext h.1 h.2)
  omega
theorem srtI_lt {xs : List Int} (h : xs.Nodup) : (srtI xs).Pairwise (· < ·) := by
  refine ((srtI_le xs).and ((srtI_perm xs).symm.nodup h)).imp fun {p q} ⟨a, b⟩ => ?_
  have : p ≠ q := b
  omega
def asPrs : List PD → Option (List (Int × Int))
  | [] => some []
  | d :: r => match asPair d, asPrs r with
    | some p, some l => some (p :: l)
    | _, _ => none
@[simp] theorem asPrs_map : ∀ ps : List (Int × Int), asPrs (ps.map encPr) = some ps
  | [] => rfl
  | p :: ps => by rw [List.map_cons, asPrs, asPair_pr, asPrs_map ps]
theorem asPrs_some : ∀ {xs : List PD} {ps : List (Int × Int)}, asPrs xs = some ps → xs = ps.map encPr
  | [], ps, h => by cases h; rfl
  | d :: r, ps, h => by
    unfold asPrs at h
    split at h
    · rename_i p l e1 e2
      cases h
      rw [asPair_some e1, asPrs_some e2]; rfl
    · cases h
def sortD (xs : List PD) : Option (List PD) := match asInts xs with
  | some ns => some ((srtI ns).map .int)
  | none => (match asPrs xs with
    | some ps => some ((srtP ps).map encPr)
    | none => none)
@[simp] theorem sortD_ints (ns : List Int) : sortD (ns.map .int) = some ((srtI ns).map .int) := by simp [sortD]
@[simp] theorem sortD_prs (ps : List (Int × Int)) : sortD (ps.map encPr) = some ((srtP ps).map encPr) := by
  cases ps with
  | nil => simp [sortD, asInts, srtI, srtP]
  | cons p ps =>
    have : asInts ((p :: ps).map encPr) = none := rfl
    simp only [sortD, this, asPrs_map]
@[simp] theorem sortD_ints1 (ns : List Int) (a : Int) : sortD (ns.map .int ++ [.int a]) = some ((srtI (ns ++ [a])).map .int) := by
  have := sortD_ints (ns ++ [a])
  rwa [List.map_append] at this
@[simp] theorem sortD_prs1 (ps : List (Int × Int)) (p : Int × Int) : sortD (ps.map encPr ++ [encPr p]) = some ((srtP (ps ++ [p])).map encPr) := by
  have := sortD_prs (ps ++ [p])
  rwa [List.map_append] at this
@[simp] theorem sortD_prs2 (ps qs : List (Int × Int)) : sortD (ps.map encPr ++ qs.map encPr) = some ((srtP (ps ++ qs)).map encPr) := by
  have := sortD_prs (ps ++ qs)
  rwa [List.map_append] at this
@[simp] def gSrt : GC := fun ds P => match ds with
  | [x] => (match seqy x with
    | some xs => (match sortD xs with
      | some ys => P (.new ys)
      | none => False)
    | none => False)
  | _ => False
theorem k_srt {K : PySem.W.Frag} : CallK K (rSortA K) gSrt := by
  intro Hs H vs ds P Q ok h q
  refine k_sorted Hs H vs ds P Q ok ?_ q
  unfold gSrt at h
  unfold gSorted
  split at h
  · rename_i x
    cases e : seqy x with
    | none => rw [e] at h; exact h.elim
    | some xs =>
      rw [e] at h
      try dsimp only at h
      unfold sortD at h
      try dsimp only
      try simp only [e]
      cases e1 : asInts xs with
      | some ns =>
        rw [e1] at h
        refine Or.inl ⟨ns, asInts_some e1, fun ns' hp hs => ?_⟩
        rw [srtI_uniq hp hs]
        exact h
      | none =>
        rw [e1] at h
        cases e2 : asPrs xs with
        | none => rw [e2] at h; exact h.elim
        | some ps =>
          rw [e2] at h
          refine Or.inr ⟨ps, asPrs_some e2, fun ps' hp hs => ?_⟩
          rw [srtP_uniq hp hs]
          exact h
  · exact h.elim
theorem put_srt {W : Wb} (h : WebOk W) {p : Int × Int} (hn : p ∉ W.ts) : srtP (W.ts ++ [p]) = (W.put p).ts := put_sorted h hn (srtP_perm _) (srtP_le _)
end Cr
set_option maxHeartbeats 4000000
/-! Fw26: rings by their ties, as the programs make them -/
namespace Cr
open PySem PySem.Spec PyProof.Rows L2
theorem links_get : ∀ (ps : List Int) (i : Nat), (links ps)[i]? = (match ps[i]?, ps[i + 1]? with | some a, some b => some (tieOf a b) | _, _ => none)
  | [], i => by simp
  | [a], i => by cases i <;> simp
  | a :: b :: r, 0 => by simp
  | a :: b :: r, i + 1 => by
    have := links_get (b :: r) i
    rw [links_cc, List.getElem?_cons_succ, this]
    simp
/-- the item at a place, from the end for -1 -/
def itemI (ps : List Int) (k : Int) : Int := (atI ps k).getD 0
theorem atI_itemI {ps : List Int} {k : Int} (h0 : -1 ≤ k) (h1 : k < ps.length) (hp : 0 < ps.length) : atI (ps.map PyData.int) k = some (.int (itemI ps k)) := by
  by_cases hk : 0 ≤ k
  · obtain ⟨b, hb, ab⟩ := atI_any hk h1
    have : atI ps k = some b := by
      have := atI_at (xs := ps) (n := k.toNat) hb
      rwa [show ((k.toNat : Nat) : Int) = k by omega] at this
    unfold itemI
    rw [ab, this]; rfl
  · obtain rfl : k = -1 := by omega
    have hne : ps ≠ [] := List.length_pos_iff.mp hp
    have hl := List.getLast?_eq_some_getLast hne
    have : atI ps (-1) = some (ps.getLast hne) := by
      obtain ⟨ys, e⟩ := List.getLast?_eq_some_iff.mp hl
      generalize ps.getLast hne = z at e
      rw [e]; simp
    unfold itemI
    rw [atI_lastI hl, this]; rfl
theorem itemI_nat {ps : List Int} {i : Nat} {b : Int} (h : ps[i]? = some b) : itemI ps (i : Int) = b := by unfold itemI; rw [atI_at h]; rfl
theorem itemI_last {ps : List Int} {b : Int} (h : ps.getLast? = some b) : itemI ps (-1) = b := by
  obtain ⟨ys, rfl⟩ := List.getLast?_eq_some_iff.mp h
  unfold itemI; simp
theorem links_len : ∀ ps : List Int, (links ps).length = ps.length - 1
  | [] => rfl
  | [a] => rfl
  | a :: b :: r => by rw [links_cc, List.length_cons, links_len (b :: r)]; simp
theorem rties_up {ps : List Int} (h : ps ≠ []) : (up 0 ps.length).map (fun k => tieOf (itemI ps (k - 1)) (itemI ps k)) = rties ps := by
  refine List.ext_getElem? fun i => ?_
  rw [List.getElem?_map]
  obtain ⟨a, r, rfl⟩ : ∃ a r, ps = a :: r := by cases ps with
    | nil => exact absurd rfl h
    | cons a r => exact ⟨a, r, rfl⟩
  rw [rties_cons]
  by_cases hi : i < (a :: r).length
  · rw [up_get hi]
    simp only [Option.map_some, Int.zero_add]
    cases i with
    | zero =>
      rw [List.getElem?_cons_zero]
      have e1 : itemI (a :: r) (((0 : Nat) : Int) - 1) = (a :: r).getLast (by simp) := itemI_last (List.getLast?_eq_some_getLast _)
      have e2 : itemI (a :: r) ((0 : Nat) : Int) = a := itemI_nat rfl
      rw [e1, e2]
    | succ i =>
      rw [List.getElem?_cons_succ, links_get]
      obtain ⟨x, hx⟩ : ∃ x, (a :: r)[i]? = some x := ⟨_, List.getElem?_eq_getElem (by omega)⟩
      obtain ⟨y, hy⟩ : ∃ x, (a :: r)[i + 1]? = some x := ⟨_, List.getElem?_eq_getElem hi⟩
      rw [hx, hy, itemI_nat hy, show (((i + 1 : Nat) : Int) - 1) = ((i : Nat) : Int) by omega, itemI_nat hx]
  · have e1 : (up 0 (a :: r).length)[i]? = none := List.getElem?_eq_none (by simp at hi ⊢; omega)
    have : (tieOf ((a :: r).getLast (by simp)) a :: links (a :: r)).length = (a :: r).length := by
      rw [List.length_cons, links_len]; simp
    have e2 : (tieOf ((a :: r).getLast (by simp)) a :: links (a :: r))[i]? = none := List.getElem?_eq_none (by omega)
    rw [e1, e2]; rfl
theorem rties_upE {ps : List Int} (h : ps ≠ []) : (up 0 ps.length).map (fun k => encPr (tieOf (itemI ps (k - 1)) (itemI ps k))) = (rties ps).map encPr := by
  rw [← rties_up h, List.map_map]; rfl
theorem eraseIdx_mapI {α β : Type} (f : α → β) (xs : List α) (k : Nat) : (xs.map f).eraseIdx k = (xs.eraseIdx k).map f := by
  simp [List.eraseIdx_eq_take_drop_succ]
theorem eraseIdx_perm {α : Type} {xs : List α} {k : Nat} {a : α} (h : xs[k]? = some a) : (a :: xs.eraseIdx k).Perm xs := by
  obtain ⟨hlt, e⟩ := List.getElem?_eq_some_iff.mp h
  have : xs = xs.take k ++ a :: xs.drop (k + 1) := by rw [← e]; simp
  rw [List.eraseIdx_eq_take_drop_succ]
  conv => rhs; rw [this]
  exact List.perm_middle.symm
theorem goesDown_is {ps : List Int} {l s : Int} (h : 2 ≤ ps.length) (hl : ps.getLast? = some l) (hs : ps[1]? = some s) : goesDown ps = decide (l < s) := by
  match ps, h with
  | a :: b :: r, _ =>
    simp at hs
    subst hs
    rw [List.getLast?_cons, List.getLast?_eq_some_getLast (by simp)] at hl
    simp only [Option.getD_some] at hl
    cases hl
    rfl
theorem Rot.ring {W : Wb} {ps qs : List Int} (h : Turn ps qs) (ok : RingOk W ps) : RingOk W qs :=
  ⟨⟨h.perm.nodup ok.pl.1, fun p hp => ok.pl.2 p (h.perm.mem_iff.mpr hp)⟩, by rw [← h.perm.length_eq]; exact ok.len, fun t ht => ok.ts t (h.ties.mem_iff.mpr ht)⟩
def encI (ps : List Int) : PD := .tuple (ps.map .int)
end Cr
set_option maxHeartbeats 4000000
/-! Fw27: errors of the text's own classes, raised -/
namespace Cr
open PySem PySem.Spec PyProof.Rows L2
abbrev bmVE : List Value := [.type "ValueError", .type "Exception", .type "BaseException", .type "object"]
/-- a class without own __init__ -/
structure ExF (K : PySem.W.Frag) (C : Addr) : Prop where
  ex : PySem.W.excIn K C bmVE "ValueError.__new__" = true
  kp : PySem.W.keepIn K (.ref C) = true
  sb : PySem.W.subIn K (.ref C) (.type "BaseException") = some true
  ty : PySem.W.typeIn K (.ref C) = some (.type "type")
section
variable {X : Cx} {w : Wx} {x : Str} {p p2 pos : Pos}
theorem pmk_none {C : Addr} (F : ExF X.K C) (gC : X.mg x = some (.ref C)) (hg : Gl X x) (hdb : (x == ("__debug__" : Str)) = false := by decide) :
    L2N.PMk X (.Call (.Name x p) [] [] pos) (fun _ H Q => Q (.ref C) none H) := by
  intro pins s σ H Q I q
  obtain ⟨bm, N, nm, qn, bs, hdct, sn, sub, ab, col, dd, k0, k1, k2, k3, k5, mN, oC, oN, noInit, tl⟩ := exc_obj I.kIn F.ex
  refine wpAny_Call_Name_kw (ld_glob I hg gC (PySem.W.callWith_K0 I.kIn F.kp ?_) hdb)
  exact wpAny_call_exc_subT (rest := []) PySem.F.excBase_ValueError tl oC oN noInit (fun hp e made => L2N.mk_of I made (raises_own F.sb F.ty) q (I.hok.gone made.new)) (Nat.zero_le _)
@[simp] def sRaise (x : Str) : ES := fun d ρ => d.ex (x, []) ρ
theorem ds_raise (hc : X.calm = true) (tk : L2N.Takes X w.W) (hw : w.mg = X.mg) (hg : Gl X x) (hx : ∃ C, X.mg x = some (.ref C) ∧ ExF X.K C) (hdb : (x == ("__debug__" : Str)) = false := by decide) :
    DS X w (.Raise (some (.Call (.Name x p) [] [] p2)) none pos) (sRaise x) := by
  obtain ⟨C, gC, F⟩ := hx
  refine (L2N.ps_raise hc tk (pmk_none F gC hg hdb)).imp fun T σ H ⟨H0, ρ, d, Fρ, hf, N⟩ => ?_
  exact N.ex (x, []) ρ σ H _ _ Fρ hf ⟨by rw [hw]; exact gC, .inl ⟨rfl, rfl⟩⟩
end
/-- behind a raise nothing is reached -/
theorem dss_stop {X : Cx} {w : Wx} {st : Stmt} {f : ES} (h : DS X w st f) : DSs X w [st] f := dss_one h
/-! ### list.insert, which no frame's other list shares -/
end Cr
set_option maxHeartbeats 4000000
/-! Fw28: list.insert, max of a list, >= of pairs -/
namespace Cr
open PySem PySem.Spec PyProof.Rows L2
section
variable {X : Cx} {w : Wx} {pos : Pos} {e e2 : Expr}
@[simp] def hInsert (ds zs : List PD) (P : List PD → Prop) : Prop := match zs with
  | [.int i, z] => 0 ≤ i ∧ i < 2 ^ 63 ∧ ds.length < sizeLine ∧ P (ds.take i.toNat ++ [z] ++ ds.drop i.toNat)
  | _ => False
theorem ds_insert (i : Nat) {x : Str} {p1 p2 p3 : Pos} {fa : EA} (hN : X.N[i]? = some x) (hv : Vis X.env.scope x) (ha : DA X w [e, e2] fa)
    (hbase : attributeBase (.Name x p1) "insert" X.env (eval (.Name x p1) X.env) = eval (.Name x p1) X.env := by rfl)
    (hfew : ((backTo p3 (starEach [e, e2] X.env)).all (fun x => !x.1) && (backToKw p3 (keywordEach [] X.env)).all (fun x => x.1.isSome)
      && decide ([e, e2].length + ([] : List Keyword).length + (if ([] : List Keyword).isEmpty then 0 else 1) < 30)) = true := by rfl)
    (hline : (p2.endLine == p3.line) = true := by rfl) (hs : starEach (e :: [e2]) X.env = (false, eval e X.env) :: starEach [e2] X.env := by rfl) (hplain : (backTo p3 (starEach [e2] X.env)).any (·.1) = false := by rfl)
    (hd : (x == ("__debug__" : Str)) = false := by decide) (hcd : (x == ("__classdict__" : Str)) = false := by decide) (hsw : swapsWith (.Call (.Attribute (.Name x p1) "insert" p2) [e, e2] [] p3) none pos.line X.env = pure false := by rfl) :
    DS X w (.Expr (.Call (.Attribute (.Name x p1) "insert" p2) [e, e2] [] p3) pos) (sMut i fa hInsert) :=
  ds_mut i PySem.F.slot_list_insert PySem.F.type_list_insert mt_insert hN hv (fun H a vs us ds zs P Q q rr ru h k => by
    unfold hInsert at h
    split at h
    · rename_i n z
      obtain ⟨h0, h1, h2, h3⟩ := h
      cases ru with
      | cons ra rb =>
        obtain ⟨u, rfl, ru1⟩ := reps_one rb
        cases ra
        exact ⟨a, vs, n, u, rfl, rfl, q, by rw [rr.length]; exact h2, h0, h1, k _ _ h3 (((rr.take _).append (.cons ru1 .nil)).append (rr.drop _)) _⟩
    · exact h.elim) ha hbase hfew hline hs hplain hd hcd hsw
theorem call_maxA (hc : X.calm = true) (_hu : X.A.units + 65 < cLine) : CallR X (.builtin "max") (rMax X.K) := cr_max hc
@[simp] def gMaxA : GC := fun ds P => match ds with
  | [x] => (match listy x with
    | some xs => ∃ ns : List Int, xs = ns.map .int ∧ ns ≠ [] ∧ ∀ m, m ∈ ns → (∀ y ∈ ns, y ≤ m) → P (.val (.int m))
    | none => False)
  | _ => False
theorem k_maxA {K : PySem.W.Frag} : CallK K (rMax K) gMaxA := by
  intro Hs H vs ds P Q ok h q
  unfold gMaxA at h
  split at h
  · split at h
    · rename_i xs es
      obtain ⟨v, rfl, r⟩ := all1 ok
      obtain ⟨a, us, rfl, hs, rr⟩ := listy_ok es r
      obtain ⟨ns, rfl, hne, h⟩ := h
      obtain rfl := RepsF.of_ints rr
      exact ⟨a, ns, rfl, hs, List.length_pos_iff.mpr hne, fun m h1 h2 => q _ (h m h1 h2) _ H (Same.refl H) (.int m)⟩
    · exact h.elim
  · exact h.elim
end
/-- t >= u, pairs of ints -/
def rGeP (K : PySem.W.Frag) : R2 := fun x y H Q => ∃ (s t : Addr) (a b c d : Int), x = .ref s ∧ y = .ref t ∧ SqT K H s [.int a, .int b] ∧ SqT K H t [.int c, .int d] ∧ Q (.bl (lexB (c, d) (a, b))) H
theorem op_geP {X : Cx} (hu : X.A.units < cLine) : OpR X (compareOp .GtE) (rGeP X.K) := by
  rintro pins st σ H x y v u Q I rx ry ⟨s, t, a, b, c, d, rfl, rfl, hs, ht, q⟩
  cases rx
  cases ry
  obtain ⟨i1, r1, p1, _⟩ := I.tuple hs
  obtain ⟨i2, r2, p2, _⟩ := I.tuple ht
  obtain ⟨u1, u2, rfl, ⟨ta, rfl⟩, ⟨tb, rfl⟩⟩ := vals2 r1
  obtain ⟨u3, u4, rfl, ⟨tc, rfl⟩, ⟨td, rfl⟩⟩ := vals2 r2
  have fst : ∀ {x y : Int} {p : Int}, ∀ j : Nat, j = 0 → [x, y].getD j p = x := fun j e => by subst e; rfl
  have snd : ∀ {x y : Int} {p : Int}, ∀ j : Nat, j = 1 → [x, y].getD j p = y := fun j e => by subst e; rfl
  have R := Ob.RcOp.tuples_ge (A := X.A) (s := st) (e := fun j => decide ([a, b].getD j 0 = [c, d].getD j 0)) (r := fun j => decide ([a, b].getD j 0 ≥ [c, d].getD j 0)) p1 p2 hu (fun j h1 h2 => by
    have hj : j = 0 ∨ j = 1 := by simp at h1; omega
    rcases hj with rfl | rfl
    · have z : (a == c) = decide (a = c) := by by_cases q : a = c <;> simp [q]
      show SeqAt.EqAt _ _ (.int a ta) (.int c tc) (decide (a = c))
      rw [← z]
      exact SeqAt.EqAt.int_int _ _ _ _
    · have z : (b == d) = decide (b = d) := by by_cases q : b = d <;> simp [q]
      show SeqAt.EqAt _ _ (.int b tb) (.int d td) (decide (b = d))
      rw [← z]
      exact SeqAt.EqAt.int_int _ _ _ _) (fun j h1 h2 _ => by
    have hj : j = 0 ∨ j = 1 := by simp at h1; omega
    rcases hj with rfl | rfl
    · exact Ob.RcOp.ge_int _ _ _ _
    · exact Ob.RcOp.ge_int _ _ _ _)
  have z : wpAny (model X.prog X.w) X.A (compareOp .GtE (.ref s) (.ref t)) (EP X pins σ Q) X.xe st := R X.prog X.w X.xe (EP X pins σ Q) ⟨.bl (lexB (c, d) (a, b)), H, I, ?_, q⟩
  · exact z
  · show Value.bool _ = Value.bool _
    congr 1
    show Ob.lexAt _ _ _ 0 2 = _
    unfold lexB
    simp [Ob.lexAt]
    by_cases e1 : a = c
    · subst e1
      by_cases e2 : b = d
      · subst e2; simp
      · simp [e2]
    · simp [e1]
      have e1' : ¬ c = a := fun h => e1 h.symm
      simp [e1']
      omega
def gGeA : G2 := fun x y P => match x, y with
  | .val (.int i), .val (.int j) => P (.val (.bool (decide (j ≤ i))))
  | .val (.tuple [.int a, .int b]), .val (.tuple [.int c, .int d]) => P (.val (.bool (lexB (c, d) (a, b))))
  | _, _ => False
@[simp] theorem gGeA_int (i j : Int) (P : D → Prop) : gGeA (.val (.int i)) (.val (.int j)) P = P (.val (.bool (decide (j ≤ i)))) := rfl
@[simp] theorem gGeA_pr (p q : Int × Int) (P : D → Prop) : gGeA (.val (encPr p)) (.val (encPr q)) P = P (.val (.bool (lexB q p))) := rfl
theorem k_geA {K : PySem.W.Frag} : OpK K (fun x y H Q => rI0 (fun i j => .bl (decide (j ≤ i))) x y H Q ∨ rGeP K x y H Q) gGeA := by
  intro Hs H x y v u P Q rx ry h q
  unfold gGeA at h
  split at h
  · exact .inl ⟨_, _, res_int rx, res_int ry, q _ h _ H (Same.refl H) (.bl _)⟩
  · rename_i a b c d
    obtain ⟨s, vs, rfl, hs, rs⟩ := res_tup rx
    obtain ⟨t, us, rfl, ht, rt⟩ := res_tup ry
    obtain rfl := RepsF.of_ints (ns := [a, b]) rs
    obtain rfl := RepsF.of_ints (ns := [c, d]) rt
    exact .inr ⟨s, t, a, b, c, d, rfl, rfl, .inl hs, .inl ht, q _ h _ H (Same.refl H) (.bl _)⟩
  · exact h.elim
theorem c_geA {X : Cx} {b : Expr} {k : Nat} (hr : Room k X.A) : CmpR X .GtE b gGeA := ⟨⟨_, op_ge.or (op_geP hr.units0), k_geA⟩, nomark _⟩
end Cr
set_option maxHeartbeats 4000000
namespace Cr
/-! crossings: where two rows of neighbours meet -/
theorem countP_split {α : Type} {p q r : α → Bool} : ∀ {l : List α}, (∀ x ∈ l, p x = true → q x = true → r x = true) → l.countP p + l.countP q ≤ l.length + l.countP r
  | [], _ => by simp
  | x :: l, h => by
    have ih := countP_split (l := l) fun y hy => h y (List.mem_cons_of_mem _ hy)
    have hx := h x (List.mem_cons_self ..)
    simp only [List.countP_cons, List.length_cons]
    cases hp : p x <;> cases hq : q x <;> cases hr : r x <;> simp_all <;> omega
/-- neighbours in a row -/
def steps2 : List Int → List (Int × Int)
  | a :: b :: r => (a, b) :: steps2 (b :: r)
  | _ => []
theorem steps2_links : ∀ ps : List Int, links ps = (steps2 ps).map fun p => tieOf p.1 p.2
  | [] => rfl
  | [a] => rfl
  | a :: b :: r => by rw [links_cc, steps2, List.map_cons, steps2_links (b :: r)]
theorem steps2_len : ∀ ps : List Int, (steps2 ps).length = ps.length - 1
  | [] => rfl
  | [a] => rfl
  | a :: b :: r => by rw [steps2, List.length_cons, steps2_len (b :: r)]; simp
theorem steps2_snd : ∀ ps : List Int, (steps2 ps).map (·.2) = ps.tail
  | [] => rfl
  | [a] => rfl
  | a :: b :: r => by rw [steps2, List.map_cons, steps2_snd (b :: r)]; simp
theorem steps2_fst : ∀ ps : List Int, (steps2 ps).map (·.1) = ps.dropLast
  | [] => rfl
  | [a] => rfl
  | a :: b :: r => by rw [steps2, List.map_cons, steps2_fst (b :: r)]; simp
theorem mem_steps2 : ∀ {ps : List Int} {x y : Int}, (x, y) ∈ steps2 ps → ∃ as bs, ps = as ++ x :: y :: bs
  | [], x, y, h => by simp [steps2] at h
  | [a], x, y, h => by simp [steps2] at h
  | a :: b :: r, x, y, h => by
    rw [steps2] at h
    rcases List.mem_cons.mp h with h | h
    · cases h; exact ⟨[], r, rfl⟩
    · obtain ⟨as, bs, e⟩ := mem_steps2 h
      exact ⟨a :: as, bs, by rw [e]; rfl⟩
theorem links_mem : ∀ {ps : List Int} {t : Int × Int}, t ∈ links ps → ∃ as bs x y, ps = as ++ x :: y :: bs ∧ t = tieOf x y := by
  intro ps t h
  rw [steps2_links] at h
  obtain ⟨⟨x, y⟩, hm, rfl⟩ := List.mem_map.mp h
  obtain ⟨as, bs, e⟩ := mem_steps2 hm
  exact ⟨as, bs, x, y, e, rfl⟩
theorem tieOf_left (a b : Int) : (tieOf a b).1 = a ∨ (tieOf a b).2 = a := by unfold tieOf; simp only; omega
theorem tieOf_fst (a b : Int) : (tieOf a b).1 = a ∨ (tieOf a b).1 = b := by unfold tieOf; simp only; omega
theorem tieOf_snd (a b : Int) : (tieOf a b).2 = a ∨ (tieOf a b).2 = b := by unfold tieOf; simp only; omega
theorem links_in {ps : List Int} {t : Int × Int} (h : t ∈ links ps) : t.1 ∈ ps ∧ t.2 ∈ ps := by
  obtain ⟨as, bs, x, y, rfl, rfl⟩ := links_mem h
  rcases tieOf_fst x y with e | e <;> rcases tieOf_snd x y with e2 | e2 <;> rw [e, e2] <;> simp
theorem links_nodup : ∀ {ps : List Int}, ps.Nodup → (links ps).Nodup
  | [], _ => List.nodup_nil
  | [a], _ => List.nodup_nil
  | a :: b :: r, h => by
    rw [links_cc]
    obtain ⟨h1, h2⟩ := List.nodup_cons.mp h
    refine List.nodup_cons.mpr ⟨fun hm => ?_, links_nodup h2⟩
    obtain ⟨i1, i2⟩ := links_in hm
    rcases tieOf_left a b with e | e
    · rw [e] at i1; exact h1 i1
    · rw [e] at i2; exact h1 i2
/-- two rows of neighbours that are many meet beside one another, off the held ties -/
theorem cross {W : Wb} {row : List Int} {a b : Int} {held : List (Int × Int)} (hn : row.Nodup) (h0 : row ≠ [])
    (hc : row.length + held.length ≤ row.tail.countP (fun y => decide (adj W a y)) + row.dropLast.countP (fun x => decide (adj W b x))) :
    ∃ xs ys x y, row = xs ++ x :: y :: ys ∧ adj W a y ∧ adj W b x ∧ tieOf x y ∉ held := by
  apply Classical.byContradiction
  intro hno
  have key : ∀ p ∈ steps2 row, decide (adj W a p.2) = true → decide (adj W b p.1) = true → decide (tieOf p.1 p.2 ∈ held) = true := by
    rintro ⟨x, y⟩ hm h1 h2
    obtain ⟨xs, ys, e⟩ := mem_steps2 hm
    apply decide_eq_true
    apply Classical.byContradiction
    intro h3
    exact hno ⟨xs, ys, x, y, e, of_decide_eq_true h1, of_decide_eq_true h2, h3⟩
  have hs := countP_split key
  rw [steps2_len] at hs
  have e1 : (steps2 row).countP (fun p => decide (adj W a p.2)) = row.tail.countP (fun y => decide (adj W a y)) := by
    rw [← steps2_snd row, List.countP_map]; rfl
  have e2 : (steps2 row).countP (fun p => decide (adj W b p.1)) = row.dropLast.countP (fun y => decide (adj W b y)) := by
    rw [← steps2_fst row, List.countP_map]; rfl
  have e3 : (steps2 row).countP (fun p => decide (tieOf p.1 p.2 ∈ held)) ≤ held.length := by
    have : (steps2 row).countP (fun p => decide (tieOf p.1 p.2 ∈ held)) = (links row).countP (fun t => decide (t ∈ held)) := by
      rw [steps2_links, List.countP_map]; rfl
    rw [this, List.countP_eq_length_filter]
    exact List.Nodup.length_le_of_subset ((links_nodup hn).filter _) fun t ht => of_decide_eq_true (List.mem_filter.mp ht).2
  have hp : 0 < row.length := List.length_pos_iff.mpr h0
  omega
theorem whole_perm {n : Int} {row : List Int} (h1 : row.Nodup) (h2 : ∀ p ∈ row, 0 ≤ p ∧ p < n) (h3 : (row.length : Int) = n) : row.Perm (up 0 n.toNat) := by
  have hu : (up 0 n.toNat).Nodup := (up_inc _ _).imp fun h => by omega
  refine (List.perm_ext_iff_of_nodup h1 hu).mpr fun x => ⟨fun hx => mem_up.mpr (by have := h2 x hx; omega), fun hx => ?_⟩
  apply Classical.byContradiction
  intro hno
  have : (x :: row).length ≤ (up 0 n.toNat).length := List.Nodup.length_le_of_subset (List.nodup_cons.mpr ⟨hno, h1⟩) fun y hy => by
    rcases List.mem_cons.mp hy with rfl | hy
    · exact hx
    · exact mem_up.mpr (by have := h2 y hy; omega)
  simp at this
  omega
/-- a place's count among all places of a row that has its neighbours -/
theorem deg_row {W : Wb} (hW : WebOk W) {row : List Int} (hn : row.Nodup) {a : Int} (h : ∀ y, adj W a y → y ∈ row) : ((row.countP fun y => decide (adj W a y)) : Int) = deg W a := by
  rw [← nbrs_deg hW, List.countP_eq_length_filter]
  have : (row.filter fun y => decide (adj W a y)).Perm (nbrs W a) := by
    refine (List.perm_ext_iff_of_nodup (hn.filter _) ((nbrs_inc W a).imp fun h => by omega)).mpr fun y => ?_
    rw [List.mem_filter, mem_nbrs hW, decide_eq_true_eq]
    exact ⟨fun h => h.2, fun e => ⟨h y e, e⟩⟩
  rw [this.length_eq]
theorem adj_irr {W : Wb} (hW : WebOk W) {a : Int} : ¬ adj W a a := fun h => (hW.adj h).2.2.2.2 rfl
theorem deg_tail {W : Wb} (hW : WebOk W) {row : List Int} {a : Int} (hn : row.Nodup) (hh : row.head? = some a) (h : ∀ y, adj W a y → y ∈ row) : ((row.tail.countP fun y => decide (adj W a y)) : Int) = deg W a := by
  cases row with
  | nil => cases hh
  | cons x r =>
    cases hh
    rw [← deg_row hW hn h, List.countP_cons]
    simp [adj_irr hW]
theorem deg_init {W : Wb} (hW : WebOk W) {row : List Int} {b : Int} (hn : row.Nodup) (hl : row.getLast? = some b) (h : ∀ y, adj W b y → y ∈ row) : ((row.dropLast.countP fun y => decide (adj W b y)) : Int) = deg W b := by
  have e : row = row.dropLast ++ [b] := by
    rw [List.getLast?_eq_some_iff] at hl
    obtain ⟨ys, rfl⟩ := hl
    simp
  have h1 := deg_row hW hn h
  rw [e, List.countP_append] at h1
  simp [adj_irr hW] at h1
  exact h1
/-- .. of the ends of a row -/
theorem cross_ends {W : Wb} (hW : WebOk W) {row : List Int} {a b : Int} {held : List (Int × Int)} (hn : row.Nodup) (hh : row.head? = some a) (hl : row.getLast? = some b)
    (ha : ∀ y, adj W a y → y ∈ row) (hb : ∀ y, adj W b y → y ∈ row) (hc : (row.length : Int) + held.length ≤ deg W a + deg W b) :
    ∃ xs ys x y, row = xs ++ x :: y :: ys ∧ adj W a y ∧ adj W b x ∧ tieOf x y ∉ held := by
  refine cross (a := a) (b := b) hn (by intro e; subst e; cases hh) ?_
  have h1 := deg_tail hW hn hh ha
  have h2 := deg_init hW hn hl hb
  omega
/-- the piece behind is turned about -/
theorem turned_ties {xs ys : List Int} {a b x y : Int} (h1 : (xs ++ [x]).head? = some a) (h2 : (y :: ys).getLast? = some b) :
    (rties (xs ++ [x] ++ (y :: ys).reverse)).Perm (tieOf a y :: tieOf b x :: (links (xs ++ [x]) ++ links (y :: ys))) := by
  rw [rties_app (by simp) (by simp), links_rev]
  have e1 : joint (y :: ys).reverse (xs ++ [x]) = [tieOf a y] := by
    unfold joint
    rw [List.getLast?_reverse, h1]
    simp [tieOf_comm]
  have e2 : joint (xs ++ [x]) (y :: ys).reverse = [tieOf b x] := by
    unfold joint
    rw [List.head?_reverse, h2]
    simp [tieOf_comm]
  rw [e1, e2]
  refine List.Perm.cons _ ?_
  refine (List.Perm.append_right _ List.perm_append_comm).trans ?_
  simp only [List.cons_append, List.nil_append]
  refine List.Perm.cons _ ?_
  exact List.Perm.append_left _ (List.reverse_perm _)
end Cr
namespace Cr
/-! ties that join places; rings among ties -/
inductive Conn (ts : List (Int × Int)) : Int → Int → Prop
  | refl (a : Int) : Conn ts a a
  | tie {a b c : Int} : (a, b) ∈ ts ∨ (b, a) ∈ ts → Conn ts b c → Conn ts a c
theorem Conn.trans {ts : List (Int × Int)} {a b c : Int} (h : Conn ts a b) (g : Conn ts b c) : Conn ts a c := by
  induction h with
  | refl => exact g
  | tie e _ ih => exact .tie e (ih g)
theorem Conn.one {ts : List (Int × Int)} {a b : Int} (h : (a, b) ∈ ts ∨ (b, a) ∈ ts) : Conn ts a b := .tie h (.refl b)
theorem Conn.symm {ts : List (Int × Int)} {a b : Int} (h : Conn ts a b) : Conn ts b a := by
  induction h with
  | refl => exact .refl _
  | tie e _ ih => exact ih.trans (.one e.symm)
theorem Conn.sub {ts us : List (Int × Int)} (s : ∀ t ∈ ts, t ∈ us) {a b : Int} (h : Conn ts a b) : Conn us a b := by
  induction h with
  | refl => exact .refl _
  | tie e _ ih => exact .tie (e.imp (s _) (s _)) ih
/-- what every tie keeps is kept -/
theorem Conn.keep {ts : List (Int × Int)} {P : Int → Prop} (hp : ∀ t ∈ ts, P t.1 ↔ P t.2) {a b : Int} (h : Conn ts a b) : P a ↔ P b := by
  induction h with
  | refl => exact Iff.rfl
  | tie e _ ih =>
    rcases e with e | e
    · exact (hp _ e).trans ih
    · exact (hp _ e).symm.trans ih
theorem Conn.snoc {ts : List (Int × Int)} {x y a b : Int} : Conn (ts ++ [(x, y)]) a b ↔ Conn ts a b ∨ (Conn ts a x ∧ Conn ts y b) ∨ (Conn ts a y ∧ Conn ts x b) := by
  constructor
  · intro h
    induction h with
    | refl => exact .inl (.refl _)
    | @tie a m c e _ ih =>
      have e' : ((a, m) ∈ ts ∨ (m, a) ∈ ts) ∨ (a = x ∧ m = y) ∨ (a = y ∧ m = x) := by
        rcases e with e | e
        · rcases List.mem_append.mp e with e | e
          · exact .inl (.inl e)
          · simp at e; exact .inr (.inl e)
        · rcases List.mem_append.mp e with e | e
          · exact .inl (.inr e)
          · simp at e; exact .inr (.inr ⟨e.2, e.1⟩)
      rcases e' with e | ⟨rfl, rfl⟩ | ⟨rfl, rfl⟩
      · rcases ih with ih | ⟨i1, i2⟩ | ⟨i1, i2⟩
        · exact .inl (.tie e ih)
        · exact .inr (.inl ⟨.tie e i1, i2⟩)
        · exact .inr (.inr ⟨.tie e i1, i2⟩)
      · rcases ih with ih | ⟨i1, i2⟩ | ⟨i1, i2⟩
        · exact .inr (.inl ⟨.refl _, ih⟩)
        · exact .inr (.inl ⟨.refl _, i2⟩)
        · exact .inl i2
      · rcases ih with ih | ⟨i1, i2⟩ | ⟨i1, i2⟩
        · exact .inr (.inr ⟨.refl _, ih⟩)
        · exact .inl i2
        · exact .inr (.inr ⟨.refl _, i2⟩)
  · have s : ∀ t ∈ ts, t ∈ ts ++ [(x, y)] := fun t h => List.mem_append_left _ h
    have e : Conn (ts ++ [(x, y)]) x y := .one (.inl (by simp))
    rintro (h | ⟨h, g⟩ | ⟨h, g⟩)
    · exact h.sub s
    · exact (h.sub s).trans (e.trans (g.sub s))
    · exact (h.sub s).trans (e.symm.trans (g.sub s))
/-- a tie joins what was joined before -/
def hasRing (ts : List (Int × Int)) : Prop := ∃ pre a b post, ts = pre ++ (a, b) :: post ∧ Conn pre a b
theorem hasRing_snoc {ts : List (Int × Int)} {a b : Int} : hasRing (ts ++ [(a, b)]) ↔ hasRing ts ∨ Conn ts a b := by
  constructor
  · rintro ⟨pre, x, y, post, e, h⟩
    rcases List.eq_nil_or_concat post with rfl | ⟨p', z, rfl⟩
    · obtain ⟨e1, e2⟩ := List.append_inj' e rfl
      cases e2
      subst e1
      exact .inr h
    · have e' : ts ++ [(a, b)] = (pre ++ (x, y) :: p') ++ [z] := by rw [e]; simp
      obtain ⟨e1, _⟩ := List.append_inj' e' rfl
      exact .inl ⟨pre, x, y, p', e1, h⟩
  · rintro (⟨pre, x, y, post, e, h⟩ | h)
    · exact ⟨pre, x, y, post ++ [(a, b)], by rw [e]; simp, h⟩
    · exact ⟨ts, a, b, [], rfl, h⟩
theorem hasRing_nil : ¬ hasRing [] := by rintro ⟨pre, a, b, post, e, _⟩; simp at e
/-- the labels -/
def relab (one other l : Int) : Int := if l = other then one else l
/-- labels tell who is joined -/
theorem relab_conn {ts : List (Int × Int)} {lab : Int → Int} {x y : Int} (h : ∀ a b, lab a = lab b ↔ Conn ts a b) (a b : Int) : relab (lab x) (lab y) (lab a) = relab (lab x) (lab y) (lab b) ↔ Conn (ts ++ [(x, y)]) a b := by
  rw [Conn.snoc]
  unfold relab
  rw [← h a b, ← h a x, ← h y b, ← h a y, ← h x b]
  by_cases h1 : lab a = lab y <;> by_cases h2 : lab b = lab y <;> simp [h1, h2] <;> omega
/-- ties along a row join no ring -/
theorem links_noRing {row : List Int} (hn : row.Nodup) {ts : List (Int × Int)} (hs : ∀ t ∈ ts, t ∈ links row) (hd : ts.Nodup) : ¬ hasRing ts := by
  rintro ⟨pre, a, b, post, rfl, h⟩
  have hm := hs (a, b) (by simp)
  obtain ⟨as, bs, x, y, erow, et⟩ := links_mem hm
  subst erow
  have hno : (a, b) ∉ pre := fun hp => by
    have := (List.nodup_append.mp hd).2.2 _ hp (a, b) (List.mem_cons_self ..)
    exact this rfl
  have e1 : links (as ++ x :: y :: bs) = links (as ++ [x]) ++ [tieOf x y] ++ links (y :: bs) := by
    have := links_app (as ++ [x]) (y :: bs)
    rw [joint_snoc] at this
    simpa using this
  have hsplit : (as ++ [x]).Nodup ∧ (y :: bs).Nodup ∧ ∀ p ∈ as ++ [x], p ∉ y :: bs := by
    have e : as ++ x :: y :: bs = (as ++ [x]) ++ (y :: bs) := by simp
    rw [e] at hn
    obtain ⟨n1, n2, n3⟩ := List.nodup_append.mp hn
    exact ⟨n1, n2, fun p hp hq => n3 p hp p hq rfl⟩
  have side : ∀ t ∈ pre, (t.1 ∈ as ++ [x]) ↔ (t.2 ∈ as ++ [x]) := by
    intro t ht
    have hl := hs t (by simp [ht])
    rw [e1] at hl
    rcases List.mem_append.mp hl with hl | hl
    · rcases List.mem_append.mp hl with hl | hl
      · have := links_in hl
        exact ⟨fun _ => this.2, fun _ => this.1⟩
      · simp only [List.mem_singleton] at hl
        rw [← et] at hl
        rw [hl] at ht
        exact absurd ht hno
    · have := links_in hl
      exact ⟨fun q => absurd this.1 (hsplit.2.2 _ q), fun q => absurd this.2 (hsplit.2.2 _ q)⟩
  have k := Conn.keep side h
  have e := tieOf_eq.mp (show tieOf a b = tieOf x y by
    have : (a, b) = tieOf x y := et
    have h1 : a = min x y := congrArg Prod.fst this
    have h2 : b = max x y := congrArg Prod.snd this
    rw [h1, h2]
    unfold tieOf
    congr 1 <;> omega)
  have hx : x ∈ as ++ [x] := by simp
  have hy : y ∉ as ++ [x] := fun q => hsplit.2.2 y q (List.mem_cons_self ..)
  rcases e with ⟨rfl, rfl⟩ | ⟨rfl, rfl⟩
  · exact hy (k.mp hx)
  · exact hy (k.mpr hx)
/-- how often a place stands in ties -/
theorem degT_zero {ts : List (Int × Int)} {p : Int} (h : ∀ t ∈ ts, t.1 ≠ p ∧ t.2 ≠ p) : degT ts p = 0 := by
  unfold degT
  have : ts.countP (fun q => decide (q.1 = p ∨ q.2 = p)) = 0 := List.countP_eq_zero.mpr fun t ht => by have := h t ht; simp [this]
  rw [this]; rfl
theorem degT_links_out {row : List Int} {p : Int} (h : p ∉ row) : degT (links row) p = 0 := degT_zero fun t ht => by
  have := links_in ht
  exact ⟨fun e => h (e ▸ this.1), fun e => h (e ▸ this.2)⟩
theorem degT_joint (xs ys : List Int) (p : Int) : degT (joint xs ys) p ≤ 1 := by
  unfold joint
  split
  · rw [degT_one]; split <;> omega
  · simp [degT]
theorem degT_links {row : List Int} (hn : row.Nodup) (p : Int) : degT (links row) p ≤ 2 := by
  by_cases hp : p ∈ row
  · obtain ⟨as, bs, rfl⟩ := List.append_of_mem hp
    obtain ⟨n1, n2, n3⟩ := List.nodup_append.mp hn
    have h1 : p ∉ as := fun h => n3 p h p (List.mem_cons_self ..) rfl
    have h2 : p ∉ bs := (List.nodup_cons.mp n2).1
    rw [links_app, degT_app, degT_app, degT_links_out h1]
    have hj := degT_joint as (p :: bs) p
    have hb : degT (links (p :: bs)) p ≤ 1 := by
      cases bs with
      | nil => simp [degT]
      | cons b r =>
        rw [links_cc, show tieOf p b :: links (b :: r) = [tieOf p b] ++ links (b :: r) from rfl, degT_app, degT_one, degT_links_out h2]
        split <;> omega
    omega
  · rw [degT_links_out hp]; omega
theorem degT_sub {ts us : List (Int × Int)} (hd : ts.Nodup) (hs : ∀ t ∈ ts, t ∈ us) (p : Int) : degT ts p ≤ degT us p := by
  unfold degT
  rw [List.countP_eq_length_filter, List.countP_eq_length_filter]
  have := List.Nodup.length_le_of_subset (hd.filter (fun q => decide (q.1 = p ∨ q.2 = p))) (l₂ := us.filter fun q => decide (q.1 = p ∨ q.2 = p)) fun t ht => by
    obtain ⟨h1, h2⟩ := List.mem_filter.mp ht
    exact List.mem_filter.mpr ⟨hs t h1, h2⟩
  omega
end Cr
namespace Cr
/-! a ring led back over a put -/
theorem rotAt_eq {A B : List Int} {a : Int} (h : a ∉ A) : rotAt (A ++ a :: B) a = a :: B ++ A := by
  unfold rotAt
  have e : (A ++ a :: B).idxOf a = A.length := by
    rw [List.idxOf_append, if_neg h]
    simp
  rw [e]
  simp
theorem tie_mem_ring {a : Int} {r : List Int} (hn : (a :: r).Nodup) {b l c : Int} (hl : r.getLast? = some l) (hc : r.head? = some c) : tieOf a b ∈ rties (a :: r) ↔ b = l ∨ b = c := by
  cases r with
  | nil => cases hl
  | cons c' r =>
    cases hc
    obtain ⟨h1, h2⟩ := List.nodup_cons.mp hn
    rw [rties_cons, links_cc, List.mem_cons, List.mem_cons]
    have el : (a :: c :: r).getLast (by simp) = l := by
      rw [List.getLast_cons (by simp)]
      rw [List.getLast?_eq_some_getLast (by simp)] at hl
      exact Option.some.inj hl
    rw [el]
    have hla : l ≠ a := fun e => h1 (by rw [← e, ← Option.some.inj ((List.getLast?_eq_some_getLast (by simp)).symm.trans hl)]; exact List.getLast_mem _)
    have hca : c ≠ a := fun e => h1 (by rw [← e]; exact List.mem_cons_self ..)
    have hout : tieOf a b ∉ links (c :: r) := fun hm => by
      have := links_in hm
      rcases tieOf_left a b with e | e
      · rw [e] at this; exact h1 this.1
      · rw [e] at this; exact h1 this.2
    rw [tieOf_eq, tieOf_eq]
    constructor
    · rintro (h | h | h)
      · rcases h with ⟨e, _⟩ | ⟨_, e⟩
        · exact absurd e.symm hla
        · exact .inl e
      · rcases h with ⟨_, e⟩ | ⟨e, _⟩
        · exact .inr e
        · exact absurd e.symm hca
      · exact absurd h hout
    · rintro (rfl | rfl)
      · exact .inl (.inr ⟨rfl, rfl⟩)
      · exact .inr (.inl (.inl ⟨rfl, rfl⟩))
/-- begun with the lesser place of a put, the greater at the end -/
def fromPut (ps : List Int) (a b : Int) : List Int := if (rotAt ps a)[1]? = some b then flip1 (rotAt ps a) else rotAt ps a
theorem fromPut_turn (ps : List Int) (a b : Int) : Turn ps (fromPut ps a b) := by
  unfold fromPut
  split
  · exact Turn.trans (.inl (rotAt_rot _ _)) (flip1_turn _)
  · exact .inl (rotAt_rot _ _)
theorem fromPut_head {ps : List Int} {a b : Int} (h : a ∈ ps) : (fromPut ps a b).head? = some a := by
  have := rotAt_head h
  unfold fromPut
  split
  · cases e : rotAt ps a with
    | nil => rw [e] at this; cases this
    | cons x r => rw [e] at this; simpa [flip1] using this
  · exact this
theorem fromPut_last {ps : List Int} {a b : Int} (hn : ps.Nodup) (h : a ∈ ps) (hr : tieOf a b ∈ rties ps) (hl : 3 ≤ ps.length) : (fromPut ps a b).getLast? = some b := by
  have ht := (rotAt_rot ps a)
  have hh := rotAt_head h
  have hr2 := ht.ties.mem_iff.mp hr
  have hn2 := ht.perm.nodup hn
  have hl2 := ht.perm.length_eq
  unfold fromPut
  generalize rotAt ps a = f at *
  match f, hh with
  | x :: r, hh =>
    cases hh
    simp at hl2
    obtain ⟨c, hc⟩ : ∃ c, r.head? = some c := ⟨r.head (List.ne_nil_of_length_pos (by omega)), List.head?_eq_some_head _⟩
    obtain ⟨l, hl'⟩ : ∃ c, r.getLast? = some c := ⟨r.getLast (List.ne_nil_of_length_pos (by omega)), List.getLast?_eq_some_getLast _⟩
    have e1 : (a :: r)[1]? = some c := by
      cases r with
      | nil => cases hc
      | cons y r => simpa using hc
    rw [e1]
    split
    · rename_i e
      cases e
      show (a :: r.reverse).getLast? = some b
      rw [List.getLast?_cons, List.getLast?_reverse, hc]; rfl
    · rename_i e
      rcases (tie_mem_ring hn2 hl' hc).mp hr2 with e2 | e2
      · rw [List.getLast?_cons, hl', e2]; rfl
      · exact absurd (by rw [e2]) e
/-- the item at a place, the last one before the first -/
def itemN (ps : List Int) (i : Nat) : Int := (ps[i]?).getD 0
def lastN (ps : List Int) : Int := (ps.getLast?).getD 0
def crossAt (W : Wb) (hs : List (Int × Int)) (row : List Int) (i : Nat) : Bool :=
  decide (tieOf (itemN row 0) (itemN row i) ∈ W.ts) && decide (tieOf (lastN row) (itemN row (i - 1)) ∈ W.ts) && decide (tieOf (itemN row (i - 1)) (itemN row i) ∉ hs)
def turnAt (row : List Int) (i : Nat) : List Int := row.take i ++ (row.drop i).reverse
def turnB (W : Wb) (hs : List (Int × Int)) (row : List Int) : List Int := match (List.range' 1 (row.length - 1)).find? (crossAt W hs row) with
  | some i => turnAt row i
  | none => row
theorem turnAt_perm (row : List Int) (i : Nat) : (turnAt row i).Perm row := by
  unfold turnAt
  conv => rhs; rw [← List.take_append_drop i row]
  exact List.Perm.append_left _ (List.reverse_perm _)
theorem turnB_perm (W : Wb) (hs : List (Int × Int)) (row : List Int) : (turnB W hs row).Perm row := by
  unfold turnB
  split
  · exact turnAt_perm _ _
  · exact .refl _
def overF (W : Wb) (hs : List (Int × Int)) (p : Int × Int) (ps : List Int) : List Int :=
  if tieOf p.1 p.2 ∈ rties ps then told (turnB W hs (fromPut ps p.1 p.2)) else told ps
theorem overF_perm (W : Wb) (hs : List (Int × Int)) (p : Int × Int) (ps : List Int) : (overF W hs p ps).Perm ps := by
  unfold overF
  split
  · exact (told_turn _).perm.symm.trans ((turnB_perm _ _ _).trans (fromPut_turn _ _ _).perm.symm)
  · exact (told_turn _).perm.symm
/-- all the rings, the last put first -/
def backs (W : Wb) (hs : List (Int × Int)) (ps : List (Int × Int)) : Nat → List Int → List (List Int)
  | 0, r => [r]
  | k + 1, r => r :: backs W hs ps k (overF (after W (ps.take k)) hs ((ps[k]?).getD (0, 0)) r)
theorem backs_perm (W : Wb) (hs : List (Int × Int)) (ps : List (Int × Int)) : ∀ (k : Nat) (r : List Int), ∀ x ∈ backs W hs ps k r, x.Perm r
  | 0, r, x, h => by simp [backs] at h; subst h; exact .refl _
  | k + 1, r, x, h => by
    unfold backs at h
    rcases List.mem_cons.mp h with rfl | h
    · exact .refl _
    · exact (backs_perm W hs ps k _ x h).trans (overF_perm _ _ _ _)
theorem backs_len (W : Wb) (hs : List (Int × Int)) (ps : List (Int × Int)) : ∀ (k : Nat) (r : List Int), (backs W hs ps k r).length = k + 1
  | 0, r => rfl
  | k + 1, r => by unfold backs; rw [List.length_cons, backs_len]
theorem backs_snoc (W : Wb) (hs : List (Int × Int)) (ps : List (Int × Int)) (n : Nat) : ∀ (k : Nat) (acc : List (List Int)) (r : List Int), True := fun _ _ _ => trivial
end Cr
set_option maxHeartbeats 4000000
/-! Fw30: held ties, whole rings, among things -/
namespace Cr
open PySem PySem.Spec PyProof.Rows L2
def isTieD (W : Wb) (d : PD) : Bool := match asPair d with
  | some p => decide (p ∈ W.ts)
  | none => false
@[simp] theorem isTieD_pr (W : Wb) (p : Int × Int) : isTieD W (encPr p) = decide (p ∈ W.ts) := rfl
theorem isTieD_true {W : Wb} {d : PD} (h : isTieD W d = true) : ∃ p, d = encPr p ∧ p ∈ W.ts := by
  unfold isTieD at h
  split at h
  · rename_i p e
    exact ⟨p, asPair_some e, of_decide_eq_true h⟩
  · cases h
structure HeldOk (W : Wb) (hs : List (Int × Int)) : Prop where
  len : hs.length ≤ 4
  ts : ∀ t ∈ hs, t ∈ W.ts
  up : hs.Pairwise lexLt
  few : ∀ p, degT hs p < 3
  no : ¬ hasRing hs
theorem HeldOk.nodup {W : Wb} {hs : List (Int × Int)} (h : HeldOk W hs) : hs.Nodup := h.up.imp fun h => h.ne
open Classical in
noncomputable def heldOf (W : Wb) : PD → Option (List (Int × Int))
  | .tuple xs => match asPrs xs with
    | some hs => if HeldOk W hs then some hs else none
    | none => none
  | _ => none
theorem heldOf_some {W : Wb} {d : PD} {hs : List (Int × Int)} (h : heldOf W d = some hs) : d = .tuple (hs.map encPr) ∧ HeldOk W hs := by
  unfold heldOf at h
  split at h
  · rename_i xs
    split at h
    · rename_i qs e
      split at h
      · cases h
        rw [asPrs_some e]
        exact ⟨rfl, by assumption⟩
      · cases h
    · cases h
  · cases h
theorem heldOf_ok {W : Wb} {hs : List (Int × Int)} (h : HeldOk W hs) : heldOf W (.tuple (hs.map encPr)) = some hs := by simp [heldOf, h]
/-- a whole ring that holds ties -/
structure WholeOk (W : Wb) (hs : List (Int × Int)) (ps : List Int) : Prop where
  ring : RingOk W ps
  all : (ps.length : Int) = W.n
  held : ∀ t ∈ hs, t ∈ rties ps
open Classical in
noncomputable def wholeOf (W : Wb) (hs : List (Int × Int)) (d : PD) : Option (List Int) := match placesOf W.n d with
  | some ps => if WholeOk W hs ps then some ps else none
  | none => none
theorem wholeOf_some {W : Wb} {hs : List (Int × Int)} {d : PD} {ps : List Int} (h : wholeOf W hs d = some ps) : d = .tuple (ps.map .int) ∧ WholeOk W hs ps := by
  unfold wholeOf at h
  split at h
  · rename_i qs e
    split at h
    · cases h
      exact ⟨(placesOf_some e).1, by assumption⟩
    · cases h
  · cases h
theorem wholeOf_ok {W : Wb} {hs : List (Int × Int)} {ps : List Int} (h : WholeOk W hs ps) : wholeOf W hs (.tuple (ps.map .int)) = some ps := by
  unfold wholeOf
  rw [placesOf_ok h.ring.pl]
  simp [h]
theorem ring_tie_range {W : Wb} (hW : WebOk W) {ps : List Int} (h : RingOk W ps) : ∀ t ∈ rties ps, 0 ≤ t.1 ∧ t.1 < t.2 ∧ t.2 < W.n := fun t ht => hW.ts.1 t (h.ts t ht)
theorem asPrs_map_none {xs : List PD} {x : PD} (hx : x ∈ xs) (h : asPair x = none) : asPrs xs = none := by
  cases e : asPrs xs with
  | none => rfl
  | some ps =>
    rw [asPrs_some e] at hx
    obtain ⟨p, _, rfl⟩ := List.mem_map.mp hx
    cases h
end Cr
set_option maxHeartbeats 4000000
/-! Fw31: lists turned about -/
namespace Cr
open PySem PySem.Spec PyProof.Rows L2
section
variable {X : Cx} {w : Wx} {e : Expr} {fe : EE} {k : Nat} {p1 p2 p3 pos : Pos}
@[simp] def eRevL (f : EE) : EE := fun ρ P E => f ρ (fun x => match listy x with | some xs => P (.new xs.reverse) | none => False) E
theorem de_revL (he : DE X w e fe) : DE X w (.Subscript e (.Slice none none (some (.UnaryOp .USub (.Constant (.int 1) k p1) p2)) p3) pos) (eRevL fe) :=
  (pe_revL he).imp fun σ H Q ⟨H0, ρ, P, E, F, hf, hP, hE⟩ => ⟨H0, ρ, _, E, F, hf, fun x px v H1 s1 r1 => by
    cases el : listy x with
    | none => rw [el] at px; exact px.elim
    | some xs =>
      rw [el] at px
      obtain ⟨a, us, rfl, hs, rr⟩ := listy_ok el r1
      refine ⟨a, us, rfl, hs, fun p np => ?_⟩
      have s := (Same.refl H1).upd_new (o := .lst us.reverse) np
      exact hP _ px _ _ (s1.trans s) ⟨p, _, rfl, s1.free np, upd_same, rr.reverse.fx s.fx⟩, hE⟩
end
@[simp] theorem gIx_pr0 (p : Int × Int) (P : D → Prop) : gIx (.val (encPr p)) (.val (.int 0)) P = P (.val (.int p.1)) := by simp [encPr]
@[simp] theorem gIx_pr1 (p : Int × Int) (P : D → Prop) : gIx (.val (encPr p)) (.val (.int 1)) P = P (.val (.int p.2)) := by simp [encPr]
theorem lexB_false {p q : Int × Int} (h : lexB p q = false) : lexLt q p := by
  have h1 : ¬ lexLe p q := fun e => by rw [lexB_iff.mpr e] at h; cases h
  unfold lexLe at h1
  unfold lexLt
  omega
theorem lexB_true {p q : Int × Int} (h : lexB p q = true) : ¬ lexLt q p := by
  have h1 := lexB_iff.mp h
  unfold lexLe at h1
  unfold lexLt
  omega
@[simp] theorem hasV_nil (d : PD) : hasV [] d = false := rfl
@[simp] theorem hasV_cons (x d : PD) (xs : List PD) : hasV (x :: xs) d = (PyData.eqv x d || hasV xs d) := rfl
theorem shpA_iff {ds : List PD} : shapedAll ds ↔ PyData.canLayAll0 ds = true ∧ PyData.depthAll ds ≤ 63 := by
  unfold shapedAll SeqAt.shaped
  rw [Bool.and_eq_true, decide_eq_true_eq, PyData.depth]
  exact ⟨fun h => ⟨h.1, by omega⟩, fun h => ⟨h.1, by omega⟩⟩
theorem shpA_cons {d : PD} {ds : List PD} : shapedAll (d :: ds) ↔ (d.canLay0 = true ∧ d.depth ≤ 63) ∧ shapedAll ds := by
  rw [shpA_iff, shpA_iff, PyData.canLayAll0, PyData.depthAll, Bool.and_eq_true, Nat.max_le]
  exact ⟨fun h => ⟨⟨h.1.1, h.2.1⟩, h.1.2, h.2.2⟩, fun h => ⟨⟨h.1.1, h.2.1⟩, h.1.2, h.2.2⟩⟩
theorem shpA_app {ds es : List PD} : shapedAll (ds ++ es) ↔ shapedAll ds ∧ shapedAll es := by
  induction ds with
  | nil => simp
  | cons d ds ih => rw [List.cons_append, shpA_cons, shpA_cons, ih, and_assoc, and_assoc, and_assoc]
@[simp] theorem shpA_int (i : Int) (ds : List PD) : shapedAll (.int i :: ds) ↔ shapedAll ds := by rw [shpA_cons]; exact ⟨fun h => h.2, fun h => ⟨⟨rfl, Nat.zero_le _⟩, h⟩⟩
@[simp] theorem shpA_pr (p : Int × Int) (ds : List PD) : shapedAll (encPr p :: ds) ↔ shapedAll ds := by
  rw [shpA_cons]
  refine ⟨fun h => h.2, fun h => ⟨⟨rfl, ?_⟩, h⟩⟩
  exact Nat.le_trans (Nat.le_of_eq (show PyData.depth (.tuple [.int p.1, .int p.2]) = 1 from rfl)) (by decide)
/-- a row of puts, one behind another -/
def PutsRow (more : Int) (W : Wb) (ps : List (Int × Int)) : Prop := ∀ a p b, ps = a ++ p :: b → WebOk (after W a) ∧ p ∈ putsOf (after W a) more
theorem PutsRow.cons {more : Int} {W : Wb} {p : Int × Int} {ps : List (Int × Int)} (hW : WebOk W) (hp : p ∈ putsOf W more) (h : PutsRow more (W.put p) ps) : PutsRow more W (p :: ps) := by
  intro a q b e
  cases a with
  | nil => cases e; exact ⟨hW, hp⟩
  | cons x a =>
    cases e
    exact h a q b rfl
theorem PutsRow.web {more : Int} : ∀ {ps : List (Int × Int)} {W : Wb}, WebOk W → PutsRow more W ps → WebOk (after W ps) ∧ (after W ps).ts.length = W.ts.length + ps.length := by
  intro ps
  induction ps with
  | nil => intro W hW _; exact ⟨hW, rfl⟩
  | cons p ps ih =>
    intro W hW h
    have hp := (h [] p ps rfl).2
    obtain ⟨ok, len⟩ := puts_put hW hp
    obtain ⟨a, b⟩ := ih ok fun x q y e => h (p :: x) q y (by rw [e]; rfl)
    exact ⟨a, by show (after (W.put p) ps).ts.length = _; rw [b, len, List.length_cons]; omega⟩
theorem goPuts_true {more : Int} : ∀ {ds : List PD} {W : Wb}, WebOk W → goPuts more W ds = true → ∃ ps, ds = ps.map encPr ∧ PutsRow more W ps
  | [], W, _, _ => ⟨[], rfl, fun a p b e => by simp at e⟩
  | d :: ds, W, hW, h => by
    unfold goPuts at h
    split at h
    · rename_i p e
      split at h
      · rename_i hp
        obtain ⟨ps, rfl, hr⟩ := goPuts_true (puts_put hW hp).1 h
        exact ⟨p :: ps, by rw [asPair_some e]; rfl, .cons hW hp hr⟩
      · cases h
    · cases h
theorem arePuts_true {more : Int} {W : Wb} {d : PD} (hW : WebOk W) (h : arePuts more W d = true) : ∃ ps, d = .tuple (ps.map encPr) ∧ PutsRow more W ps := by
  unfold arePuts at h
  split at h
  · obtain ⟨ps, rfl, hr⟩ := goPuts_true hW h
    exact ⟨ps, rfl, hr⟩
  · cases h
theorem arePuts_row {more : Int} {W : Wb} {ps : List (Int × Int)} (h : PutsRow more W ps) : arePuts more W (.tuple (ps.map encPr)) = true := goPuts_map fun a p b e => (h a p b e).2
theorem prs_inj {ps qs : List (Int × Int)} (e : PyData.tuple (ps.map encPr) = .tuple (qs.map encPr)) : ps = qs := by
  have := congrArg asPrs (PyData.tuple.inj e)
  rw [asPrs_map, asPrs_map] at this
  exact Option.some.inj this
theorem ints_inj {ps qs : List Int} (e : PyData.tuple (ps.map .int) = .tuple (qs.map .int)) : ps = qs := by
  have := congrArg asInts (PyData.tuple.inj e)
  rw [asInts_map, asInts_map] at this
  exact Option.some.inj this
theorem up_rev_split {n : Nat} {a b : List Int} {x : Int} (h : (up 0 n).reverse = a ++ x :: b) : x = (n : Int) - 1 - a.length ∧ a.length < n := by
  have hl : a.length < n := by have := congrArg List.length h; simp at this; omega
  have e1 : ((up 0 n).reverse)[a.length]? = some x := by rw [h]; simp
  rw [List.getElem?_reverse (by simp; omega), up_length, up_get (by omega)] at e1
  exact ⟨by have := Option.some.inj e1; omega, hl⟩
theorem turnB_at {W : Wb} {hs : List (Int × Int)} {row : List Int} {i : Nat} (h0 : 1 ≤ i) (h1 : i < row.length) (hc : crossAt W hs row i = true) (hno : ∀ j, 1 ≤ j → j < i → crossAt W hs row j = false) : turnB W hs row = row.take i ++ (row.drop i).reverse := by
  have hf : (List.range' 1 (row.length - 1)).find? (crossAt W hs row) = some i := by
    rw [List.find?_eq_some_iff_append]
    refine ⟨hc, List.range' 1 (i - 1), List.range' (i + 1) (row.length - 1 - i), ?_, fun j hj => ?_⟩
    · have := List.range'_append (s := 1) (m := i - 1) (n := row.length - i) (step := 1)
      rw [show i - 1 + (row.length - i) = row.length - 1 by omega] at this
      rw [← this]
      congr 1
      obtain ⟨m, hm⟩ : ∃ m, row.length - i = m + 1 := ⟨row.length - i - 1, by omega⟩
      rw [hm, List.range'_succ]
      congr 1
      · omega
      · congr 1 <;> omega
    · have := List.mem_range'_1.mp hj
      simp [hno j (by omega) (by omega)]
  unfold turnB; rw [hf]; rfl
end Cr
set_option maxHeartbeats 4000000
/-! Fw32: ranges walked from their ends -/
namespace Cr
open PySem PySem.Spec PyProof.Rows L2
theorem walk_revR {tp b : Bool} {Hs H : Hp} {lo : Int} {n : Nat} (hz : n ≤ sizeLine) : Walks tp b Hs H (Itc (lo + (n : Int) - 1) (-1) n) (rng lo n).reverse := by
  have hl : (rng lo n).reverse.length = n := by rw [List.length_reverse, rng_len]
  refine ⟨by rw [hl]; exact hz, fun _ => none, (fun _ _ e => nomatch e), (fun _ _ _ e => nomatch e), fun H2 _ => ⟨fun i hi => ?_, by show n ≤ (rng lo n).reverse.length; omega⟩⟩
  rw [hl] at hi
  refine ⟨hi, fun v H3 y => ?_⟩
  obtain ⟨rfl, rfl⟩ := y
  refine ⟨Same.refl _, .int (lo + (n : Int) - 1 + (i : Nat) * (-1)), ?_, .inl (.int _)⟩
  rw [List.getElem?_reverse (by rw [rng_len]; exact hi), rng_len, rng_get (by omega)]
  congr 2
  omega
section
variable {X : Cx} {w : Wx} {tg e : Expr} {fr : ER} {p pos : Pos}
@[simp] def iRevRg (fr : ER) : EI := fun ρ P E => fr ρ (fun a b => (-16777216 ≤ a ∧ a ≤ 16777216 ∧ -16777216 ≤ b ∧ b ≤ 16777216 ∧ b - a ≤ 16777216) ∧ P true (rng a (b - a).toNat).reverse) E
theorem di_revR (hg : Gl X "reversed") (hm : X.mg "reversed" = none) (he : DR X w e fr) (hs : starEach [e] X.env = (false, eval e X.env) :: starEach [] X.env := by rfl) : DI X w tg (.Call (.Name "reversed" p) [e] [] pos) (iRevRg fr) :=
  (pi_revR hg hm he hs).imp fun σ H R ⟨B, ρ, P, E, F, hf, hP, hE⟩ => ⟨B, ρ, _, E, F, hf, fun a b q H1 s1 => by
    refine ⟨by omega, by omega, by omega, by omega, hP true _ q.2 _ _ s1 (walk_revR (by have := sizeLine_big; omega))⟩, hE⟩
end
end Cr
set_option maxHeartbeats 4000000
namespace Cr
/-! whole rings: their ties, what they hold, led back over a put -/
theorem rties_nodup {ps : List Int} (hn : ps.Nodup) (hl : 3 ≤ ps.length) : (rties ps).Nodup := by
  match ps, hl with
  | a :: c :: d :: r, _ =>
    rw [rties_cons]
    refine List.nodup_cons.mpr ⟨fun hm => ?_, links_nodup hn⟩
    obtain ⟨h1, h2⟩ := List.nodup_cons.mp hn
    obtain ⟨h3, h4⟩ := List.nodup_cons.mp h2
    have el : (a :: c :: d :: r).getLast (by simp) ∈ d :: r := by
      rw [List.getLast_cons (by simp), List.getLast_cons (by simp)]
      exact List.getLast_mem _
    generalize (a :: c :: d :: r).getLast (by simp) = l at *
    rw [links_cc, List.mem_cons] at hm
    rcases hm with e | hm
    · rcases tieOf_eq.mp e with ⟨e1, _⟩ | ⟨e1, _⟩
      · subst e1; exact h1 (List.mem_cons_of_mem _ el)
      · subst e1; exact h3 el
    · have := links_in hm
      rcases tieOf_left a l with e | e
      · rw [tieOf_comm] at this; rw [e] at this; exact h1 this.1
      · rw [tieOf_comm] at this; rw [e] at this; exact h1 this.2
theorem rties_len {ps : List Int} (h : ps ≠ []) : (rties ps).length = ps.length := by
  cases ps with
  | nil => exact absurd rfl h
  | cons a r => rw [rties_cons, List.length_cons, links_len]; simp
theorem rties_in {ps : List Int} {t : Int × Int} (h : t ∈ rties ps) : t.1 ∈ ps ∧ t.2 ∈ ps := by
  rcases List.mem_append.mp h with h | h
  · unfold joint at h
    split at h
    · rename_i x y e1 e2
      simp only [List.mem_singleton] at h
      have m1 := List.mem_of_getLast? e1
      have m2 := List.mem_of_mem_head? (by rw [e2]; rfl)
      subst h
      rcases tieOf_fst x y with e | e <;> rcases tieOf_snd x y with e' | e' <;> rw [e, e'] <;> exact ⟨by assumption, by assumption⟩
    · cases h
  · exact links_in h
theorem cyc_noRing {ps : List Int} (hn : ps.Nodup) (hl : 3 ≤ ps.length) {ts : List (Int × Int)} (hd : ts.Nodup) (hs : ∀ t ∈ ts, t ∈ rties ps) (hlt : ts.length < ps.length) : ¬ hasRing ts := by
  have hne : ps ≠ [] := by intro e; subst e; simp at hl
  have ⟨t, ht, hno⟩ : ∃ t ∈ rties ps, t ∉ ts := by
    apply Classical.byContradiction
    intro h
    have := List.Nodup.length_le_of_subset (rties_nodup hn hl) (l₂ := ts) fun t ht => Classical.byContradiction fun h2 => h ⟨t, ht, h2⟩
    rw [rties_len hne] at this
    omega
  rcases List.mem_append.mp ht with h | h
  · refine links_noRing hn (fun u hu => ?_) hd
    rcases List.mem_append.mp (hs u hu) with h2 | h2
    · have : joint ps ps = [t] := by
        unfold joint at h ⊢
        split at h
        · simp only [List.mem_singleton] at h
          rw [h]
        · cases h
      rw [this, List.mem_singleton] at h2
      subst h2
      exact absurd hu hno
    · exact h2
  · obtain ⟨as, bs, x, y, rfl, rfl⟩ := links_mem h
    have hr : Rot (as ++ x :: y :: bs) ((y :: bs) ++ (as ++ [x])) := ⟨as ++ [x], y :: bs, by simp, rfl⟩
    refine links_noRing (hr.perm.nodup hn) (fun u hu => ?_) hd
    have h2 := hr.ties.mem_iff.mp (hs u hu)
    rcases List.mem_append.mp h2 with h2 | h2
    · have : joint (y :: bs ++ (as ++ [x])) (y :: bs ++ (as ++ [x])) = [tieOf x y] := by
        unfold joint
        simp [List.getLast?_cons]
      rw [this, List.mem_singleton] at h2
      subst h2
      exact absurd hu hno
    · exact h2
theorem degT_perm {ts us : List (Int × Int)} (h : ts.Perm us) (p : Int) : degT ts p = degT us p := by unfold degT; rw [h.countP_eq]
theorem degT_ring {ps : List Int} (hn : ps.Nodup) (hl : 3 ≤ ps.length) {p : Int} (hp : p ∈ ps) : degT (rties ps) p = 2 := by
  obtain ⟨A, B, e, hA⟩ : ∃ A B, ps = A ++ p :: B ∧ p ∉ A := by
    obtain ⟨A, B, e⟩ := List.append_of_mem hp
    refine ⟨A, B, e, fun h => ?_⟩
    subst e
    exact (List.nodup_append.mp hn).2.2 p h p (List.mem_cons_self ..) rfl
  have hr : Rot ps (p :: B ++ A) := ⟨A, p :: B, e, rfl⟩
  have hn2 := hr.perm.nodup hn
  have hl2 := hr.perm.length_eq
  rw [degT_perm hr.ties]
  simp only [List.cons_append] at hn2 hl2 ⊢
  generalize B ++ A = r at *
  match r, hl2 with
  | [], hl2 => simp at hl2; omega
  | [c], hl2 => simp at hl2; omega
  | c :: d :: r, hl2 =>
    obtain ⟨h1, h2⟩ := List.nodup_cons.mp hn2
    rw [rties_cons, links_cc]
    have el : (p :: c :: d :: r).getLast (by simp) ∈ c :: d :: r := by
      rw [List.getLast_cons (by simp)]; exact List.getLast_mem _
    generalize (p :: c :: d :: r).getLast (by simp) = l at *
    have : tieOf l p :: tieOf p c :: links (c :: d :: r) = [tieOf l p] ++ ([tieOf p c] ++ links (c :: d :: r)) := rfl
    rw [this, degT_app, degT_app, degT_one, degT_one, degT_links_out h1]
    have e1 : (tieOf l p).1 = p ∨ (tieOf l p).2 = p := by rw [tieOf_comm]; exact tieOf_left p l
    rw [if_pos e1, if_pos (tieOf_left p c)]
    rfl
theorem degT_cyc {ps : List Int} (hn : ps.Nodup) (hl : 3 ≤ ps.length) {ts : List (Int × Int)} (hd : ts.Nodup) (hs : ∀ t ∈ ts, t ∈ rties ps) (p : Int) : degT ts p ≤ 2 := by
  by_cases hp : p ∈ ps
  · have := degT_sub hd hs p
    rw [degT_ring hn hl hp] at this
    exact this
  · have : degT ts p = 0 := degT_zero fun t ht => by
      have := rties_in (hs t ht)
      exact ⟨fun e => hp (e ▸ this.1), fun e => hp (e ▸ this.2)⟩
    omega
theorem heldOk_cyc {W : Wb} {ps : List Int} (hn : ps.Nodup) (hl : 3 ≤ ps.length) {hs : List (Int × Int)} (hup : hs.Pairwise lexLt) (hs' : ∀ t ∈ hs, t ∈ rties ps) (hw : ∀ t ∈ hs, t ∈ W.ts) (h4 : hs.length ≤ 4) (hlt : hs.length < ps.length) : HeldOk W hs := by
  have hd : hs.Nodup := hup.imp fun h => h.ne
  exact ⟨h4, hw, hup, fun p => by have := degT_cyc hn hl hd hs' p; omega, cyc_noRing hn hl hd hs' hlt⟩
/-- the crossing that leads a ring back -/
theorem cross_put {W : Wb} (hW : WebOk W) {hs : List (Int × Int)} {a b : Int} (hp : (a, b) ∈ putsOf W hs.length) {ps : List Int} (w : WholeOk (W.put (a, b)) hs ps) (hm : (a, b) ∈ rties ps) :
    ∃ i, 1 ≤ i ∧ i < ps.length ∧ crossAt W hs (fromPut ps a b) i = true := by
  obtain ⟨⟨h0, h1, h2⟩, h3, h4⟩ := mem_puts.mp hp
  simp only at h0 h1 h2 h3
  have et : tieOf a b = (a, b) := by unfold tieOf; congr 1 <;> omega
  have ht := fromPut_turn ps a b
  have hperm := whole_perm w.ring.pl.1 w.ring.pl.2 w.all
  have hin := rties_in hm
  have hh := fromPut_head (b := b) hin.1
  have hl := fromPut_last w.ring.pl.1 hin.1 (by rw [et]; exact hm) w.ring.len
  have hall : ∀ y, 0 ≤ y → y < W.n → y ∈ fromPut ps a b := fun y y0 y1 => ht.perm.mem_iff.mp (hperm.mem_iff.mpr (mem_up.mpr (by have : (W.put (a, b)).n = W.n := rfl; omega)))
  have hlen : ((fromPut ps a b).length : Int) = W.n := by rw [← ht.perm.length_eq]; exact w.all
  obtain ⟨xs, ys, x, y, e, g1, g2, g3⟩ := cross_ends (held := hs) hW (ht.perm.nodup w.ring.pl.1) hh hl (fun y e => hall y (hW.adj e).2.2.1 (hW.adj e).2.2.2.1) (fun y e => hall y (hW.adj e).2.2.1 (hW.adj e).2.2.2.1) (by rw [hlen]; omega)
  refine ⟨xs.length + 1, by omega, ?_, ?_⟩
  · rw [ht.perm.length_eq, e]; simp
  · have i0 : itemN (fromPut ps a b) 0 = a := by unfold itemN; rw [← List.head?_eq_getElem?, hh]; rfl
    have il : lastN (fromPut ps a b) = b := by unfold lastN; rw [hl]; rfl
    have iy : itemN (fromPut ps a b) (xs.length + 1) = y := by unfold itemN; rw [e]; simp
    have ix : itemN (fromPut ps a b) (xs.length + 1 - 1) = x := by unfold itemN; rw [e]; simp
    unfold crossAt
    rw [i0, il, iy, ix]
    simp only [Bool.and_eq_true, decide_eq_true_eq]
    exact ⟨⟨g1, g2⟩, g3⟩
theorem turnAt_ok {W : Wb} {hs : List (Int × Int)} {row : List Int} {i : Nat} (h0 : 1 ≤ i) (h1 : i < row.length) (hc : crossAt W hs row i = true) (hl : ∀ t ∈ links row, t ∈ W.ts) (hh : ∀ t ∈ hs, t ∈ links row) :
    (∀ t ∈ rties (turnAt row i), t ∈ W.ts) ∧ ∀ t ∈ hs, t ∈ rties (turnAt row i) := by
  unfold crossAt at hc
  simp only [Bool.and_eq_true, decide_eq_true_eq] at hc
  obtain ⟨⟨c1, c2⟩, c3⟩ := hc
  obtain ⟨xs, x, y, ys, e, hi⟩ : ∃ xs x y ys, row = xs ++ x :: y :: ys ∧ i = xs.length + 1 := by
    refine ⟨row.take (i - 1), row[i - 1], row[i], row.drop (i + 1), ?_, ?_⟩
    · have e1 : row[i - 1] :: row.drop (i - 1 + 1) = row.drop (i - 1) := List.getElem_cons_drop (by omega)
      have e2 : row[i] :: row.drop (i + 1) = row.drop i := List.getElem_cons_drop h1
      rw [e2]
      have e3 : i - 1 + 1 = i := by omega
      simp only [e3] at e1
      rw [e1, List.take_append_drop]
    · rw [List.length_take]; omega
  subst hi
  have iy : itemN row (xs.length + 1) = y := by unfold itemN; rw [e]; simp
  have ix : itemN row (xs.length + 1 - 1) = x := by unfold itemN; rw [e]; simp
  rw [iy] at c1 c3
  rw [ix] at c2 c3
  have ht : turnAt row (xs.length + 1) = xs ++ [x] ++ (y :: ys).reverse := by
    unfold turnAt
    rw [e]
    have e1 : xs ++ x :: y :: ys = (xs ++ [x]) ++ (y :: ys) := by simp
    have e2 : xs.length + 1 = (xs ++ [x]).length := by simp
    rw [e1, e2, List.take_left', List.drop_left'] <;> rfl
  obtain ⟨a, ha⟩ : ∃ a, (xs ++ [x]).head? = some a := ⟨(xs ++ [x]).head (by simp), List.head?_eq_some_head _⟩
  obtain ⟨b, hb⟩ : ∃ b, (y :: ys).getLast? = some b := ⟨(y :: ys).getLast (by simp), List.getLast?_eq_some_getLast _⟩
  have i0 : itemN row 0 = a := by
    unfold itemN
    rw [← List.head?_eq_getElem?, e, show xs ++ x :: y :: ys = (xs ++ [x]) ++ (y :: ys) by simp, List.head?_append, ha]; rfl
  have il : lastN row = b := by
    unfold lastN
    rw [e, show xs ++ x :: y :: ys = (xs ++ [x]) ++ (y :: ys) by simp, List.getLast?_append, hb]; rfl
  rw [i0] at c1
  rw [il] at c2
  have hp := turned_ties ha hb
  rw [← ht] at hp
  have hlk : links row = links (xs ++ [x]) ++ [tieOf x y] ++ links (y :: ys) := by
    rw [e, show xs ++ x :: y :: ys = (xs ++ [x]) ++ (y :: ys) by simp, links_app, joint_snoc]
  refine ⟨fun t ht => ?_, fun t ht => hp.mem_iff.mpr ?_⟩
  · have := hp.mem_iff.mp ht
    rcases List.mem_cons.mp this with rfl | h
    · exact c1
    · rcases List.mem_cons.mp h with rfl | h
      · exact c2
      · refine hl t ?_
        rw [hlk]
        rcases List.mem_append.mp h with h | h <;> simp [h]
  · have := hh t ht
    rw [hlk] at this
    refine List.mem_cons_of_mem _ (List.mem_cons_of_mem _ ?_)
    rcases List.mem_append.mp this with h | h
    · rcases List.mem_append.mp h with h | h
      · exact List.mem_append_left _ h
      · rw [List.mem_singleton] at h
        subst h
        exact absurd ht c3
    · exact List.mem_append_right _ h
theorem turnB_ex {W : Wb} {hs : List (Int × Int)} {row : List Int} {i : Nat} (h0 : 1 ≤ i) (h1 : i < row.length) (hc : crossAt W hs row i = true) : ∃ j, 1 ≤ j ∧ j < row.length ∧ crossAt W hs row j = true ∧ turnB W hs row = turnAt row j := by
  unfold turnB
  cases e : (List.range' 1 (row.length - 1)).find? (crossAt W hs row) with
  | none =>
    have := List.find?_eq_none.mp e i (List.mem_range'_1.mpr (by omega))
    exact absurd hc this
  | some j =>
    have h2 := List.find?_some e
    have h3 := List.mem_range'_1.mp (List.mem_of_find?_eq_some e)
    exact ⟨j, h3.1, by omega, h2, rfl⟩
theorem turn_whole {W : Wb} {hs : List (Int × Int)} {ps qs : List Int} (h : Turn ps qs) (w : WholeOk W hs ps) : WholeOk W hs qs :=
  ⟨⟨⟨h.perm.nodup w.ring.pl.1, fun p hp => w.ring.pl.2 p (h.perm.mem_iff.mpr hp)⟩, by rw [← h.perm.length_eq]; exact w.ring.len, fun t ht => w.ring.ts t (h.ties.mem_iff.mpr ht)⟩, by rw [← h.perm.length_eq]; exact w.all, fun t ht => h.ties.mem_iff.mp (w.held t ht)⟩
/-- the ring led back -/
theorem over_whole {W : Wb} (hW : WebOk W) {hs : List (Int × Int)} (hh : ∀ t ∈ hs, t ∈ W.ts) {p : Int × Int} (hp : p ∈ putsOf W hs.length) {ps : List Int} (w : WholeOk (W.put p) hs ps) : WholeOk W hs (overF W hs p ps) := by
  obtain ⟨a, b⟩ := p
  obtain ⟨⟨h0, h1, h2⟩, h3, h4⟩ := mem_puts.mp hp
  simp only at h0 h1 h2 h3
  have et : tieOf a b = (a, b) := by unfold tieOf; congr 1 <;> omega
  have hpl : plOk W.n ps := w.ring.pl
  have old : ∀ t, t ∈ (W.put (a, b)).ts → t ≠ (a, b) → t ∈ W.ts := fun t ht hne => (mem_insP.mp ht).resolve_left hne
  unfold overF
  simp only [et]
  split
  · rename_i hm
    obtain ⟨i, i1, i2, ic⟩ := cross_put hW hp w hm
    have ht := fromPut_turn ps a b
    have hlen := ht.perm.length_eq
    have hin := rties_in hm
    have hfh := fromPut_head (b := b) hin.1
    have hfl := fromPut_last hpl.1 hin.1 (by rw [et]; exact hm) w.ring.len
    have wt := turn_whole ht w
    obtain ⟨j, j1, j2, jc, je⟩ := turnB_ex i1 (by rw [← hlen]; exact i2) ic
    have hj : joint (fromPut ps a b) (fromPut ps a b) = [(a, b)] := by
      simp only at hfh hfl
      unfold joint
      rw [hfh, hfl]
      show [tieOf b a] = _
      rw [tieOf_comm, et]
    have hlk : ∀ t ∈ links (fromPut ps a b), t ∈ W.ts := fun t ht' => by
      refine old t (wt.ring.ts t (List.mem_append_right _ ht')) fun e => ?_
      have hnd := rties_nodup wt.ring.pl.1 wt.ring.len
      unfold rties at hnd
      rw [hj] at hnd
      subst e
      exact (List.nodup_cons.mp hnd).1 ht'
    have hhl : ∀ t ∈ hs, t ∈ links (fromPut ps a b) := fun t ht' => by
      rcases List.mem_append.mp (wt.held t ht') with h | h
      · rw [hj, List.mem_singleton] at h
        subst h
        exact absurd (hh _ ht') h4
      · exact h
    obtain ⟨g1, g2⟩ := turnAt_ok j1 j2 jc hlk hhl
    have hpm := turnAt_perm (fromPut ps a b) j
    rw [je]
    refine turn_whole (told_turn _) ⟨⟨⟨hpm.symm.nodup wt.ring.pl.1, fun p hp' => hpl.2 p (ht.perm.mem_iff.mpr (hpm.mem_iff.mp hp'))⟩, by rw [hpm.length_eq]; exact wt.ring.len, g1⟩, by rw [hpm.length_eq]; exact wt.all, g2⟩
  · rename_i hm
    refine turn_whole (told_turn _) ⟨⟨hpl, w.ring.len, fun t ht => old t (w.ring.ts t ht) fun e => hm (e ▸ ht)⟩, w.all, w.held⟩
end Cr
set_option maxHeartbeats 4000000
/-! Fw34: pairs walked; ties that are drawn -/
namespace Cr
open PySem PySem.Spec PyProof.Rows L2
@[simp] theorem seqP_pr (P : Bool → List PD → Prop) (p : Int × Int) : seqP P (.val (encPr p)) = seqP P (.val (.tuple [.int p.1, .int p.2])) := rfl
@[simp] theorem items_pr (p : Int × Int) : items (.val (encPr p)) = some [.int p.1, .int p.2] := rfl
@[simp] theorem seqy_pr (p : Int × Int) : seqy (.val (encPr p)) = some [.int p.1, .int p.2] := rfl
theorem encPr_eq (a b : Int) : encPr (a, b) = .tuple [.int a, .int b] := rfl
/-- some ties of a web, each once -/
structure TsR (n : Int) (ts : List (Int × Int)) : Prop where
  nd : ts.Nodup
  rg : ∀ t ∈ ts, 0 ≤ t.1 ∧ t.1 < t.2 ∧ t.2 < n
theorem TsR.snoc {n : Int} {ts : List (Int × Int)} (h : TsR n ts) {t : Int × Int} (hn : t ∉ ts) (hr : 0 ≤ t.1 ∧ t.1 < t.2 ∧ t.2 < n) : TsR n (ts ++ [t]) :=
  ⟨List.nodup_append.mpr ⟨h.nd, by simp, fun x hx y hy e => by simp at hy; subst hy; subst e; exact hn hx⟩, fun u hu => by
    rcases List.mem_append.mp hu with hu | hu
    · exact h.rg u hu
    · simp at hu; subst hu; exact hr⟩
theorem TsR.web {n : Int} {ts : List (Int × Int)} (h : TsR n ts) (h3 : 3 ≤ n) (h20 : n ≤ 20) : WebOk ⟨n, srtP ts⟩ :=
  ⟨h3, h20, fun t ht => h.rg t (mem_srtP.mp ht), srtP_lt h.nd⟩
theorem TsR.len {n : Int} {ts : List (Int × Int)} (h : TsR n ts) (h20 : n ≤ 20) : ts.length ≤ 400 := by
  have := TsOk.len (n := n) (ts := srtP ts) ⟨fun t ht => h.rg t (mem_srtP.mp ht), srtP_lt h.nd⟩ h20
  simpa using this
theorem degT_srt (ts : List (Int × Int)) (p : Int) : degT (srtP ts) p = degT ts p := degT_perm (srtP_perm ts) p
/-- a place's ties to many others -/
theorem degT_many {ts : List (Int × Int)} {a : Int} {qs : List Int} (hq : qs.Nodup) (h : ∀ q ∈ qs, q ≠ a ∧ tieOf q a ∈ ts) : (qs.length : Int) ≤ degT ts a := by
  unfold degT
  rw [List.countP_eq_length_filter]
  have hn : (qs.map fun q => tieOf q a).Nodup := List.pairwise_map.mpr (hq.imp_of_mem fun {x y} hx hy e e2 => by
    rcases tieOf_eq.mp e2 with ⟨e3, _⟩ | ⟨e3, _⟩
    · exact e e3
    · exact (h x hx).1 e3)
  have := hn.length_le_of_subset (l₂ := ts.filter fun q => decide (q.1 = a ∨ q.2 = a)) fun t ht => by
    obtain ⟨q, hq', rfl⟩ := List.mem_map.mp ht
    refine List.mem_filter.mpr ⟨(h q hq').2, decide_eq_true ?_⟩
    rw [tieOf_comm]
    exact tieOf_left a q
  rw [List.length_map] at this
  omega
theorem tieOf_range {n a b : Int} (ha : 0 ≤ a ∧ a < n) (hb : 0 ≤ b ∧ b < n) (h : a ≠ b) : 0 ≤ (tieOf a b).1 ∧ (tieOf a b).1 < (tieOf a b).2 ∧ (tieOf a b).2 < n := by
  unfold tieOf; simp only; omega
theorem rties_range {n : Int} {ps : List Int} (hn : ps.Nodup) (hr : ∀ p ∈ ps, 0 ≤ p ∧ p < n) (h3 : 3 ≤ ps.length) : ∀ t ∈ rties ps, 0 ≤ t.1 ∧ t.1 < t.2 ∧ t.2 < n := by
  intro t ht
  have hin := rties_in ht
  have h1 := hr _ hin.1
  have h2 := hr _ hin.2
  have hne : t.1 ≠ t.2 := fun e => by
    have hd := degT_ring hn h3 hin.1
    rcases List.mem_append.mp ht with h | h
    · unfold joint at h
      split at h
      · rename_i x y e1 e2
        simp only [List.mem_singleton] at h
        subst h
        have exy : x = y := by unfold tieOf at e; simp only at e; omega
        subst exy
        match ps, h3 with
        | a :: b :: c :: r, _ =>
          cases e2
          rw [List.getLast?_cons_cons] at e1
          exact (List.nodup_cons.mp hn).1 (List.mem_of_getLast? e1)
      · cases h
    · obtain ⟨as, bs, x, y, rfl, rfl⟩ := links_mem h
      have exy : x = y := by unfold tieOf at e; simp only at e; omega
      subst exy
      have := (List.nodup_append.mp hn).2.1
      exact (List.nodup_cons.mp this).1 (List.mem_cons_self ..)
  obtain ⟨x, y, e⟩ : ∃ x y, t = tieOf x y := by
    rcases List.mem_append.mp ht with h | h
    · unfold joint at h
      split at h
      · simp only [List.mem_singleton] at h; exact ⟨_, _, h⟩
      · cases h
    · obtain ⟨as, bs, x, y, _, e⟩ := links_mem h
      exact ⟨x, y, e⟩
  have hle : t.1 ≤ t.2 := by rw [e]; unfold tieOf; simp only; omega
  omega
@[simp ↓ high] theorem gEq_pr (p q : Int × Int) (P : D → Prop) : gEq (.val (encPr p)) (.val (encPr q)) P = P (.val (.bool (decide (p = q)))) := by
  show (SeqAt.shaped (encPr p) = true ∧ SeqAt.shaped (encPr q) = true ∧ P (.val (.bool (PyData.eqv (encPr p) (encPr q))))) = _
  simp
@[simp ↓ high] theorem gNe_pr (p q : Int × Int) (P : D → Prop) : gNe (.val (encPr p)) (.val (encPr q)) P = P (.val (.bool (!decide (p = q)))) := by
  show (SeqAt.shaped (encPr p) = true ∧ SeqAt.shaped (encPr q) = true ∧ P (.val (.bool (!PyData.eqv (encPr p) (encPr q))))) = _
  simp
@[simp ↓ high] theorem gNe_pr' (a b : Int) (q : Int × Int) (P : D → Prop) : gNe (.val (.tuple [.int a, .int b])) (.val (encPr q)) P = P (.val (.bool (!decide ((a, b) = q)))) := gNe_pr (a, b) q P
@[simp ↓ high] theorem gEq_pr' (a b : Int) (q : Int × Int) (P : D → Prop) : gEq (.val (.tuple [.int a, .int b])) (.val (encPr q)) P = P (.val (.bool (decide ((a, b) = q)))) := gEq_pr (a, b) q P
end Cr
set_option maxHeartbeats 4000000
/-! Fw35: a ring over a put, one for all turns of it -/
namespace Cr
open PySem PySem.Spec PyProof.Rows L2
theorem turn_uniq {xs ys : List Int} (hn : xs.Nodup) (hl : 3 ≤ xs.length) (h : Turn xs ys) (hh : xs.head? = ys.head?) (ht : xs.getLast? = ys.getLast?) : xs = ys := by
  rcases h with h | h
  · exact rot_head hn h hh
  · exfalso
    match xs, hl with
    | a :: b :: c :: r, _ =>
      have r1 : Rot (flip1 (a :: b :: c :: r)) (a :: b :: c :: r).reverse := ⟨[a], (b :: c :: r).reverse, by simp [flip1], by simp⟩
      have hn2 : (flip1 (a :: b :: c :: r)).Nodup := by
        have : (a :: b :: c :: r).Perm (flip1 (a :: b :: c :: r)) := by
          unfold flip1
          exact List.Perm.cons _ (List.reverse_perm _).symm
        exact this.nodup hn
      have e := rot_head hn2 (r1.trans h) (by rw [← hh]; rfl)
      rw [← e] at ht
      have e2 : (flip1 (a :: b :: c :: r)).getLast? = some b := by
        show (a :: (b :: c :: r).reverse).getLast? = some b
        rw [List.getLast?_cons, List.getLast?_reverse]; rfl
      rw [e2, List.getLast?_cons_cons, List.getLast?_cons_cons] at ht
      have := List.mem_of_getLast? ht
      exact (List.nodup_cons.mp (List.nodup_cons.mp hn).2).1 this
theorem fromPut_of_turn {ps qs : List Int} {a b : Int} (hn : ps.Nodup) (hl : 3 ≤ ps.length) (h : Turn ps qs) (hm : a ∈ ps) (hr : tieOf a b ∈ rties ps) : fromPut ps a b = fromPut qs a b := by
  have hn2 := h.perm.nodup hn
  have hl2 := h.perm.length_eq
  have hm2 := h.perm.mem_iff.mp hm
  have hr2 := h.ties.mem_iff.mp hr
  have t1 := fromPut_turn ps a b
  refine turn_uniq (t1.perm.nodup hn) (by rw [← t1.perm.length_eq]; exact hl) (t1.symm.trans (h.trans (fromPut_turn qs a b))) ?_ ?_
  · rw [fromPut_head hm, fromPut_head hm2]
  · rw [fromPut_last hn hm hr hl, fromPut_last hn2 hm2 hr2 (by omega)]
theorem tie_in {ps : List Int} {a b : Int} (h : tieOf a b ∈ rties ps) : a ∈ ps := by
  have := rties_in h
  rcases tieOf_left a b with e | e
  · rw [← e]; exact this.1
  · rw [← e]; exact this.2
theorem overF_turn {W : Wb} {hs : List (Int × Int)} {p : Int × Int} {ps qs : List Int} (hn : ps.Nodup) (hl : 3 ≤ ps.length) (h : Turn ps qs) : overF W hs p ps = overF W hs p qs := by
  unfold overF
  by_cases e : tieOf p.1 p.2 ∈ rties ps
  · rw [if_pos e, if_pos (h.ties.mem_iff.mp e), fromPut_of_turn hn hl h (tie_in e) e]
  · rw [if_neg e, if_neg fun e2 => e (h.ties.mem_iff.mpr e2), told_of_turn hn hl h]
theorem told_overF {W : Wb} {hs : List (Int × Int)} {p : Int × Int} {ps : List Int} (hn : ps.Nodup) (hl : 3 ≤ ps.length) : told (overF W hs p ps) = overF W hs p ps := by
  unfold overF
  split
  · have h : (turnB W hs (fromPut ps p.1 p.2)).Perm ps := (turnB_perm _ _ _).trans (fromPut_turn _ _ _).perm.symm
    exact told_told (h.symm.nodup hn) (by rw [h.length_eq]; exact hl)
  · exact told_told hn hl
/-- a web, held ties, a put and a ring that fit together -/
theorem led_ready {n k a b : Int} {ps qs : List Int} {W : Wb} {hs : List (Int × Int)} (hp : ps.Perm (up 0 n.toNat)) (n5 : 5 ≤ n) (hk : k ≤ n - 4) (k4 : k ≤ 4) (a0 : 0 ≤ a) (ab : a < b) (bn : b < n)
    (hl : (hs.length : Int) = k) (hup : hs.Pairwise lexLt) (hm : ∀ t ∈ hs, t ∈ rties ps ∧ t ≠ (a, b)) (hW : WebOk W) (hn : W.n = n) (hr : ∀ t ∈ rties ps, t ≠ (a, b) → t ∈ W.ts) (hno : (a, b) ∉ W.ts) (hd : n + k ≤ deg W a + deg W b) (ht : Turn ps qs) :
    HeldOk W hs ∧ (a, b) ∈ putsOf W hs.length ∧ WholeOk (W.put (a, b)) hs qs := by
  have hpl := hp.length_eq
  rw [up_length] at hpl
  have hnd : ps.Nodup := hp.symm.nodup ((up_inc 0 n.toNat).imp fun {x y} h => (show x ≠ y by omega))
  have hrg : ∀ p ∈ ps, 0 ≤ p ∧ p < n := fun p h => by have := mem_up.mp (hp.mem_iff.mp h); omega
  refine ⟨heldOk_cyc hnd (by omega) hup (fun t ht => (hm t ht).1) (fun t ht => hr t (hm t ht).1 (hm t ht).2) (by omega) (by omega), mem_puts.mpr ⟨⟨a0, ab, by omega⟩, by rw [hl, hn]; exact hd, hno⟩, ?_⟩
  refine turn_whole ht ⟨⟨⟨hnd, fun p h => by have := hrg p h; show 0 ≤ p ∧ p < W.n; omega⟩, by omega, fun t ht => ?_⟩, by show (ps.length : Int) = W.n; omega, fun t ht => (hm t ht).1⟩
  by_cases e : t = (a, b)
  · exact mem_insP.mpr (.inl e)
  · exact mem_insP.mpr (.inr (hr t ht e))
theorem putsRow_one {W : Wb} {more : Int} {p : Int × Int} (hW : WebOk W) (h : p ∈ putsOf W more) : PutsRow more W [p] := fun a q b e => by
  obtain ⟨rfl, rfl, rfl⟩ : a = [] ∧ q = p ∧ b = [] := by
    cases a with
    | nil => simp at e; exact ⟨rfl, e.1.symm, e.2⟩
    | cons x a => simp at e
  exact ⟨hW, h⟩
theorem putsRow_none {W : Wb} {more : Int} : PutsRow more W [] := fun a q b e => by simp at e
end Cr
set_option maxHeartbeats 4000000
/-! Fw36: try, with clauses that name the error or don't -/
namespace Cr
open PySem PySem.Spec PyProof.Rows L2
abbrev TsE := Addr → Value → Option Addr → TS
/-- behind a clause its name is gone -/
def offE (i : Nat) (D : Ends) : Ends := { nx := fun σ H => D.nx (σ.set i none) H, rt := D.rt, bk := fun σ H => D.bk (σ.set i none) H, ct := fun σ H => D.ct (σ.set i none) H }
/-- the clauses of a try, each with what its suite asks -/
inductive HdN (X : Cx) : List ExceptHandler → List (Value × TsE) → Prop
  | nil : HdN X [] []
  | plain {x : Str} {c : Value} {ts : TsE} {b : Stmt} {su : List Stmt} {np p : Pos} {hds : List ExceptHandler} {l : List (Value × TsE)} (hc : Names X x c)
      (hsu : ∀ (a : Addr) (ob : Obj) (cls : Value) (d : Option Addr) (pn : List (Addr × Obj)), L2N.Zn cls d ob → (∃ fs, ob.data = .fields fs) → PSs (X.suite a ((a, ob) :: pn)) (b :: su) (ts a cls d)) (r : HdN X hds l) :
      HdN X (.ExceptHandler (some (.Name x np)) none (b :: su) p :: hds) ((c, ts) :: l)
  | named {x n : Str} {c : Value} {i : Nat} {ts : TsE} {b : Stmt} {su : List Stmt} {np p : Pos} {hds : List ExceptHandler} {l : List (Value × TsE)} (hc : Names X x c) (hi : X.N[i]? = some n) (hn : X.env.kindOf n = some .local)
      (hsu : ∀ (a : Addr) (ob : Obj) (cls : Value) (d : Option Addr) (pn : List (Addr × Obj)), L2N.Zn cls d ob → (∃ fs, ob.data = .fields fs) → PSs (X.suite a ((a, ob) :: pn)) (b :: su) (ts a cls d)) (r : HdN X hds l) :
      HdN X (.ExceptHandler (some (.Name x np)) (some n) (b :: su) p :: hds) ((c, fun a cls d D σ H => ts a cls d (offE i D) (σ.set i (some (.ref a))) H) :: l)
section
variable {X : Cx} {body : List Stmt} {hd : ExceptHandler} {hds : List ExceptHandler} {l : List (Value × TsE)} {pos : Pos} {tb : WX → TS} {Wout : WX}
/-- what the clauses do with an error that has come down to them -/
def Clauses (X : Cx) (Wout : WX) (D : Ends) (pins : List (Addr × Obj)) (hds : List ExceptHandler) (l : List (Value × TsE)) : Prop :=
  ∀ (a : Addr) (B : Heap) (s0 s1 : Shared) (σ : St) (H : Hp) (cls : Value) (d : Option Addr) (h3 : Heap), X.Ok → Inv X pins σ H s0 → (∀ b o, s0.heap.get? b = some o → b ∉ frs X.stack → B.get? b = some o) → s0.heap.UpToSlots h3 →
    HandSPX.FlyingZ B (X.env :: X.outer) a (L2N.Zn cls d) h3 → H a = none → s1.os = s0.os → AllBare s1.gens → wMany X.K Wout D l cls d σ H →
    wpAny (model X.prog X.w) X.A (handleBy (.ref a) X.env hds) (SP X pins D) X.xe { s1 with heap := h3 }
theorem not_frame {B h : Heap} {a : Addr} {o : Obj} {vs : Array Value} {st : List Env} (ff : h.FunFrames B st) (e : h.get? a = some o) (dd : o.data = .fields vs) : a ∉ frs st := fun hm => by
  obtain ⟨_, o2, e2, no⟩ := ff.mem hm
  rw [e] at e2
  cases e2
  exact no _ dd
theorem clauses_nil (hs : X.stack = X.env :: X.outer) (hf : X.env.frame = some X.env.locals) (tk : L2N.Takes X Wout) {D : Ends} {pins : List (Addr × Obj)} : Clauses X Wout D pins [] [] := by
  intro a B s0 s1 σ H cls d h3 ok J nb up fl na os ag w
  refine wpAny_handleBy_nil ?_
  obtain ⟨_, _, _, ob, fs, T, oT, us, he, _, hdat, h1, _⟩ := id fl
  unfold PySem.passOn
  refine wpAny_bind (wpAny_field he hdat h1 ?_)
  rw [if_neg (show ¬ ((Value.ref T == Value.none) = true) by simp)]
  have on : wpAny (model X.prog X.w) X.A (setFlight (.ref a) X.env.frame) (fun _ s4 => wpAny (model X.prog X.w) X.A (throw (.ref a) : Sem Flow) (SP X pins D) X.xe s4) X.xe { s1 with heap := h3 } := by
    rw [hf]
    exact HandSPX.setFlight_upZ fl fun h4 held up4 => wpAny_throw (tk _ _ ⟨a, B, s0, pins, σ, H, cls, d, rfl, J, nb, up.trans up4, .inr (.inr (by rw [hs]; exact held)), na, os, ag, w⟩)
  first
  | exact wpAny_bind (wpAny_pure (wpAny_bind on))
  | exact wpAny_bind on
theorem clauses_ok (hs : X.stack = X.env :: X.outer) (hf : X.env.frame = some X.env.locals) (hN : X.N.Nodup) (tk : L2N.Takes X Wout) {D : Ends} {pins : List (Addr × Obj)} {hds : List ExceptHandler} {l : List (Value × TsE)} (hk : HdN X hds l) : Clauses X Wout D pins hds l := by
  induction hk with
  | nil => exact clauses_nil hs hf tk
  | @plain x c ts b su np p more lm hc hsu r ih =>
    intro a B s0 s1 σ H cls d h3 ok J nb up fl na os ag w
    obtain ⟨yes, ask, wt, wf⟩ := w
    have J3 : Inv X pins σ H { s1 with heap := h3 } := J.landed nb fl.1 up os ag
    obtain ⟨ob, us, he, hz, hdat⟩ := fl.there
    have nfr := not_frame fl.2.2.1 he hdat
    have nL : a ≠ X.env.locals := fun z => nfr (List.mem_filterMap.mpr ⟨X.env, List.mem_cons_self, by rw [hf, z]⟩)
    have nF : a ∉ X.fs := fun hm => by
      obtain ⟨en, hen, q⟩ := List.mem_filterMap.mp hm
      exact nfr (List.mem_filterMap.mpr ⟨en, List.mem_cons_of_mem _ hen, q⟩)
    have S3 := J3.suite he hdat na nL nF
    refine wpAny_handleBy_cons (codeAny_handlers_test ?_) (by intro q; cases q)
    have LT : PySem.W.Looks (model X.prog X.w) h3 (typeOf (.ref a)) cls := fun A1 Q1 E1 s2 kp q => wpAny_typeOf_ref (kp _ _ he) (by rw [hz.1]; exact q)
    have LM := PySem.W.exm_one (M := model X.prog X.w) J3.kIn LT ask
    have test : ∀ {Q E : Value → Shared → Prop}, Q c { s1 with heap := h3 } → wpAny (model X.prog X.w) (X.A.mark (some (.ref a))) (eval (.Name x np) X.env) Q E { s1 with heap := h3 } := fun q => by
      obtain ⟨hg, hdb, hm | ⟨hm, hv, hnn⟩⟩ := hc
      · exact ld_glob (X := X.suite a ((a, ob) :: (X.pn ++ pins))) S3 hg hm q hdb
      · exact ld_blt (X := X.suite a ((a, ob) :: (X.pn ++ pins))) S3 hg hm hv q hnn hdb
    refine test (LM.here ?_)
    cases yes with
    | false => exact ih a B s0 s1 σ H cls d h3 ok J nb up fl na os ag (wf rfl)
    | true =>
      refine codeAny_handlers_suite (HandSPX.lands_againZ fl fun h4 fl4 up4 => ?_)
      have J4 : Inv X pins σ H { s1 with heap := h4 } := J.landed nb fl4.1 (up.trans up4) os ag
      obtain ⟨ob4, us4, he4, hz4, hdat4⟩ := fl4.there
      have S4 := J4.suite he4 hdat4 na nL nF
      refine wpAny_mono ((hsu a ob4 cls d (X.pn ++ pins) hz4 ⟨_, hdat4⟩).run [] _ _ H _ S4 (wt rfl a na)) (fun f s6 hsp => ?_) (fun _ _ z => False.elim z)
      cases f with
      | ret u => obtain ⟨v6, σ6, H6, S6, r6, q6⟩ := hsp; exact ⟨v6, σ6, H6, S6.unsuite ok, r6, q6⟩
      | next => obtain ⟨σ6, H6, S6, q6⟩ := hsp; exact ⟨σ6, H6, S6.unsuite ok, q6⟩
      | brk => obtain ⟨σ6, H6, S6, q6⟩ := hsp; exact ⟨σ6, H6, S6.unsuite ok, q6⟩
      | cont => obtain ⟨σ6, H6, S6, q6⟩ := hsp; exact ⟨σ6, H6, S6.unsuite ok, q6⟩
  | @named x n c i ts b su np p more lm hc hi hn hsu r ih =>
    intro a B s0 s1 σ H cls d h3 ok J nb up fl na os ag w
    obtain ⟨yes, ask, wt, wf⟩ := w
    have J3 : Inv X pins σ H { s1 with heap := h3 } := J.landed nb fl.1 up os ag
    obtain ⟨ob, us, he, hz, hdat⟩ := fl.there
    have nfr := not_frame fl.2.2.1 he hdat
    have nL : a ≠ X.env.locals := fun z => nfr (List.mem_filterMap.mpr ⟨X.env, List.mem_cons_self, by rw [hf, z]⟩)
    have nF : a ∉ X.fs := fun hm => by
      obtain ⟨en, hen, q⟩ := List.mem_filterMap.mp hm
      exact nfr (List.mem_filterMap.mpr ⟨en, List.mem_cons_of_mem _ hen, q⟩)
    have S3 := J3.suite he hdat na nL nF
    refine wpAny_handleBy_cons (codeAny_handlers_test ?_) (by intro q; cases q)
    have LT : PySem.W.Looks (model X.prog X.w) h3 (typeOf (.ref a)) cls := fun A1 Q1 E1 s2 kp q => wpAny_typeOf_ref (kp _ _ he) (by rw [hz.1]; exact q)
    have LM := PySem.W.exm_one (M := model X.prog X.w) J3.kIn LT ask
    have test : ∀ {Q E : Value → Shared → Prop}, Q c { s1 with heap := h3 } → wpAny (model X.prog X.w) (X.A.mark (some (.ref a))) (eval (.Name x np) X.env) Q E { s1 with heap := h3 } := fun q => by
      obtain ⟨hg, hdb, hm | ⟨hm, hv, hnn⟩⟩ := hc
      · exact ld_glob (X := X.suite a ((a, ob) :: (X.pn ++ pins))) S3 hg hm q hdb
      · exact ld_blt (X := X.suite a ((a, ob) :: (X.pn ++ pins))) S3 hg hm hv q hnn hdb
    refine test (LM.here ?_)
    cases yes with
    | false => exact ih a B s0 s1 σ H cls d h3 ok J nb up fl na os ag (wf rfl)
    | true =>
      refine codeAny_handlers_suite_as (HandSPX.lands_againZ fl fun h4 fl4 up4 => ?_)
      have J4 : Inv X pins σ H { s1 with heap := h4 } := J.landed nb fl4.1 (up.trans up4) os ag
      obtain ⟨ob4, us4, he4, hz4, hdat4⟩ := fl4.there
      have S4 := J4.suite he4 hdat4 na nL nF
      refine store_ok (X := X.suite a ((a, ob4) :: (X.pn ++ pins))) (v := .ref a) S4 hN hi (.inl hn) rfl (fun s5 S5 => ?_) (.inr hn)
      refine wpAny_mono ((hsu a ob4 cls d (X.pn ++ pins) hz4 ⟨_, hdat4⟩).run [] s5 _ H _ S5 (wt rfl a na)) (fun f s6 hsp => ?_) (fun _ _ z => False.elim z)
      have gone : ∀ {σ6 : St} {H6 : Hp} {Q : Shared → Prop}, Inv (X.suite a ((a, ob4) :: (X.pn ++ pins))) [] σ6 H6 s6 → (∀ s7, Inv X pins (σ6.set i none) H6 s7 → Q s7) →
          wpAny (model X.prog X.w) X.A (do bindName X.env n .none; unbindBehindTheSuite X.env n p) (fun _ s7 => Q s7) X.xe s6 := fun S6 hq => gone_ok (S6.unsuite ok) hN hi hn hq
      cases f with
      | ret u => obtain ⟨v6, σ6, H6, S6, r6, q6⟩ := hsp; exact gone S6 fun s7 J7 => ⟨v6, _, H6, J7, r6, q6⟩
      | next => obtain ⟨σ6, H6, S6, q6⟩ := hsp; exact gone S6 fun s7 J7 => ⟨_, H6, J7, q6⟩
      | brk => obtain ⟨σ6, H6, S6, q6⟩ := hsp; exact gone S6 fun s7 J7 => ⟨_, H6, J7, q6⟩
      | cont => obtain ⟨σ6, H6, S6, q6⟩ := hsp; exact gone S6 fun s7 J7 => ⟨_, H6, J7, q6⟩
theorem ps_try (hs : X.stack = X.env :: X.outer) (hf : X.env.frame = some X.env.locals) (hN : X.N.Nodup) (tk : L2N.Takes X Wout)
    (hb : ∀ (W : WX) (pn : List (Addr × Obj)) (xe : Value → Shared → Prop), L2N.Takes (X.tr pn xe) W → PassesOwn (model X.prog X.w) X.A X.env xe → PSs (X.tr pn xe) body (tb W))
    (hh : HdN X (hd :: hds) l) : PS X (.Try body (hd :: hds) [] [] pos) (fun D σ H => tb (wMany X.K Wout D l) D σ H) := by
  refine ⟨fun pins s σ H D I h => ?_⟩
  have ok := I.ok
  have hfr : X.A.frames = some (X.env :: X.outer) := by rw [ok.frames, hs]
  refine wpAny_Try_except ?_
  refine wpAny_mono ((hb (wMany X.K Wout D l) (X.pn ++ pins) (fun e s₁ => wpAny (model X.prog X.w) X.A (noteFrame e X.env) (fun _ s₂ => wpAny (model X.prog X.w) X.A (setFlight e none)
    (fun _ s₃ => wpAny (model X.prog X.w) X.A (handleBy e X.env (hd :: hds)) (SP X pins D) X.xe s₃) X.xe s₂) X.xe s₁) (fun u s1 xx => ?_) PassesOwn.looking).run [] s σ H D (I.toTry _) h) (fun f s1 hsp => ?_) (fun e s1 he => he)
  · obtain ⟨a, B, s0, pins1, σ1, H1, cls, d, rfl, J0, nb, up, sky, na, os, ag, w⟩ := xx
    have J : Inv X pins σ1 H1 s0 := J0.ofTry ok
    show wpAny (model X.prog X.w) X.A (noteFrame (.ref a) X.env) _ _ _
    exact L2N.Sky.land L2N.Zn.steady hfr hf (by rw [← hs]; exact sky) fun h3 fl3 up3 => clauses_ok hs hf hN tk hh a B s0 s1 σ1 H1 cls d h3 ok J nb (up.trans up3) fl3 na os ag w
  · cases f with
    | ret u => obtain ⟨v, σ1, H1, J1, r, q⟩ := hsp; exact ⟨v, σ1, H1, J1.ofTry ok, r, q⟩
    | next => obtain ⟨σ1, H1, J1, q⟩ := hsp; exact wpAny_execs_nil ⟨σ1, H1, J1.ofTry ok, q⟩
    | brk => obtain ⟨σ1, H1, J1, q⟩ := hsp; exact ⟨σ1, H1, J1.ofTry ok, q⟩
    | cont => obtain ⟨σ1, H1, J1, q⟩ := hsp; exact ⟨σ1, H1, J1.ofTry ok, q⟩
end
end Cr
set_option maxHeartbeats 4000000
/-! Fw37: errors that are held: try, isinstance, over plain data -/
namespace Cr
open PySem PySem.Spec PyProof.Rows L2
/-- an error that is held -/
structure Er where
  a : Addr
  x : Ex
  d : Option Addr
theorem FldOk.fx {H H' : Hp} (s : Fx H H') {x : Ex} {d : Option Addr} (h : FldOk H x d) : FldOk H' x d := by
  rcases h with h | ⟨hn, p, vs, rfl, e, f⟩
  · exact .inl h
  · exact .inr ⟨hn, p, vs, rfl, s _ _ e (fun _ z => nomatch z), f.fx s⟩
theorem FldOk.nil {H : Hp} {x : Ex} {d : Option Addr} (h : FldOk H x d) (e : x.2 = []) : d = none := by
  rcases h with h | ⟨hn, _⟩
  · exact h.2
  · exact absurd e hn
def errV (er : Er) : Hp → V → Prop := fun H v => v = .ref er.a ∧ FldOk H er.x er.d
theorem errV_stab (er : Er) (v : V) : Stab (errV er) v := fun _ _ s h => ⟨h.1, h.2.fx s⟩
/-- the context bears the error -/
def HotE (X : Cx) (er : Er) : Prop := ∃ ob cls, (er.a, ob) ∈ X.pn ∧ L2H.Hot1 X.A (er.a, ob) ∧ Zc cls er.d ob ∧ (∃ fs, ob.data = .fields fs) ∧ X.mg er.x.1 = some cls ∧ (er.x.2 = [] → er.d = none)
abbrev Tbl := List (Str × Bool)
/-- what the class c says of the errors of a table -/
def ErrT (K : PySem.W.Frag) (mg : Str → Option Value) (c : Value) (t : Tbl) : Prop := ∀ n b, t.lookup n = some b → ∃ D, mg n = some (.ref D) ∧ ExcC K D ∧ PySem.W.kitOne K (.ref D) c = some b ∧ PySem.W.exmOne K (.ref D) c = some b
theorem errT_nil {K : PySem.W.Frag} {mg : Str → Option Value} {c : Value} : ErrT K mg c [] := fun _ _ h => by cases h
theorem errT_cons {K : PySem.W.Frag} {mg : Str → Option Value} {c : Value} {t : Tbl} {n : Str} {b : Bool} (h : ∃ D, mg n = some (.ref D) ∧ ExcC K D ∧ PySem.W.kitOne K (.ref D) c = some b ∧ PySem.W.exmOne K (.ref D) c = some b) (r : ErrT K mg c t) : ErrT K mg c ((n, b) :: t) := fun m b' e => by
  rw [List.lookup_cons] at e
  split at e
  · rename_i em
    have := beq_iff_eq.mp em
    subst this
    cases e
    exact h
  · exact r m b' e
theorem kit_cls_of {K : PySem.W.Frag} {C : Addr} {t : Value} {b : Bool} (hd : PySem.W.hasDictIn K C = true) (ht : PySem.W.typeIn K (.ref C) = some (.type "type")) (h : PySem.W.subIn K t (.ref C) = some b) : PySem.W.kitCls K t (.ref C) = some b := by
  obtain ⟨cd, hc, _⟩ := PySem.W.any_some hd
  show (if ((PySem.W.clsIn K C).isSome && PySem.W.typeIn K (.ref C) == some (.type "type")) = true then PySem.W.subIn K t (.ref C) else none) = some b
  have e : ((PySem.W.clsIn K C).isSome && PySem.W.typeIn K (.ref C) == some (.type "type")) = true := by rw [hc, ht]; rfl
  rw [if_pos e, h]
/-- an own class, told of itself -/
theorem err_self {K : PySem.W.Frag} {mg : Str → Option Value} {n : Str} {D : Addr} (g : mg n = some (.ref D)) (E : ExcC K D) (ht : PySem.W.typeIn K (.ref D) = some (.type "type")) (h : PySem.W.subIn K (.ref D) (.ref D) = some true) :
    ∃ D', mg n = some (.ref D') ∧ ExcC K D' ∧ PySem.W.kitOne K (.ref D') (.ref D) = some true ∧ PySem.W.exmOne K (.ref D') (.ref D) = some true :=
  ⟨D, g, E, by unfold PySem.W.kitOne; rw [if_pos (by simp)], PySem.W.exm_ref E.hs E.hd ht h⟩
/-- another own class -/
theorem err_own {K : PySem.W.Frag} {mg : Str → Option Value} {n : Str} {C D : Addr} {b : Bool} (g : mg n = some (.ref D)) (E : ExcC K D) (hb : PySem.W.subIn K (.ref C) (.type "BaseException") = some true) (hd : PySem.W.hasDictIn K C = true) (ht : PySem.W.typeIn K (.ref C) = some (.type "type"))
    (hne : (D == C) = false) (h : PySem.W.subIn K (.ref D) (.ref C) = some b) : ∃ D', mg n = some (.ref D') ∧ ExcC K D' ∧ PySem.W.kitOne K (.ref D') (.ref C) = some b ∧ PySem.W.exmOne K (.ref D') (.ref C) = some b := by
  refine ⟨D, g, E, ?_, PySem.W.exm_ref hb hd ht h⟩
  have e : ¬ ((Value.ref D == Value.ref C) = true) := fun z => by
    have : D = C := Value.ref.inj (beq_iff_eq.mp z)
    rw [this] at hne
    simp at hne
  unfold PySem.W.kitOne
  rw [if_neg e]
  exact kit_cls_of hd ht h
/-- ValueError -/
theorem err_val {K : PySem.W.Frag} {mg : Str → Option Value} {n : Str} {D : Addr} (g : mg n = some (.ref D)) (E : ExcC K D) (hb : PySem.W.subIn K (.type "ValueError") (.type "BaseException") = some true) (h : PySem.W.subIn K (.ref D) (.type "ValueError") = some true) :
    ∃ D', mg n = some (.ref D') ∧ ExcC K D' ∧ PySem.W.kitOne K (.ref D') (.type "ValueError") = some true ∧ PySem.W.exmOne K (.ref D') (.type "ValueError") = some true := by
  have hk : PySem.W.kitCls K (.ref D) (.type "ValueError") = some true := by
    show (if PySem.W.kitMeta "ValueError" = true then PySem.W.subIn K (.ref D) (.type "ValueError") else none) = some true
    rw [if_pos (by decide +kernel), h]
  refine ⟨D, g, E, ?_, ?_⟩
  · unfold PySem.W.kitOne
    rw [if_neg (by intro z; cases beq_iff_eq.mp z)]
    exact hk
  · unfold PySem.W.exmOne
    rw [if_pos (by rw [hb]; rfl)]
    exact hk

/-! ### try -/
structure Hd where
  test : Tbl
  f : Er → ES
@[simp] def hGo : List Hd → Ex → ES
  | [], x => fun d ρ => d.ex x ρ
  | h :: r, x => fun d ρ => match h.test.lookup x.1 with
    | some true => ∀ a dd, h.f ⟨a, x, dd⟩ { d with ex := fun _ _ => False } ρ
    | some false => hGo r x d ρ
    | none => False
@[simp] def sTry (fb : ES) (hs : List Hd) : ES := fun d ρ => fb { d with ex := fun x ρ' => hGo hs x d ρ' } ρ
@[simp] def sAs (i : Nat) (f : Er → ES) : Er → ES := fun er d ρ => f er { d with nx := fun ρ => d.nx (ρ.set i .unset), bk := fun ρ => d.bk (ρ.set i .unset), ct := fun ρ => d.ct (ρ.set i .unset) } (ρ.set i (.ext (errV er)))
inductive HdsD (X : Cx) (w : Wx) : List ExceptHandler → List Hd → Prop
  | nil : HdsD X w [] []
  | plain {x : Str} {c : Value} {t : Tbl} {f : Er → ES} {b : Stmt} {su : List Stmt} {np p : Pos} {hds : List ExceptHandler} {l : List Hd} (hc : Names X x c) (ht : ErrT X.K X.mg c t)
      (hsu : ∀ (er : Er) (ob : Obj) (pn : List (Addr × Obj)), HotE (X.suite er.a ((er.a, ob) :: pn)) er → DSs (X.suite er.a ((er.a, ob) :: pn)) w.no (b :: su) (f er)) (r : HdsD X w hds l) :
      HdsD X w (.ExceptHandler (some (.Name x np)) none (b :: su) p :: hds) (⟨t, f⟩ :: l)
  | named {x n : Str} {c : Value} {t : Tbl} {i : Nat} {f : Er → ES} {b : Stmt} {su : List Stmt} {np p : Pos} {hds : List ExceptHandler} {l : List Hd} (hc : Names X x c) (ht : ErrT X.K X.mg c t) (hi : X.N[i]? = some n) (hn : X.env.kindOf n = some .local)
      (hsu : ∀ (er : Er) (ob : Obj) (pn : List (Addr × Obj)), HotE (X.suite er.a ((er.a, ob) :: pn)) er → DSs (X.suite er.a ((er.a, ob) :: pn)) w.no (b :: su) (f er)) (r : HdsD X w hds l) :
      HdsD X w (.ExceptHandler (some (.Name x np)) (some n) (b :: su) p :: hds) (⟨t, sAs i f⟩ :: l)
section
variable {X : Cx} {w : Wx}
def tsE (X : Cx) (w : Wx) (f : Er → ES) : TsE := fun a cls d T σ H => ∃ x, X.mg x.1 = some cls ∧ (x.2 = [] → d = none) ∧ tDS X.K w.no (f ⟨a, x, d⟩) T σ H
theorem suite_ps {f : Er → ES} {b : Stmt} {su : List Stmt} (hsu : ∀ (er : Er) (ob : Obj) (pn : List (Addr × Obj)), HotE (X.suite er.a ((er.a, ob) :: pn)) er → DSs (X.suite er.a ((er.a, ob) :: pn)) w.no (b :: su) (f er)) :
    ∀ (a : Addr) (ob : Obj) (cls : Value) (d : Option Addr) (pn : List (Addr × Obj)), L2N.Zn cls d ob → (∃ fs, ob.data = .fields fs) → PSs (X.suite a ((a, ob) :: pn)) (b :: su) (tsE X w f a cls d) := by
  intro a ob cls d pn hz hf
  refine ⟨fun pins s σ H T I q => ?_⟩
  obtain ⟨x, hx, hd, q⟩ := q
  obtain ⟨fs, hfs⟩ := id hf
  exact (hsu ⟨a, x, d⟩ ob pn ⟨ob, cls, List.mem_cons_self, ⟨rfl, fs, hfs, hz.2.2 fs hfs⟩, ⟨hz.1, hz.2.1⟩, hf, hx, hd⟩).run pins s σ H T I q
theorem HdsD.go {hds : List ExceptHandler} {l : List Hd} (hw : w.mg = X.mg) (h : HdsD X w hds l) : ∃ l' : List (Value × TsE), HdN X hds l' ∧ ∀ (B : Bs) (T : Ends) (d : Nd), NdOk X.K w B d T → ∀ x ρ σ H cls dd, Fm X.K B H σ ρ → hGo l x d ρ → ExOk X.mg H x cls dd → wMany X.K w.W T l' cls dd σ H := by
  induction h with
  | nil => exact ⟨[], .nil, fun B T d N x ρ σ H cls dd F h e => N.ex x ρ σ H cls dd F h (by rw [hw]; exact e)⟩
  | @plain x c t f b su np p hds l hc ht hsu r ih =>
    obtain ⟨l', hn, hq⟩ := ih
    refine ⟨_, .plain hc (suite_ps hsu) hn, fun B T d N x ρ σ H cls dd F h e => ?_⟩
    simp only [hGo] at h
    cases et : t.lookup x.1 with
    | none => rw [et] at h; exact h.elim
    | some yes =>
      rw [et] at h
      obtain ⟨D, g, _, _, ex⟩ := ht _ _ et
      have ec : cls = .ref D := Option.some.inj (e.1.symm.trans g)
      subst ec
      cases yes with
      | true => exact ⟨true, ex, fun _ a na => ⟨x, e.1, e.2.nil, B, ρ, _, F, h a dd, N.nx, N.bk, N.ct, N.rt, fun _ _ _ _ _ _ _ z => z.elim⟩, (fun z => Bool.noConfusion z)⟩
      | false => exact ⟨false, ex, (fun z => Bool.noConfusion z), fun _ => hq B T d N x ρ σ H _ dd F h e⟩
  | @named x n c t i f b su np p hds l hc ht hi hln hsu r ih =>
    obtain ⟨l', hn, hq⟩ := ih
    refine ⟨_, .named hc hi hln (suite_ps hsu) hn, fun B T d N x ρ σ H cls dd F h e => ?_⟩
    simp only [hGo] at h
    cases et : t.lookup x.1 with
    | none => rw [et] at h; exact h.elim
    | some yes =>
      rw [et] at h
      obtain ⟨D, g, _, _, ex⟩ := ht _ _ et
      have ec : cls = .ref D := Option.some.inj (e.1.symm.trans g)
      subst ec
      cases yes with
      | true =>
        refine ⟨true, ex, fun _ a na => ⟨x, e.1, e.2.nil, B, _, _, ?_, h a dd, ?_⟩, (fun z => Bool.noConfusion z)⟩
        · exact F.setRes (Same.refl H) (x := .ext (errV ⟨a, x, dd⟩)) ⟨errV_stab _ _, rfl, e.2⟩ trivial
        · exact ⟨fun ρ σ H F q => N.nx _ _ H (F.unset) q, fun ρ σ H F q => N.bk _ _ H (F.unset) q, fun ρ σ H F q => N.ct _ _ H (F.unset) q, N.rt, fun _ _ _ _ _ _ _ z => z.elim⟩
      | false => exact ⟨false, ex, (fun z => Bool.noConfusion z), fun _ => hq B T d N x ρ σ H _ dd F h e⟩
theorem ds_try {body : List Stmt} {fb : ES} {hd : ExceptHandler} {hds : List ExceptHandler} {l : List Hd} {pos : Pos} (hs : X.stack = X.env :: X.outer) (hf : X.env.frame = some X.env.locals) (hN : X.N.Nodup) (tk : L2N.Takes X w.W) (hw : w.mg = X.mg)
    (hb : ∀ (W : WX) (pn : List (Addr × Obj)) (xe : Value → Shared → Prop), L2N.Takes (X.tr pn xe) W → PassesOwn (model X.prog X.w) X.A X.env xe → DSs (X.tr pn xe) ⟨W, w.mg⟩ body fb)
    (hh : HdsD X w (hd :: hds) l) : DS X w (.Try body (hd :: hds) [] [] pos) (sTry fb l) := by
  obtain ⟨l', hn, hq⟩ := hh.go hw
  refine (ps_try (tb := fun W => tDS X.K ⟨W, w.mg⟩ fb) hs hf hN tk hb hn).imp fun T σ H ⟨B, ρ, d, F, q, N⟩ => ?_
  exact ⟨B, ρ, _, F, q, N.nx, N.bk, N.ct, N.rt, fun x ρ σ H cls dd F e z => hq B T d N x ρ σ H cls dd F e (by rw [← hw]; exact z)⟩
end

/-! ### isinstance of it -/
@[simp] def anyT : List Tbl → Str → Option Bool
  | [], _ => some false
  | t :: r, n => match t.lookup n with
    | some true => some true
    | some false => anyT r n
    | none => none
theorem anyT_ok {K : PySem.W.Frag} {mg : Str → Option Value} {n : Str} {D : Addr} (g : mg n = some (.ref D)) : ∀ {cs : List Value} {ts : List Tbl} {b : Bool}, Paired (ErrT K mg) cs ts → anyT ts n = some b → PySem.W.kitAny K (.ref D) cs = some b
  | [], _, b, h, e => by cases h; exact e
  | c :: cs, _, b, .cons h r, e => by
    simp only [anyT] at e
    unfold PySem.W.kitAny
    split at e
    · rename_i et
      obtain ⟨D', g', _, k, _⟩ := h _ _ et
      rw [g] at g'
      cases g'
      rw [k]
      exact e
    · rename_i et
      obtain ⟨D', g', _, k, _⟩ := h _ _ et
      rw [g] at g'
      cases g'
      rw [k]
      exact anyT_ok g r e
    · cases e
/-- a class as a value -/
def ClsV : V → Value → Prop
  | .ref a, u => u = .ref a
  | .ty n, u => u = .type n
  | _, _ => False
theorem ClsV.rel {v : V} {u : Value} (h : ClsV v u) : RelV v u := by cases v <;> first | exact h.elim | exact h
theorem ClsV.uniq {v : V} {u u' : Value} (h : ClsV v u) (r : RelV v u') : u' = u := by
  cases v <;> first | exact h.elim | exact Eq.trans r (Eq.symm h)
theorem clsVs_uniq : ∀ {vs : List V} {us us' : List Value}, Paired ClsV vs us → Vals vs us' → us' = us
  | _, _, _, .nil, r => by cases r; rfl
  | _, _, _, .cons h t, r => by
    cases r with
    | cons r1 r2 => rw [h.uniq r1, clsVs_uniq t r2]
theorem pe_names {X : Cx} {x : Str} {c : Value} {v : V} {p : Pos} (h : Names X x c) (r : ClsV v c) : PE X (.Name x p) (tC v) := by
  obtain ⟨hg, hd, hm | ⟨hm, hv, hn⟩⟩ := h
  · exact pe_glob hg hm r.rel hd
  · exact pe_bltn hg hm hv r.rel hn hd
def rIsE (K : PySem.W.Frag) (D a : Addr) : List V → Hp → VK → Prop := fun xs H Q => ∃ b : Bool, Q (.bl b) H ∧ ((∃ c cv, xs = [.ref a, c] ∧ ClsV c cv ∧ PySem.W.kitOne K (.ref D) cv = some b) ∨
  ∃ t vs cs, xs = [.ref a, .ref t] ∧ H t = some (.tup vs) ∧ Paired ClsV vs cs ∧ PySem.W.kitAny K (.ref D) cs = some b)
theorem call_isErr {X : Cx} {er : Er} {D : Addr} (hE : HotE X er) (g : X.mg er.x.1 = some (.ref D)) (C : ExcC X.K D) (h0 : er.x.2 = []) : CallR X (.builtin "isinstance") (rIsE X.K D er.a) := by
  intro pins s σ H xs us Q I r h
  obtain ⟨b, q, h⟩ := h
  obtain ⟨ob, cls, hp, hot, hz, ⟨fs, hfs⟩, gm, hd⟩ := hE
  have hget := (I.pin (er.a, ob) (List.mem_append_left _ hp)).1
  have J : PySem.W.InstAt s.heap er.a ob D none := by
    have ec : cls = .ref D := Option.some.inj (gm.symm.trans g)
    have ed := hd h0
    obtain ⟨oc, od, oda, osl⟩ := ob
    obtain ⟨h1, h2⟩ := hz
    dsimp only at h1 h2 hfs
    subst h1 hfs
    rw [ed] at h2
    subst h2
    exact ⟨hget, ec, rfl, trivial⟩
  have Z : PySem.W.KitX X.K (.ref er.a) (.ref D) (fun h => PySem.W.InstAt h er.a ob D none) := PySem.W.handS_kitx_exc C.hg C.hk C.hs C.hd C.ha C.hn C.ht C.hm
  rcases h with ⟨c, cv, rfl, hc, e⟩ | ⟨t, vs, cs, rfl, et, hc, e⟩
  · cases r with
    | cons rx rr =>
      cases rr with
      | cons rt rr =>
        cases rr
        cases rx
        have := hc.uniq rt
        subst this
        exact PySem.W.kia_one Z I.kIn J e (fun z => nomatch z) fun tk => ⟨.bl b, H, I.kept (t' := tk) fun _ _ z => z, rfl, q⟩
  · cases r with
    | cons rx rr =>
      cases rr with
      | cons rt rr =>
        cases rr
        cases rx
        cases rt
        obtain ⟨its, rv, ⟨o, eo, oc, n, od⟩, _⟩ := I.tuple (.of et)
        have := clsVs_uniq hc rv
        subst this
        obtain ⟨c', d', da', sl'⟩ := o
        dsimp only at oc od
        subst oc od
        exact PySem.W.kia_tup (its := its) Z I.kIn J eo (by simpa using e) (fun z => nomatch z) fun tk => ⟨.bl b, H, I.kept (t' := tk) fun _ _ z => z, rfl, q⟩
@[simp] def eIsE (i : Nat) (er : Er) (ts : List Tbl) : EE := fun ρ P _ => ρ[i]? = some (.ext (errV er)) ∧ er.x.2 = [] ∧ match anyT ts er.x.1 with
  | some b => P (.val (.bool b))
  | none => False
end Cr
set_option maxHeartbeats 4000000
/-! Fw38: isinstance of a held error as an expression; defs called while an error is held -/
namespace Cr
open PySem PySem.Spec PyProof.Rows L2
section
variable {X : Cx} {w : Wx} {er : Er} {i : Nat} {n y : Str} {p p1 p2 pos : Pos}
/-- classes that are named in a tuple -/
inductive ClsEs (X : Cx) : List Expr → List V → List Value → List Tbl → Prop
  | nil : ClsEs X [] [] [] []
  | cons {y : Str} {c : Value} {v : V} {t : Tbl} {q : Pos} {es : List Expr} {vs : List V} {cs : List Value} {ts : List Tbl} (hc : Names X y c) (hv : ClsV v c) (ht : ErrT X.K X.mg c t) (r : ClsEs X es vs cs ts)
      (hs : starEach (.Name y q :: es) X.env = (false, eval (.Name y q) X.env) :: starEach es X.env := by rfl) : ClsEs X (.Name y q :: es) (v :: vs) (c :: cs) (t :: ts)
theorem ClsEs.pa {es : List Expr} {vs : List V} {cs : List Value} {ts : List Tbl} (h : ClsEs X es vs cs ts) : PA X es (fun _ H Q => Q vs H) := by
  induction h with
  | nil => exact pa_nil
  | cons hc hv ht r hs ih => exact pa_cons (pe_names hc hv) ih hs
theorem ClsEs.cls {es : List Expr} {vs : List V} {cs : List Value} {ts : List Tbl} (h : ClsEs X es vs cs ts) : Paired ClsV vs cs := by
  induction h with
  | nil => exact .nil
  | cons hc hv ht r hs ih => exact .cons hv ih
theorem ClsEs.err {es : List Expr} {vs : List V} {cs : List Value} {ts : List Tbl} (h : ClsEs X es vs cs ts) : Paired (ErrT X.K X.mg) cs ts := by
  induction h with
  | nil => exact .nil
  | cons hc hv ht r hs ih => exact .cons ht ih
theorem errT_at {K : PySem.W.Frag} {mg : Str → Option Value} {c : Value} {t : Tbl} {cs : List Value} {ts : List Tbl} {n : Str} {b : Bool} (h : Paired (ErrT K mg) (c :: cs) (t :: ts)) (e : anyT (t :: ts) n = some b) : ∃ D, mg n = some (.ref D) ∧ ExcC K D := by
  cases h with
  | cons h _ =>
    simp only [anyT] at e
    cases et : t.lookup n with
    | none => rw [et] at e; cases e
    | some b' =>
      obtain ⟨D, g, C, _⟩ := h _ _ et
      exact ⟨D, g, C⟩
theorem err_slot {B : Bs} {H : Hp} {σ : St} {ρ : En} (F : Fm X.K B H σ ρ) (e : ρ[i]? = some (.ext (errV er))) : σ[i]? = some (some (.ref er.a)) := by
  obtain ⟨v, ev, _, q, _⟩ := F.slot i _ e
  rw [ev, q]
theorem de_isErr {c : Value} {v : V} {t : Tbl} (hE : HotE X er) (hN : X.N[i]? = some n) (hv : Vis X.env.scope n) (hg : Gl X "isinstance") (hm : X.mg "isinstance" = none) (hc : Names X y c) (hcv : ClsV v c) (ht : ErrT X.K X.mg c t)
    (hd : (n == ("__debug__" : Str)) = false := by decide) (hcd : (n == ("__classdict__" : Str)) = false := by decide)
    (he : starEach (.Name n p1 :: [.Name y p2]) X.env = (false, eval (.Name n p1) X.env) :: starEach [.Name y p2] X.env := by rfl) (he2 : starEach [.Name y p2] X.env = (false, eval (.Name y p2) X.env) :: starEach [] X.env := by rfl)
    (hpl : (backTo pos (starEach [.Name y p2] X.env)).any (·.1) = false := by rfl) :
    DE X w (.Call (.Name "isinstance" p) [.Name n p1, .Name y p2] [] pos) (eIsE i er [t]) := by
  refine ⟨fun pins s σ H Q I h => ?_⟩
  obtain ⟨B, ρ, P, E, F, hf, hP, hE'⟩ := h
  obtain ⟨e1, e2, hf⟩ := hf
  split at hf
  · rename_i b eb
    obtain ⟨D, g, C⟩ := errT_at (cs := []) (c := c) (.cons ht .nil) eb
    have k := anyT_ok (cs := [c]) g (.cons ht .nil) eb
    have k1 : PySem.W.kitOne X.K (.ref D) c = some b := by
      unfold PySem.W.kitAny at k
      split at k
      · rename_i q; cases k; exact q
      · rename_i q; unfold PySem.W.kitAny at k; cases k; exact q
      · cases k
    exact (pe_callB (call_isErr hE g C e2) hg hm (by decide +kernel) (pa_cons (pe_var hN hv hd hcd) (pa_cons (pe_names hc hcv) pa_nil he2) he) (by decide) (by decide) he hpl).run pins s σ H Q I
      ⟨.ref er.a, err_slot F e1, b, hP _ hf _ H (Same.refl H) (.bl b), .inl ⟨v, c, rfl, hcv, k1⟩⟩
  · exact hf.elim
theorem de_isErrT {es : List Expr} {vs : List V} {cs : List Value} {t : Tbl} {ts : List Tbl} {k : Nat} (hE : HotE X er) (hN : X.N[i]? = some n) (hv : Vis X.env.scope n) (hg : Gl X "isinstance") (hm : X.mg "isinstance" = none) (hc : ClsEs X es vs cs (t :: ts)) (hl : vs.length ≤ 1000 := by simp)
    (hd : (n == ("__debug__" : Str)) = false := by decide) (hcd : (n == ("__classdict__" : Str)) = false := by decide)
    (he : starEach (.Name n p1 :: [.Tuple es k p2]) X.env = (false, eval (.Name n p1) X.env) :: starEach [.Tuple es k p2] X.env := by rfl) (he2 : starEach [.Tuple es k p2] X.env = (false, eval (.Tuple es k p2) X.env) :: starEach [] X.env := by rfl)
    (hpl : (backTo pos (starEach [.Tuple es k p2] X.env)).any (·.1) = false := by rfl) :
    DE X w (.Call (.Name "isinstance" p) [.Name n p1, .Tuple es k p2] [] pos) (eIsE i er (t :: ts)) := by
  refine ⟨fun pins s σ H Q I h => ?_⟩
  obtain ⟨B, ρ, P, E, F, hf, hP, hE'⟩ := h
  obtain ⟨e1, e2, hf⟩ := hf
  split at hf
  · rename_i b eb
    have hce := hc.err
    obtain ⟨D, g, C⟩ : ∃ D, X.mg er.x.1 = some (.ref D) ∧ ExcC X.K D := by
      match cs, hce with
      | c :: cs, hce => exact errT_at hce eb
    have kk := anyT_ok g hce eb
    refine (pe_callB (call_isErr hE g C e2) hg hm (by decide +kernel) (pa_cons (pe_var hN hv hd hcd) (pa_cons (pe_tup hc.pa) pa_nil he2) he) (by decide) (by decide) he hpl).run pins s σ H Q I ?_
    refine ⟨.ref er.a, err_slot F e1, by have := sizeLine_big; omega, fun tp np => ?_⟩
    have s2 := (Same.refl H).upd_new (o := .tup vs) np
    exact ⟨b, hP _ hf _ _ s2 (.bl b), .inr ⟨tp, vs, cs, rfl, upd_same, hc.cls, kk⟩⟩
  · exact hf.elim
end

/-! ### defs that are called while an error is held -/
structure FnX (P : Program) (w : World) (K : PySem.W.Frag) (mg : Str → Option Value) (base : Heap) (k : Nat) (f : Addr) (fd : FuncData) (ps : List Str) (S : Er → DSp) : Prop where
  run : ∀ (A : Around) (outer : List Env) (s : Shared) (H : Hp) (args : Args) (us : List Value) (vs : List V) (Q : VK) (er : Er) (ob : Obj) (cls : Value), L2H.RoomH k A → A.guards = some [] → L2H.Hot1 A (er.a, ob) → L2H.PinOk outer H s (er.a, ob) → Zc cls er.d ob → mg er.x.1 = some cls →
    (er.x.2 = [] → er.d = none) → Env0 P w K mg base A outer s H → BindsTo s fd args (ps.zip us) → Vals vs us → spD K mg ps.length (S er) vs H Q (fun _ _ _ => False) → codeAny (model P w) A (.call (.ref f) args) (CR (L2N.CX P w) outer P w H s Q (fun _ _ _ => False)) s
section
variable {P : Program} {w : World} {K : PySem.W.Frag} {mg : Str → Option Value} {base : Heap}
theorem fnX_of {x qual : Str} {st : Stmt} {f : Addr} {fd : FuncData} {N ps : List Str} {k : Nat} {body : Er → ES} (F : Fun K x qual st f fd) (S : FnScope N ps (defScope st))
    (h : ∀ (cdv : Value) (A : Around) (outer : List Env) (s : Shared) (H : Hp) (er : Er) (ob : Obj), L2H.RoomH k (A.deeper (envOfC qual (defScope st) s.heap.objs.size f cdv)) → A.guards = some [] →
      HotE (L2H.cxH (L2N.CX P w) P w K mg base N qual (defScope st) f cdv A outer s H (fun _ _ _ => False) (er.a, ob)) er →
      DSs (L2H.cxH (L2N.CX P w) P w K mg base N qual (defScope st) f cdv A outer s H (fun _ _ _ => False) (er.a, ob)) ⟨fun _ _ _ _ => False, mg⟩ (defBody st) (body er)) :
    FnX P w K mg base (k + 1) f fd ps (fun er => rdB N.length (body er)) := by
  obtain ⟨oc, od, kV, doc, pm, an, cdv, ct, osl, rfl, lk, hcd⟩ := F.ex
  refine ⟨?_⟩
  intro A outer s H args us vs Q er ob cls hr hgu hot hpin hz gm hd e0 hb r ⟨ds, P', E', hl, ha, hS, hP, hE⟩
  have hlen : vs.length = ps.length := by rw [ha.length, hl]
  have KX : K.In s.heap := e0.mod.kin.keeps fun b o e => (e0.bs b o e).1
  have nolim : s.heap.NoLimit := e0.mod.nolimit.keeps fun b o e => (e0.bs b o e).1
  refine codeAny_call_function hr.depth (KX _ _ lk) rfl S.co S.gen rfl (PySem.W.codeRec_of KX hcd) (hb _ _ _ _ ?_)
  refine wpAny_newFunctionEnv_cells S.kind ?_ ?_
  · intro z hz
    obtain ⟨n, v⟩ := z
    cases S.par n (List.of_mem_zip hz).1 with
    | inl q => exact .inl q
    | inr q => exact .inr ⟨q, PySem.W.cellsFrom_some _ _ _ (.inl q)⟩
  · intro env he s1 x
    subst he
    refine ⟨nolim.keeps x.toInCall.keep, codeAny_func ?_⟩
    obtain ⟨v1, hv1, hc1⟩ := hot.2
    have hE1 : HotE (L2H.cxH (L2N.CX P w) P w K mg base N qual (defScope st) f cdv A outer s H (fun _ _ _ => False) (er.a, ob)) er := ⟨ob, cls, List.mem_cons_self, hot, hz, ⟨v1, hv1⟩, gm, hd⟩
    have I : Inv (L2H.cxH (L2N.CX P w) P w K mg base N qual (defScope st) f cdv A outer s H (fun _ _ _ => False) (er.a, ob)) [] (L2.start N vs) H s1 := L2H.inv_startH S hpin e0 hlen r x
    have run := (h cdv A outer s H er ob (hr.deeper _) hgu hE1).run [] s1 (L2.start N vs) H { nx := fun _ H' => Q .non H', rt := Q } I
      ⟨⟨H, H⟩, _, _, start_fm ha, hS, ⟨fun ρ σ H' F q => hP _ q _ _ F.same .non, fun _ _ _ _ q => q, fun _ _ _ _ q => q, fun r v H' s' q p => hP _ p _ _ s' q, fun x ρ σ H' cls dd F e q => hE x e cls dd H' F.same q⟩⟩
    refine wpAny_mono run ?_ fun _ _ hs => hs
    intro fl s' hs
    cases fl with
    | ret u => obtain ⟨v, σ', H', J, rv, q⟩ := hs; exact ⟨v, H', J.os, J.bare, J.base, J.hok, rv, q⟩
    | next => obtain ⟨σ', H', J, q⟩ := hs; exact ⟨V.non, H', J.os, J.bare, J.base, J.hok, rfl, q⟩
    | brk => obtain ⟨_, _, _, q⟩ := hs; exact q.elim
    | cont => obtain ⟨_, _, _, q⟩ := hs; exact q.elim
theorem FnX.impD {k : Nat} {f : Addr} {fd : FuncData} {ps : List Str} {S S' : Er → DSp} (F : FnX P w K mg base k f fd ps S) (h : ∀ er ds P E, S' er ds P E → S er ds P E) : FnX P w K mg base k f fd ps S' :=
  ⟨fun A outer s H args us vs Q er ob cls hr hg hot hpin hz gm hd e0 hb r hsp => F.run A outer s H args us vs Q er ob cls hr hg hot hpin hz gm hd e0 hb r (let ⟨ds, P, E', hl, ha, hS, q⟩ := hsp; ⟨ds, P, E', hl, ha, h _ _ _ _ hS, q⟩)⟩
structure DefX (P : Program) (w : World) (K : PySem.W.Frag) (mg : Str → Option Value) (base : Heap) (x : Str) (k : Nat) (ps : List Str) (S : Er → DSp) : Prop where
  ex : ∃ (f : Addr) (fd : FuncData), FnX P w K mg base k f fd ps S ∧ mg x = some (.ref f) ∧ PySem.W.keepIn K (.ref f) = true ∧ Binds K fd ps []
end
section
variable {X : Cx} {w : Wx} {er : Er} {k : Nat} {f : Addr} {fd : FuncData} {ps : List Str} {S : Er → DSp} {x : Str} {p pos : Pos} {e : Expr} {es : List Expr} {fa : EA}
theorem run_callX {pins : List (Addr × Obj)} {σ : St} {H : Hp} {s : Shared} {Q : VK} {us : List Value} {vs : List V} (F : FnX X.prog X.w X.K X.mg X.base k f fd ps S) (hr : L2H.RoomH k X.A) (hg : X.A.guards = some []) (hE : HotE X er) (hb : Binds X.K fd ps [])
    (I : Inv X pins σ H s) (r : Vals vs us) (h : spD X.K X.mg ps.length (S er) vs H Q (fun _ _ _ => False)) : wpAny (model X.prog X.w) X.A (call (.ref f) us) (EP X pins σ Q) X.xe s := by
  have hl : us.length = ps.length := by
    rw [← r.length]
    obtain ⟨ds, P, E', hl, ha, _⟩ := h
    rw [ha.length, hl]
  have b := hb s us I.kIn (by rw [List.append_nil]; exact hl)
  rw [List.append_nil] at b
  obtain ⟨ob, cls, hp, hot, hz, _, gm, hd⟩ := hE
  have P1 := I.pin (er.a, ob) (List.mem_append_left _ hp)
  have hpin : L2H.PinOk X.stack H s (er.a, ob) := ⟨P1.1, P1.2.1, fun hm => (List.mem_cons.mp (I.stkSub er.a hm)).elim P1.2.2.1 P1.2.2.2.1, P1.2.2.2.2⟩
  refine wpAny_call (codeAny_mono (F.run X.A X.stack s H ⟨us, []⟩ us vs Q er ob cls hr hg hot hpin hz gm hd I.env0 b r h) ?_)
  intro res s' hq
  cases res with
  | error e => exact L2N.passAt (W := fun _ _ _ _ => False) takesN σ pins H s e s' I hq
  | ok fl =>
    cases fl with
    | ret u => exact I.after hq
    | next => exact hq.elim
    | brk => exact hq.elim
    | cont => exact hq.elim
/-- f(a, ..) while an error is held -/
theorem de_callX {n : Nat} (F : DefX X.prog X.w X.K X.mg X.base x k ps S) (hr : L2H.RoomH k X.A) (hgu : X.A.guards = some []) (hE : HotE X er) (hg : Gl X x) (hW : ∀ cls d σ H, w.W cls d σ H → False) (hw : w.mg = X.mg)
    (ha : DA X w (e :: es) fa) (hn : (e :: es).length = ps.length) (hn2 : ps.length = n := by rfl) (hdb : (x == ("__debug__" : Str)) = false := by decide) (he : starEach (e :: es) X.env = (false, eval e X.env) :: starEach es X.env := by rfl) (hpl : (backTo pos (starEach es X.env)).any (·.1) = false := by rfl) :
    DE X w (.Call (.Name x p) (e :: es) [] pos) (eCallN n (S er) fa) := by
  subst hn2
  obtain ⟨f, fd, F, hm, hk, hb⟩ := F.ex
  refine ⟨fun pins s σ H Q I h => ?_⟩
  obtain ⟨H0, ρ, P, E, Fρ, hf, hP, hEx⟩ := h
  refine wpAny_Call_Name_kw (ld_glob I hg hm ?_ hdb)
  refine PySem.W.callWith_K (h₀ := X.base) I.ok.mod.kin hk (thn (ha.run pos pins s σ H (fun vs H1 => spD X.K X.mg ps.length (S er) vs H1 Q (fun _ _ _ => False)) I ⟨H0, ρ, _, E, Fρ, hf, ?_, hEx⟩) ?_) he hpl
  · intro ds q vs H1 s1 ok
    obtain ⟨ds', P', E', hl, ha', hS, h1, h2⟩ := call_sp (ρ := ρ) hw q.1 s1 ok q.2 hP hEx
    exact ⟨ds', P', E', hl, ha', hS, h1, fun x e cls dd H' s' r => hW _ _ _ _ (h2 x e cls dd H' s' r)⟩
  · rintro us s1 ⟨vs, H1, I1, r, q⟩
    exact ⟨I1.kIn, run_callX F hr hgu hE hb I1 r q⟩
end
end Cr
set_option maxHeartbeats 4000000
/-! Fw39: room and comparisons while an error is held; a tie more or less -/
namespace Cr
open PySem PySem.Spec PyProof.Rows L2
theorem roomM {k : Nat} {A : Around} {v : Option Value} (hr : Room k A) : L2H.RoomH k (A.mark v) := ⟨hr.dp, hr.un⟩
theorem hu65H {A : Around} {k : Nat} (hr : L2H.RoomH k A) : A.units + 65 < cLine := by have := hr.un; omega
section
variable {X : Cx} {b : Expr}
theorem c_eqH {k : Nat} (hr : L2H.RoomH k X.A) : CmpR X .Eq b gEq := ⟨⟨_, op_eq.or (op_eqD (by have := hr.un; omega)), k_eq⟩, nomark _⟩
theorem c_neH {k : Nat} (hr : L2H.RoomH k X.A) : CmpR X .NotEq b gNe := ⟨⟨_, op_ne.or (op_neD (by have := hr.un; omega)), k_ne⟩, nomark _⟩
theorem c_inH {k : Nat} (hr : L2H.RoomH k X.A) (h : behindInMarks .In b = false := by rfl) : CmpR X .In b (gIn false) := ⟨⟨_, op_inA (hu65H hr), k_in⟩, h⟩
theorem c_notInH {k : Nat} (hr : L2H.RoomH k X.A) (h : behindInMarks .NotIn b = false := by rfl) : CmpR X .NotIn b (gIn true) := ⟨⟨_, op_notInA (hu65H hr), k_notIn⟩, h⟩
end
/-- two things as a tie of n places -/
def tieD (n : Int) (x y : PD) : Option (Int × Int) := match x, y with
  | .int a, .int b => if (0 ≤ a ∧ a < n) ∧ (0 ≤ b ∧ b < n) ∧ a ≠ b then some (tieOf a b) else none
  | _, _ => none
def pairD (n : Int) : PD → Option (Int × Int)
  | .tuple [x, y] => tieD n x y
  | .list [x, y] => tieD n x y
  | _ => none
theorem tieD_some {n : Int} {x y : PD} {p : Int × Int} (h : tieD n x y = some p) : ∃ a b, x = .int a ∧ y = .int b ∧ (0 ≤ a ∧ a < n) ∧ (0 ≤ b ∧ b < n) ∧ a ≠ b ∧ p = tieOf a b := by
  unfold tieD at h
  split at h
  · split at h
    · rename_i a b hc
      exact ⟨a, b, rfl, rfl, hc.1, hc.2.1, hc.2.2, (Option.some.inj h).symm⟩
    · cases h
  · cases h
theorem tieD_ok {n a b : Int} (ha : 0 ≤ a ∧ a < n) (hb : 0 ≤ b ∧ b < n) (h : a ≠ b) : tieD n (.int a) (.int b) = some (tieOf a b) := by
  show (if _ then _ else _) = _
  rw [if_pos ⟨ha, hb, h⟩]
theorem tieD_range {n : Int} {x y : PD} {p : Int × Int} (h : tieD n x y = some p) : 0 ≤ p.1 ∧ p.1 < p.2 ∧ p.2 < n := by
  obtain ⟨a, b, _, _, ha, hb, hn, rfl⟩ := tieD_some h
  exact tieOf_range ha hb hn
def Wb.out (W : Wb) (p : Int × Int) : Wb := ⟨W.n, W.ts.filter fun q => decide (q ≠ p)⟩
theorem WebOk.out {W : Wb} (h : WebOk W) (p : Int × Int) : WebOk (W.out p) := ⟨h.lo, h.hi, fun t ht => h.ts.1 t (List.mem_filter.mp ht).1, h.ts.2.filter _⟩
theorem WebOk.putP {W : Wb} (h : WebOk W) {p : Int × Int} (hr : 0 ≤ p.1 ∧ p.1 < p.2 ∧ p.2 < W.n) (hn : p ∉ W.ts) : WebOk (W.put p) :=
  ⟨h.lo, h.hi, fun t ht => by
    rcases mem_insP.mp ht with rfl | ht
    · exact hr
    · exact h.ts.1 t ht, by
    rw [← put_srt h hn]
    exact srtP_lt (List.nodup_append.mpr ⟨h.ts.2.imp fun h => h.ne, by simp, fun a ha b hb e => by simp at hb; subst hb; subst e; exact hn ha⟩)⟩
theorem lt_uniq {xs ys : List (Int × Int)} (hx : xs.Pairwise lexLt) (hy : ys.Pairwise lexLt) (h : ∀ t, t ∈ xs ↔ t ∈ ys) : xs = ys := by
  have hp : xs.Perm ys := (List.perm_ext_iff_of_nodup (hx.imp fun h => h.ne) (hy.imp fun h => h.ne)).mpr h
  rw [← srtP_id (lt_le hx), ← srtP_id (lt_le hy)]
  exact srtP_congr hp
theorem out_put {W : Wb} (h : WebOk W) {p : Int × Int} (hr : 0 ≤ p.1 ∧ p.1 < p.2 ∧ p.2 < W.n) (hn : p ∉ W.ts) : (W.put p).out p = W := by
  have e : ((W.put p).out p).ts = W.ts := lt_uniq ((h.putP hr hn).out p).ts.2 h.ts.2 fun t => by
    show t ∈ (W.put p).ts.filter _ ↔ _
    rw [List.mem_filter]
    constructor
    · rintro ⟨h1, h2⟩
      exact (mem_insP.mp h1).resolve_left (of_decide_eq_true h2)
    · intro ht
      exact ⟨mem_insP.mpr (.inr ht), decide_eq_true fun e => hn (e ▸ ht)⟩
  cases W
  simp only [Wb.out, Wb.put] at e ⊢
  rw [e]
theorem put_out {W : Wb} (h : WebOk W) {p : Int × Int} (hm : p ∈ W.ts) : (W.out p).put p = W := by
  have hr := h.ts.1 p hm
  have hn : p ∉ (W.out p).ts := fun hm2 => (of_decide_eq_true (List.mem_filter.mp hm2).2) rfl
  have e : ((W.out p).put p).ts = W.ts := lt_uniq ((h.out p).putP hr hn).ts.2 h.ts.2 fun t => by
    rw [show ((W.out p).put p).ts = insP p (W.out p).ts from rfl, mem_insP]
    show t = p ∨ t ∈ W.ts.filter _ ↔ _
    rw [List.mem_filter]
    constructor
    · rintro (rfl | h1)
      · exact hm
      · exact h1.1
    · intro ht
      by_cases e : t = p
      · exact .inl e
      · exact .inr ⟨ht, decide_eq_true e⟩
  cases W
  simp only [Wb.out, Wb.put] at e ⊢
  rw [e]
end Cr
set_option maxHeartbeats 4000000
/-! Fw40: a tuple many times -/
namespace Cr
open PySem PySem.Spec PyProof.Rows L2
def rMulT (K : PySem.W.Frag) : R2 := fun x y H Q => ∃ l k xs, x = .ref l ∧ y = .int k ∧ SqT K H l xs ∧ xs ≠ [] ∧ 2 ≤ k ∧ k ≤ 1000 ∧ xs.length ≤ 1000 ∧ ∀ p o, o.dict = none → H p = none → Q (.ref p) (upd H p (.frz o (.tup (List.replicate k.toNat xs).flatten)))
theorem op_mulT {X : Cx} : OpR X (binaryOp .Mult) (rMulT X.K) := by
  intro pins s σ H x y v u Q I rx ry h
  obtain ⟨l, k, xs, rfl, rfl, hT, hne, h1, h2, hl, q⟩ := h
  cases rx
  obtain ⟨tk, rfl⟩ := ry
  obtain ⟨its, rv, ⟨⟨cl, dd, da, sl⟩, ho, hc, n, hd⟩, _⟩ := I.tuple hT
  dsimp only at hc hd
  subst hc hd
  have el : its.length = xs.length := rv.length.symm
  have hi : its.toArray.isEmpty = false := by
    cases its with
    | nil => exact absurd (List.eq_nil_of_length_eq_zero el.symm) hne
    | cons _ _ => rfl
  have es : its.toArray.size = xs.length := by rw [List.size_toArray, el]
  have few : ((its.toArray.size : Nat) : Int) * k ≤ 1000000 := by
    rw [es]
    have := Int.mul_le_mul_of_nonneg_right (show ((xs.length : Nat) : Int) ≤ 1000 by omega) (show 0 ≤ k by omega)
    omega
  have all : ∀ {α : Type} (ys : List α), ys.length = xs.length → (List.replicate k.toNat ys).flatten.length ≤ sizeLine := fun ys ey => by
    rw [lm_len_rep_flat, ey, sizeLine_eq]
    have := Nat.mul_le_mul (show k.toNat ≤ 1000 by omega) hl
    omega
  have a0 : (decide (k < -(2 ^ 63)) || decide (k ≥ 2 ^ 63)) = false := by rw [decide_eq_false (by omega), decide_eq_false (by omega)]; rfl
  have a1 : (its.toArray.isEmpty || k == 1) = false := by rw [hi, Bool.false_or]; exact beq_eq_false_iff_ne.mpr (by omega)
  have a2 : (decide (k ≤ 0) || its.toArray.isEmpty) = false := by rw [hi, Bool.or_false]; exact decide_eq_false (by omega)
  have a4 : Builtin.Tuple.tupleTooMany (((its.toArray.size : Nat) : Int) * k) = false := by
    unfold Builtin.Tuple.tupleTooMany
    rw [sizeLine_eq]
    exact decide_eq_false (by omega)
  refine wpAny_binaryOp_repeat_ref (T := "tuple") (U := "int") (by decide) ⟨_, ho, rfl⟩ (fun s' => typeIs_int s' k tk) noFill_tuple_mul F.fills_int_mul F.slot_int_rmul repeat_tuple F.slot_int_index.lookup ?_
  refine call_meets F.slot_int_rmul (typeIs_int s k tk) F.entry_int_rmul (F.args_int_rmul_2 _ _) (int_rmul_tuple k tk l its.toArray n dd sl) ⟨ho, rfl, ⟨_, ho, rfl⟩, ?_⟩
  refine call_meets F.slot_tuple_mul ⟨_, ho, rfl⟩ F.entry_tuple_mul (F.args_tuple_mul_2 _ _) (tuple_mulW l its.toArray n dd sl k tk a0 a1 a2 (by omega) a4 (by rw [size_rep, List.size_toArray]; exact all its el)) ⟨ho, ?_⟩
  rw [size_rep]
  refine ⟨.ref s.heap.objs.size, upd H s.heap.objs.size (.frz { cls := .type "tuple", data := .seq (List.replicate k.toNat its).flatten.toArray } (.tup (List.replicate k.toNat xs).flatten)),
    I.laid (t' := s.toks) (fun b ob e => Heap.get?_push_of_some _ e) (Nat.le_refl _) ?_, rfl, q _ _ rfl (I.hok.fresh (Nat.le_refl _))⟩
  exact ⟨Heap.get?_push_size _ rfl, all xs rfl, _, rv.rep k.toNat, IsTup.new _ _⟩
@[simp] def gMulT : G2 := fun x y P => match x, y with
  | .val (.tuple xs), .val (.int k) => xs ≠ [] ∧ 2 ≤ k ∧ k ≤ 1000 ∧ xs.length ≤ 1000 ∧ P (.val (.tuple (List.replicate k.toNat xs).flatten))
  | _, _ => False
theorem k_mulT {K : PySem.W.Frag} : OpK K (rMulT K) gMulT := by
  intro Hs H x y v u P Q rx ry h q
  unfold gMulT at h
  split at h
  · rename_i xs k
    obtain ⟨a, vs, rfl, ha, ra⟩ := res_tup rx
    refine ⟨a, k, vs, rfl, res_int ry, .inl ha, fun e => h.1 ?_, h.2.1, h.2.2.1, by rw [ra.length]; exact h.2.2.2.1, fun p o zo np => ?_⟩
    · have := ra.length
      rw [e] at this
      exact List.eq_nil_of_length_eq_zero this.symm
    · have s := (Same.refl H).upd_new (o := .frz o (.tup (List.replicate k.toNat vs).flatten)) np
      exact q _ h.2.2.2.2 _ _ s (.tup upd_same zo ((ra.rep _).fx s.fx))
  · exact h.elim
theorem de_mulT {X : Cx} {w : Wx} {pos : Pos} {a b : Expr} {fa fb : EE} (ha : DE X w a fa) (hb : DE X w b fb) : DE X w (.BinOp a .Mult b pos) (eBin gMulT fa fb) := de_bin op_mulT k_mulT ha hb
end Cr
set_option maxHeartbeats 4000000
/-! Fw41: rows and their faults; even webs -/
namespace Cr
open PySem PySem.Spec PyProof.Rows L2
/-- whether things are ints that rise from the least on, below n -/
def goRow (n : Int) : Int → List PD → Bool
  | _, [] => true
  | l, .int k :: r => decide (l ≤ k ∧ k < n) && goRow n k r
  | _, _ :: _ => false
theorem goRow_ints {n : Int} : ∀ {xs : List PD} {l : Int}, goRow n l xs = true → ∃ ns : List Int, xs = ns.map .int ∧ ns.Pairwise (· ≤ ·) ∧ ∀ k ∈ ns, l ≤ k ∧ k < n
  | [], l, _ => ⟨[], rfl, .nil, fun _ h => nomatch h⟩
  | .int k :: r, l, h => by
    rw [goRow, Bool.and_eq_true, decide_eq_true_eq] at h
    obtain ⟨ns, rfl, hp, hk⟩ := goRow_ints h.2
    refine ⟨k :: ns, rfl, List.pairwise_cons.mpr ⟨fun m hm => (hk m hm).1, hp⟩, fun m hm => ?_⟩
    rcases List.mem_cons.mp hm with rfl | hm
    · exact h.1
    · have := hk m hm; omega
  | .none :: r, l, h => by cases h
  | .bool _ :: r, l, h => by cases h
  | .str _ :: r, l, h => by cases h
  | .list _ :: r, l, h => by cases h
  | .tuple _ :: r, l, h => by cases h
  | .dict _ :: r, l, h => by cases h
theorem goRow_map {n : Int} : ∀ {ns : List Int} {l : Int}, ns.Pairwise (· ≤ ·) → (∀ k ∈ ns, l ≤ k ∧ k < n) → goRow n l (ns.map .int) = true
  | [], l, _, _ => rfl
  | k :: r, l, hp, hk => by
    have hp' := List.pairwise_cons.mp hp
    show (decide (l ≤ k ∧ k < n) && goRow n k (r.map .int)) = true
    rw [goRow_map hp'.2 fun m hm => ⟨hp'.1 m hm, (hk m (List.mem_cons_of_mem _ hm)).2⟩, Bool.and_true]
    exact decide_eq_true (hk k (List.mem_cons_self ..))
structure RowOk (ns : List Int) : Prop where
  lo : 3 ≤ ns.length
  hi : ns.length ≤ 20
  up : ns.Pairwise (· ≤ ·)
  rg : ∀ k ∈ ns, 0 ≤ k ∧ k < ns.length
def isRowD : PD → Bool
  | .tuple xs => decide (3 ≤ xs.length ∧ xs.length ≤ 20) && goRow xs.length 0 xs
  | _ => false
theorem isRowD_iff {d : PD} : isRowD d = true ↔ ∃ ns : List Int, d = .tuple (ns.map .int) ∧ RowOk ns := by
  constructor
  · intro h
    cases d with
    | tuple xs =>
      rw [isRowD, Bool.and_eq_true, decide_eq_true_eq] at h
      obtain ⟨ns, rfl, hp, hk⟩ := goRow_ints h.2
      rw [List.length_map] at h hk
      exact ⟨ns, rfl, h.1.1, h.1.2, hp, hk⟩
    | _ => cases h
  · rintro ⟨ns, rfl, h⟩
    rw [isRowD, List.length_map, goRow_map h.up h.rg, Bool.and_true]
    exact decide_eq_true ⟨h.lo, h.hi⟩
def nthI (ns : List Int) (i : Nat) : Int := (ns[i]?).getD 0
def faultAt (ns : List Int) (i : Nat) : Bool := decide (2 * i < ns.length) && (decide (nthI ns (i - 1) ≤ i) && decide (nthI ns (ns.length - i - 1) < (ns.length : Int) - i))
def faultF (ns : List Int) : Option Nat := (List.range' 1 (ns.length - 1)).find? (faultAt ns)
/-- the row of a thing -/
noncomputable def rowD (d : PD) : Option (List Int) := if isRowD d = true then (match d with | .tuple xs => asInts xs | _ => none) else none
theorem rowD_ok {ns : List Int} (h : RowOk ns) : rowD (.tuple (ns.map .int)) = some ns := by
  unfold rowD
  rw [if_pos (isRowD_iff.mpr ⟨ns, rfl, h⟩)]
  exact asInts_map ns
theorem rowD_no {d : PD} (h : isRowD d = false) : rowD d = none := by unfold rowD; rw [h]; rfl
/-! ### even webs -/
def evenTs (n : Int) : List (Int × Int) := (up 0 (n / 2).toNat).flatMap fun a => (up (n / 2) (n / 2).toNat).map fun b => (a, b)
def evenW (n : Int) : Wb := ⟨n, evenTs n⟩
def evenN (n : Int) : Prop := 4 ≤ n ∧ n ≤ 20 ∧ n % 2 = 0
theorem evenN.cases {n : Int} (h : evenN n) : n = 4 ∨ n = 6 ∨ n = 8 ∨ n = 10 ∨ n = 12 ∨ n = 14 ∨ n = 16 ∨ n = 18 ∨ n = 20 := by
  obtain ⟨h1, h2, h3⟩ := h
  omega
theorem even_mem {n : Int} (h : evenN n) {t : Int × Int} : t ∈ evenTs n ↔ (0 ≤ t.1 ∧ t.1 < n / 2) ∧ n / 2 ≤ t.2 ∧ t.2 < n := by
  obtain ⟨h1, h2, h3⟩ := h
  unfold evenTs
  rw [List.mem_flatMap]
  constructor
  · rintro ⟨a, ha, ht⟩
    obtain ⟨b, hb, rfl⟩ := List.mem_map.mp ht
    have := mem_up.mp ha
    have := mem_up.mp hb
    simp only
    omega
  · intro h
    exact ⟨t.1, mem_up.mpr (by omega), List.mem_map.mpr ⟨t.2, mem_up.mpr (by omega), rfl⟩⟩
theorem even_lt {n : Int} : (evenTs n).Pairwise lexLt := by
  unfold evenTs
  rw [List.pairwise_flatMap]
  refine ⟨fun a _ => List.pairwise_map.mpr ((up_inc _ _).imp fun {x y} h => .inr ⟨rfl, h⟩), ?_⟩
  refine (up_inc _ _).imp fun {a b} h x hx y hy => ?_
  obtain ⟨_, _, rfl⟩ := List.mem_map.mp hx
  obtain ⟨_, _, rfl⟩ := List.mem_map.mp hy
  exact .inl h
theorem even_ok {n : Int} (h : evenN n) : WebOk (evenW n) := by
  obtain ⟨h1, h2, h3⟩ := id h
  exact ⟨by show 3 ≤ n; omega, h2, fun t ht => by have := (even_mem h).mp ht; show 0 ≤ t.1 ∧ t.1 < t.2 ∧ t.2 < n; omega, even_lt⟩
theorem even_len {n : Int} (h : evenN n) : 4 * ((evenTs n).length : Int) = n * n := by
  rcases h.cases with rfl | rfl | rfl | rfl | rfl | rfl | rfl | rfl | rfl <;> decide +kernel
theorem even_degs {n : Int} (h : evenN n) : degs (evenW n) = List.replicate n.toNat (n / 2) := by
  rcases h.cases with rfl | rfl | rfl | rfl | rfl | rfl | rfl | rfl | rfl <;> decide +kernel
theorem even_fault {n : Int} (h : evenN n) : faultF (List.replicate n.toNat (n / 2)) = none := by
  rcases h.cases with rfl | rfl | rfl | rfl | rfl | rfl | rfl | rfl | rfl <;> decide +kernel
theorem even_row {n : Int} (h : evenN n) : RowOk (List.replicate n.toNat (n / 2)) := by
  obtain ⟨h1, h2, h3⟩ := id h
  refine ⟨by rw [List.length_replicate]; omega, by rw [List.length_replicate]; omega, ?_, fun k hk => ?_⟩
  · exact List.pairwise_replicate.mpr (.inr (Int.le_refl _))
  · have := List.eq_of_mem_replicate hk
    rw [List.length_replicate]
    omega
/-- neighbours are of unlike halves -/
def Alt (h : Int) (ps : List Int) : Prop := ∀ t ∈ links ps, t.1 < h ∧ h ≤ t.2
theorem alt_tie {h a b : Int} : ((tieOf a b).1 < h ∧ h ≤ (tieOf a b).2) ↔ ((a < h ∧ h ≤ b) ∨ (b < h ∧ h ≤ a)) := by unfold tieOf; simp only; omega
theorem alt_parity {h : Int} : ∀ {ps : List Int} {a z : Int}, Alt h ps → ps.head? = some a → ps.getLast? = some z → ((a < h ∧ h ≤ z) ∨ (z < h ∧ h ≤ a) ↔ ps.length % 2 = 0)
  | [], a, z, _, e, _ => by cases e
  | [x], a, z, _, e1, e2 => by
    cases e1; cases e2
    simp
    try omega
  | x :: y :: r, a, z, hA, e1, e2 => by
    cases e1
    have h1 := alt_tie.mp (hA (tieOf x y) (List.mem_cons_self ..))
    have ih := alt_parity (ps := y :: r) (a := y) (z := z) (fun t ht => hA t (List.mem_cons_of_mem _ ht)) rfl (by rw [List.getLast?_cons_cons] at e2; exact e2)
    simp only [List.length_cons] at ih ⊢
    omega
theorem even_ring {n : Int} (h : evenN n) {ps : List Int} (r : RingOk (evenW n) ps) : ps.length % 2 = 0 := by
  have hx : ∀ t ∈ rties ps, t.1 < n / 2 ∧ n / 2 ≤ t.2 := fun t ht => by have := (even_mem h).mp (r.ts t ht); omega
  have hl := r.len
  have hne : ps ≠ [] := List.ne_nil_of_length_pos (by omega)
  obtain ⟨a, ea⟩ : ∃ a, ps.head? = some a := ⟨ps.head hne, List.head?_eq_some_head hne⟩
  obtain ⟨z, ez⟩ : ∃ a, ps.getLast? = some a := ⟨ps.getLast hne, List.getLast?_eq_some_getLast hne⟩
  have hj := alt_tie.mp (hx (tieOf z a) (List.mem_append_left _ (by unfold joint; rw [ez, ea]; exact List.mem_singleton_self _)))
  exact (alt_parity (h := n / 2) (fun t ht => hx t (List.mem_append_right _ ht)) ea ez).mp (by omega)
/-- two rows taken by turns -/
def inter (h : Int) : List Int → List Int → List Int
  | x :: xs, y :: ys => x :: (h + y) :: inter h xs ys
  | _, _ => []
theorem inter_snoc {h x y : Int} : ∀ {xs ys : List Int}, xs.length = ys.length → inter h (xs ++ [x]) (ys ++ [y]) = inter h xs ys ++ [x, h + y]
  | [], [], _ => rfl
  | a :: xs, b :: ys, e => by simp [inter, inter_snoc (xs := xs) (ys := ys) (by simpa using e)]
theorem inter_len {h : Int} : ∀ {xs ys : List Int}, xs.length = ys.length → (inter h xs ys).length = 2 * xs.length
  | [], [], _ => rfl
  | a :: xs, b :: ys, e => by simp [inter, inter_len (xs := xs) (ys := ys) (by simpa using e)]; omega
theorem inter_perm {h : Int} : ∀ {xs ys : List Int}, xs.length = ys.length → (inter h xs ys).Perm (xs ++ ys.map (h + ·))
  | [], [], _ => .refl _
  | a :: xs, b :: ys, e => by
    have ih := inter_perm (h := h) (xs := xs) (ys := ys) (by simpa using e)
    show (a :: (h + b) :: inter h xs ys).Perm (a :: (xs ++ (h + b) :: ys.map (h + ·)))
    exact List.Perm.cons _ ((List.Perm.cons _ ih).trans List.perm_middle.symm)
theorem inter_alt {h : Int} : ∀ {xs ys : List Int}, xs.length = ys.length → (∀ x ∈ xs, x < h) → (∀ y ∈ ys, 0 ≤ y) → Alt h (inter h xs ys)
  | [], [], _, _, _ => fun t ht => by cases ht
  | [a], [b], e, hx, hy => fun t ht => by
    have ha := hx a (by simp)
    have hb := hy b (by simp)
    simp [inter, links] at ht
    subst ht
    exact alt_tie.mpr (by omega)
  | a :: a2 :: xs, b :: b2 :: ys, e, hx, hy => fun t ht => by
    have ha := hx a (by simp)
    have hb := hy b (by simp)
    have ha2 := hx a2 (by simp)
    have ih := inter_alt (h := h) (xs := a2 :: xs) (ys := b2 :: ys) (by simpa using e) (fun x m => hx x (List.mem_cons_of_mem _ m)) (fun y m => hy y (List.mem_cons_of_mem _ m))
    rw [show inter h (a :: a2 :: xs) (b :: b2 :: ys) = a :: (h + b) :: a2 :: (h + b2) :: inter h xs ys from rfl, links_cc, links_cc] at ht
    rcases List.mem_cons.mp ht with rfl | ht
    · exact alt_tie.mpr (by omega)
    · rcases List.mem_cons.mp ht with rfl | ht
      · exact alt_tie.mpr (by omega)
      · exact ih t ht
theorem even_whole {n : Int} (h : evenN n) {xs ys : List Int} (hx : xs.Perm (up 0 (n / 2).toNat)) (hy : ys.Perm (up 0 (n / 2).toNat)) : WholeOk (evenW n) [] (inter (n / 2) xs ys) := by
  obtain ⟨h1, h2, h3⟩ := id h
  have lx := hx.length_eq
  have ly := hy.length_eq
  rw [up_length] at lx ly
  have nx : xs.Nodup := hx.symm.nodup ((up_inc 0 _).imp fun {x y} h => (show x ≠ y by omega))
  have ny : ys.Nodup := hy.symm.nodup ((up_inc 0 _).imp fun {x y} h => (show x ≠ y by omega))
  have rx : ∀ x ∈ xs, 0 ≤ x ∧ x < n / 2 := fun x hm => by have := mem_up.mp (hx.mem_iff.mp hm); omega
  have ry : ∀ x ∈ ys, 0 ≤ x ∧ x < n / 2 := fun x hm => by have := mem_up.mp (hy.mem_iff.mp hm); omega
  have hp := inter_perm (h := n / 2) (xs := xs) (ys := ys) (by omega)
  have hl := inter_len (h := n / 2) (xs := xs) (ys := ys) (by omega)
  have hA := inter_alt (h := n / 2) (xs := xs) (ys := ys) (by omega) (fun x m => (rx x m).2) (fun y m => (ry y m).1)
  have hr : ∀ p ∈ inter (n / 2) xs ys, 0 ≤ p ∧ p < n := fun p hm => by
    rcases List.mem_append.mp (hp.mem_iff.mp hm) with hm | hm
    · have := rx p hm; omega
    · obtain ⟨y, hm2, rfl⟩ := List.mem_map.mp hm
      have := ry y hm2; omega
  have hn : (inter (n / 2) xs ys).Nodup := hp.symm.nodup (List.nodup_append.mpr ⟨nx, List.pairwise_map.mpr (ny.imp fun {a b} hne e => hne (by omega)), fun a ha b hb e => by
    obtain ⟨y, hm, rfl⟩ := List.mem_map.mp hb
    have := rx a ha
    have := ry y hm
    omega⟩)
  refine ⟨⟨⟨hn, hr⟩, by omega, fun t ht => ?_⟩, by show ((inter (n / 2) xs ys).length : Int) = n; omega, fun t ht => nomatch ht⟩
  have hin := rties_in ht
  have q1 := hr _ hin.1
  have q2 := hr _ hin.2
  have hc : t.1 < n / 2 ∧ n / 2 ≤ t.2 := by
    rcases List.mem_append.mp ht with hj | hk
    · obtain ⟨a, ea⟩ : ∃ a, (inter (n / 2) xs ys).head? = some a := by
        cases e : (inter (n / 2) xs ys).head? with
        | none => rw [List.head?_eq_none_iff] at e; rw [e] at hl; simp at hl; omega
        | some a => exact ⟨a, rfl⟩
      obtain ⟨z, ez⟩ : ∃ a, (inter (n / 2) xs ys).getLast? = some a := by
        cases e : (inter (n / 2) xs ys).getLast? with
        | none => rw [List.getLast?_eq_none_iff] at e; rw [e] at hl; simp at hl; omega
        | some a => exact ⟨a, rfl⟩
      have := (alt_parity hA ea ez).mpr (by omega)
      unfold joint at hj
      rw [ez, ea] at hj
      simp at hj
      subst hj
      exact alt_tie.mpr (by omega)
    · exact hA t hk
  exact (even_mem h).mpr (by omega)
/-- the closing of an even web has every tie -/
theorem even_closed {n : Int} (h : evenN n) {V : Wb} (hV : WebOk V) (hn : V.n = n) (hs : ∀ t ∈ (evenW n).ts, t ∈ V.ts) (hc : putsOf V 0 = []) : V.ts = allPairs n := by
  obtain ⟨h1, h2, h3⟩ := id h
  have hd : ∀ p, 0 ≤ p → p < n → n / 2 ≤ deg V p := fun p p0 p1 => by
    have e : deg (evenW n) p = n / 2 := by
      have e1 : (degs (evenW n))[p.toNat]? = some (deg (evenW n) p) := by
        show ((up 0 n.toNat).map (degT (evenTs n)))[p.toNat]? = _
        have : (up 0 n.toNat)[p.toNat]? = some p := by
          unfold up
          rw [List.getElem?_map, List.getElem?_range (by omega)]
          simp
          omega
        rw [List.getElem?_map, this]
        rfl
      rw [even_degs h, List.getElem?_replicate] at e1
      split at e1
      · exact (Option.some.inj e1).symm
      · cases e1
    rw [← e]
    show degT (evenTs n) p ≤ degT V.ts p
    unfold degT
    rw [List.countP_eq_length_filter, List.countP_eq_length_filter]
    have hnd : ((evenTs n).filter fun q => decide (q.1 = p ∨ q.2 = p)).Nodup := (even_lt.imp fun h => h.ne).filter _
    have := hnd.length_le_of_subset (l₂ := V.ts.filter fun q => decide (q.1 = p ∨ q.2 = p)) fun t ht => by
      have := List.mem_filter.mp ht
      exact List.mem_filter.mpr ⟨hs t this.1, this.2⟩
    omega
  refine lt_uniq hV.ts.2 (all_lt n) fun t => ⟨fun ht => mem_all.mpr (by have := hV.ts.1 t ht; rw [hn] at this; exact this), fun ht => ?_⟩
  have ht := mem_all.mp ht
  by_cases hm : t ∈ V.ts
  · exact hm
  · exfalso
    have : t ∈ putsOf V 0 := mem_puts.mpr ⟨by rw [hn]; exact ht, by
      have q1 := hd t.1 (by omega) (by omega)
      have q2 := hd t.2 (by omega) (by omega)
      rw [hn]
      omega, hm⟩
    rw [hc] at this
    cases this
theorem all_len {n : Int} (h : evenN n) : ((allPairs n).length : Int) = n * (n - 1) / 2 := by
  rcases h.cases with rfl | rfl | rfl | rfl | rfl | rfl | rfl | rfl | rfl <;> decide +kernel
theorem find_first {f : Nat → Bool} {n i : Nat} (h1 : 1 ≤ i) (h2 : i < n) (hf : f i = true) (hno : ∀ j, 1 ≤ j → j < i → f j = false) : (List.range' 1 (n - 1)).find? f = some i := by
  rw [List.find?_eq_some_iff_append]
  refine ⟨hf, List.range' 1 (i - 1), List.range' (i + 1) (n - 1 - i), ?_, fun j hj => ?_⟩
  · have e1 : List.range' 1 (n - 1) = List.range' 1 (i - 1) ++ List.range' (1 + 1 * (i - 1)) (n - 1 - (i - 1)) := by
      rw [List.range'_append]
      congr 1
      omega
    have e2 : List.range' (1 + 1 * (i - 1)) (n - 1 - (i - 1)) = i :: List.range' (i + 1) (n - 1 - i) := by
      have e3 : n - 1 - (i - 1) = (n - 1 - i) + 1 := by omega
      rw [e3, List.range'_succ]
      congr 1
      · omega
      · congr 1; omega
    rw [e1, e2]
  · have := List.mem_range'_1.mp hj
    rw [hno j (by omega) (by omega)]
    rfl
theorem find_no {f : Nat → Bool} {n : Nat} (hno : ∀ j, 1 ≤ j → j < n → f j = false) : (List.range' 1 (n - 1)).find? f = none :=
  List.find?_eq_none.mpr fun j hj => by
    have := List.mem_range'_1.mp hj
    rw [hno j (by omega) (by omega)]
    decide
theorem atI_nth {ns : List Int} {i : Nat} (h : i < ns.length) : atI (ns.map PyData.int) (i : Int) = some (.int (nthI ns i)) := by
  have e : ns[i]? = some (nthI ns i) := by unfold nthI; rw [List.getElem?_eq_getElem h]; rfl
  exact atI_int e
theorem up_rows (h m : Int) (i : Nat) : ((up 0 i).flatMap fun a => (up h m.toNat).map fun b => (a, b)).length = i * m.toNat := by
  rw [List.length_flatMap]
  induction i with
  | zero => simp [up]
  | succ i ih => rw [up_succ, List.map_append, List.sum_append, ih]; simp [Nat.succ_mul]
@[simp ↓ high] theorem eTup_nil : eTup aNil = eC (.tuple []) := by
  funext ρ P E
  exact propext ⟨fun h => h.2, fun h => ⟨Nat.zero_le _, h⟩⟩
end Cr
set_option maxHeartbeats 4000000
/-! Fw42: steps through long conditions, one part at a time -/
namespace Cr
open PySem PySem.Spec PyProof.Rows L2
section
variable {A B : EE} {ρ : En} {i j : Int} {t u : ET} {f g : ES} {d : Nd} {P : Bool → Prop} {E : Ex → Prop} {K : D → Prop}
theorem st_le (hA : ∀ Q E, Q (.val (.int i)) → A ρ Q E) (hB : ∀ Q E, Q (.val (.int j)) → B ρ Q E) (h : K (.val (.bool (decide (i ≤ j))))) : eBin gLe A B ρ K E := hA _ _ (hB _ _ ⟨trivial, h⟩)
theorem st_mul (hA : ∀ Q E, Q (.val (.int i)) → A ρ Q E) (hB : ∀ Q E, Q (.val (.int j)) → B ρ Q E) (hm : IntMulOk i j) (h : K (.val (.int (i * j)))) : eBin gMul A B ρ K E := hA _ _ (hB _ _ ⟨hm, h⟩)
theorem st_ne (hA : ∀ Q E, Q (.val (.int i)) → A ρ Q E) (hB : ∀ Q E, Q (.val (.int i)) → B ρ Q E) (h : P false) : tOf (eBin gNe A B) ρ P E := hA _ _ (hB _ _ (by simpa using h))
theorem st_eq (hA : ∀ Q E, Q (.val (.int i)) → A ρ Q E) (hB : ∀ Q E, Q (.val (.int i)) → B ρ Q E) (h : K (.val (.bool true))) : eBin gEq A B ρ K E := hA _ _ (hB _ _ (by simpa using h))
theorem st_or (h1 : ∀ P E, P false → t ρ P E) (h2 : u ρ P E) : tOrD t u ρ P E := h1 _ _ h2
theorem st_if (h1 : ∀ P E, P false → t ρ P E) (h2 : g d ρ) : sIf t f g d ρ := h1 _ _ h2
theorem st_ifN (h1 : ∀ P E, P false → t ρ P E) (h2 : d.nx ρ) : sIf t f sNext d ρ := h1 _ _ h2
theorem st_seq (h : f { d with nx := g d } ρ) : sSeq f g d ρ := h
end
end Cr
set_option maxHeartbeats 4000000
/-! Fw43: is, is not, between truths -/
namespace Cr
open PySem PySem.Spec PyProof.Rows L2
@[simp] def gIsB : G2 := fun x y P => match x, y with
  | .val (.bool a), .val (.bool b) => P (.val (.bool (a == b)))
  | _, _ => False
@[simp] def gIsNotB : G2 := fun x y P => match x, y with
  | .val (.bool a), .val (.bool b) => P (.val (.bool (a != b)))
  | _, _ => False
theorem k_isB {K : PySem.W.Frag} : OpK K (fun x y H Q => ∃ a b, x = .bl a ∧ y = .bl b ∧ Q (.bl (decide (a = b))) H) gIsB := by
  intro Hs H x y v u P Q rx ry h q
  unfold gIsB at h
  split at h
  · rename_i a b
    refine ⟨a, b, res_bool rx, res_bool ry, ?_⟩
    have e : decide (a = b) = (a == b) := by cases a <;> cases b <;> rfl
    rw [e]
    exact q _ h _ H (Same.refl H) (.bl _)
  · exact h.elim
theorem k_isNotB {K : PySem.W.Frag} : OpK K (fun x y H Q => ∃ a b, x = .bl a ∧ y = .bl b ∧ Q (.bl (!decide (a = b))) H) gIsNotB := by
  intro Hs H x y v u P Q rx ry h q
  unfold gIsNotB at h
  split at h
  · rename_i a b
    refine ⟨a, b, res_bool rx, res_bool ry, ?_⟩
    have e : (!decide (a = b)) = (a != b) := by cases a <;> cases b <;> rfl
    rw [e]
    exact q _ h _ H (Same.refl H) (.bl _)
  · exact h.elim
section
variable {X : Cx} {b : Expr}
theorem c_isB : CmpR X .Is b gIsB := ⟨⟨_, op_is_bl, k_isB⟩, nomark _⟩
theorem c_isNotB : CmpR X .IsNot b gIsNotB := ⟨⟨_, op_isnot_bl, k_isNotB⟩, nomark _⟩
end
end Cr
set_option maxHeartbeats 4000000
/-! Fw44: tight webs, rows with a fault -/
namespace Cr
open PySem PySem.Spec PyProof.Rows L2
def tightB (i : Int) (p : Int × Int) : Bool := decide (p.1 < i ∨ 2 * i ≤ p.1)
def tightW (n i : Int) : Wb := ⟨n, (allPairs n).filter (tightB i)⟩
def tightN (n i : Int) : Prop := 3 ≤ n ∧ n ≤ 20 ∧ 1 ≤ i ∧ 2 * i < n
theorem tight_ok {n i : Int} (h : tightN n i) : WebOk (tightW n i) := ⟨h.1, h.2.1, ((all_ok n).filter _).1, ((all_ok n).filter _).2⟩
theorem tight_mem {n i : Int} {t : Int × Int} : t ∈ (tightW n i).ts ↔ (0 ≤ t.1 ∧ t.1 < t.2 ∧ t.2 < n) ∧ (t.1 < i ∨ 2 * i ≤ t.1) := by
  show t ∈ (allPairs n).filter (tightB i) ↔ _
  rw [List.mem_filter, mem_all]
  unfold tightB
  rw [decide_eq_true_eq]
def tightRow (n i : Int) : List Int := List.replicate i.toNat i ++ List.replicate (n - 2 * i).toNat (n - i - 1) ++ List.replicate i.toNat (n - 1)
theorem tight_all {P : Int → Int → Bool} (h : ((List.range 21).all fun m => (List.range 10).all fun k => !decide (3 ≤ m ∧ 1 ≤ k ∧ 2 * k < m) || P (m : Nat) (k : Nat)) = true) {n i : Int} (hn : tightN n i) : P n i = true := by
  obtain ⟨h1, h2, h3, h4⟩ := hn
  have h1' := List.all_eq_true.mp h n.toNat (List.mem_range.mpr (by omega))
  have := List.all_eq_true.mp h1' i.toNat (List.mem_range.mpr (by omega))
  rw [decide_eq_true (by omega), Bool.not_true, Bool.false_or] at this
  rwa [show ((n.toNat : Nat) : Int) = n by omega, show ((i.toNat : Nat) : Int) = i by omega] at this
theorem tight_degs {n i : Int} (h : tightN n i) : degs (tightW n i) = List.replicate i.toNat (n - 1) ++ List.replicate i.toNat i ++ List.replicate (n - 2 * i).toNat (n - i - 1) :=
  of_decide_eq_true (tight_all (P := fun n i => decide (degs (tightW n i) = List.replicate i.toNat (n - 1) ++ List.replicate i.toNat i ++ List.replicate (n - 2 * i).toNat (n - i - 1))) (by decide +kernel) h)
theorem tightRow_len {n i : Int} (h : tightN n i) : ((tightRow n i).length : Int) = n := by
  obtain ⟨h1, h2, h3, h4⟩ := h
  unfold tightRow
  simp
  omega
theorem tightRow_up {n i : Int} (h : tightN n i) : (tightRow n i).Pairwise (· ≤ ·) := by
  obtain ⟨h1, h2, h3, h4⟩ := h
  unfold tightRow
  refine List.pairwise_append.mpr ⟨List.pairwise_append.mpr ⟨List.pairwise_replicate.mpr (.inr (Int.le_refl _)), List.pairwise_replicate.mpr (.inr (Int.le_refl _)), fun a ha b hb => ?_⟩, List.pairwise_replicate.mpr (.inr (Int.le_refl _)), fun a ha b hb => ?_⟩
  · rw [List.eq_of_mem_replicate ha, List.eq_of_mem_replicate hb]; omega
  · rw [List.eq_of_mem_replicate hb]
    rcases List.mem_append.mp ha with ha | ha
    · rw [List.eq_of_mem_replicate ha]; omega
    · rw [List.eq_of_mem_replicate ha]; omega
theorem tight_row {n i : Int} (h : tightN n i) : srtI (degs (tightW n i)) = tightRow n i := by
  rw [tight_degs h]
  refine (srtI_uniq ?_ (tightRow_up h)).symm
  unfold tightRow
  have : (List.replicate i.toNat i ++ List.replicate (n - 2 * i).toNat (n - i - 1) ++ List.replicate i.toNat (n - 1)).Perm (List.replicate i.toNat (n - 1) ++ (List.replicate i.toNat i ++ List.replicate (n - 2 * i).toNat (n - i - 1))) := List.perm_append_comm
  rwa [← List.append_assoc] at this
theorem tight_rowOk {n i : Int} (h : tightN n i) : RowOk (tightRow n i) := by
  obtain ⟨h1, h2, h3, h4⟩ := id h
  have hl := tightRow_len h
  refine ⟨by omega, by omega, tightRow_up h, fun k hk => ?_⟩
  rw [hl]
  unfold tightRow at hk
  rcases List.mem_append.mp hk with hk | hk
  · rcases List.mem_append.mp hk with hk | hk
    · rw [List.eq_of_mem_replicate hk]; omega
    · rw [List.eq_of_mem_replicate hk]; omega
  · rw [List.eq_of_mem_replicate hk]; omega
theorem tight_fault {n i : Int} (h : tightN n i) : faultF (tightRow n i) = some i.toNat :=
  of_decide_eq_true (tight_all (P := fun n i => decide (faultF (tightRow n i) = some i.toNat)) (by decide +kernel) h)
/-- what is at a place of a sorted row -/
theorem sorted_le {s : List Int} (hs : s.Pairwise (· ≤ ·)) {k : Nat} (hk : k < s.length) {v : Int} (hc : k + 1 ≤ s.countP fun x => decide (x ≤ v)) : nthI s k ≤ v := by
  have e : nthI s k = s[k] := by unfold nthI; rw [List.getElem?_eq_getElem hk]; rfl
  rw [e]
  refine Classical.byContradiction fun hv => ?_
  have h1 : (s.drop k).countP (fun x => decide (x ≤ v)) = 0 := by
    rw [List.countP_eq_zero]
    intro x hx
    rw [List.drop_eq_getElem_cons hk] at hx
    have hp : (s[k] :: s.drop (k + 1)).Pairwise (· ≤ ·) := by
      rw [← List.drop_eq_getElem_cons hk]
      exact hs.sublist (List.drop_sublist ..)
    have : s[k] ≤ x := by
      rcases List.mem_cons.mp hx with rfl | hx
      · exact Int.le_refl _
      · exact (List.pairwise_cons.mp hp).1 x hx
    simp
    omega
  have h2 : (s.take k).countP (fun x => decide (x ≤ v)) ≤ k := Nat.le_trans (List.countP_le_length ..) (by rw [List.length_take]; omega)
  have h3 := List.countP_append (p := fun x => decide (x ≤ v)) (l₁ := s.take k) (l₂ := s.drop k)
  rw [List.take_append_drop] at h3
  omega
/-- a row drawn below the tight one -/
theorem faulty_ok {n i : Int} (h : tightN n i) {as bs cs : List Int} (la : (as.length : Int) = i) (lb : (bs.length : Int) = n - 2 * i) (lc : (cs.length : Int) = i) (ha : ∀ x ∈ as, 0 ≤ x ∧ x ≤ i) (hb : ∀ x ∈ bs, 0 ≤ x ∧ x < n - i) (hc : ∀ x ∈ cs, 0 ≤ x ∧ x < n) :
    RowOk (srtI (as ++ bs ++ cs)) ∧ (∀ k < (srtI (as ++ bs ++ cs)).length, nthI (srtI (as ++ bs ++ cs)) k ≤ nthI (tightRow n i) k) ∧ ∃ j, faultF (srtI (as ++ bs ++ cs)) = some j ∧ (j : Int) ≤ i := by
  obtain ⟨h1, h2, h3, h4⟩ := id h
  have hl : ((srtI (as ++ bs ++ cs)).length : Int) = n := by simp; omega
  have hs := srtI_le (as ++ bs ++ cs)
  have hrow : RowOk (srtI (as ++ bs ++ cs)) := ⟨by omega, by omega, hs, fun x hx => by
    rw [hl]
    have hx := mem_srtI.mp hx
    rcases List.mem_append.mp hx with hx | hx
    · rcases List.mem_append.mp hx with hx | hx
      · have := ha x hx; omega
      · have := hb x hx; omega
    · exact hc x hx⟩
  have cnt : ∀ v, (srtI (as ++ bs ++ cs)).countP (fun x => decide (x ≤ v)) = as.countP (fun x => decide (x ≤ v)) + bs.countP (fun x => decide (x ≤ v)) + cs.countP (fun x => decide (x ≤ v)) := fun v => by
    rw [(srtI_perm _).countP_eq, List.countP_append, List.countP_append]
  have full : ∀ (l : List Int) (v : Int), (∀ x ∈ l, x ≤ v) → l.countP (fun x => decide (x ≤ v)) = l.length := fun l v hv => List.countP_eq_length.mpr fun x hx => by simpa using hv x hx
  have q1 : ∀ k : Nat, (k : Int) < i → nthI (srtI (as ++ bs ++ cs)) k ≤ i := fun k hk => sorted_le hs (by omega) (by rw [cnt, full as i fun x hx => (ha x hx).2]; omega)
  have q2 : ∀ k : Nat, (k : Int) < n - i → nthI (srtI (as ++ bs ++ cs)) k ≤ n - i - 1 := fun k hk => sorted_le hs (by omega) (by
    rw [cnt, full as _ fun x hx => by have := ha x hx; omega, full bs _ fun x hx => by have := hb x hx; omega]
    omega)
  have q3 : ∀ k : Nat, (k : Int) < n → nthI (srtI (as ++ bs ++ cs)) k ≤ n - 1 := fun k hk => by
    have e : nthI (srtI (as ++ bs ++ cs)) k = (srtI (as ++ bs ++ cs))[k]'(by omega) := by unfold nthI; rw [List.getElem?_eq_getElem (by omega)]; rfl
    rw [e]
    have := hrow.rg _ (List.getElem_mem (show k < (srtI (as ++ bs ++ cs)).length by omega))
    omega
  refine ⟨hrow, fun k hk => ?_, ?_⟩
  · have e : nthI (tightRow n i) k = if (k : Int) < i then i else if (k : Int) < n - i then n - i - 1 else n - 1 := by
      unfold nthI tightRow
      rw [List.getElem?_append, List.getElem?_append]
      simp only [List.length_append, List.length_replicate, List.getElem?_replicate]
      by_cases c1 : (k : Int) < i
      · rw [if_pos (by omega), if_pos (by omega), if_pos c1, if_pos (by omega)]; rfl
      · by_cases c2 : (k : Int) < n - i
        · rw [if_pos (by omega), if_neg (by omega), if_neg c1, if_pos c2, if_pos (by omega)]; rfl
        · rw [if_neg (by omega), if_neg c1, if_neg c2, if_pos (by omega)]; rfl
    rw [e]
    split
    · exact q1 k (by omega)
    · split
      · exact q2 k (by omega)
      · exact q3 k (by omega)
  · have hf : faultAt (srtI (as ++ bs ++ cs)) i.toNat = true := by
      unfold faultAt
      have a1 := q1 (i.toNat - 1) (by omega)
      have a2 := q2 ((srtI (as ++ bs ++ cs)).length - i.toNat - 1) (by omega)
      rw [decide_eq_true (by omega), decide_eq_true (by omega), decide_eq_true (by omega)]
      rfl
    cases e : faultF (srtI (as ++ bs ++ cs)) with
    | none =>
      have := List.find?_eq_none.mp e i.toNat (List.mem_range'_1.mpr (by omega))
      exact absurd hf this
    | some j =>
      refine ⟨j, rfl, ?_⟩
      refine Classical.byContradiction fun hj => ?_
      have hj' : i.toNat < j := by omega
      obtain ⟨_, as', bs', e1, e2⟩ := List.find?_eq_some_iff_append.mp e
      have hm : i.toNat ∈ as' := by
        have hin : i.toNat ∈ List.range' 1 ((srtI (as ++ bs ++ cs)).length - 1) := List.mem_range'_1.mpr (by omega)
        have hsort : (List.range' 1 ((srtI (as ++ bs ++ cs)).length - 1)).Pairwise (· < ·) := List.pairwise_lt_range'
        rw [e1] at hin hsort
        rcases List.mem_append.mp hin with hin | hin
        · exact hin
        · rcases List.mem_cons.mp hin with e3 | hin
          · omega
          · have := (List.pairwise_cons.mp (List.pairwise_append.mp hsort).2.1).1 _ hin
            omega
      have := e2 _ hm
      rw [hf] at this
      cases this
end Cr
set_option maxHeartbeats 4000000
/-! Fw45: pieces of a web without a lot -/
namespace Cr
open PySem PySem.Spec PyProof.Rows L2
/-- b is come to from a by ties, through places of L -/
inductive Joined (W : Wb) (L : List Int) (a : Int) : Int → Prop
  | refl : Joined W L a a
  | step {q r : Int} (h : Joined W L a q) (e : adj W q r) (m : r ∈ L) : Joined W L a r
theorem Joined.mem {W : Wb} {L : List Int} {a b : Int} (ha : a ∈ L) (h : Joined W L a b) : b ∈ L := by
  cases h with
  | refl => exact ha
  | step _ _ m => exact m
theorem Joined.trans {W : Wb} {L : List Int} {a b c : Int} (h : Joined W L a b) (g : Joined W L b c) : Joined W L a c := by
  induction g with
  | refl => exact h
  | step _ e m ih => exact ih.step e m
theorem Joined.symm {W : Wb} {L : List Int} {a b : Int} (ha : a ∈ L) (h : Joined W L a b) : Joined W L b a := by
  induction h with
  | refl => exact .refl
  | step h e m ih => exact (Joined.step (.refl (a := _)) (adj_comm.mp e) (h.mem ha)).trans ih
structure PieceOk (W : Wb) (L : List Int) (a : Int) (ps : List Int) : Prop where
  up : ps.Pairwise (· < ·)
  mem : ∀ q, q ∈ ps ↔ Joined W L a q
/-- no lesser place of L leads to it -/
def LeastIn (W : Wb) (L : List Int) (a : Int) : Prop := ∀ b ∈ L, b < a → ¬ Joined W L b a
open Classical in
noncomputable def leasts (W : Wb) (L done : List Int) : List Int := done.filter fun a => decide (LeastIn W L a)
theorem piece_head {W : Wb} {L : List Int} {a : Int} {ps : List Int} (ha : a ∈ L) (hl : LeastIn W L a) (h : PieceOk W L a ps) : ps.head? = some a := by
  have hm : a ∈ ps := (h.mem a).mpr .refl
  cases ps with
  | nil => cases hm
  | cons x r =>
    rcases List.mem_cons.mp hm with e | hm
    · rw [e]; rfl
    · exfalso
      have hx := (h.mem x).mp (List.mem_cons_self ..)
      have := (List.pairwise_cons.mp h.up).1 a hm
      exact hl x (hx.mem ha) this (hx.symm ha)
/-- the pieces found up to some place of L -/
structure PiecesUp (W : Wb) (L done : List Int) (cs : List (List Int)) : Prop where
  pcs : ∀ c ∈ cs, ∃ a ∈ done, c.head? = some a ∧ PieceOk W L a c
  hds : cs.map (fun c => c.head?.getD 0) = leasts W L done
  all : ∀ p ∈ done, ∃ c ∈ cs, p ∈ c
theorem PiecesUp.nil {W : Wb} {L : List Int} : PiecesUp W L [] [] where
  pcs := fun _ h => nomatch h
  hds := rfl
  all := fun _ h => nomatch h
theorem PiecesUp.old {W : Wb} {L done rest : List Int} {a : Int} {cs : List (List Int)} (h : PiecesUp W L done cs) (hL : L = done ++ a :: rest) (hs : L.Pairwise (· < ·)) (hin : ∃ c ∈ cs, a ∈ c) : PiecesUp W L (done ++ [a]) cs := by
  obtain ⟨c, hc, hac⟩ := hin
  obtain ⟨b, hb, _, ok⟩ := h.pcs c hc
  have hba : b < a := by
    rw [hL] at hs
    exact (List.pairwise_append.mp hs).2.2 b hb a (List.mem_cons_self ..)
  have hno : ¬ LeastIn W L a := fun hl => hl b (by rw [hL]; exact List.mem_append_left _ hb) hba ((ok.mem a).mp hac)
  refine ⟨fun d hd => ?_, ?_, fun p hp => ?_⟩
  · obtain ⟨x, hx, e⟩ := h.pcs d hd
    exact ⟨x, List.mem_append_left _ hx, e⟩
  · rw [h.hds]
    unfold leasts
    rw [List.filter_append]
    simp [hno]
  · rcases List.mem_append.mp hp with hp | hp
    · exact h.all p hp
    · simp at hp; subst hp; exact ⟨c, hc, hac⟩
theorem PiecesUp.new {W : Wb} {L done rest : List Int} {a : Int} {cs : List (List Int)} {ps : List Int} (h : PiecesUp W L done cs) (hL : L = done ++ a :: rest) (hs : L.Pairwise (· < ·)) (hno : ∀ c ∈ cs, a ∉ c) (ok : PieceOk W L a ps) : PiecesUp W L (done ++ [a]) (cs ++ [ps]) := by
  have haL : a ∈ L := by rw [hL]; simp
  have hl : LeastIn W L a := fun b hb hba hj => by
    have hbd : b ∈ done := by
      rw [hL] at hb hs
      rcases List.mem_append.mp hb with hb | hb
      · exact hb
      · exfalso
        rcases List.mem_cons.mp hb with e | hb
        · omega
        · have := (List.pairwise_cons.mp (List.pairwise_append.mp hs).2.1).1 b hb
          omega
    obtain ⟨c, hc, hbc⟩ := h.all b hbd
    obtain ⟨b0, _, _, ok0⟩ := h.pcs c hc
    exact hno c hc ((ok0.mem a).mpr (((ok0.mem b).mp hbc).trans hj))
  have hh := piece_head haL hl ok
  refine ⟨fun d hd => ?_, ?_, fun p hp => ?_⟩
  · rcases List.mem_append.mp hd with hd | hd
    · obtain ⟨x, hx, e⟩ := h.pcs d hd
      exact ⟨x, List.mem_append_left _ hx, e⟩
    · simp at hd; subst hd
      exact ⟨a, by simp, hh, ok⟩
  · rw [List.map_append, h.hds]
    unfold leasts
    rw [List.filter_append]
    simp [hl, hh]
  · rcases List.mem_append.mp hp with hp | hp
    · obtain ⟨c, hc, hm⟩ := h.all p hp
      exact ⟨c, List.mem_append_left _ hc, hm⟩
    · simp at hp; subst hp
      exact ⟨ps, by simp, (ok.mem p).mpr .refl⟩
theorem PiecesUp.len {W : Wb} {L done : List Int} {cs : List (List Int)} (h : PiecesUp W L done cs) : cs.length = (leasts W L done).length := by rw [← h.hds, List.length_map]
def leftOf (n : Int) (lot : List Int) : List Int := (up 0 n.toNat).filter fun p => decide (p ∉ lot)
theorem left_up (n : Int) (lot : List Int) : (leftOf n lot).Pairwise (· < ·) := (up_inc 0 _).filter _
theorem mem_left {n : Int} {lot : List Int} {p : Int} : p ∈ leftOf n lot ↔ (0 ≤ p ∧ p < n) ∧ p ∉ lot := by
  unfold leftOf
  rw [List.mem_filter, mem_up, decide_eq_true_eq]
  constructor
  · rintro ⟨h1, h2⟩; exact ⟨by omega, h2⟩
  · rintro ⟨h1, h2⟩; exact ⟨by omega, h2⟩
/-- places found, walked up to k -/
structure FoundUp (W : Wb) (L : List Int) (a : Int) (F : List Int) (k : Nat) : Prop where
  nd : F.Nodup
  jn : ∀ q ∈ F, Joined W L a q
  at0 : a ∈ F
  cl : ∀ j q, j < k → F[j]? = some q → ∀ r ∈ L, adj W q r → r ∈ F
theorem FoundUp.done {W : Wb} {L : List Int} {a : Int} {F : List Int} {k : Nat} (h : FoundUp W L a F k) (hk : F.length ≤ k) : PieceOk W L a (srtI F) := by
  refine ⟨srtI_lt h.nd, fun q => ⟨fun hq => h.jn q (mem_srtI.mp hq), fun hq => mem_srtI.mpr ?_⟩⟩
  induction hq with
  | refl => exact h.at0
  | step _ e m ih =>
    obtain ⟨j, hj, ej⟩ := List.mem_iff_getElem.mp ih
    exact h.cl j _ (by omega) (by rw [List.getElem?_eq_getElem hj, ej]) _ m e
theorem FoundUp.len {W : Wb} {L : List Int} {a : Int} {F : List Int} {k : Nat} (h : FoundUp W L a F k) (ha : a ∈ L) : F.length ≤ L.length := h.nd.length_le_of_subset fun q hq => (h.jn q hq).mem ha
end Cr
set_option maxHeartbeats 4000000
/-! Fw46: more steps through conditions -/
namespace Cr
open PySem PySem.Spec PyProof.Rows L2
section
variable {A B : EE} {ρ : En} {i j : Int} {t u : ET} {f g : ES} {d : Nd} {P : Bool → Prop} {E : Ex → Prop} {K : D → Prop}
theorem st_ge (hA : ∀ Q E, Q (.val (.int i)) → A ρ Q E) (hB : ∀ Q E, Q (.val (.int j)) → B ρ Q E) (h : K (.val (.bool (decide (j ≤ i))))) : eBin gGeA A B ρ K E := hA _ _ (hB _ _ (by simpa using h))
theorem st_lt (hA : ∀ Q E, Q (.val (.int i)) → A ρ Q E) (hB : ∀ Q E, Q (.val (.int j)) → B ρ Q E) (h : K (.val (.bool (decide (i < j))))) : eBin gLt A B ρ K E := hA _ _ (hB _ _ ⟨trivial, h⟩)
theorem st_of {b : Bool} (h1 : ∀ K E, K (.val (.bool b)) → A ρ K E) (h2 : P b) : tOf A ρ P E := h1 _ _ h2
theorem st_or2 {a b : Bool} (h1 : ∀ P E, P a → t ρ P E) (h2 : a = false → ∀ P E, P b → u ρ P E) (h : P (a || b)) : tOrD t u ρ P E := h1 _ _ (by
  cases a with
  | true => simpa using h
  | false => simpa using h2 rfl _ _ (by simpa using h))
theorem st_ite {b : Bool} (h1 : ∀ P E, P b → t ρ P E) (h2 : b = true → f d ρ) (h3 : b = false → g d ρ) : sIf t f g d ρ := h1 _ _ (by
  cases b with
  | true => simpa using h2 rfl
  | false => simpa using h3 rfl)
end
end Cr
set_option maxHeartbeats 4000000
/-! Fw47: the bars of tight webs -/
namespace Cr
open PySem PySem.Spec PyProof.Rows L2
theorem tight_adj {n i a b : Int} (h : adj (tightW n i) a b) : 0 ≤ a ∧ 0 ≤ b ∧ a ≠ b ∧ (min a b < i ∨ 2 * i ≤ min a b) := by
  have := tight_mem.mp h
  simp only at this
  omega
theorem mem_leasts {W : Wb} {L done : List Int} {a : Int} : a ∈ leasts W L done ↔ a ∈ done ∧ LeastIn W L a := by
  classical
  unfold leasts
  rw [List.mem_filter]
  simp
theorem leasts_nd {W : Wb} {L done : List Int} (h : done.Nodup) : (leasts W L done).Nodup := h.filter _
theorem left_nd (n : Int) (lot : List Int) : (leftOf n lot).Nodup := (left_up n lot).imp fun {a b} h => (show a ≠ b by omega)
theorem tight_bar {n i : Int} (h : tightN n i) : i.toNat < (leasts (tightW n i) (leftOf n (up 0 i.toNat)) (leftOf n (up 0 i.toNat))).length := by
  obtain ⟨h1, h2, h3, h4⟩ := h
  have mem : ∀ p, p ∈ leftOf n (up 0 i.toNat) ↔ i ≤ p ∧ p < n := fun p => by
    rw [mem_left, mem_up]
    omega
  have alone : ∀ b x, i ≤ b → b < 2 * i → Joined (tightW n i) (leftOf n (up 0 i.toNat)) b x → x = b := fun b x hb hb2 hj => by
    induction hj with
    | refl => rfl
    | step _ e m ih =>
      subst ih
      have q := tight_adj e
      have := (mem _).mp m
      omega
  have hs := List.Nodup.length_le_of_subset (l₁ := up i (i.toNat + 1)) (l₂ := leasts (tightW n i) (leftOf n (up 0 i.toNat)) (leftOf n (up 0 i.toNat))) ((up_inc _ _).imp fun {a b} h => (show a ≠ b by omega)) fun a ha => by
    have ha := mem_up.mp ha
    refine mem_leasts.mpr ⟨(mem a).mpr (by omega), fun b hb hba hj => ?_⟩
    have := (mem b).mp hb
    have := alone b a (by omega) (by omega) hj
    omega
  rw [up_length] at hs
  omega
theorem tight_noBar {n i : Int} (h : tightN n i) (hi : 1 < i) : ¬ (i - 1).toNat < (leasts (tightW n i) (leftOf n (up 0 (i - 1).toNat)) (leftOf n (up 0 (i - 1).toNat))).length := by
  obtain ⟨h1, h2, h3, h4⟩ := h
  have mem : ∀ p, p ∈ leftOf n (up 0 (i - 1).toNat) ↔ i - 1 ≤ p ∧ p < n := fun p => by
    rw [mem_left, mem_up]
    omega
  have hs := List.Nodup.length_le_of_subset (l₂ := [i - 1]) (leasts_nd (W := tightW n i) (L := leftOf n (up 0 (i - 1).toNat)) (left_nd n (up 0 (i - 1).toNat))) fun a ha => by
    obtain ⟨ha, hl⟩ := mem_leasts.mp ha
    have ha' := (mem a).mp ha
    by_cases e : a = i - 1
    · simp [e]
    · exfalso
      refine hl (i - 1) ((mem _).mpr (by omega)) (by omega) (.step .refl ?_ ha)
      show (min (i - 1) a, max (i - 1) a) ∈ (tightW n i).ts
      rw [tight_mem]
      simp only
      omega
  rw [List.length_singleton] at hs
  omega
end Cr
set_option maxHeartbeats 4000000
/-! Fw48: tuple(range(..)) -/
namespace Cr
open PySem PySem.Spec PyProof.Rows L2
section
variable {X : Cx} {w : Wx} {e : Expr} {fr : ER} {p pos : Pos} {te : St → Hp → (Int → Int → Hp → Prop) → Prop}
def tTupRgF (te : St → Hp → (Int → Int → Hp → Prop) → Prop) : TE := fun σ H Q => te σ H fun a b H1 => RgOk a b ∧ ∀ q o, o.dict = none → H1 q = none → Q (.ref q) (upd H1 q (.frz o (.tup (rgV a b))))
theorem pe_tupRgF (hc : X.calm = true) (hg : Gl X "tuple") (hm : X.mg "tuple" = none) (he : PRg X e te) (na : starEach [e] X.env = (false, eval e X.env) :: starEach [] X.env := by rfl) : PE X (.Call (.Name "tuple" p) [e] [] pos) (tTupRgF te) := by
  refine ⟨fun pins s σ H Q I h => ?_⟩
  refine Call_ (ld_blt I hg hm boot_tuple (PyProof.Rows.callWith_type1 (args_cons (thn (he pins s σ H _ I h) fun x s1 hx => args_nil ?_) na) na))
  obtain ⟨r, a, b, t, u, v, H1, rfl, hr, I1, ⟨b1, b2, b3, b4, b5⟩, q⟩ := hx
  refine call_tuple_range (n := (b - a).toNat) (I1.ok.hd hc) hr (small_one b1 b2 b3 b4) (rangeSize_nat a b) b5 fun hp tk acc keep items => ?_
  have J : Inv X pins σ H1 { s1 with heap := hp, toks := tk } := I1.kept keep
  have hl : (rgV a b).length ≤ sizeLine := by rw [rgV_length, sizeLine_eq]; omega
  have hd := Heap.get?_push_size hp (o := { cls := .type "tuple", data := .seq acc.toList.toArray }) rfl
  refine ⟨.ref hp.objs.size, upd H1 hp.objs.size (.frz { cls := .type "tuple", data := .seq acc.toList.toArray } (.tup (rgV a b))), J.laid (t' := tk) (fun c ob z => Heap.get?_push_of_some _ z) (Nat.le_refl _) ?_, rfl, q _ _ rfl (J.hok.fresh (Nat.le_refl _))⟩
  refine ⟨?_, hl, acc.toList, vals_rg items, ?_⟩
  · rw [Array.toArray_toList]; exact Heap.get?_push_size _ rfl
  · rw [Array.toArray_toList]; exact IsTup.new _ _
@[simp] def eTupRg (fr : ER) : EE := fun ρ P E => fr ρ (fun a b => (-16777216 ≤ a ∧ a ≤ 16777216 ∧ -16777216 ≤ b ∧ b ≤ 16777216 ∧ b - a ≤ 16777216) ∧ P (.val (.tuple (rng a (b - a).toNat)))) E
theorem de_tupRg (hc : X.calm = true) (hg : Gl X "tuple") (hm : X.mg "tuple" = none) (he : DR X w e fr) (na : starEach [e] X.env = (false, eval e X.env) :: starEach [] X.env := by rfl) : DE X w (.Call (.Name "tuple" p) [e] [] pos) (eTupRg fr) :=
  (pe_tupRgF hc hg hm he na).imp fun σ H Q ⟨B, ρ, P, E, F, hf, hP, hE⟩ => ⟨B, ρ, _, E, F, hf, fun a b q H1 s1 => by
    refine ⟨⟨by omega, by omega, by omega, by omega, by omega⟩, fun l o zo nl => ?_⟩
    have s := (Same.refl H1).upd_new (o := .frz o (.tup (rgV a b))) nl
    exact hP _ q.2 _ _ (s1.trans s) (.tup upd_same zo (reps_rg a b)), hE⟩
end
end Cr
set_option maxHeartbeats 1000000
namespace Cr
/-! pieces of ties laid end to end -/
structure Laid (n : Int) (done : List (Int × Int)) (rows : List (List Int)) : Prop where
  perm : rows.flatten.Perm (up 0 n.toNat)
  ne : ∀ r ∈ rows, r ≠ []
  sub : ∀ r ∈ rows, ∀ t ∈ links r, t ∈ done
  cnt : n ≤ rows.length + done.length
  all : (rows.length : Int) + done.length = n → ∀ t ∈ done, ∃ r ∈ rows, t ∈ links r
  good : (∀ p, degT done p < 3) → ¬ hasRing done → (rows.length : Int) + done.length = n
theorem Laid.start {n : Int} (h : 0 ≤ n) : Laid n [] ((up 0 n.toNat).map fun p => [p]) := by
  refine ⟨?_, fun r hr => ?_, fun r hr t ht => ?_, by simp; omega, fun _ t ht => (by cases ht), fun _ _ => by simp; omega⟩
  · rw [← List.flatMap_def, List.flatMap_singleton']
  · obtain ⟨p, _, rfl⟩ := List.mem_map.mp hr; simp
  · obtain ⟨p, _, rfl⟩ := List.mem_map.mp hr; cases ht
theorem Laid.nodup {n : Int} {done : List (Int × Int)} {rows : List (List Int)} (h : Laid n done rows) : rows.flatten.Nodup :=
  h.perm.symm.nodup ((up_inc _ _).imp fun {a b} q => (show a ≠ b by omega))
theorem Laid.mem {n : Int} {done : List (Int × Int)} {rows : List (List Int)} (h : Laid n done rows) {a : Int} : (∃ r ∈ rows, a ∈ r) ↔ 0 ≤ a ∧ a < n := by
  rw [← List.mem_flatten, h.perm.mem_iff, mem_up]; omega
/-- just one row has a place -/
theorem pick_row : ∀ {rows : List (List Int)} {a : Int}, rows.flatten.Nodup → a ∈ rows.flatten → ∃ r, rows.filter (fun r => decide (a ∈ r)) = [r] ∧ r ∈ rows ∧ a ∈ r
  | [], a, _, h => by cases h
  | r :: rows, a, hn, h => by
    rw [List.flatten_cons] at hn h
    obtain ⟨n1, n2, n3⟩ := List.nodup_append.mp hn
    by_cases ha : a ∈ r
    · refine ⟨r, ?_, List.mem_cons_self .., ha⟩
      rw [List.filter_cons_of_pos (by simpa using ha), List.filter_eq_nil_iff.mpr]
      intro s hs
      simp only [decide_eq_true_eq]
      exact fun h2 => n3 a ha a (List.mem_flatten.mpr ⟨s, hs, h2⟩) rfl
    · have h2 : a ∈ rows.flatten := (List.mem_append.mp h).resolve_left ha
      obtain ⟨s, e, hs, has⟩ := pick_row n2 h2
      exact ⟨s, by rw [List.filter_cons_of_neg (by simpa using ha), e], List.mem_cons_of_mem _ hs, has⟩
theorem pick_uniq {rows : List (List Int)} {a : Int} {r s : List Int} (e : rows.filter (fun r => decide (a ∈ r)) = [r]) (hs : s ∈ rows) (ha : a ∈ s) : s = r := by
  have : s ∈ rows.filter (fun r => decide (a ∈ r)) := List.mem_filter.mpr ⟨hs, by simpa using ha⟩
  rw [e] at this
  simpa using this
theorem conn_links : ∀ {r : List Int} {done : List (Int × Int)}, (∀ t ∈ links r, t ∈ done) → ∀ {a b : Int}, a ∈ r → b ∈ r → Conn done a b
  | [], _, _, a, _, h, _ => by cases h
  | [x], _, _, a, b, h, g => by simp at h g; subst h; subst g; exact .refl _
  | x :: y :: r, done, hs, a, b, h, g => by
    have hxy : Conn done x y := by
      have : tieOf x y ∈ done := hs _ (by simp)
      unfold tieOf at this
      by_cases c : x ≤ y
      · rw [Int.min_eq_left c, Int.max_eq_right c] at this; exact .one (.inl this)
      · rw [Int.min_eq_right (by omega), Int.max_eq_left (by omega)] at this; exact .one (.inr this)
    have ih := fun {a b : Int} => conn_links (r := y :: r) (done := done) (fun t ht => hs t (by simp [ht])) (a := a) (b := b)
    have toY : ∀ c, c ∈ x :: y :: r → Conn done c y := fun c hc => by
      rcases List.mem_cons.mp hc with rfl | hc
      · exact hxy
      · exact ih hc (List.mem_cons_self ..)
    exact (toY a h).trans (toY b g).symm
theorem Laid.same {n : Int} {done : List (Int × Int)} {rows : List (List Int)} (h : Laid n done rows) {a b : Int} {r : List Int} (hr : r ∈ rows) (ha : a ∈ r) (hb : b ∈ r) : Laid n (done ++ [(a, b)]) rows := by
  refine ⟨h.perm, h.ne, fun r hr t ht => List.mem_append_left _ (h.sub r hr t ht), by have := h.cnt; simp; omega, fun e => ?_, fun _ no => ?_⟩
  · have := h.cnt; simp at e; omega
  · exact absurd (hasRing_snoc.mpr (.inr (conn_links (h.sub r hr) ha hb))) no
theorem degT_inner {r : List Int} {a : Int} (ha : a ∈ r) (h1 : r.head? ≠ some a) (h2 : r.getLast? ≠ some a) : 2 ≤ degT (links r) a := by
  obtain ⟨as, bs, rfl⟩ := List.append_of_mem ha
  rcases List.eq_nil_or_concat as with rfl | ⟨as', x, rfl⟩
  · simp at h1
  · cases bs with
    | nil => simp at h2
    | cons y bs =>
      have e : (as' ++ [x]) ++ a :: y :: bs = (as' ++ [x]) ++ ([a] ++ (y :: bs)) := by simp
      have hn : ∀ us, 0 ≤ degT us a := fun us => by unfold degT; omega
      simp only [List.concat_eq_append]
      rw [e, links_app, degT_app, degT_app, show [a] ++ (y :: bs) = a :: y :: bs from rfl, joint_snoc, degT_one, links_cc, show tieOf a y :: links (y :: bs) = [tieOf a y] ++ links (y :: bs) from rfl, degT_app, degT_one]
      rw [if_pos (by rw [tieOf_comm]; exact tieOf_left a x), if_pos (tieOf_left a y)]
      have q1 := hn (links (as' ++ [x]))
      have q2 := hn (links (y :: bs))
      omega
theorem row_nodup {rows : List (List Int)} (h : rows.flatten.Nodup) {r : List Int} (hr : r ∈ rows) : r.Nodup := (List.pairwise_flatten.mp h).1 r hr
theorem Laid.inner {n : Int} {done : List (Int × Int)} {rows : List (List Int)} (h : Laid n done rows) {a b c : Int} (hc : c = a ∨ c = b) {r : List Int} (hr : r ∈ rows) (ha : c ∈ r) (h1 : r.head? ≠ some c) (h2 : r.getLast? ≠ some c) : Laid n (done ++ [(a, b)]) rows := by
  refine ⟨h.perm, h.ne, fun r hr t ht => List.mem_append_left _ (h.sub r hr t ht), by have := h.cnt; simp; omega, fun e => ?_, fun few _ => ?_⟩
  · have := h.cnt; simp at e; omega
  · exfalso
    have q1 := degT_inner ha h1 h2
    have q2 := degT_sub (links_nodup (row_nodup h.nodup hr)) (h.sub r hr) c
    have q3 := few c
    rw [degT_app, degT_one, if_pos (by rcases hc with rfl | rfl <;> simp)] at q3
    omega
theorem two_rows : ∀ {rows : List (List Int)} {a b : Int} {one other : List Int}, rows.filter (fun r => decide (a ∈ r)) = [one] → rows.filter (fun r => decide (b ∈ r)) = [other] → one ≠ other →
    rows.Perm (one :: other :: rows.filter fun r => decide (a ∉ r) && decide (b ∉ r)) := by
  intro rows a b one other e1 e2 hne
  have p1 := List.filter_append_perm (fun r => decide (a ∈ r)) rows
  rw [e1] at p1
  have p2 := List.filter_append_perm (fun r => decide (b ∈ r)) (rows.filter fun r => !decide (a ∈ r))
  have e3 : (rows.filter fun r => !decide (a ∈ r)).filter (fun r => decide (b ∈ r)) = [other] := by
    rw [List.filter_filter]
    have : rows.filter (fun r => decide (b ∈ r) && !decide (a ∈ r)) = (rows.filter fun r => decide (b ∈ r)).filter (fun r => !decide (a ∈ r)) := by
      rw [List.filter_filter]
      congr 1; funext r; rw [Bool.and_comm]
    rw [this, e2]
    have hno : a ∉ other := fun h => by
      have hm : other ∈ rows := by
        have : other ∈ rows.filter (fun r => decide (b ∈ r)) := by rw [e2]; simp
        exact (List.mem_filter.mp this).1
      exact hne (pick_uniq e1 hm h).symm
    simp [hno]
  rw [e3] at p2
  have e4 : (rows.filter fun r => !decide (a ∈ r)).filter (fun r => !decide (b ∈ r)) = rows.filter fun r => decide (a ∉ r) && decide (b ∉ r) := by
    rw [List.filter_filter]
    congr 1; funext r; rw [Bool.and_comm]; simp
  rw [e4] at p2
  refine p1.symm.trans ?_
  exact (List.Perm.cons one p2.symm)
theorem links_mem_rev {r : List Int} {t : Int × Int} : t ∈ links r.reverse ↔ t ∈ links r := by rw [links_rev]; simp
theorem Laid.join {n : Int} {done : List (Int × Int)} {rows : List (List Int)} (h : Laid n done rows) {a b : Int} (hab : a < b) {one other X Y : List Int} (e1 : rows.filter (fun r => decide (a ∈ r)) = [one]) (e2 : rows.filter (fun r => decide (b ∈ r)) = [other]) (hne : one ≠ other)
    (hX : X = one ∨ X = one.reverse) (hY : Y = other ∨ Y = other.reverse) (lX : X.getLast? = some a) (hdY : Y.head? = some b) : Laid n (done ++ [(a, b)]) ((rows.filter fun r => decide (a ∉ r) && decide (b ∉ r)) ++ [X ++ Y]) := by
  have hp := two_rows e1 e2 hne
  have hl := hp.length_eq
  simp at hl
  have m1 : one ∈ rows := by
    have : one ∈ rows.filter (fun r => decide (a ∈ r)) := by rw [e1]; simp
    exact (List.mem_filter.mp this).1
  have m2 : other ∈ rows := by
    have : other ∈ rows.filter (fun r => decide (b ∈ r)) := by rw [e2]; simp
    exact (List.mem_filter.mp this).1
  have pX : X.Perm one := by
    rcases hX with rfl | rfl
    · exact .refl _
    · exact List.reverse_perm _
  have pY : Y.Perm other := by
    rcases hY with rfl | rfl
    · exact .refl _
    · exact List.reverse_perm _
  have lkX : ∀ t, t ∈ links X ↔ t ∈ links one := fun t => by
    rcases hX with rfl | rfl
    · exact Iff.rfl
    · exact links_mem_rev
  have lkY : ∀ t, t ∈ links Y ↔ t ∈ links other := fun t => by
    rcases hY with rfl | rfl
    · exact Iff.rfl
    · exact links_mem_rev
  have eJ : joint X Y = [(a, b)] := by
    unfold joint
    rw [lX, hdY]
    show [tieOf a b] = _
    unfold tieOf
    rw [Int.min_eq_left (by omega), Int.max_eq_right (by omega)]
  have lkXY : ∀ t, t ∈ links (X ++ Y) ↔ t ∈ links one ∨ t = (a, b) ∨ t ∈ links other := fun t => by
    rw [links_app, eJ, List.mem_append, List.mem_append, lkX, lkY, List.mem_singleton, or_assoc]
  have rest : ∀ r, r ∈ rows ↔ r = one ∨ r = other ∨ r ∈ rows.filter fun r => decide (a ∉ r) && decide (b ∉ r) := fun r => by
    rw [hp.mem_iff, List.mem_cons, List.mem_cons]
  refine ⟨?_, fun r hr => ?_, fun r hr t ht => ?_, ?_, fun e t ht => ?_, fun few no => ?_⟩
  · refine List.Perm.trans ?_ h.perm
    rw [List.flatten_append, List.flatten_cons, List.flatten_nil, List.append_nil]
    refine List.Perm.trans ?_ hp.flatten.symm
    rw [List.flatten_cons, List.flatten_cons]
    have := List.perm_append_comm.trans (List.Perm.append_right (rows.filter fun r => decide (a ∉ r) && decide (b ∉ r)).flatten (pX.append pY))
    rw [List.append_assoc one] at this
    exact this
  · rcases List.mem_append.mp hr with hr | hr
    · exact h.ne r ((rest r).mpr (.inr (.inr hr)))
    · rw [List.mem_singleton] at hr
      subst hr
      intro e
      rw [(List.append_eq_nil_iff.mp e).1] at lX
      cases lX
  · rcases List.mem_append.mp hr with hr | hr
    · exact List.mem_append_left _ (h.sub r ((rest r).mpr (.inr (.inr hr))) t ht)
    · rw [List.mem_singleton] at hr
      subst hr
      rcases (lkXY t).mp ht with q | rfl | q
      · exact List.mem_append_left _ (h.sub _ m1 t q)
      · simp
      · exact List.mem_append_left _ (h.sub _ m2 t q)
  · have := h.cnt
    simp
    omega
  · simp at e
    have old := h.all (by omega)
    rcases List.mem_append.mp ht with ht | ht
    · obtain ⟨r, hr, hrt⟩ := old t ht
      rcases (rest r).mp hr with rfl | rfl | hr
      · exact ⟨X ++ Y, by simp, (lkXY t).mpr (.inl hrt)⟩
      · exact ⟨X ++ Y, by simp, (lkXY t).mpr (.inr (.inr hrt))⟩
      · exact ⟨r, List.mem_append_left _ hr, hrt⟩
    · rw [List.mem_singleton] at ht
      exact ⟨X ++ Y, by simp, (lkXY t).mpr (.inr (.inl ht))⟩
  · have := h.good (fun p => by
      have := few p
      rw [degT_app, degT_one] at this
      split at this <;> omega) fun hr => no (hasRing_snoc.mpr (.inl hr))
    simp
    omega
/-- rows gone along, one behind another, each either way round -/
inductive Along (rows : List (List Int)) : List Int → List Int → Prop
  | nil : Along rows [] []
  | snoc {ks : List Int} {R r X : List Int} {k : Int} : Along rows ks R → 0 ≤ k → rows[k.toNat]? = some r → (X = r ∨ X = r.reverse) → Along rows (ks ++ [k]) (R ++ X)
theorem Along.perm {rows : List (List Int)} {ks R : List Int} (h : Along rows ks R) : R.Perm ((ks.map fun k => (rows[k.toNat]?).getD []).flatten) := by
  induction h with
  | nil => exact .refl _
  | @snoc ks R r X k _ h0 e hX ih =>
    rw [List.map_append, List.flatten_append]
    refine ih.append ?_
    simp only [List.map_cons, List.map_nil, List.flatten_cons, List.flatten_nil, List.append_nil, e, Option.getD_some]
    rcases hX with rfl | rfl
    · exact .refl _
    · exact List.reverse_perm _
theorem Along.links {rows : List (List Int)} {ks R : List Int} (h : Along rows ks R) : ∀ k ∈ ks, ∀ r, rows[k.toNat]? = some r → ∀ t ∈ links r, t ∈ Cr.links R := by
  induction h with
  | nil => intro k hk; cases hk
  | @snoc ks R r X k _ h0 e hX ih =>
    intro k' hk' r' e' t ht
    rw [links_app]
    rcases List.mem_append.mp hk' with hk' | hk'
    · exact List.mem_append_left _ (List.mem_append_left _ (ih k' hk' r' e' t ht))
    · rw [List.mem_singleton] at hk'
      subst hk'
      rw [e] at e'
      cases e'
      refine List.mem_append_right _ ?_
      rcases hX with rfl | rfl
      · exact ht
      · exact links_mem_rev.mpr ht
theorem Along.whole {rows : List (List Int)} {ks R : List Int} (h : Along rows ks R) (hk : ks.Perm (up 0 rows.length)) : R.Perm rows.flatten := by
  refine h.perm.trans (List.Perm.flatten ?_)
  refine (hk.map _).trans ?_
  have : (up 0 rows.length).map (fun k => (rows[k.toNat]?).getD []) = rows := by
    refine List.ext_getElem? fun i => ?_
    rw [List.getElem?_map]
    by_cases hi : i < rows.length
    · rw [up_get hi]
      simp [List.getElem?_eq_getElem hi]
    · rw [List.getElem?_eq_none (by simp; omega), List.getElem?_eq_none (by omega)]; rfl
  rw [this]
theorem links_flat : ∀ {rows : List (List Int)} {r : List Int} {t : Int × Int}, r ∈ rows → t ∈ links r → t ∈ links rows.flatten
  | [], _, _, h, _ => by cases h
  | s :: rows, r, t, h, ht => by
    rw [List.flatten_cons, links_app]
    rcases List.mem_cons.mp h with rfl | h
    · exact List.mem_append_left _ (List.mem_append_left _ ht)
    · exact List.mem_append_right _ (links_flat h ht)
end Cr
set_option maxHeartbeats 4000000
/-! Fw50: enumerate of a list or a tuple -/
namespace Cr
open PySem PySem.Spec PyProof.Rows L2
theorem enumNew1 {v : Value} {ob : Obj} {Hh : Heap → Prop} (Bg : Begins v ob Hh) :
    Meets (Builtin.«enumerate.__new__» ⟨[.type "enumerate", v], []⟩) (fun _ R st => Hh st.heap ∧ R (.ok (.ret (.ref (st.heap.push ob).objs.size)))
      { st with heap := (st.heap.push ob).push { cls := .type "enumerate", data := .fields #[.none, .bool false, .ref st.heap.objs.size, rawInt 0, .none, .none] } }) :=
  .of_wp fun pr wd Ar R st q => by
    obtain ⟨hp, gg, dd, tk, os⟩ := st; obtain ⟨q1, q2⟩ := q
    have isub := sub_enumerate
    have it1 : ∀ {A' : Around} {E : Value → Shared → Prop} {Q : Value → Shared → Prop}, Q (.ref hp.objs.size) ⟨hp.push ob, gg, dd, tk, os⟩ → wpAny (model pr wd) A' (pyIter v) Q E ⟨hp, gg, dd, tk, os⟩ :=
      fun z => Bg.iter pr wd _ _ ⟨hp, gg, dd, tk, os⟩ _ q1 z
    wp_walk using it1
    refine wpAny_stack_any fun sk => wpAny_pure ?_
    split
    · rename_i cc _ _ _ _ _
      cases (cc == Value.type "enumerate") <;> (wp_walk using it1; exact ⟨_, rfl, q2⟩)
    · wp_walk using it1
      exact ⟨_, rfl, q2⟩
section
variable {prog : Program} {w : World} {A : Around} {E : Value → Shared → Prop} {s : Shared}
theorem callEnumTup {t : Addr} {its : Array Value} {Q : Value → Shared → Prop} (hT : s.heap.IsTuple t its)
    (h : ∀ h', IsEnum h' (s.heap.objs.size + 1) s.heap.objs.size 0 .none → h'.IsTupleIter s.heap.objs.size t 0 → h'.objs.size = s.heap.objs.size + 2 → (∀ b o, s.heap.get? b = some o → h'.get? b = some o) → Q (.ref (s.heap.objs.size + 1)) { s with heap := h' }) :
    wpAny (model prog w) A (call (.type "enumerate") [.ref t]) Q E s := by
  refine callType_new F.called_enumerate (by decide) (F.typeCall_enumerate_1 _) (F.newCall_enumerate_1 _) (fun ob => F.args_object_init_2 ob _) F.entry_enumerate_new (enumNew1 (begins_tuple t its)) ⟨hT, ?_⟩
  have sz : (s.heap.push { cls := .type "tuple_iterator", data := .fields #[.ref t, .int 0 0] }).objs.size = s.heap.objs.size + 1 := Heap.size_push ..
  show _ ∧ _
  rw [sz]
  have he : IsEnum ((s.heap.push { cls := .type "tuple_iterator", data := .fields #[.ref t, .int 0 0] }).push { cls := .type "enumerate", data := .fields #[.none, .bool false, .ref s.heap.objs.size, rawInt 0, .none, .none] }) (s.heap.objs.size + 1) s.heap.objs.size 0 .none := by
    have z := Heap.get?_push_size (s.heap.push { cls := .type "tuple_iterator", data := .fields #[.ref t, .int 0 0] }) (o := { cls := .type "enumerate", data := .fields #[.none, .bool false, .ref s.heap.objs.size, rawInt 0, .none, .none] }) rfl
    rw [sz] at z; exact z
  exact ⟨⟨_, he, rfl⟩, h _ he ⟨_, Heap.get?_push_of_some _ (Heap.get?_push_size _ rfl), rfl, rfl⟩ (by rw [Heap.size_push, sz]) fun b o y => Heap.get?_push_of_some _ (Heap.get?_push_of_some _ y)⟩
end
theorem drawsEnd {prog : Program} {w : World} {A : Around} (hh : A.handled = none) (it t : Addr) (items : Array Value) (i : Nat) (hx : items[i]? = none) :
    Draws prog w A it [it, t] i (fun _ _ => True) (fun j h => j = i ∧ h.IsTupleIter it t i ∧ h.IsTuple t items) where
  live := fun _ _ st => let ⟨_, ⟨o, ho, _⟩, _⟩ := st; ⟨o, ho⟩
  frame := fun _ _ _ ⟨e, st, q⟩ hk => ⟨e, st.at fun o z => hk it (by simp) o z, q.at fun o z => hk t (by simp) o z⟩
  item := fun j s Q E hi ⟨e, _⟩ _ => absurd hi (by omega)
  done := fun s Q E ⟨_, st, q⟩ hE => wpAny_nextOf_tuple_end hh st q hx hE
/-- the tuple at a, each item in a new pair -/
def IteT (K : PySem.W.Frag) (a : Addr) : It :=
  ⟨fun i H => ∃ (xs : List V) (x : V), SqT K H a xs ∧ xs[i]? = some x, fun i H v H' => ∃ T x, v = .ref T ∧ H T = none ∧ H' = upd H T (.tup [.int (i : Nat), x]) ∧ ∀ xs, SqT K H a xs → xs[i]? = some x, fun i H => ∃ xs : List V, SqT K H a xs ∧ xs.length ≤ i⟩
theorem turn_enumT {P : Program} {w : World} {K : PySem.W.Frag} {elts : List Expr} {kk : Nat} {tpos : Pos} (a e it : Addr) :
    L2.Turn P w K (.Tuple elts kk tpos) (IteT K a) [e, it] e (fun i h => (∃ old, IsEnum h e it ((i : Nat) : Int) old) ∧ h.IsTupleIter it a i ∧ e ≠ it) where
  mem := by simp
  obj := fun i h st b hb => by
    obtain ⟨⟨old, he⟩, ⟨o, ho, hc, hd⟩, _⟩ := st
    rcases (show b = e ∨ b = it by simpa using hb) with z | z
    · rw [z]; exact ⟨_, he, fun v q => nomatch q⟩
    · rw [z]; exact ⟨o, ho, fun v q => by rw [hd] at q; cases q⟩
  keep := fun i h h' ⟨⟨old, he⟩, hi, hne⟩ k => ⟨⟨old, k e (by simp) _ he⟩, hi.at fun o q => k it (by simp) o q, hne⟩
  item := by
    intro X hP hw hK hc i pins s σ H E I hf st hg
    subst hP hw hK
    obtain ⟨⟨old, he⟩, hit, hne⟩ := st
    obtain ⟨xs, x, hq, hx⟩ := hg
    obtain ⟨its, rv, p, hz⟩ := I.tuple hq
    have p2 : s.heap.IsTuple a its.toArray := p
    obtain ⟨u, hu, ru⟩ := rv.get hx
    have hel : e < s.heap.objs.size := Heap.lt_size he
    have hil : it < s.heap.objs.size := by obtain ⟨_, q, _⟩ := hit; exact Heap.lt_size q
    have hea : e ≠ a := fun z => by
      obtain ⟨o, ho, hcl, _⟩ := p2
      subst z
      have he2 : s.heap.get? e = _ := he
      rw [ho] at he2
      cases he2
      exact absurd hcl (by intro z2; injection z2 with z3; exact absurd z3 (by decide))
    have hia : a ≠ it := fun z => by
      obtain ⟨o, ho, hcl, _⟩ := p2
      obtain ⟨o', ho', hcl', _⟩ := hit
      subst z
      rw [ho] at ho'
      cases ho'
      rw [hcl] at hcl'
      injection hcl' with z3
      exact absurd z3 (by decide)
    have hlen : i < its.toArray.size := by
      have := (List.getElem?_eq_some_iff.mp hu).1
      simpa using this
    refine wpAny_pyNext_enum_itemC (Draws.tuple (A := X.A.in1) (I.ok.hd hc) it a hia its.toArray) he ⟨hit, p2⟩ hlen hne (by simp [hne, hea]) fun x' h' tk hP ho hst' hT hsz hk => ?_
    have ex : x' = u := by
      have hP' : its.toArray[i]? = some x' := hP
      rw [List.getElem?_toArray, hu] at hP'
      exact (Option.some.inj hP').symm
    subst ex
    refine ⟨_, rfl, wpAny_letOwnedTupleGo_enum (s := { s with heap := h', toks := tk + 1 }) ho fun h'' he' sb => ?_⟩
    have hT2 : h''.get? s.heap.objs.size = some { cls := .type "tuple", data := .seq #[.int i tk, x'] } := (sb.2 _ (Nat.ne_of_gt hel)).trans hT
    have new : ObjOk X.prog X.w (upd H s.heap.objs.size (.tup [.int (i : Nat), x])) h'' s.heap.objs.size (.tup [.int (i : Nat), x]) :=
      ⟨by show 2 ≤ sizeLine; decide, [.int i tk, x'], .cons ⟨_, rfl⟩ (.cons ru .nil), ⟨_, hT2, rfl, _, rfl⟩⟩
    have I1 : Inv X pins σ (upd H s.heap.objs.size (.tup [.int (i : Nat), x])) { s with heap := h'', toks := tk + 1 } :=
      I.turnedNew (ch := [e, it]) (fun b ob hb q => (sb.2 b (fun z => hb (by simp [z]))).trans (hk b ob (fun z => hb (by simp [z])) (fun z => hb (by simp [z])) q)) hf (Nat.le_refl _) new
    refine ⟨.ref s.heap.objs.size, _, I1, rfl, ⟨_, x, rfl, I.hok.fresh (Nat.le_refl _), rfl, fun ys hy => by rw [I.tuple_inj hy hq]; exact hx⟩, ⟨⟨x', ?_⟩, hst'.1.at fun o q => (sb.2 it (Ne.symm hne)).trans q, hne⟩, fun b hb => ?_⟩
    · rw [show ((i + 1 : Nat) : Int) = (i : Int) + 1 by omega]; exact he'
    · have hb' : b < s.heap.objs.size := by
        rcases (show b = e ∨ b = it by simpa using hb) with z | z
        · rw [z]; exact hel
        · rw [z]; exact hil
      rw [upd_ne (Nat.ne_of_lt hb')]
      exact (hf b hb).1
  done := by
    intro X hP hw hK hc i pins s σ H E I hf st hg
    subst hP hw hK
    obtain ⟨⟨old, he⟩, hit, hne⟩ := st
    obtain ⟨xs, hq, hx⟩ := hg
    obtain ⟨its, rv, p, hz⟩ := I.tuple hq
    have p2 : s.heap.IsTuple a its.toArray := p
    have hia : a ≠ it := fun z => by
      obtain ⟨o, ho, hcl, _⟩ := p2
      obtain ⟨o', ho', hcl', _⟩ := hit
      subst z
      rw [ho] at ho'
      cases ho'
      rw [hcl] at hcl'
      injection hcl' with z3
      exact absurd z3 (by decide)
    obtain ⟨f0, f1, f2, f3, f4, f5⟩ := hf it (by simp)
    have hl := rv.length
    exact wpAny_pyNext_enum_endD (drawsEnd (A := X.A.in1) (I.ok.hd hc) it a its.toArray i (by rw [List.getElem?_toArray]; exact List.getElem?_eq_none (by omega))) he ⟨rfl, hit, p2⟩ fun h' eb => ⟨rfl, I.turned (t' := s.toks) (fun b o hb q => eb b o hb q) f0 f1 f3 f4 f5⟩
  self := fun A i s Q E st h => let ⟨⟨_, he⟩, _⟩ := st; wpAny_pyIter_enum he h
section
variable {X : Cx} {e : Expr} {p pos tpos : Pos} {elts : List Expr} {kk : Nat}
def iEnumB (K : PySem.W.Frag) (ta : TA) : TI := fun σ H R => ta σ H fun vs H1 => ∃ a xs, vs = [.ref a] ∧ ((SqL K H1 a xs ∧ R (Ite K a) H1) ∨ (SqT K H1 a xs ∧ R (IteT K a) H1))
theorem pi_enumB {ta : TA} (hg : Gl X "enumerate") (hm : X.mg "enumerate" = none) (ha : PA X [e] ta) (hs : starEach [e] X.env = [(false, eval e X.env)] := by rfl) :
    PI X (.Tuple elts kk tpos) (.Call (.Name "enumerate" p) [e] [] pos) (iEnumB X.K ta) := by
  refine ⟨fun pins s σ H R I h => ?_⟩
  refine Call_ (ld_blt I hg hm boot_enumerate (PyProof.Rows.callWith_type1 (thn (ha.run pos pins s σ H _ I h) fun us s1 ⟨vs, H1, I1, r1, q1⟩ => ?_) hs rfl))
  obtain ⟨a, xs, ex, q1⟩ := q1
  subst ex
  cases r1 with
  | cons r rr =>
    cases rr
    cases r
    have fp : ∀ b ∈ [s1.heap.objs.size + 1, s1.heap.objs.size], FpOk X pins H1 b := fun b hb => by
      have hle : s1.heap.objs.size ≤ b := by
        rcases (show b = s1.heap.objs.size + 1 ∨ b = s1.heap.objs.size by simpa using hb) with z | z
        · rw [z]; exact Nat.le_add_right _ _
        · rw [z]; exact Nat.le_refl _
      exact I1.fpOk hle (I1.hok.fresh hle)
    rcases q1 with ⟨hq, q⟩ | ⟨hq, q⟩
    · obtain ⟨its, rv, p', hz⟩ := I1.list hq
      refine call_enumerate_list p'.isList fun h' he hit hsz hk => wpAny_pyIter_enum he ?_
      exact ⟨s1.heap.objs.size + 1, [s1.heap.objs.size + 1, s1.heap.objs.size], _, _, H1, rfl, I1.kept (t' := s1.toks) hk, turn_enum a (s1.heap.objs.size + 1) s1.heap.objs.size, ⟨⟨.none, he⟩, hit, Nat.succ_ne_self _⟩, fp, q⟩
    · obtain ⟨its, rv, p', hz⟩ := I1.tuple hq
      refine callEnumTup (show s1.heap.IsTuple a its.toArray from p') fun h' he hit hsz hk => wpAny_pyIter_enum he ?_
      exact ⟨s1.heap.objs.size + 1, [s1.heap.objs.size + 1, s1.heap.objs.size], _, _, H1, rfl, I1.kept (t' := s1.toks) hk, turn_enumT a (s1.heap.objs.size + 1) s1.heap.objs.size, ⟨⟨.none, he⟩, hit, Nat.succ_ne_self _⟩, fp, q⟩
end
@[simp] def iEnumA (f : EE) : EI := fun ρ P E => f ρ (fun x => match x with
  | .val (.list xs) => P true (enumP xs)
  | .val (.tuple xs) => xs.length ≤ sizeLine ∧ P true (enumP xs)
  | .new xs => P true (enumP xs)
  | .bor xs => P false (enumP xs)
  | _ => False) E
theorem walk_enumT {K : PySem.W.Frag} {Hs H : Hp} {a : Addr} {o : Obj} {vs : List V} {xs : List PD} (hq : H a = some (.frz o (.tup vs))) (r : RepsF H vs xs) (hz : xs.length ≤ sizeLine) : Walks true true Hs H (IteT K a) (enumP xs) := by
  refine ⟨by unfold enumP; rw [List.length_mapIdx]; exact hz, only H a, only_same H a, fun eb c o e => ?_, fun H2 s2 => ?_⟩
  · rcases only_lst e with z | z
    · exact .inl z
    · subst z
      exact .inl fun ys ey => by
        have := only_same H c _ _ e
        rw [hq, ey] at this
        cases this
  · have ho : only H a a = some (.frz o (.tup vs)) := by unfold only; rw [hq]
    have hs2 : SqT K H2 a vs := .inl (.inr ⟨_, s2 _ _ ho⟩)
    have r2 : RepsF H2 vs xs := r.fx ((only_fx H a).trans s2.fx)
    have hl : (enumP xs).length = xs.length := by unfold enumP; rw [List.length_mapIdx]
    refine ⟨fun i hi => ?_, vs, hs2, by rw [r2.length, hl]; exact Nat.le_refl _⟩
    rw [hl] at hi
    obtain ⟨v, ev, rv⟩ := r2.get (List.getElem?_eq_getElem hi)
    refine ⟨⟨vs, v, hs2, ev⟩, fun v' H3 y => ?_⟩
    obtain ⟨T, x, rfl, nT, rfl, y⟩ := y
    have e2 := y vs hs2
    rw [ev] at e2
    cases e2
    have s := (Same.refl H2).upd_new (o := .tup [.int (i : Nat), v]) nT
    refine ⟨s, .tuple [.int (i : Nat), xs[i]], ?_, .inr ⟨rfl, _, _, _, rfl, rfl, upd_same, .cons (.int _) (.cons (rv.fx s.fx) .nil)⟩⟩
    unfold enumP
    rw [List.getElem?_mapIdx, List.getElem?_eq_getElem hi]
    rfl
section
variable {X : Cx} {w : Wx} {a : Expr} {fa : EE} {p pos tpos : Pos} {elts : List Expr} {kk : Nat}
theorem di_enumA (hg : Gl X "enumerate") (hm : X.mg "enumerate" = none) (ha : DE X w a fa) (hs : starEach [a] X.env = [(false, eval a X.env)] := by rfl) :
    DI X w (.Tuple elts kk tpos) (.Call (.Name "enumerate" p) [a] [] pos) (iEnumA fa) :=
  (pi_enumB hg hm (pa_cons (de_sized ha) pa_nil hs) hs).imp fun σ H R ⟨B, ρ, P, E, F, hf, hP, hE⟩ => ⟨B, ρ, _, E, F, hf, fun x q hz v H1 s1 r => by
    cases x with
    | val d =>
      cases d with
      | list xs =>
        cases r with
        | lst hq rr => exact ⟨_, _, rfl, .inl ⟨.inl (.inr ⟨_, hq⟩), hP true _ q _ _ s1 (walk_enum (fun _ => .inl fun ys e => by rw [hq] at e; cases e) (.inl (.inr ⟨_, hq⟩)) rr hz)⟩⟩
      | tuple xs =>
        cases r with
        | tup hq hd rr => exact ⟨_, _, rfl, .inr ⟨.inl (.inr ⟨_, hq⟩), hP true _ q.2 _ _ s1 (walk_enumT hq rr q.1)⟩⟩
      | _ => exact q.elim
    | new xs => obtain ⟨a, vs, rfl, n, hq, rr⟩ := r; exact ⟨a, vs, rfl, .inl ⟨.of hq, hP true _ q _ _ s1 (walk_enum (fun _ => .inr n) (.of hq) rr hz)⟩⟩
    | bor xs => obtain ⟨a, vs, rfl, hq, rr⟩ := r; exact ⟨a, vs, rfl, .inl ⟨.inl hq, hP false _ q _ _ s1 (walk_enum (fun z => by cases z) (.inl hq) rr hz)⟩⟩
    | _ => exact q.elim, hE⟩
end
end Cr
set_option maxHeartbeats 4000000
/-! Fw51: rows of puts, what is led back over them -/
namespace Cr
open PySem PySem.Spec PyProof.Rows L2
def encL (r : List Int) : PD := .list (r.map .int)
theorem PutsRow.at {more : Int} {W : Wb} {ps : List (Int × Int)} (h : PutsRow more W ps) {k : Nat} {p : Int × Int} (e : ps[k]? = some p) : WebOk (after W (ps.take k)) ∧ p ∈ putsOf (after W (ps.take k)) more ∧ ps.take (k + 1) = ps.take k ++ [p] ∧ k < ps.length := by
  obtain ⟨hk, hp⟩ := List.getElem?_eq_some_iff.mp e
  have esp : ps = ps.take k ++ p :: ps.drop (k + 1) := by rw [← hp]; simp
  exact ⟨(h _ _ _ esp).1, (h _ _ _ esp).2, by rw [← hp]; simp, hk⟩
theorem PutsRow.reachTo {more : Int} {W : Wb} {ps : List (Int × Int)} (h : PutsRow more W ps) : ∀ k, k ≤ ps.length → Reach more W (after W (ps.take k))
  | 0, _ => by rw [List.take_zero]; exact Reach.refl more W
  | k + 1, hk => by
    obtain ⟨q1, q2, q3, _⟩ := h.at (k := k) (List.getElem?_eq_getElem (by omega))
    rw [q3, after_snoc]
    exact (h.reachTo k (by omega)).step q1 q2
theorem PutsRow.reach {more : Int} {W : Wb} {ps : List (Int × Int)} (h : PutsRow more W ps) : Reach more W (after W ps) := by
  have := h.reachTo ps.length (Nat.le_refl _)
  rwa [List.take_length] at this
theorem PutsRow.snoc {more : Int} {W : Wb} {ps : List (Int × Int)} {p : Int × Int} (h : PutsRow more W ps) (ok : WebOk (after W ps)) (hp : p ∈ putsOf (after W ps) more) : PutsRow more W (ps ++ [p]) := fun a q b e => by
  rcases List.eq_nil_or_concat b with rfl | ⟨b', z, rfl⟩
  · obtain ⟨e1, e2⟩ := List.append_inj' e rfl
    cases e2
    subst e1
    exact ⟨ok, hp⟩
  · have e' : ps ++ [p] = (a ++ q :: b') ++ [z] := by rw [e]; simp
    exact h a q b' (List.append_inj' e' rfl).1
theorem Steps.row {more : Int} {W : Wb} {ps : List (Int × Int)} (h : Steps more W ps) : PutsRow more W ps := fun a p b e => ⟨(h a p b e).1, head_mem (h a p b e).2⟩
theorem mem_after : ∀ {ps : List (Int × Int)} {W : Wb} {t : Int × Int}, t ∈ (after W ps).ts ↔ t ∈ W.ts ++ ps
  | [], W, t => by simp [after]
  | p :: ps, W, t => by
    show t ∈ (after (W.put p) ps).ts ↔ _
    rw [mem_after, List.mem_append, show (W.put p).ts = insP p W.ts from rfl, mem_insP, List.mem_append, List.mem_cons]
    constructor
    · rintro ((h | h) | h)
      · exact .inr (.inl h)
      · exact .inl h
      · exact .inr (.inr h)
    · rintro (h | h | h)
      · exact .inl (.inr h)
      · exact .inl (.inl h)
      · exact .inr h
theorem after_perm : ∀ {ps : List (Int × Int)} {W : Wb}, (W.ts ++ ps).Perm (after W ps).ts
  | [], W => by simp [after]
  | p :: ps, W => by
    show (W.ts ++ p :: ps).Perm (after (W.put p) ps).ts
    refine List.Perm.trans ?_ (after_perm (ps := ps) (W := W.put p))
    refine List.perm_middle.trans ?_
    exact ((insP_perm p W.ts).symm).append_right ps
theorem all_len2 {n : Int} (h3 : 3 ≤ n) (h20 : n ≤ 20) : ((allPairs n).length : Int) = n * (n - 1) / 2 := by
  have : n = 3 ∨ n = 4 ∨ n = 5 ∨ n = 6 ∨ n = 7 ∨ n = 8 ∨ n = 9 ∨ n = 10 ∨ n = 11 ∨ n = 12 ∨ n = 13 ∨ n = 14 ∨ n = 15 ∨ n = 16 ∨ n = 17 ∨ n = 18 ∨ n = 19 ∨ n = 20 := by omega
  rcases this with rfl | rfl | rfl | rfl | rfl | rfl | rfl | rfl | rfl | rfl | rfl | rfl | rfl | rfl | rfl | rfl | rfl | rfl <;> decide +kernel
/-- a web with all ties -/
theorem complete {C : Wb} (hC : WebOk C) (h : C.n * (C.n - 1) / 2 ≤ C.ts.length) {t : Int × Int} (ht : 0 ≤ t.1 ∧ t.1 < t.2 ∧ t.2 < C.n) : t ∈ C.ts := by
  refine Classical.byContradiction fun hno => ?_
  have hl := List.Nodup.length_le_of_subset (l₁ := t :: C.ts) (l₂ := allPairs C.n) (List.nodup_cons.mpr ⟨hno, hC.ts.nodup⟩) fun q hq => by
    rcases List.mem_cons.mp hq with rfl | hq
    · exact mem_all.mpr ht
    · exact mem_all.mpr (hC.ts.1 q hq)
  have := all_len2 hC.lo hC.hi
  rw [List.length_cons] at hl
  omega
theorem crossAt_congr {A B : Wb} (h : ∀ t, t ∈ A.ts ↔ t ∈ B.ts) (hs : List (Int × Int)) (row : List Int) (i : Nat) : crossAt A hs row i = crossAt B hs row i := by
  unfold crossAt
  simp only [h]
theorem turnB_congr {A B : Wb} (h : ∀ t, t ∈ A.ts ↔ t ∈ B.ts) (hs : List (Int × Int)) (row : List Int) : turnB A hs row = turnB B hs row := by
  unfold turnB
  rw [show crossAt A hs row = crossAt B hs row from funext fun i => crossAt_congr h hs row i]
theorem overF_congr {A B : Wb} (h : ∀ t, t ∈ A.ts ↔ t ∈ B.ts) (hs : List (Int × Int)) (p : Int × Int) (ps : List Int) : overF A hs p ps = overF B hs p ps := by
  unfold overF
  rw [turnB_congr h]
/-- each ring led back, and the one before it -/
theorem backs_ok {W : Wb} {hs ps : List (Int × Int)} (hrow : PutsRow hs.length W ps) (hh : ∀ t ∈ hs, t ∈ W.ts) : ∀ (k : Nat) (r : List Int), k ≤ ps.length → WholeOk (after W (ps.take k)) hs r → told r = r →
    ∀ (i : Nat) (x : List Int), (backs W hs ps k r)[i]? = some x → i ≤ k ∧ WholeOk (after W (ps.take (k - i))) hs x ∧ told x = x ∧
      (0 < i → ∃ y p, (backs W hs ps k r)[i - 1]? = some y ∧ ps[k - i]? = some p ∧ p ∈ putsOf (after W (ps.take (k - i))) hs.length ∧ WebOk (after W (ps.take (k - i))) ∧ x = overF (after W (ps.take (k - i))) hs p y ∧ WholeOk ((after W (ps.take (k - i))).put p) hs y)
  | 0, r, hk, w, tr, i, x, e => by
    unfold backs at e
    cases i with
    | zero => simp at e; subst e; exact ⟨Nat.le_refl _, w, tr, fun h => absurd h (by omega)⟩
    | succ i => simp at e
  | m + 1, r, hk, w, tr, i, x, e => by
    obtain ⟨q1, q2, q3, _⟩ := hrow.at (k := m) (List.getElem?_eq_getElem (by omega))
    have hg : (ps[m]?).getD (0, 0) = ps[m] := by rw [List.getElem?_eq_getElem (by omega)]; rfl
    have w' := w
    rw [q3, after_snoc] at w'
    have hh' : ∀ t ∈ hs, t ∈ (after W (ps.take m)).ts := fun t ht => mem_after.mpr (List.mem_append_left _ (hh t ht))
    have wo := over_whole q1 hh' q2 w'
    unfold backs at e ⊢
    rw [hg] at e ⊢
    cases i with
    | zero => simp at e; subst e; exact ⟨by omega, w, tr, fun h => absurd h (by omega)⟩
    | succ i =>
      rw [List.getElem?_cons_succ] at e
      have hr3 := w.ring.len
      obtain ⟨p1, p2, p3, p4⟩ := backs_ok hrow hh m (overF (after W (ps.take m)) hs ps[m] r) (by omega) wo (told_overF w.ring.pl.1 hr3) i x e
      refine ⟨by omega, by rw [show m + 1 - (i + 1) = m - i by omega]; exact p2, p3, fun _ => ?_⟩
      rw [show m + 1 - (i + 1) = m - i by omega, show i + 1 - 1 = i by omega]
      cases i with
      | zero =>
        have hx : overF (after W (ps.take m)) hs ps[m] r = x := by
          cases m with
          | zero => unfold backs at e; simpa using e
          | succ m => unfold backs at e; simpa using e
        exact ⟨r, ps[m], by simp, List.getElem?_eq_getElem (by omega), by simpa using q2, by simpa using q1, by simpa using hx.symm, by simpa using w'⟩
      | succ i =>
        obtain ⟨y, p, a1, a2, a3⟩ := p4 (by omega)
        exact ⟨y, p, by rw [List.getElem?_cons_succ]; rw [show i + 1 - 1 = i by omega] at a1; exact a1, a2, a3⟩
theorem row_filter (f : Int × Int → Bool) (a n : Int) : (up (a + 1) (n - (a + 1)).toNat).filterMap (fun b => if f (a, b) = true then some (encPr (a, b)) else none) = ((pairsFrom a n).filter f).map encPr := by
  unfold pairsFrom
  generalize up (a + 1) (n - (a + 1)).toNat = l
  induction l with
  | nil => rfl
  | cons b l ih =>
    rw [List.filterMap_cons, List.map_cons, List.filter_cons]
    cases h : f (a, b) with
    | true => simp; simpa using ih
    | false => simp; simpa using ih
theorem rowsTo_succ (a : Nat) (n : Int) : rowsTo (a + 1) n = rowsTo a n ++ pairsFrom a n := by simp [rowsTo, up_succ]
theorem rows_filter_len {n : Int} {a : Nat} (h : n ≤ 20) (ha : (a : Int) < n) (f : Int × Int → Bool) : ((rowsTo a n).filter f).length + ((pairsFrom a n).filter f).length ≤ 400 := by
  have := pre_filter_len (n := n) (i := a) (j := (n - ((a : Int) + 1)).toNat) h ha (by omega) f
  rw [preP_end, rowsTo_succ, List.filter_append, List.length_append] at this
  exact this
end Cr
set_option maxHeartbeats 4000000
/-! Fw52: for over a list that is lent (read, not the frame's own) -/
namespace Cr
open PySem PySem.Spec PyProof.Rows L2
def WalksE (Be : Hp) (tp : Bool) (Hs H : Hp) (J : It) (xs : List PD) : Prop := xs.length ≤ sizeLine ∧ ∃ Hw, Same Hw H ∧ (∀ a o, Hw a = some o → (∀ ys, o ≠ .lst ys) ∨ Be a ≠ none) ∧
  ∀ H2, Same Hw H2 → (∀ i, i < xs.length → J.go i H2 ∧ ∀ v H3, J.yld i H2 v H3 → Same H2 H3 ∧ ∃ x, xs[i]? = some x ∧ RepW tp H3 v x) ∧ J.stop xs.length H2
def tDIE (K : PySem.W.Frag) (w : Wx) (tp : Bool) (i : Nat) : TI := fun σ H R => ∃ B ρ xs E, Fm K B H σ ρ ∧ ρ[i]? = some (.bor xs) ∧ (∀ J H', Same H H' → WalksE B.e tp H H' J xs → R J H') ∧ ExTo w σ H E
section
variable {X : Cx} {w : Wx} {tg : Expr} {pos : Pos}
theorem pi_varE (i : Nat) {x : Str} (hN : X.N[i]? = some x) (hv : Vis X.env.scope x) (hd : (x == ("__debug__" : Str)) = false := by decide) (hcd : (x == ("__classdict__" : Str)) = false := by decide) : PI X tg (.Name x pos) (tDIE X.K w (isTupE tg) i) := by
  refine ⟨fun pins s σ H R I hh => ?_⟩
  obtain ⟨B, ρ, xs, E, F, hf, hP, hE⟩ := hh
  obtain ⟨a, vs, ev, hr, rr⟩ := F.slot i _ hf
  have hq : Rd H a (.lst vs) := rd_same (F.ent.trans F.same) hr
  have hbe : B.e a ≠ none := by rcases hr with h | ⟨o, h⟩ <;> (rw [h]; exact fun z => nomatch z)
  refine (pi_list (pe_var hN hv hd hcd)).run pins s σ H R I ⟨_, ev, _, rfl, ⟨vs, .inl hq⟩, hP _ _ (Same.refl H) ?_⟩
  obtain ⟨its, rv, pl, hz⟩ := I.list (show SqL X.K H a vs from .inl hq)
  obtain ⟨w1, Hw, w2, w3, w4⟩ := walk_list (K := X.K) (tp := isTupE tg) (b := false) (Hs := H) (fun z => by cases z) (.inl hq) rr (by rw [← rr.length]; exact hz)
  refine ⟨w1, only H a, only_same H a, fun c o e => ?_, ?_⟩
  · rcases only_lst e with z | z
    · exact .inl z
    · subst z; exact .inr hbe
  · intro H2 s2
    have hs2 : SqL X.K H2 a vs := s2.seq (sql_only (.inl hq))
    have r2 : RepsF H2 vs xs := rr.fx ((only_fx H a).trans s2.fx)
    refine ⟨fun j hj => ?_, vs, hs2, by rw [r2.length]; exact Nat.le_refl _⟩
    obtain ⟨v, ev, rv⟩ := r2.get (List.getElem?_eq_getElem hj)
    refine ⟨⟨vs, v, hs2, ev⟩, fun v' H3 y => ?_⟩
    obtain ⟨rfl, y⟩ := y
    have e2 := y vs hs2
    rw [ev] at e2
    cases e2
    exact ⟨Same.refl _, _, List.getElem?_eq_getElem hj, .inl rv⟩
@[simp] def sForE (i : Nat) (t : Bd) (body : ES) : ES := fun d ρ => match ρ[i]? with
  | some (.bor xs) => ForI xs t body d ρ
  | _ => False
theorem ds_forE (i : Nat) {x : Str} {p2 : Pos} {body : List Stmt} {vs : List Nat} {t : Bd} {fb : ES} (hp : PassesOwn (model X.prog X.w) X.A X.env X.xe) (hc : X.calm = true) (hN : X.N[i]? = some x) (hv : Vis X.env.scope x) (hg : DG X tg vs t) (hb : DSs X w body fb)
    (hd : (x == ("__debug__" : Str)) = false := by decide) (hcd : (x == ("__classdict__" : Str)) = false := by decide)
    (hs : ∀ y, foldedSetIterable (.Name x p2) X.env y = pure y := by intro _; rfl) : DS X w (.For tg (.Name x p2) body [] pos) (sForE i t fb) :=
  (ps_for hp hc (pi_varE (w := w) i hN hv hd hcd) hg hb hs).imp fun T σ H ⟨B, ρ, d, F, hf, N⟩ => by
    unfold sForE at hf
    split at hf
    case h_2 => exact hf.elim
    rename_i xs exs
    refine ⟨B, ρ, xs, _, F, exs, fun J H1 s1 wk => ?_, N.exTo F⟩
    obtain ⟨I, i0, turn, fin⟩ := hf
    obtain ⟨hz, Hw, sw, hw, wk⟩ := wk
    have Fent := F.ent
    obtain ⟨Hb, sb, Fb, keep⟩ := (F.mono s1).rebase
    have swb : Same Hw Hb := fun a o e => by
      refine keep a o (sw a o e) fun i ds e1 e2 => ?_
      obtain ⟨a', us, q1, q2, q3, _⟩ := F.slot i _ e1
      rw [e2] at q1
      have : a = a' := by cases q1; rfl
      subst this
      have q3' := s1 _ _ q3
      rw [sw a o e] at q3'
      cases q3'
      rcases hw a _ e with z | z
      · exact z _ rfl
      · cases hbe : B.e a with
        | none => exact z hbe
        | some u =>
          have := Fent a u hbe
          rw [q2] at this
          cases this
    refine ⟨fun i m σ' H' => m = xs.length - i ∧ i ≤ xs.length ∧ ∃ ρ', Fm X.K ⟨B.e, Hb⟩ H' σ' ρ' ∧ I i ρ', ⟨xs.length, rfl, Nat.zero_le _, ρ, Fb, i0⟩, ?_⟩
    rintro i m σ2 H2 ⟨rfl, hi, ρ2, F2, hI⟩
    obtain ⟨go, stop⟩ := wk H2 (swb.trans F2.same)
    by_cases hlt : i < xs.length
    · obtain ⟨g, y⟩ := go i hlt
      refine .inr ⟨g, fun σ' H' => ∃ ρ', Fm X.K ⟨B.e, Hb⟩ H' σ' ρ' ∧ I (i + 1) ρ', fun σ' H' q => ⟨xs.length - (i + 1), by omega, rfl, hlt, q⟩, fun v H3 yl => ?_⟩
      obtain ⟨s3, x, ex, rx⟩ := y v H3 yl
      refine ⟨⟨B.e, Hb⟩, ρ2, x, _, F2.mono s3, rx, turn i x ρ2 ex hI, fun ρ' σ' p F' _ => ?_⟩
      have low : ∀ {σ : St} {ρ : En} {H : Hp}, Fm X.K ⟨B.e, Hb⟩ H σ ρ → Fm X.K B H σ ρ := fun F => Fm.base sb (show Same B.e B.h from Fent) F
      exact ⟨⟨B.e, Hb⟩, ρ', _, F', p, ⟨fun ρ σ H F q => ⟨ρ, F, q⟩, fun ρ σ H F q => N.nx ρ σ H (low F) q, fun ρ σ H F q => ⟨ρ, F, q⟩,
        fun r v H s q p => N.rt r v H (sb.trans s) (q.weak sb) p, fun x ρ σ H cls dd F e q => N.ex x ρ σ H cls dd (low F) e q⟩⟩
    · have e : i = xs.length := by omega
      subst e
      exact .inl ⟨stop, N.nx ρ2 σ2 H2 (Fm.base sb F.ent F2) (fin ρ2 hI)⟩
end
end Cr
set_option maxHeartbeats 4000000
/-! Fw53: a comprehension within one -/
namespace Cr
open PySem PySem.Spec PyProof.Rows L2
theorem lookup_rel {env : Env} : ∀ {names : List (Str × NameKind)} {x : Str}, names.lookup x = some .cell ∨ names.lookup x = some .free →
    (names.map fun (n, k) => if (k == NameKind.free && env.scope.kind == .function && env.kindOf n == some .cell) then (n, NameKind.cell) else (n, k)).lookup x = some .cell ∨
    (names.map fun (n, k) => if (k == NameKind.free && env.scope.kind == .function && env.kindOf n == some .cell) then (n, NameKind.cell) else (n, k)).lookup x = some .free
  | [], _, h => by simp at h
  | (n, k) :: r, x, h => by
    have ih := @lookup_rel env r x
    rw [List.map_cons]
    dsimp only
    cases hx : x == n with
    | true =>
      simp only [List.lookup_cons, hx] at h
      by_cases hc : (k == NameKind.free && env.scope.kind == .function && env.kindOf n == some .cell) = true
      · rw [if_pos hc]; left; simp only [List.lookup_cons, hx]
      · rw [if_neg hc]; simp only [List.lookup_cons, hx]; exact h
    | false =>
      simp only [List.lookup_cons, hx] at h
      by_cases hc : (k == NameKind.free && env.scope.kind == .function && env.kindOf n == some .cell) = true
      · rw [if_pos hc]; simp only [List.lookup_cons, hx]; exact ih h
      · rw [if_neg hc]; simp only [List.lookup_cons, hx]; exact ih h
theorem blkOk_rel {N : List Str} {sc scope : Scope} {own : List (Str × Nat)} {env : Env} (h : BlkOk N sc scope own) : BlkOk N (relabel sc env) scope own :=
  ⟨h.kind, h.uniq, h.ix, fun y hy e => lookup_rel (h.free y hy e), h.own⟩
/-! rows asked by counting -/
theorem sorted_count {s : List Int} (hs : s.Pairwise (· ≤ ·)) {k : Nat} (hk : k < s.length) {v : Int} : nthI s k ≤ v ↔ k + 1 ≤ s.countP fun x => decide (x ≤ v) := by
  refine ⟨fun h => ?_, fun h => sorted_le hs hk h⟩
  have e : nthI s k = s[k] := by unfold nthI; rw [List.getElem?_eq_getElem hk]; rfl
  rw [e] at h
  have h1 : (s.take (k + 1)).countP (fun x => decide (x ≤ v)) = (s.take (k + 1)).length := List.countP_eq_length.mpr fun x hx => by
    obtain ⟨j, hj, rfl⟩ := List.mem_iff_getElem.mp hx
    rw [List.length_take] at hj
    rw [List.getElem_take]
    have : s[j] ≤ s[k] := by
      by_cases e : j = k
      · subst e; exact Int.le_refl _
      · exact List.pairwise_iff_getElem.mp hs j k (by omega) hk (by omega)
    simp
    omega
  have h3 := List.countP_append (p := fun x => decide (x ≤ v)) (l₁ := s.take (k + 1)) (l₂ := s.drop (k + 1))
  rw [List.take_append_drop, h1, List.length_take] at h3
  omega
theorem fault_count {ns : List Int} (h : RowOk ns) {i : Nat} (hi : 1 ≤ i) (h2 : 2 * i < ns.length) : faultAt ns i = (decide ((i : Int) ≤ (ns.countP fun x => decide (x ≤ (i : Int)) : Nat)) && decide ((ns.length : Int) - i ≤ (ns.countP fun x => decide (x < (ns.length : Int) - i) : Nat))) := by
  unfold faultAt
  rw [decide_eq_true h2, Bool.true_and]
  have a := sorted_count h.up (k := i - 1) (by omega) (v := (i : Int))
  have b := sorted_count h.up (k := ns.length - i - 1) (by omega) (v := (ns.length : Int) - i - 1)
  have e : (ns.countP fun x => decide (x < (ns.length : Int) - i)) = ns.countP fun x => decide (x ≤ (ns.length : Int) - i - 1) := by
    congr 1; funext x; exact decide_eq_decide.mpr (by omega)
  rw [e]
  congr 1
  · exact decide_eq_decide.mpr (a.trans (by omega))
  · refine decide_eq_decide.mpr (Iff.trans ?_ (b.trans (by omega)))
    omega
theorem rowOk_srt {xs : List Int} (h3 : 3 ≤ xs.length) (h20 : xs.length ≤ 20) (h : ∀ x ∈ xs, 0 ≤ x ∧ x < xs.length) : RowOk (srtI xs) :=
  ⟨by simpa using h3, by simpa using h20, srtI_le xs, fun k hk => by have := h k (mem_srtI.mp hk); simpa using this⟩
theorem row_bad {xs : List PD} {x : PD} (hx : x ∈ xs) (h : ∀ k : Int, x = .int k → k < 0 ∨ (xs.length : Int) ≤ k) : isRowD (.tuple xs) = false := by
  cases e : isRowD (.tuple xs) with
  | false => rfl
  | true =>
    obtain ⟨ns, e2, ok⟩ := isRowD_iff.mp e
    have e3 : xs = ns.map .int := by injection e2
    subst e3
    obtain ⟨k, hk, rfl⟩ := List.mem_map.mp hx
    have a := ok.rg k hk
    have b := h k rfl
    rw [List.length_map] at b
    omega
theorem row_size {xs : List PD} (h : ¬ (3 ≤ xs.length ∧ xs.length ≤ 20)) : isRowD (.tuple xs) = false := by
  cases e : isRowD (.tuple xs) with
  | false => rfl
  | true =>
    obtain ⟨ns, e2, ok⟩ := isRowD_iff.mp e
    have e3 : xs = ns.map .int := by injection e2
    subst e3
    have := ok.lo
    have := ok.hi
    rw [List.length_map] at h
    omega
theorem row_down {ns : List Int} {a b : Int} (ha : ns.head? = some a) (hb : ns.getLast? = some b) (h : a < b) : isRowD (.tuple (ns.map .int).reverse) = false := by
  cases e : isRowD (.tuple (ns.map .int).reverse) with
  | false => rfl
  | true =>
    obtain ⟨ms, e2, ok⟩ := isRowD_iff.mp e
    have e3 : (ns.map PyData.int).reverse = ms.map .int := by injection e2
    rw [← List.map_reverse] at e3
    have e4 : ns.reverse = ms := ints_inj (by rw [e3])
    have up := ok.up
    rw [← e4] at up
    have up2 := List.pairwise_reverse.mp up
    exfalso
    cases ns with
    | nil => cases ha
    | cons x r =>
      obtain rfl : x = a := by simpa using ha
      have hm : b ∈ x :: r := List.mem_of_getLast? hb
      rcases List.mem_cons.mp hm with e5 | hm
      · omega
      · have := (List.pairwise_cons.mp up2).1 b hm
        omega
theorem deg_lt {W : Wb} (hW : WebOk W) {p : Int} (hp : 0 ≤ p ∧ p < W.n) : 0 ≤ deg W p ∧ deg W p < W.n := by
  rw [← nbrs_deg hW]
  have nd : (nbrs W p).Nodup := (nbrs_inc W p).imp fun {a b} h => (show a ≠ b by omega)
  have := List.Nodup.length_le_of_subset (l₁ := p :: nbrs W p) (l₂ := up 0 W.n.toNat) (List.nodup_cons.mpr ⟨fun h => (hW.adj ((mem_nbrs hW).mp h)).2.2.2.2 rfl, nd⟩) fun q hq => by
    rcases List.mem_cons.mp hq with rfl | hq
    · exact mem_up.mpr (by omega)
    · have := hW.adj ((mem_nbrs hW).mp hq)
      exact mem_up.mpr (by omega)
  rw [List.length_cons, up_length] at this
  omega
theorem row_ok {W : Wb} (hW : WebOk W) : RowOk (srtI (degs W)) := by
  have h1 := hW.lo
  have h2 := hW.hi
  have hl : (degs W).length = W.n.toNat := by unfold degs; simp
  refine rowOk_srt (by omega) (by omega) fun x hx => ?_
  unfold degs at hx
  obtain ⟨p, hp, rfl⟩ := List.mem_map.mp hx
  have := mem_up.mp hp
  have := deg_lt hW (p := p) (by omega)
  rw [hl]
  omega
theorem tiny_fault {ns : List Int} (h : RowOk ns) : tiny 1000 1 (match faultF ns with | some i => PyData.int i | none => .none) := by
  cases e : faultF ns with
  | none => exact tiny.none.mono (by decide) (by decide)
  | some i =>
    have : i ∈ List.range' 1 (ns.length - 1) := List.mem_of_find?_eq_some e
    have := List.mem_range'_1.mp this
    have := h.hi
    exact (tiny.int (i := (i : Int)) (by omega) (by omega)).mono (by decide) (by decide)
end Cr
set_option maxHeartbeats 4000000
/-! Fw54: len(set(t)) of a tuple of ints -/
namespace Cr
open PySem PySem.Spec PyProof.Rows L2
def dist (ns : List Int) : List Int := ns.foldr (fun x r => if x ∈ r then r else x :: r) []
theorem mem_dist : ∀ {ns : List Int} {k : Int}, k ∈ dist ns ↔ k ∈ ns
  | [], k => Iff.rfl
  | x :: ns, k => by
    have ih := mem_dist (ns := ns) (k := k)
    have e : dist (x :: ns) = if x ∈ dist ns then dist ns else x :: dist ns := rfl
    rw [e]
    split
    · rename_i h
      rw [ih, List.mem_cons]
      exact ⟨.inr, fun h2 => h2.elim (fun e => e ▸ mem_dist.mp h) id⟩
    · rw [List.mem_cons, List.mem_cons, ih]
theorem dist_nodup : ∀ ns : List Int, (dist ns).Nodup
  | [] => .nil
  | x :: ns => by
    have e : dist (x :: ns) = if x ∈ dist ns then dist ns else x :: dist ns := rfl
    rw [e]
    split
    · exact dist_nodup ns
    · rename_i h
      exact List.nodup_cons.mpr ⟨h, dist_nodup ns⟩
theorem dist_of : ∀ {ns : List Int}, ns.Nodup → dist ns = ns
  | [], _ => rfl
  | x :: ns, h => by
    obtain ⟨h1, h2⟩ := List.nodup_cons.mp h
    have e : dist (x :: ns) = if x ∈ dist ns then dist ns else x :: dist ns := rfl
    rw [e, dist_of h2, if_neg h1]
theorem dist_le : ∀ ns : List Int, (dist ns).length ≤ ns.length
  | [] => Nat.le_refl _
  | x :: ns => by
    have e : dist (x :: ns) = if x ∈ dist ns then dist ns else x :: dist ns := rfl
    have := dist_le ns
    rw [e]
    split <;> simp <;> omega
theorem dist_eq {ns : List Int} (h : (dist ns).length = ns.length) : ns.Nodup := by
  have := List.Nodup.length_le_of_subset (dist_nodup ns) (l₂ := ns) fun k hk => mem_dist.mp hk
  induction ns with
  | nil => exact .nil
  | cons x ns ih =>
    have e : dist (x :: ns) = if x ∈ dist ns then dist ns else x :: dist ns := rfl
    have hl := dist_le ns
    rw [e] at h
    split at h
    · rw [List.length_cons] at h; omega
    · rename_i hx
      simp at h
      exact List.nodup_cons.mpr ⟨fun hm => hx (mem_dist.mpr hm), ih h (by omega)⟩
section
variable {X : Cx} {w : Wx} {e : Expr} {f : EE} {p p2 q pos : Pos}
def tLenSetT (K : PySem.W.Frag) (te : TE) : TE := fun σ H Q => te σ H fun x H1 => ∃ (l : Addr) (ns : List Int), x = V.ref l ∧ SqT K H1 l (ns.map V.int) ∧ ns.length ≤ 1000 ∧ Q (.int (dist ns).length) H1
theorem pe_lenSetT {te : TE} (hc : X.calm = true) (hg : Gl X "len") (hm : X.mg "len" = none) (hg2 : Gl X "set") (hm2 : X.mg "set" = none) (he : PE X e te)
    (na : starEach [e] X.env = (false, eval e X.env) :: starEach [] X.env := by rfl) : PE X (.Call (.Name "len" p) [.Call (.Name "set" p2) [e] [] q] [] pos) (tLenSetT X.K te) := by
  refine ⟨fun pins s σ H Q I h => ?_⟩
  refine Call_ (ld_blt I hg hm PySem.boot_len (PyProof.Rows.callWith_builtin1 (PyProof.Rows.args_cons ?_ rfl) rfl rfl))
  refine Call_ (ld_blt I hg2 hm2 PyProof.Rows.boot_set (PyProof.Rows.callWith_type1 (PyProof.Rows.args_cons (thn (he.run pins s σ H _ I h) fun v s1 ⟨x, H1, I1, r1, z⟩ => PyProof.Rows.args_nil ?_) na) na rfl))
  obtain ⟨l, ns, rfl, hq, h1, z⟩ := z
  cases r1
  obtain ⟨its, r, pl, hz⟩ := I1.tuple hq
  refine call_set_tupI ns (I1.ok.hd hc) (show s1.heap.IsTuple l its.toArray from pl) (by simpa using r.ints) (by unfold scanBound; omega) fun h' tk c R hcl hk => ?_
  refine PyProof.Rows.args_nil ?_
  obtain ⟨o, es, ep, t, ho, hex, hd, g, nd, hmem, hb, hf, hn, _⟩ := R
  have I2 : Inv X pins σ H1 { s1 with heap := h', toks := tk } := I1.kept hk
  have hsz : es.size = (dist ns).length := by
    have pm : (es.toList.map keyOf).Perm (dist ns) := (List.perm_ext_iff_of_nodup nd (dist_nodup ns)).mpr fun k => by
      rw [← hmem k, decide_eq_true_eq, mem_dist]
    have := pm.length_eq
    rwa [List.length_map, Array.length_toList] at this
  have hle := dist_le ns
  exact call_len_set ho hex hd hf (by omega) ⟨.int (dist ns).length, H1, I2.tok _, ⟨_, by rw [hsz]⟩, z⟩
@[simp] def eLenSetT (f : EE) : EE := fun ρ P E => f ρ (fun x => match x with | .val (.tuple xs) => ∃ ns : List Int, xs = ns.map .int ∧ ns.length ≤ 1000 ∧ P (.val (.int (dist ns).length)) | _ => False) E
theorem de_lenSetT (hc : X.calm = true) (hg : Gl X "len") (hm : X.mg "len" = none) (hg2 : Gl X "set") (hm2 : X.mg "set" = none) (he : DE X w e f)
    (na : starEach [e] X.env = (false, eval e X.env) :: starEach [] X.env := by rfl) : DE X w (.Call (.Name "len" p) [.Call (.Name "set" p2) [e] [] q] [] pos) (eLenSetT f) :=
  (pe_lenSetT hc hg hm hg2 hm2 he na).imp fun σ H Q ⟨B, ρ, P, E, F, hf, hP, hE⟩ => ⟨B, ρ, _, E, F, hf, fun d z v H1 s1 r => by
    cases d with
    | val d =>
      cases d with
      | tuple xs =>
        obtain ⟨ns, rfl, h1, z⟩ := z
        obtain ⟨a, vs, rfl, hq, rr⟩ := res_tup r
        rw [RepsF.of_ints rr] at hq
        exact ⟨a, ns, rfl, .inl hq, h1, hP _ z _ _ s1 (.int _)⟩
      | _ => exact z.elim
    | _ => exact z.elim, hE⟩
end
end Cr
set_option maxHeartbeats 4000000
/-! Fw55: rings of each length, where there are many ties -/
namespace Cr
open PySem PySem.Spec PyProof.Rows L2
/-! sums -/
def tot (l : List Int) : Int := l.foldr (· + ·) 0
@[simp] theorem tot_nil : tot [] = 0 := rfl
@[simp] theorem tot_cons (a : Int) (l : List Int) : tot (a :: l) = a + tot l := rfl
theorem tot_perm {a b : List Int} (h : a.Perm b) : tot a = tot b := by
  induction h with
  | nil => rfl
  | cons x _ ih => rw [tot_cons, tot_cons, ih]
  | swap x y l => simp only [tot_cons]; omega
  | trans _ _ i1 i2 => exact i1.trans i2
theorem tot_add {α : Type} (f g : α → Int) : ∀ l : List α, tot (l.map fun x => f x + g x) = tot (l.map f) + tot (l.map g)
  | [] => rfl
  | x :: l => by simp only [List.map_cons, tot_cons, tot_add f g l]; omega
theorem tot_le {α : Type} (f : α → Int) (c : Int) : ∀ l : List α, (∀ x ∈ l, f x ≤ c) → tot (l.map f) ≤ c * l.length
  | [], _ => by simp
  | x :: l, h => by
    have := tot_le f c l fun y hy => h y (List.mem_cons_of_mem _ hy)
    have := h x (List.mem_cons_self ..)
    simp only [List.map_cons, tot_cons, List.length_cons]
    rw [Int.natCast_succ, Int.mul_add, Int.mul_one]
    omega
theorem tot_one (a : Int) : ∀ l : List Int, l.Nodup → a ∈ l → tot (l.map fun p => if p = a then 1 else 0) = 1
  | [], _, h => by cases h
  | x :: l, hn, h => by
    obtain ⟨h1, h2⟩ := List.nodup_cons.mp hn
    simp only [List.map_cons, tot_cons]
    by_cases e : x = a
    · subst e
      have : tot (l.map fun p => if p = x then (1 : Int) else 0) = 0 := by
        have z : l.map (fun p => if p = x then (1 : Int) else 0) = l.map fun _ => 0 := List.map_congr_left fun p hp => if_neg fun e2 => h1 (by rw [← e2]; exact hp)
        rw [z]
        clear h hn h1 h2 z
        induction l with
        | nil => rfl
        | cons y l ih => simp only [List.map_cons, tot_cons, ih]; rfl
      rw [if_pos rfl, this]; rfl
    · rw [if_neg e, tot_one a l h2 ((List.mem_cons.mp h).resolve_left fun z => e z.symm)]; rfl
theorem tot_degT {n : Int} : ∀ {ts : List (Int × Int)}, (∀ t ∈ ts, 0 ≤ t.1 ∧ t.1 < t.2 ∧ t.2 < n) → tot ((up 0 n.toNat).map (degT ts)) = 2 * ts.length
  | [], _ => by
    have : (up 0 n.toNat).map (degT []) = (up 0 n.toNat).map fun _ => 0 := List.map_congr_left fun p _ => by simp [degT]
    rw [this]
    generalize up 0 n.toNat = l
    induction l with
    | nil => rfl
    | cons y l ih => simp only [List.map_cons, tot_cons]; rw [ih]; rfl
  | t :: ts, h => by
    have ih := tot_degT (n := n) (ts := ts) fun u hu => h u (List.mem_cons_of_mem _ hu)
    have ht := h t (List.mem_cons_self ..)
    have nd : (up 0 n.toNat).Nodup := (up_inc _ _).imp fun {a b} h => (show a ≠ b by omega)
    have e : (up 0 n.toNat).map (degT (t :: ts)) = (up 0 n.toNat).map fun p => ((if p = t.1 then (1 : Int) else 0) + (if p = t.2 then 1 else 0)) + degT ts p := List.map_congr_left fun p _ => by
      rw [show t :: ts = [t] ++ ts from rfl, degT_app, degT_one]
      by_cases e1 : p = t.1
      · rw [if_pos (.inl e1.symm), if_pos e1, if_neg (by omega)]; omega
      · by_cases e2 : p = t.2
        · rw [if_pos (.inr e2.symm), if_neg e1, if_pos e2]; omega
        · rw [if_neg (by omega), if_neg e1, if_neg e2]; omega
    rw [e, tot_add (fun p => (if p = t.1 then (1 : Int) else 0) + (if p = t.2 then 1 else 0)) (degT ts), tot_add (fun p => if p = t.1 then (1 : Int) else 0) (fun p => if p = t.2 then 1 else 0), tot_one _ _ nd (mem_up.mpr (by omega)), tot_one _ _ nd (mem_up.mpr (by omega)), ih, List.length_cons]
    omega
/-! items -/
theorem items_map (row : List Int) : (List.range row.length).map (itemN row) = row := by
  refine List.ext_getElem? fun i => ?_
  rw [List.getElem?_map]
  by_cases h : i < row.length
  · rw [List.getElem?_range h]
    simp [itemN, List.getElem?_eq_getElem h]
  · rw [List.getElem?_eq_none (by simpa using h), List.getElem?_eq_none (by omega)]; rfl
theorem itemN_mem {row : List Int} {i : Nat} (h : i < row.length) : itemN row i ∈ row := by
  unfold itemN; rw [List.getElem?_eq_getElem h]; exact List.getElem_mem h
theorem itemN_get {row : List Int} {i : Nat} (h : i < row.length) : row[i]? = some (itemN row i) := by
  unfold itemN; rw [List.getElem?_eq_getElem h]; rfl
theorem lastN_item {row : List Int} (h : row ≠ []) : lastN row = itemN row (row.length - 1) := by
  unfold lastN itemN; rw [List.getLast?_eq_getElem?]
theorem row_mid {row : List Int} {m : Nat} (h : row.length = m + 2) : row = itemN row 0 :: ((List.range m).map (fun i => itemN row (i + 1)) ++ [lastN row]) := by
  have e := items_map row
  rw [h, List.range_succ, List.range_succ_eq_map, List.map_append, List.map_cons, List.map_map] at e
  rw [lastN_item (by intro z; subst z; simp at h), h]
  conv => lhs; rw [← e]
  rfl
/-- where the ring is begun -/
def prevN (ring : List Int) (i : Nat) : Int := if i = 0 then lastN ring else itemN ring (i - 1)
def begAt (W : Wb) (ring : List Int) (i : Nat) : Bool := decide (W.n < deg W (prevN ring i) + deg W (itemN ring i))
def begF (W : Wb) (ring : List Int) : List Int := match (List.range ring.length).find? (begAt W ring) with
  | some i => ring.drop i ++ ring.take i
  | none => ring
theorem prev_map {ring : List Int} (h : ring ≠ []) : ((List.range ring.length).map (prevN ring)).Perm ring := by
  obtain ⟨m, hm⟩ : ∃ m, ring.length = m + 1 := ⟨ring.length - 1, by have := List.length_pos_iff.mpr h; omega⟩
  have e := items_map ring
  rw [hm, List.range_succ, List.map_append] at e
  rw [hm, List.range_succ_eq_map, List.map_cons, List.map_map]
  have e0 : prevN ring 0 = itemN ring m := by unfold prevN; rw [if_pos rfl, lastN_item h, hm]; rfl
  have e1 : (List.range m).map (prevN ring ∘ Nat.succ) = (List.range m).map (itemN ring) := List.map_congr_left fun i _ => by
    unfold prevN
    simp
  rw [e0, e1]
  have p : (itemN ring m :: (List.range m).map (itemN ring)).Perm ((List.range m).map (itemN ring) ++ [itemN ring m]) := (List.perm_append_comm (l₁ := [itemN ring m]))
  refine p.trans ?_
  have e' : (List.range m).map (itemN ring) ++ [itemN ring m] = ring := e
  rw [e']
theorem beg_ok {W : Wb} (hW : WebOk W) {ring : List Int} (w : WholeOk W [] ring) (hm : W.n * W.n < 4 * W.ts.length) : WholeOk W [] (begF W ring) ∧ W.n < deg W (itemN (begF W ring) 0) + deg W (lastN (begF W ring)) := by
  have h3 := w.ring.len
  have hne : ring ≠ [] := List.ne_nil_of_length_pos (by omega)
  have hperm := whole_perm w.ring.pl.1 w.ring.pl.2 w.all
  have hsum : tot (ring.map (deg W)) = 2 * W.ts.length := by
    rw [tot_perm (hperm.map _)]
    exact tot_degT hW.ts.1
  unfold begF
  cases e : (List.range ring.length).find? (begAt W ring) with
  | none =>
    exfalso
    have hno := List.find?_eq_none.mp e
    have hle := tot_le (fun i => deg W (prevN ring i) + deg W (itemN ring i)) W.n (List.range ring.length) fun i hi => by
      have := hno i hi
      unfold begAt at this
      simp at this
      exact this
    rw [tot_add (fun i => deg W (prevN ring i)) (fun i => deg W (itemN ring i)), List.length_range, w.all] at hle
    have e1 : (List.range ring.length).map (fun i => deg W (prevN ring i)) = ((List.range ring.length).map (prevN ring)).map (deg W) := by rw [List.map_map]; rfl
    have e2 : (List.range ring.length).map (fun i => deg W (itemN ring i)) = ((List.range ring.length).map (itemN ring)).map (deg W) := by rw [List.map_map]; rfl
    rw [e1, e2, tot_perm ((prev_map hne).map _), items_map, hsum] at hle
    omega
  | some i =>
    have hb := List.find?_some e
    have hi := List.mem_range.mp (List.mem_of_find?_eq_some e)
    have hr : Rot ring (ring.drop i ++ ring.take i) := ⟨ring.take i, ring.drop i, by simp, rfl⟩
    refine ⟨turn_whole (.inl hr) w, ?_⟩
    unfold begAt at hb
    have hb := of_decide_eq_true hb
    have a0 : itemN (ring.drop i ++ ring.take i) 0 = itemN ring i := by
      unfold itemN
      rw [List.getElem?_append_left (by rw [List.length_drop]; omega), List.getElem?_drop]
      rfl
    have a1 : lastN (ring.drop i ++ ring.take i) = prevN ring i := by
      unfold prevN
      split
      · rename_i h0
        subst h0
        simp
      · rename_i h0
        unfold lastN itemN
        rw [List.getLast?_append]
        have e9 : (ring.take i).getLast? = some ring[i - 1] := by
          rw [List.getLast?_take, if_neg h0, List.getElem?_eq_getElem (by omega)]
          rfl
        rw [e9, List.getElem?_eq_getElem (by omega)]
        rfl
    dsimp only
    rw [a0, a1]
    omega
/-! a ring of a length -/
def farN (n l j : Nat) : Nat := if j + l ≤ n + 2 then j + l - 3 else j + l - 1 - n
def hitAt (W : Wb) (row : List Int) (l j : Nat) : Bool := decide (adj W (itemN row 0) (itemN row (j - 1))) && decide (adj W (lastN row) (itemN row (farN row.length l j - 1)))
def cutRing (row : List Int) (l j : Nat) : List Int :=
  if j ≤ farN row.length l j then row.take 1 ++ (row.take (farN row.length l j)).drop (j - 1) ++ row.drop (row.length - 1)
  else row.take (farN row.length l j) ++ (row.drop (j - 1)).reverse
def rolF (W : Wb) (row : List Int) (l : Nat) : List Int := match (List.range' 2 (row.length - 2)).find? (hitAt W row l) with
  | some j => cutRing row l j
  | none => row
def lensF (W : Wb) (ring : List Int) : List (List Int) := (List.range' 3 (W.n.toNat - 2)).map (rolF W (begF W ring))
theorem links_app_left {xs ys : List Int} {t : Int × Int} (h : t ∈ links xs) : t ∈ links (xs ++ ys) := by
  rw [links_app]; exact List.mem_append_left _ (List.mem_append_left _ h)
theorem links_app_right {xs ys : List Int} {t : Int × Int} (h : t ∈ links ys) : t ∈ links (xs ++ ys) := by
  rw [links_app]; exact List.mem_append_right _ h
theorem links_take {row : List Int} {k : Nat} {t : Int × Int} (h : t ∈ links (row.take k)) : t ∈ links row := by
  have := links_app_left (ys := row.drop k) h
  rwa [List.take_append_drop] at this
theorem links_drop {row : List Int} {k : Nat} {t : Int × Int} (h : t ∈ links (row.drop k)) : t ∈ links row := by
  have := links_app_right (xs := row.take k) h
  rwa [List.take_append_drop] at this
theorem joint_of {xs ys : List Int} {a b : Int} (h1 : xs.getLast? = some a) (h2 : ys.head? = some b) : joint xs ys = [tieOf a b] := by
  unfold joint; rw [h1, h2]
theorem cut_len {row : List Int} {l j : Nat} (h3 : 3 ≤ l) (hl : l ≤ row.length) (hj : 2 ≤ j) (hj2 : j < row.length) : (cutRing row l j).length = l := by
  unfold cutRing farN
  split
  · split
    · simp; omega
    · omega
  · split
    · omega
    · simp; omega
theorem cut_ok {W : Wb} {row : List Int} (w : WholeOk W [] row) {l j : Nat} (h3 : 3 ≤ l) (hl : l ≤ row.length) (hj : 2 ≤ j) (hj2 : j < row.length) (hit : hitAt W row l j = true) : RingOk W (cutRing row l j) := by
  have hn := w.ring.pl.1
  have hne : row ≠ [] := List.ne_nil_of_length_pos (by omega)
  have lk : ∀ t ∈ links row, t ∈ W.ts := fun t ht => w.ring.ts t (List.mem_append_right _ ht)
  unfold hitAt at hit
  rw [Bool.and_eq_true, decide_eq_true_eq, decide_eq_true_eq] at hit
  obtain ⟨t1, t2⟩ := hit
  have t1 : tieOf (itemN row 0) (itemN row (j - 1)) ∈ W.ts := adj_tie.mp t1
  have t2 : tieOf (lastN row) (itemN row (farN row.length l j - 1)) ∈ W.ts := adj_tie.mp t2
  have hlast : row.getLast? = some (lastN row) := by unfold lastN; rw [List.getLast?_eq_some_getLast hne]; rfl
  have hhead : row.head? = some (itemN row 0) := by rw [List.head?_eq_getElem?]; exact itemN_get (by omega)
  have t0 : tieOf (lastN row) (itemN row 0) ∈ W.ts := w.ring.ts _ (List.mem_append_left _ (by rw [joint_of hlast hhead]; exact List.mem_singleton.mpr rfl))
  have hcl := cut_len h3 hl hj hj2
  unfold cutRing at hcl ⊢
  generalize hk : farN row.length l j = k at hcl t2 ⊢
  have hkr : 2 ≤ k ∧ k < row.length := by
    rw [← hk]; unfold farN; split <;> omega
  split at hcl
  · rename_i hjk
    rw [if_pos hjk]
    -- the seg between
    have e1 : row.take 1 = [itemN row 0] := by
      cases row with
      | nil => exact absurd rfl hne
      | cons a r => simp [itemN]
    have e3 : row.drop (row.length - 1) = [lastN row] := by
      rw [lastN_item hne]
      have := List.drop_eq_getElem_cons (l := row) (i := row.length - 1) (by omega)
      rw [this, List.drop_eq_nil_of_le (by omega)]
      unfold itemN
      rw [List.getElem?_eq_getElem (by omega)]
      rfl
    obtain ⟨S, hS⟩ : ∃ S, S = (row.take k).drop (j - 1) := ⟨_, rfl⟩
    have hSl : S.length = k - (j - 1) := by rw [hS]; simp; omega
    have hSh : S.head? = some (itemN row (j - 1)) := by
      rw [hS, List.head?_drop, List.getElem?_take_of_lt (by omega)]
      exact itemN_get (by omega)
    have hSt : S.getLast? = some (itemN row (k - 1)) := by
      rw [hS, List.getLast?_drop, if_neg (by simp; omega), List.getLast?_take, if_neg (by omega), itemN_get (by omega)]
      rfl
    have hSk : ∀ t ∈ links S, t ∈ W.ts := fun t ht => lk t (links_take (links_drop (by rw [← hS]; exact ht)))
    have sub : (row.take 1 ++ S ++ row.drop (row.length - 1)).Sublist row := by
      have ea : row = row.take (j - 1) ++ (S ++ row.drop k) := by
        rw [hS, ← List.drop_append_of_le_length (by simp; omega), List.take_append_drop, List.take_append_drop]
      have s1 : (row.take 1).Sublist (row.take (j - 1)) := by
        have : (row.take (j - 1)).take 1 = row.take 1 := by rw [List.take_take]; congr 1; omega
        rw [← this]; exact List.take_sublist _ _
      have s2 : (row.drop (row.length - 1)).Sublist (row.drop k) := by
        have : (row.drop k).drop (row.length - 1 - k) = row.drop (row.length - 1) := by rw [List.drop_drop]; congr 1; omega
        rw [← this]; exact List.drop_sublist _ _
      conv => rhs; rw [ea]
      rw [List.append_assoc]
      exact s1.append ((List.Sublist.refl S).append s2)
    rw [← hS]
    refine ⟨⟨sub.nodup hn, fun p hp => w.ring.pl.2 p (sub.subset hp)⟩, by rw [← hS] at hcl; omega, fun t ht => ?_⟩
    rw [e1, e3] at ht
    have hSne : S ≠ [] := List.ne_nil_of_length_pos (by omega)
    rw [rties_app (by simp) (by simp)] at ht
    rcases List.mem_append.mp ht with ht | ht
    · rw [joint_of (xs := [lastN row]) (a := lastN row) (b := itemN row 0) rfl (by cases S <;> rfl), List.mem_singleton] at ht
      rw [ht]; exact t0
    · rcases List.mem_append.mp ht with ht | ht
      · rcases List.mem_append.mp ht with ht | ht
        · rw [links_app] at ht
          rcases List.mem_append.mp ht with ht | ht
          · rcases List.mem_append.mp ht with ht | ht
            · cases ht
            · rw [joint_of (xs := [itemN row 0]) (a := itemN row 0) rfl hSh, List.mem_singleton] at ht
              rw [ht]; exact t1
          · exact hSk t ht
        · rw [joint_of (a := itemN row (k - 1)) (b := lastN row) (by rw [List.getLast?_append, hSt]; rfl) rfl, List.mem_singleton] at ht
          rw [ht, tieOf_comm]; exact t2
      · cases ht
  · rename_i hjk
    rw [if_neg hjk]
    have dis : (row.take k ++ row.drop (j - 1)).Sublist row := by
      have s2 : (row.drop (j - 1)).Sublist (row.drop k) := by
        have : (row.drop k).drop (j - 1 - k) = row.drop (j - 1) := by rw [List.drop_drop]; congr 1; omega
        rw [← this]; exact List.drop_sublist _ _
      have := (List.Sublist.refl (row.take k)).append s2
      rwa [List.take_append_drop] at this
    have pm : (row.take k ++ (row.drop (j - 1)).reverse).Perm (row.take k ++ row.drop (j - 1)) := List.Perm.append_left _ (List.reverse_perm _)
    have hA : (row.take k).getLast? = some (itemN row (k - 1)) := by
      rw [List.getLast?_take, if_neg (by omega), itemN_get (by omega)]; rfl
    have hA0 : (row.take k).head? = some (itemN row 0) := by
      rw [List.head?_take, if_neg (by omega)]; exact hhead
    have hB : (row.drop (j - 1)).reverse.head? = some (lastN row) := by
      rw [List.head?_reverse, List.getLast?_drop, if_neg (by omega)]; exact hlast
    have hB0 : (row.drop (j - 1)).reverse.getLast? = some (itemN row (j - 1)) := by
      rw [List.getLast?_reverse, List.head?_drop]; exact itemN_get (by omega)
    refine ⟨⟨pm.symm.nodup (dis.nodup hn), fun p hp => w.ring.pl.2 p (dis.subset (pm.mem_iff.mp hp))⟩, by omega, fun t ht => ?_⟩
    rw [rties_app (by intro z; rw [z] at hA; cases hA) (by intro z; rw [z] at hB; cases hB)] at ht
    rcases List.mem_append.mp ht with ht | ht
    · rw [joint_of hB0 hA0, List.mem_singleton] at ht
      rw [ht, tieOf_comm]; exact t1
    · rcases List.mem_append.mp ht with ht | ht
      · rcases List.mem_append.mp ht with ht | ht
        · exact lk t (links_take ht)
        · rw [joint_of hA hB, List.mem_singleton] at ht
          rw [ht, tieOf_comm]; exact t2
      · rw [links_rev] at ht
        exact lk t (links_drop (List.mem_reverse.mp ht))
theorem hit_ex {W : Wb} (hW : WebOk W) {row : List Int} (w : WholeOk W [] row) (hd : W.n < deg W (itemN row 0) + deg W (lastN row)) {l : Nat} (h3 : 3 ≤ l) (hl : l ≤ row.length) : ∃ j ∈ List.range' 2 (row.length - 2), hitAt W row l j = true := by
  refine Classical.byContradiction fun hno => ?_
  have hn := w.ring.pl.1
  have hr3 := w.ring.len
  have hall := w.all
  obtain ⟨m, hm⟩ : ∃ m, row.length = m + 2 := ⟨row.length - 2, by omega⟩
  have hmid := row_mid hm
  obtain ⟨M, hM⟩ : ∃ M, M = (List.range m).map (fun i => itemN row (i + 1)) := ⟨_, rfl⟩
  rw [← hM] at hmid
  have hperm := whole_perm hn w.ring.pl.2 w.all
  have near : ∀ a y, adj W a y → y ∈ row := fun a y h => hperm.mem_iff.mpr (mem_up.mpr (by have := hW.adj h; omega))
  have d0 := deg_row hW hn (a := itemN row 0) (near _)
  have d1 := deg_row hW hn (a := lastN row) (near _)
  have ends : adj W (itemN row 0) (lastN row) := by
    have hne : row ≠ [] := List.ne_nil_of_length_pos (by omega)
    have hlast : row.getLast? = some (lastN row) := by unfold lastN; rw [List.getLast?_eq_some_getLast hne]; rfl
    have hhead : row.head? = some (itemN row 0) := by rw [List.head?_eq_getElem?]; exact itemN_get (by omega)
    refine adj_tie.mpr ?_
    rw [tieOf_comm]
    exact w.ring.ts _ (List.mem_append_left _ (by rw [joint_of hlast hhead]; exact List.mem_singleton.mpr rfl))
  have ir := adj_irr hW (a := itemN row 0)
  have ir1 := adj_irr hW (a := lastN row)
  have c0 : row.countP (fun y => decide (adj W (itemN row 0) y)) = M.countP (fun y => decide (adj W (itemN row 0) y)) + 1 := by
    conv => lhs; arg 2; rw [hmid]
    rw [List.countP_cons, List.countP_append, List.countP_cons, List.countP_nil, decide_eq_false ir, decide_eq_true ends]
    simp
  have c1 : row.countP (fun y => decide (adj W (lastN row) y)) = M.countP (fun y => decide (adj W (lastN row) y)) + 1 := by
    conv => lhs; arg 2; rw [hmid]
    rw [List.countP_cons, List.countP_append, List.countP_cons, List.countP_nil, decide_eq_false ir1, decide_eq_true (adj_comm.mp ends)]
    simp
  -- the numbers turned
  obtain ⟨φ, hφ⟩ : ∃ φ : Nat → Nat, φ = fun i => farN row.length l (i + 2) - 2 := ⟨_, rfl⟩
  have pφ : ((List.range m).map φ).Perm (List.range m) := by
    refine (List.perm_ext_iff_of_nodup ?_ List.nodup_range).mpr fun x => ?_
    · rw [List.Nodup, List.pairwise_map]
      refine List.Pairwise.imp_of_mem (fun {a b} ha hb hab => ?_) List.nodup_range
      have := List.mem_range.mp ha
      have := List.mem_range.mp hb
      rw [hφ]
      unfold farN
      simp only
      split <;> split <;> omega
    · rw [List.mem_map, List.mem_range]
      constructor
      · rintro ⟨i, hi, rfl⟩
        have := List.mem_range.mp hi
        rw [hφ]
        unfold farN
        simp only
        split <;> omega
      · intro hx
        rw [hφ]
        by_cases c : l ≤ x + 3
        · exact ⟨x + 3 - l, List.mem_range.mpr (by omega), by unfold farN; simp only; split <;> omega⟩
        · exact ⟨x + 1 + row.length - l, List.mem_range.mpr (by omega), by unfold farN; simp only; split <;> omega⟩
  have cM : M.countP (fun y => decide (adj W (lastN row) y)) = (List.range m).countP (fun i => decide (adj W (lastN row) (itemN row (φ i + 1)))) := by
    rw [hM, List.countP_map]
    have := pφ.countP_eq (fun i => decide (adj W (lastN row) (itemN row (i + 1))))
    rw [List.countP_map] at this
    exact this.symm
  have cM0 : M.countP (fun y => decide (adj W (itemN row 0) y)) = (List.range m).countP (fun i => decide (adj W (itemN row 0) (itemN row (i + 1)))) := by
    rw [hM, List.countP_map]; rfl
  have key := countP_split (p := fun i => decide (adj W (itemN row 0) (itemN row (i + 1)))) (q := fun i => decide (adj W (lastN row) (itemN row (φ i + 1)))) (r := fun _ => false) (l := List.range m) fun i hi h1 h2 => by
    exfalso
    have hi := List.mem_range.mp hi
    refine hno ⟨i + 2, List.mem_range'_1.mpr (by omega), ?_⟩
    unfold hitAt
    have e1 : farN row.length l (i + 2) - 1 = φ i + 1 := by
      rw [hφ]; unfold farN; simp only; split <;> omega
    rw [e1]
    exact Bool.and_eq_true_iff.mpr ⟨h1, h2⟩
  have z : (List.range m).countP (fun _ => false) = 0 := List.countP_eq_zero.mpr fun x _ => by simp
  rw [z, List.length_range] at key
  omega
theorem rol_ok {W : Wb} (hW : WebOk W) {row : List Int} (w : WholeOk W [] row) (hd : W.n < deg W (itemN row 0) + deg W (lastN row)) {l : Nat} (h3 : 3 ≤ l) (hl : l ≤ row.length) : RingOk W (rolF W row l) ∧ (rolF W row l).length = l := by
  obtain ⟨j, hj, hit⟩ := hit_ex hW w hd h3 hl
  unfold rolF
  cases e : (List.range' 2 (row.length - 2)).find? (hitAt W row l) with
  | none =>
    have := List.find?_eq_none.mp e j hj
    exact absurd hit this
  | some i =>
    have hi := List.mem_range'_1.mp (List.mem_of_find?_eq_some e)
    exact ⟨cut_ok w h3 hl hi.1 (by omega) (List.find?_some e), cut_len h3 hl hi.1 (by omega)⟩
theorem lens_ok {W : Wb} (hW : WebOk W) {ring : List Int} (w : WholeOk W [] ring) (hm : W.n * W.n < 4 * W.ts.length) {k : Nat} {x : List Int} (h : (lensF W ring)[k]? = some x) : RingOk W x ∧ x.length = k + 3 := by
  obtain ⟨wb, hd⟩ := beg_ok hW w hm
  have hall := wb.all
  unfold lensF at h
  rw [List.getElem?_map] at h
  cases e : (List.range' 3 (W.n.toNat - 2))[k]? with
  | none => rw [e] at h; cases h
  | some l =>
    rw [e] at h
    cases h
    obtain ⟨hk, e2⟩ := List.getElem?_eq_some_iff.mp e
    rw [List.length_range'] at hk
    rw [List.getElem_range'] at e2
    have e3 : l = k + 3 := by omega
    subst e3
    exact rol_ok hW wb hd (by omega) (by omega)
theorem lens_len (W : Wb) (ring : List Int) : (lensF W ring).length = W.n.toNat - 2 := by unfold lensF; simp
theorem find_from {f : Nat → Bool} {a n i : Nat} (h1 : a ≤ i) (h2 : i < a + n) (hf : f i = true) (hno : ∀ j, a ≤ j → j < i → f j = false) : (List.range' a n).find? f = some i := by
  have e1 : List.range' a n = List.range' a (i - a) ++ i :: List.range' (i + 1) (n - (i - a) - 1) := by
    have e2 : List.range' a n = List.range' a (i - a) ++ List.range' (a + 1 * (i - a)) (n - (i - a)) := by
      rw [List.range'_append]; congr 1; omega
    rw [e2, show n - (i - a) = (n - (i - a) - 1) + 1 by omega, List.range'_succ, show a + 1 * (i - a) = i by omega]
    rfl
  rw [e1, List.find?_append, List.find?_eq_none.mpr fun j hj => by have := List.mem_range'_1.mp hj; rw [hno j this.1 (by omega)]; simp, List.find?_cons_of_pos hf]
  rfl
end Cr
set_option maxHeartbeats 4000000
/-! Fw56: sorted(set(..)) of a list of fewer than 64 pairs; webs whose row has no fault close wholly -/
namespace Cr
open PySem PySem.Spec PyProof.Rows L2
def twoOf (t : Int × Int) : List Int := [t.1, t.2]
theorem pairs_refs {H : Hp} : ∀ {ts : List (Int × Int)} {vs : List V}, RepsF H vs (ts.map encPr) → ∃ ks : List (Addr × List Int), vs = ks.map (fun p => V.ref p.1) ∧ ks.map (·.2) = ts.map twoOf ∧ ∀ p ∈ ks, ∃ o, o.dict = none ∧ H p.1 = some (.frz o (.tup (p.2.map V.int)))
  | [], _, h => by cases h; exact ⟨[], rfl, rfl, fun p hp => by cases hp⟩
  | t :: ts, _, h => by
    cases h with
    | cons a b =>
      obtain ⟨ks, rfl, e2, h3⟩ := pairs_refs b
      cases a with
      | tup hq hd rr =>
        cases rr with
        | cons r1 rr =>
          cases rr with
          | cons r2 rr =>
            cases rr
            cases r1
            cases r2
            refine ⟨(_, twoOf t) :: ks, rfl, by rw [List.map_cons, List.map_cons, e2], fun p hp => ?_⟩
            rcases List.mem_cons.mp hp with rfl | hp
            · exact ⟨_, hd, hq⟩
            · exact h3 p hp
theorem refs_pairs {H : Hp} : ∀ {us : List (Int × Int)} {L : List (Addr × List Int)}, L.map (·.2) = us.map twoOf → (∀ p ∈ L, ∃ o, o.dict = none ∧ H p.1 = some (.frz o (.tup (p.2.map V.int)))) → RepsF H (L.map fun p => V.ref p.1) (us.map encPr)
  | [], [], _, _ => .nil
  | [], _ :: _, e, _ => by cases e
  | _ :: _, [], e, _ => by cases e
  | u :: us, p :: L, e, h => by
    rw [List.map_cons, List.map_cons, List.cons.injEq] at e
    obtain ⟨o, hd, hq⟩ := h p (List.mem_cons_self ..)
    refine .cons ?_ (refs_pairs e.2 fun q hq => h q (List.mem_cons_of_mem _ hq))
    rw [e.1] at hq
    exact .tup hq hd (.cons (.int _) (.cons (.int _) .nil))
theorem twos_ex : ∀ {L : List (Addr × List Int)} {ts : List (Int × Int)}, (∀ p ∈ L, p.2 ∈ ts.map twoOf) → ∃ us : List (Int × Int), L.map (·.2) = us.map twoOf
  | [], _, _ => ⟨[], rfl⟩
  | p :: L, ts, h => by
    obtain ⟨us, e⟩ := twos_ex (L := L) (ts := ts) fun q hq => h q (List.mem_cons_of_mem _ hq)
    obtain ⟨t, _, et⟩ := List.mem_map.mp (h p (List.mem_cons_self ..))
    exact ⟨t :: us, by rw [List.map_cons, List.map_cons, e, et]⟩
theorem twoOf_inj {a b : Int × Int} (h : twoOf a = twoOf b) : a = b := by
  unfold twoOf at h
  rw [List.cons.injEq, List.cons.injEq] at h
  exact Prod.ext h.1 h.2.1
section
variable {X : Cx} {w : Wx} {e : Expr} {f : EE} {p p2 q pos : Pos}
@[simp] def eSrtSetP (f : EE) : EE := fun ρ P E => f ρ (fun x => match listy x with
  | some xs => ∃ ts : List (Int × Int), xs = ts.map encPr ∧ ts.length < 64 ∧ (∀ t ∈ ts, (0 ≤ t.1 ∧ t.1 < 64) ∧ 0 ≤ t.2 ∧ t.2 < 64) ∧ ∀ us : List (Int × Int), us.Pairwise lexLt → (∀ t, t ∈ us ↔ t ∈ ts) → P (.new (us.map encPr))
  | none => False) E
theorem de_srtSetP {k : Nat} (hr : Room k X.A) (hc : X.calm = true) (hg : Gl X "sorted") (hm : X.mg "sorted" = none) (hg2 : Gl X "set") (hm2 : X.mg "set" = none) (he : DE X w e f)
    (na : starEach [e] X.env = (false, eval e X.env) :: starEach [] X.env := by rfl) : DE X w (.Call (.Name "sorted" p) [.Call (.Name "set" p2) [e] [] q] [] pos) (eSrtSetP f) := by
  have inner := pe_callTy (T := "set") (pos := q) (p := p2) (cr_setOfT (X := X) hc (by have := hr.un; omega)) hg2 hm2 PyProof.Rows.boot_set (pa_cons he pa_nil na) (he := na)
  refine (pe_callB (p := p) (pos := pos) (cr_sortedT (X := X) hc) hg hm PyProof.Rows.boot_sorted (pa_cons inner pa_nil)).imp fun σ H Q ⟨B, ρ, P, E, F, hf, hP, hE⟩ => ?_
  refine ⟨B, ρ, _, E, F, hf, fun d z v H1 s1 r => ?_, hE⟩
  split at z
  case h_2 => exact z.elim
  rename_i xs exs
  obtain ⟨ts, rfl, h64, hb, z⟩ := z
  obtain ⟨a, vs, rfl, hs, rr⟩ := listy_ok exs r
  obtain ⟨ks, rfl, e2, h3⟩ := pairs_refs rr
  have hkl : ks.length = ts.length := by have := congrArg List.length e2; simpa using this
  have hkm : ∀ p ∈ ks, p.2 ∈ ts.map twoOf := fun p hp => by rw [← e2]; exact List.mem_map.mpr ⟨p, hp, rfl⟩
  refine ⟨a, ks, rfl, hs, fun p hp => ?_, by omega, fun a2 L hn hsub hall => ?_⟩
  · obtain ⟨o, _, hq⟩ := h3 p hp
    exact .inl (.inr ⟨_, hq⟩)
  have s2 : Same H1 (upd H1 a2 (SetTO X.prog X.w a2 L)) := (Same.refl H1).upd_new hn
  have h4 : ∀ p ∈ L, ∃ o, o.dict = none ∧ (upd H1 a2 (SetTO X.prog X.w a2 L)) p.1 = some (.frz o (.tup (p.2.map V.int))) := fun p hp => by
    obtain ⟨o, hd, hq⟩ := h3 p (hsub p hp)
    exact ⟨o, hd, s2 _ _ hq⟩
  refine ⟨a2, L, 2, 64, rfl, upd_same, fun p hp => ?_, by decide, fun p hp => ?_, fun L' pa pm nd _ pw hn2 => ?_⟩
  · obtain ⟨o, _, hq⟩ := h4 p hp
    exact .inl (.inr ⟨_, hq⟩)
  · obtain ⟨t, ht, et⟩ := List.mem_map.mp (hkm p (hsub p hp))
    rw [← et]
    refine ⟨rfl, fun m hm => ?_⟩
    have := hb t ht
    unfold twoOf at hm
    simp only [List.mem_cons, List.not_mem_nil, or_false] at hm
    rcases hm with rfl | rfl
    · exact this.1
    · exact this.2
  · have s3 := (Same.refl (upd H1 a2 (SetTO X.prog X.w a2 L))).upd_new (o := .lst (L'.map fun q => V.ref q.1)) hn2
    obtain ⟨us, eu⟩ := twos_ex (L := L') (ts := ts) fun p hp => hkm p (hsub p (pm.mem_iff.mp hp))
    have hus : ∀ t, t ∈ us ↔ t ∈ ts := fun t => by
      have e3 : t ∈ us ↔ twoOf t ∈ us.map twoOf := ⟨fun h => List.mem_map.mpr ⟨t, h, rfl⟩, fun h => by obtain ⟨u, hu, e⟩ := List.mem_map.mp h; rw [← twoOf_inj e]; exact hu⟩
      have e4 : t ∈ ts ↔ twoOf t ∈ ts.map twoOf := ⟨fun h => List.mem_map.mpr ⟨t, h, rfl⟩, fun h => by obtain ⟨u, hu, e⟩ := List.mem_map.mp h; rw [← twoOf_inj e]; exact hu⟩
      rw [e3, e4, ← eu, ← e2, (pm.map (·.2)).mem_iff]
      constructor
      · intro h
        obtain ⟨p, hp, e⟩ := List.mem_map.mp h
        rw [← e]
        exact List.mem_map.mpr ⟨p, hsub p hp, rfl⟩
      · intro h
        obtain ⟨p, hp, e⟩ := List.mem_map.mp h
        rw [← e]
        exact hall p hp
    have hup : us.Pairwise lexLt := by
      have p1 : us.Pairwise fun a b => TS.code 64 (twoOf a) ≤ TS.code 64 (twoOf b) := by
        have := (List.pairwise_map (f := fun q : Addr × List Int => q.2) (R := fun x y => TS.code 64 x ≤ TS.code 64 y)).mpr pw
        rw [eu] at this
        exact (List.pairwise_map (f := twoOf) (R := fun x y => TS.code 64 x ≤ TS.code 64 y)).mp this
      have p2 : us.Pairwise fun a b => twoOf a ≠ twoOf b := by
        rw [eu] at nd
        exact (List.pairwise_map (f := twoOf) (R := fun x y => x ≠ y)).mp nd
      refine (List.pairwise_and_iff.mpr ⟨p1, p2⟩).imp_of_mem fun {a b} ha hb' h => ?_
      have ba := hb a ((hus a).mp ha)
      have bb := hb b ((hus b).mp hb')
      exact pair_lt h.1 h.2 ba.1 ba.2 bb.1 bb.2
    refine hP _ (z us hup hus) _ _ ((s1.trans s2).trans s3) ⟨pa, _, rfl, (s1.trans s2).free hn2, upd_same, ?_⟩
    exact refs_pairs eu fun p hp => by
      obtain ⟨o, hd, hq⟩ := h4 p (pm.mem_iff.mp hp)
      exact ⟨o, hd, s3 _ _ hq⟩
end
/-! ### a row without a fault -/
theorem has_max {α : Type} (f : α → Int) : ∀ {l : List α}, l ≠ [] → ∃ x ∈ l, ∀ y ∈ l, f y ≤ f x
  | [], h => absurd rfl h
  | [a], _ => ⟨a, List.mem_cons_self .., fun y hy => by rw [List.mem_singleton.mp hy]; exact Int.le_refl _⟩
  | a :: b :: l, _ => by
    obtain ⟨x, hx, hm⟩ := has_max f (l := b :: l) (by simp)
    by_cases h : f x ≤ f a
    · refine ⟨a, List.mem_cons_self .., fun y hy => ?_⟩
      rcases List.mem_cons.mp hy with rfl | hy
      · exact Int.le_refl _
      · exact Int.le_trans (hm y hy) h
    · refine ⟨x, List.mem_cons_of_mem _ hx, fun y hy => ?_⟩
      rcases List.mem_cons.mp hy with rfl | hy
      · omega
      · exact hm y hy
theorem deg_far {W : Wb} (hW : WebOk W) {v : Int} (hv : 0 ≤ v ∧ v < W.n) : ((up 0 W.n.toNat).countP (fun y => decide (y ≠ v ∧ ¬ adj W v y)) : Int) = W.n - 1 - deg W v := by
  have nd : (up 0 W.n.toNat).Nodup := (up_inc _ _).imp fun {a b} h => (show a ≠ b by omega)
  have d := deg_row hW nd (a := v) fun y h => mem_up.mpr (by have := hW.adj h; omega)
  have one : (up 0 W.n.toNat).countP (fun y => decide (y = v)) = 1 := by
    have h1 : 0 < (up 0 W.n.toNat).countP (fun y => decide (y = v)) := List.countP_pos_iff.mpr ⟨v, mem_up.mpr (by omega), by simp⟩
    have h2 := List.nodup_iff_count.mp nd v
    unfold List.count at h2
    have : (up 0 W.n.toNat).countP (fun y => decide (y = v)) = (up 0 W.n.toNat).countP (· == v) := by congr 1
    omega
  have three : ∀ l : List Int, l.countP (fun y => decide (y ≠ v ∧ ¬ adj W v y)) + l.countP (fun y => decide (adj W v y)) + l.countP (fun y => decide (y = v)) = l.length := fun l => by
    induction l with
    | nil => rfl
    | cons y l ih =>
      have fin : ∀ b1 b2 b3 : Bool, decide (y ≠ v ∧ ¬ adj W v y) = b1 → decide (adj W v y) = b2 → decide (y = v) = b3 → (if b1 = true then 1 else 0) + (if b2 = true then 1 else 0) + (if b3 = true then 1 else 0) = (1 : Nat) → (y :: l).countP (fun y => decide (y ≠ v ∧ ¬ adj W v y)) + (y :: l).countP (fun y => decide (adj W v y)) + (y :: l).countP (fun y => decide (y = v)) = (y :: l).length := fun b1 b2 b3 h1 h2 h3 hs => by
        simp only [List.countP_cons, List.length_cons, h1, h2, h3]
        omega
      by_cases e : y = v
      · exact fin false false true (decide_eq_false fun h => h.1 e) (decide_eq_false fun h => (hW.adj h).2.2.2.2 e.symm) (decide_eq_true e) rfl
      · by_cases a : adj W v y
        · exact fin false true false (decide_eq_false fun h => h.2 a) (decide_eq_true a) (decide_eq_false e) rfl
        · exact fin true false false (decide_eq_true ⟨e, a⟩) (decide_eq_false a) (decide_eq_false e) rfl
  have := three (up 0 W.n.toNat)
  rw [up_length, one] at this
  omega
/-- a closed web with a tie missing: counts with a fault -/
theorem closed_fault {C : Wb} (hC : WebOk C) (hc : putsOf C 0 = []) {t : Int × Int} (ht : 0 ≤ t.1 ∧ t.1 < t.2 ∧ t.2 < C.n) (hno : t ∉ C.ts) :
    ∃ i : Nat, 1 ≤ i ∧ 2 * (i : Int) < C.n ∧ (i : Int) ≤ (up 0 C.n.toNat).countP (fun y => decide (deg C y ≤ i)) ∧ C.n - i ≤ (up 0 C.n.toNat).countP (fun y => decide (deg C y < C.n - i)) := by
  have h3 := hC.lo
  have small : ∀ u v, 0 ≤ u → u < C.n → 0 ≤ v → v < C.n → u ≠ v → ¬ adj C u v → deg C u + deg C v < C.n := fun u v u0 u1 v0 v1 huv hna => by
    refine Classical.byContradiction fun h => ?_
    have := puts_nil hc (p := tieOf u v) (tieOf_range ⟨u0, u1⟩ ⟨v0, v1⟩ huv) (by
      unfold tieOf
      simp only
      rcases Int.le_total u v with q | q
      · rw [Int.min_eq_left q, Int.max_eq_right q]; omega
      · rw [Int.min_eq_right q, Int.max_eq_left q]; omega)
    exact hna (adj_tie.mpr this)
  obtain ⟨x, hx, hmax⟩ := has_max (fun p : Int × Int => deg C p.1 + deg C p.2) (l := (allPairs C.n).filter fun p => decide (p ∉ C.ts)) (List.ne_nil_of_mem (List.mem_filter.mpr ⟨mem_all.mpr ht, by simpa using hno⟩))
  obtain ⟨hx1, hx2⟩ := List.mem_filter.mp hx
  have hx1 := mem_all.mp hx1
  have hx2 : x ∉ C.ts := by simpa using hx2
  have pairMax : ∀ a b, 0 ≤ a → a < C.n → 0 ≤ b → b < C.n → a ≠ b → ¬ adj C a b → deg C a + deg C b ≤ deg C x.1 + deg C x.2 := fun a b a0 a1 b0 b1 hab hna => by
    have := hmax (tieOf a b) (List.mem_filter.mpr ⟨mem_all.mpr (tieOf_range ⟨a0, a1⟩ ⟨b0, b1⟩ hab), by simpa using fun h => hna (adj_tie.mpr h)⟩)
    unfold tieOf at this
    simp only at this
    rcases Int.le_total a b with q | q
    · rw [Int.min_eq_left q, Int.max_eq_right q] at this; omega
    · rw [Int.min_eq_right q, Int.max_eq_left q] at this; omega
  obtain ⟨u, v, hu, hv, huv, hna, hle, hsum⟩ : ∃ u v : Int, (0 ≤ u ∧ u < C.n) ∧ (0 ≤ v ∧ v < C.n) ∧ u ≠ v ∧ ¬ adj C u v ∧ deg C u ≤ deg C v ∧ deg C x.1 + deg C x.2 = deg C u + deg C v := by
    have n1 : ¬ adj C x.1 x.2 := fun h => hx2 (by
      have := adj_tie.mp h
      unfold tieOf at this
      rwa [Int.min_eq_left (by omega), Int.max_eq_right (by omega)] at this)
    by_cases h : deg C x.1 ≤ deg C x.2
    · exact ⟨x.1, x.2, by omega, by omega, by omega, n1, h, rfl⟩
    · exact ⟨x.2, x.1, by omega, by omega, by omega, fun h => n1 (adj_comm.mp h), by omega, by omega⟩
  have s := small u v hu.1 hu.2 hv.1 hv.2 huv hna
  have du := deg_lt hC hu
  have dv := deg_lt hC hv
  have fu := deg_far hC hu
  have fv := deg_far hC hv
  have inUp : ∀ y ∈ up 0 C.n.toNat, 0 ≤ y ∧ y < C.n := fun y hy => by have := mem_up.mp hy; omega
  have mono : ∀ (l : List Int) (p q : Int → Bool), (∀ y ∈ l, p y = true → q y = true) → l.countP p ≤ l.countP q := fun l p q h => List.countP_mono_left h
  -- places far from v have few ties
  have c1 : (up 0 C.n.toNat).countP (fun y => decide (y ≠ v ∧ ¬ adj C v y)) ≤ (up 0 C.n.toNat).countP (fun y => decide (deg C y ≤ deg C u)) := mono _ _ _ fun y hy h => by
    have h := of_decide_eq_true h
    have r := inUp y hy
    have := pairMax v y hv.1 hv.2 r.1 r.2 (fun e => h.1 e.symm) h.2
    exact decide_eq_true (by omega)
  have c2 : (up 0 C.n.toNat).countP (fun y => decide (y ≠ u ∧ ¬ adj C u y)) ≤ (up 0 C.n.toNat).countP (fun y => decide (deg C y ≤ deg C v ∧ y ≠ u)) := mono _ _ _ fun y hy h => by
    have h := of_decide_eq_true h
    have r := inUp y hy
    have := pairMax u y hu.1 hu.2 r.1 r.2 (fun e => h.1 e.symm) h.2
    exact decide_eq_true ⟨by omega, h.1⟩
  have c3 : ∀ (k : Int), deg C v < k → deg C u < k → (up 0 C.n.toNat).countP (fun y => decide (deg C y ≤ deg C v ∧ y ≠ u)) + 1 ≤ (up 0 C.n.toNat).countP (fun y => decide (deg C y < k)) := fun k hk hk2 => by
    have nd : (up 0 C.n.toNat).Nodup := (up_inc _ _).imp fun {a b} h => (show a ≠ b by omega)
    rw [List.countP_eq_length_filter, List.countP_eq_length_filter]
    have := List.Nodup.length_le_of_subset (l₁ := u :: (up 0 C.n.toNat).filter fun y => decide (deg C y ≤ deg C v ∧ y ≠ u)) (l₂ := (up 0 C.n.toNat).filter fun y => decide (deg C y < k)) (List.nodup_cons.mpr ⟨fun h => (of_decide_eq_true (List.mem_filter.mp h).2).2 rfl, nd.filter _⟩) fun y hy => by
      rcases List.mem_cons.mp hy with rfl | hy
      · exact List.mem_filter.mpr ⟨mem_up.mpr (by omega), decide_eq_true hk2⟩
      · obtain ⟨m1, m2⟩ := List.mem_filter.mp hy
        have m2 := of_decide_eq_true m2
        exact List.mem_filter.mpr ⟨m1, decide_eq_true (by omega)⟩
    simpa using this
  by_cases hi : 1 ≤ deg C u
  · refine ⟨(deg C u).toNat, by omega, by omega, ?_, ?_⟩
    · rw [show (((deg C u).toNat : Nat) : Int) = deg C u by omega]
      omega
    · rw [show (((deg C u).toNat : Nat) : Int) = deg C u by omega]
      have := c3 (C.n - deg C u) (by omega) (by omega)
      omega
  · have z : deg C u = 0 := by omega
    have none : ∀ y, ¬ adj C u y := fun y h => by
      have m1 : (up 0 C.n.toNat).countP (fun y => decide (y ≠ u ∧ ¬ adj C u y)) + 1 = C.n.toNat := by omega
      have m2 : (up 0 C.n.toNat).countP (fun y => decide (adj C u y)) = 0 := by
        have nd : (up 0 C.n.toNat).Nodup := (up_inc _ _).imp fun {a b} h => (show a ≠ b by omega)
        have d := deg_row hC nd (a := u) fun y h => mem_up.mpr (by have := hC.adj h; omega)
        omega
      have := List.countP_eq_zero.mp m2 y (mem_up.mpr (by have := hC.adj h; omega))
      simp [h] at this
    refine ⟨1, by omega, by omega, ?_, ?_⟩
    · have : 0 < (up 0 C.n.toNat).countP (fun y => decide (deg C y ≤ ((1 : Nat) : Int))) := List.countP_pos_iff.mpr ⟨u, mem_up.mpr (by omega), decide_eq_true (by omega)⟩
      omega
    · have all : (up 0 C.n.toNat).countP (fun y => decide (deg C y < C.n - ((1 : Nat) : Int))) = (up 0 C.n.toNat).length := List.countP_eq_length.mpr fun y hy => by
        have r := inUp y hy
        by_cases e : y = u
        · rw [e]; exact decide_eq_true (by omega)
        · have := small u y hu.1 hu.2 r.1 r.2 (fun h => e h.symm) (none y)
          have fy := deg_far hC r
          have : 0 < (up 0 C.n.toNat).countP (fun z => decide (z ≠ y ∧ ¬ adj C y z)) := List.countP_pos_iff.mpr ⟨u, mem_up.mpr (by omega), decide_eq_true ⟨fun h => e h.symm, fun h => none y (adj_comm.mp h)⟩⟩
          exact decide_eq_true (by omega)
      rw [all, up_length]
      omega
theorem fault_of {W : Wb} (hW : WebOk W) {i : Nat} (h1 : 1 ≤ i) (h2 : 2 * (i : Int) < W.n) (ha : (i : Int) ≤ (up 0 W.n.toNat).countP (fun y => decide (deg W y ≤ i))) (hb : W.n - i ≤ (up 0 W.n.toNat).countP (fun y => decide (deg W y < W.n - i))) : faultAt (srtI (degs W)) i = true := by
  have ok := row_ok hW
  have hl : ((srtI (degs W)).length : Int) = W.n := by have := hW.lo; simp [degs]; omega
  rw [fault_count ok h1 (by omega), hl]
  have cnt : ∀ q : Int → Bool, (srtI (degs W)).countP q = (up 0 W.n.toNat).countP fun y => q (deg W y) := fun q => by
    rw [(srtI_perm _).countP_eq]
    unfold degs
    rw [List.countP_map]
    rfl
  rw [cnt, cnt, decide_eq_true ha, decide_eq_true hb]
  rfl
/-- no fault: the closing has all ties -/
theorem noFault_closes {W C : Wb} (hW : WebOk W) (hC : WebOk C) (s : Sub W C) (hc : putsOf C 0 = []) (hf : faultF (srtI (degs W)) = none) {t : Int × Int} (ht : 0 ≤ t.1 ∧ t.1 < t.2 ∧ t.2 < C.n) : t ∈ C.ts := by
  refine Classical.byContradiction fun hno => ?_
  obtain ⟨i, i1, i2, ca, cb⟩ := closed_fault hC hc ht hno
  have hn := s.n
  have le : ∀ y, deg W y ≤ deg C y := fun y => s.deg hW hC y
  rw [← hn] at i2 ca cb
  have m1 : (up 0 W.n.toNat).countP (fun y => decide (deg C y ≤ i)) ≤ (up 0 W.n.toNat).countP (fun y => decide (deg W y ≤ i)) := List.countP_mono_left fun y _ h => decide_eq_true (by have := of_decide_eq_true h; have := le y; omega)
  have m2 : (up 0 W.n.toNat).countP (fun y => decide (deg C y < W.n - i)) ≤ (up 0 W.n.toNat).countP (fun y => decide (deg W y < W.n - i)) := List.countP_mono_left fun y _ h => decide_eq_true (by have := of_decide_eq_true h; have := le y; omega)
  have hfa := fault_of hW i1 i2 (by omega) (by omega)
  have hl : ((srtI (degs W)).length : Int) = W.n := by have := hW.lo; simp [degs]; omega
  have := List.find?_eq_none.mp hf i (List.mem_range'_1.mpr (by omega))
  exact absurd hfa this
/-- a row with a fault is below the tight one -/
theorem fault_below {ns : List Int} (ok : RowOk ns) {i : Nat} (hf : faultF ns = some i) : tightN ns.length i ∧ ∀ k, k < ns.length → nthI ns k ≤ nthI (tightRow ns.length i) k := by
  have hm := List.mem_range'_1.mp (List.mem_of_find?_eq_some hf)
  have ha := List.find?_some hf
  unfold faultAt at ha
  rw [Bool.and_eq_true, Bool.and_eq_true, decide_eq_true_eq, decide_eq_true_eq, decide_eq_true_eq] at ha
  obtain ⟨a1, a2, a3⟩ := ha
  have h3 := ok.lo
  have h20 := ok.hi
  refine ⟨⟨by omega, by omega, by omega, by omega⟩, fun k hk => ?_⟩
  have get : ∀ j, j < ns.length → ∃ x, ns[j]? = some x ∧ nthI ns j = x := fun j hj => ⟨ns[j], List.getElem?_eq_getElem hj, by unfold nthI; rw [List.getElem?_eq_getElem hj]; rfl⟩
  have inc : ∀ a b, a ≤ b → b < ns.length → nthI ns a ≤ nthI ns b := fun a b hab hb => by
    by_cases e : a = b
    · subst e; exact Int.le_refl _
    · have := List.pairwise_iff_getElem.mp ok.up a b (by omega) hb (by omega)
      unfold nthI
      rw [List.getElem?_eq_getElem (by omega), List.getElem?_eq_getElem hb]
      exact this
  have e : nthI (tightRow ns.length i) k = if (k : Int) < i then (i : Int) else if (k : Int) < ns.length - i then (ns.length : Int) - i - 1 else (ns.length : Int) - 1 := by
    unfold nthI tightRow
    rw [List.getElem?_append, List.getElem?_append]
    simp only [List.length_append, List.length_replicate, List.getElem?_replicate]
    by_cases c1 : (k : Int) < i
    · rw [if_pos (by omega), if_pos (by omega), if_pos c1, if_pos (by omega)]; rfl
    · by_cases c2 : (k : Int) < ns.length - i
      · rw [if_pos (by omega), if_neg (by omega), if_neg c1, if_pos c2, if_pos (by omega)]; rfl
      · rw [if_neg (by omega), if_neg c1, if_neg c2, if_pos (by omega)]; rfl
  rw [e]
  split
  · have := inc k (i - 1) (by omega) (by omega); omega
  · split
    · have := inc k (ns.length - i - 1) (by omega) (by omega); omega
    · obtain ⟨x, hx, ex⟩ := get k hk
      have := ok.rg x (List.mem_of_getElem? hx)
      omega
end Cr
set_option maxHeartbeats 4000000
/-! Fw57: comprehensions that keep some of their items, in order -/
namespace Cr
open PySem PySem.Spec PyProof.Rows L2
theorem LcI.subl {α : Type} {f : α → PD} {ts : List α} {vs : List Nat} {t : Bd} {cond : ET} {elt : EE} {ρ : En} {P : D → Prop} (g : α → PD)
    (hs : ∀ x ∈ ts, ∀ (Q : PD → Prop) (R : Prop), Q (g x) → R → t (f x) (wipeD ρ vs) fun ρ' => cond ρ' (fun b => if b = true then elt ρ' (fun y => match y with | .val z => Q z | _ => False) (fun _ => False) else R) fun _ => False)
    (he : ∀ us : List α, us.Sublist ts → P (.new (us.map g))) : LcI (ts.map f) vs t cond elt ρ P := by
  refine ⟨fun i acc => ∃ us : List α, acc = us.map g ∧ us.Sublist (ts.take i), ⟨[], rfl, List.nil_sublist _⟩, ?_, ?_⟩
  · rintro i x acc e _ ⟨us, rfl, hu⟩
    rw [List.getElem?_map] at e
    cases e2 : ts[i]? with
    | none => rw [e2] at e; cases e
    | some y =>
      rw [e2] at e
      cases e
      have e3 : ts.take (i + 1) = ts.take i ++ [y] := by rw [List.take_add_one, e2]; rfl
      refine hs y (List.mem_of_getElem? e2) (fun z => ∃ us' : List α, us.map g ++ [z] = us'.map g ∧ us'.Sublist (ts.take (i + 1))) _ ⟨us ++ [y], by simp, ?_⟩ ⟨us, rfl, ?_⟩
      · rw [e3]; exact hu.append (List.Sublist.refl _)
      · rw [e3]; exact hu.trans (List.sublist_append_left _ _)
  · rintro acc _ ⟨us, rfl, hu⟩
    refine he us ?_
    rwa [List.length_map, List.take_length] at hu
end Cr
set_option maxHeartbeats 4000000
/-! Fw58: ways of rich webs grow to whole rings -/
namespace Cr
open PySem PySem.Spec PyProof.Rows L2
inductive Wd where
  | longer
  | closed
  | opened
deriving DecidableEq
def Wd.s : Wd → Str
  | .longer => "longer"
  | .closed => "closed"
  | .opened => "opened"
abbrev Stp := Wd × List Int
def encS (s : Stp) : PD := .tuple [.str s.1.s, .tuple (s.2.map .int)]
def poorB (W : Wb) (p : Int × Int) : Bool := decide (p ∉ W.ts ∧ deg W p.1 + deg W p.2 < W.n)
def poorF (W : Wb) : Option (Int × Int) := (allPairs W.n).find? (poorB W)
def outF (W : Wb) (row : List Int) (p : Int) : List Int := (nbrs W p).filter fun y => decide (y ∉ row)
def inF (W : Wb) (row : List Int) (p : Int) : List Int := (nbrs W p).filter fun y => decide (y ∈ row)
def closedF (W : Wb) (way : List Int) : List Int := if adj W (itemN way 0) (lastN way) then way else turnB W [] way
def stepWay (W : Wb) (way : List Int) : Stp := match outF W way (lastN way) with
  | x :: _ => (.longer, way ++ [x])
  | [] => match outF W way (itemN way 0) with
    | x :: _ => (.longer, x :: way)
    | [] => (.closed, closedF W way)
def ringAt (W : Wb) (ring : List Int) (p : Int) : Bool := decide (p ∉ ring ∧ inF W ring p ≠ [])
def stepRing (W : Wb) (ring : List Int) : Stp := match (up 0 W.n.toNat).find? (ringAt W ring) with
  | some p => (.opened, p :: rotAt ring ((inF W ring p).headD 0))
  | none => (.closed, ring)
def nextF (W : Wb) (s : Stp) : Stp := if s.1 = .closed then stepRing W s.2 else stepWay W s.2
def isLast (W : Wb) (s : Stp) : Bool := decide (s.1 = .closed ∧ (s.2.length : Int) = W.n)
def growN (W : Wb) : Nat → Stp → List Stp
  | 0, s => [s]
  | k + 1, s => if isLast W s = true then [s] else s :: growN W k (nextF W s)
def growF (W : Wb) (way : List Int) : List Stp := growN W (2 * W.n.toNat) (stepWay W way)
structure WayOk (W : Wb) (ps : List Int) : Prop where
  ne : ps ≠ []
  pl : plOk W.n ps
  ts : ∀ t ∈ links ps, t ∈ W.ts
theorem isWayD_ok {W : Wb} {ps : List Int} (h : WayOk W ps) : isWayD W 1 (.tuple (ps.map .int)) = true := by
  unfold isWayD
  rw [placesOf_ok h.pl]
  have := List.length_pos_iff.mpr h.ne
  show (decide (1 ≤ ps.length) && wayB W ps) = true
  rw [decide_eq_true (show 1 ≤ ps.length by omega), wayB_iff.mpr h.ts]
  rfl
def StpOk (W : Wb) (s : Stp) : Prop := (s.1 = .closed → RingOk W s.2) ∧ (s.1 ≠ .closed → WayOk W s.2)
theorem rich_deg {W : Wb} (h : poorF W = none) {a b : Int} (ha : 0 ≤ a ∧ a < W.n) (hb : 0 ≤ b ∧ b < W.n) (hab : a ≠ b) (hn : ¬ adj W a b) : W.n ≤ deg W a + deg W b := by
  have := List.find?_eq_none.mp h (tieOf a b) (mem_all.mpr (tieOf_range ha hb hab))
  unfold poorB at this
  have h2 : ¬ (tieOf a b ∉ W.ts ∧ deg W (tieOf a b).1 + deg W (tieOf a b).2 < W.n) := fun h => this (decide_eq_true h)
  have h3 : tieOf a b ∉ W.ts := fun h => hn (adj_tie.mpr h)
  refine Classical.byContradiction fun h4 => h2 ⟨h3, ?_⟩
  unfold tieOf
  simp only
  rcases Int.le_total a b with q | q
  · rw [Int.min_eq_left q, Int.max_eq_right q]; omega
  · rw [Int.min_eq_right q, Int.max_eq_left q]; omega
theorem far_ex {W : Wb} (hW : WebOk W) {v : Int} (hv : 0 ≤ v ∧ v < W.n) (h : deg W v < W.n - 1) : ∃ y, (0 ≤ y ∧ y < W.n) ∧ y ≠ v ∧ ¬ adj W v y := by
  have f := deg_far hW hv
  have : 0 < (up 0 W.n.toNat).countP (fun y => decide (y ≠ v ∧ ¬ adj W v y)) := by omega
  obtain ⟨y, hy, h2⟩ := List.countP_pos_iff.mp this
  have h2 := of_decide_eq_true h2
  have := mem_up.mp hy
  exact ⟨y, by omega, h2.1, h2.2⟩
theorem deg_lt2 {W : Wb} (hW : WebOk W) {v u : Int} (hv : 0 ≤ v ∧ v < W.n) (hu : 0 ≤ u ∧ u < W.n) (hn : u ≠ v) (ha : ¬ adj W v u) : deg W v ≤ W.n - 2 := by
  have f := deg_far hW hv
  have : 0 < (up 0 W.n.toNat).countP (fun y => decide (y ≠ v ∧ ¬ adj W v y)) := List.countP_pos_iff.mpr ⟨u, mem_up.mpr (by omega), decide_eq_true ⟨hn, ha⟩⟩
  omega
/-- in a rich web each place has two ties -/
theorem rich_two {W : Wb} (hW : WebOk W) (h : poorF W = none) {v : Int} (hv : 0 ≤ v ∧ v < W.n) : 2 ≤ deg W v := by
  have h3 := hW.lo
  refine Classical.byContradiction fun hno => ?_
  obtain ⟨y, hy, hyv, hna⟩ := far_ex hW hv (by omega)
  have a := rich_deg h hv hy (fun e => hyv e.symm) hna
  have b := deg_lt2 hW hy hv (fun e => hyv e.symm) fun h => hna (adj_comm.mp h)
  omega
theorem out_nil {W : Wb} (hW : WebOk W) {row : List Int} {p : Int} (h : outF W row p = []) : ∀ y, adj W p y → y ∈ row := fun y hy => by
  have := List.filter_eq_nil_iff.mp h y ((mem_nbrs hW).mpr hy)
  simpa using this
theorem out_head {W : Wb} (hW : WebOk W) {row : List Int} {p x : Int} {r : List Int} (h : outF W row p = x :: r) : adj W p x ∧ x ∉ row := by
  have : x ∈ outF W row p := by rw [h]; exact List.mem_cons_self ..
  obtain ⟨m1, m2⟩ := List.mem_filter.mp this
  exact ⟨(mem_nbrs hW).mp m1, of_decide_eq_true m2⟩
theorem way_last {row : List Int} (h : row ≠ []) : row.getLast? = some (lastN row) := by unfold lastN; rw [List.getLast?_eq_some_getLast h]; rfl
theorem way_head {row : List Int} (h : row ≠ []) : row.head? = some (itemN row 0) := by
  rw [List.head?_eq_getElem?]; exact itemN_get (List.length_pos_iff.mpr h)
theorem closed_ok {W : Wb} (hW : WebOk W) (hr : poorF W = none) {way : List Int} (w : WayOk W way) (hl : outF W way (lastN way) = []) (hh : outF W way (itemN way 0) = []) : RingOk W (closedF W way) ∧ (closedF W way).Perm way := by
  have h1 := way_last w.ne
  have h2 := way_head w.ne
  have na := out_nil hW hh
  have nb := out_nil hW hl
  have ra := w.pl.2 _ (itemN_mem (row := way) (i := 0) (List.length_pos_iff.mpr w.ne))
  have rb := w.pl.2 _ (List.mem_of_getLast? h1)
  have two := rich_two hW hr ra
  have dt := deg_tail hW w.pl.1 h2 na
  have hlen : 3 ≤ way.length := by
    have c := List.countP_le_length (p := fun y => decide (adj W (itemN way 0) y)) (l := way.tail)
    rw [List.length_tail] at c
    omega
  unfold closedF
  split
  · rename_i ha
    refine ⟨⟨w.pl, hlen, fun t ht => ?_⟩, .refl _⟩
    rcases List.mem_append.mp ht with ht | ht
    · rw [joint_of h1 h2, List.mem_singleton] at ht
      rw [ht, tieOf_comm]
      exact adj_tie.mp ha
    · exact w.ts t ht
  · rename_i ha
    have hne : itemN way 0 ≠ lastN way := fun e => by
      have e1 := itemN_get (row := way) (i := 0) (by omega)
      have e2 := itemN_get (row := way) (i := way.length - 1) (by omega)
      rw [← lastN_item w.ne, ← e, ← e1] at e2
      have := (List.getElem?_inj (i := way.length - 1) (j := 0) (by omega) w.pl.1).mp e2
      omega
    have sum := rich_deg hr ra rb hne ha
    have hpl := w.pl.len
    have h3 := hW.lo
    obtain ⟨xs, ys, x, y, e, cx, cy, _⟩ := cross_ends (held := []) hW w.pl.1 h2 h1 na nb (by simp; omega)
    have hcr : crossAt W [] way (xs.length + 1) = true := by
      unfold crossAt
      have iy : itemN way (xs.length + 1) = y := by unfold itemN; rw [e]; simp
      have ix : itemN way (xs.length + 1 - 1) = x := by unfold itemN; rw [e]; simp
      rw [iy, ix, decide_eq_true (adj_tie.mp cx), decide_eq_true (adj_tie.mp cy)]
      simp
    have hxl : xs.length + 1 < way.length := by rw [e]; simp
    obtain ⟨j, j1, j2, j3, j4⟩ := turnB_ex (by omega) hxl hcr
    rw [j4]
    have pm := turnAt_perm way j
    have ok := (turnAt_ok (hs := []) j1 j2 j3 w.ts (fun t ht => by cases ht)).1
    exact ⟨⟨⟨pm.symm.nodup w.pl.1, fun p hp => w.pl.2 p (pm.mem_iff.mp hp)⟩, by rw [pm.length_eq]; exact hlen, ok⟩, pm⟩
theorem stepWay_ok {W : Wb} (hW : WebOk W) (hr : poorF W = none) {way : List Int} (w : WayOk W way) :
    StpOk W (stepWay W way) ∧ (∀ p ∈ way, p ∈ (stepWay W way).2) ∧ ((stepWay W way).1 = .longer ∧ (stepWay W way).2.length = way.length + 1 ∨ (stepWay W way).1 = .closed ∧ (stepWay W way).2.length = way.length) := by
  have h1 := way_last w.ne
  have h2 := way_head w.ne
  unfold stepWay
  cases eo : outF W way (lastN way) with
  | cons x r =>
    obtain ⟨a, hx⟩ := out_head hW eo
    have rx := hW.adj a
    refine ⟨⟨fun h => (by cases h), fun _ => ⟨by simp, ⟨List.nodup_append.mpr ⟨w.pl.1, by simp, fun p hp q hq e => ?_⟩, fun p hp => ?_⟩, fun t ht => ?_⟩⟩, fun p hp => List.mem_append_left _ hp, .inl ⟨rfl, by simp⟩⟩
    · rw [List.mem_singleton] at hq; subst hq; subst e; exact hx hp
    · rcases List.mem_append.mp hp with hp | hp
      · exact w.pl.2 p hp
      · rw [List.mem_singleton] at hp; subst hp; omega
    · rw [links_app, joint_of h1 (b := x) rfl] at ht
      rcases List.mem_append.mp ht with ht | ht
      · rcases List.mem_append.mp ht with ht | ht
        · exact w.ts t ht
        · rw [List.mem_singleton] at ht; rw [ht]; exact adj_tie.mp a
      · cases ht
  | nil =>
    cases eh : outF W way (itemN way 0) with
    | cons x r =>
      obtain ⟨a, hx⟩ := out_head hW eh
      have rx := hW.adj a
      refine ⟨⟨fun h => (by cases h), fun _ => ⟨by simp, ⟨List.nodup_cons.mpr ⟨hx, w.pl.1⟩, fun p hp => ?_⟩, fun t ht => ?_⟩⟩, fun p hp => List.mem_cons_of_mem _ hp, .inl ⟨rfl, by simp⟩⟩
      · rcases List.mem_cons.mp hp with rfl | hp
        · omega
        · exact w.pl.2 p hp
      · have ht : t ∈ links ([x] ++ way) := ht
        rw [links_app, joint_of (xs := [x]) (a := x) rfl h2] at ht
        rcases List.mem_append.mp ht with ht | ht
        · rcases List.mem_append.mp ht with ht | ht
          · cases ht
          · rw [List.mem_singleton] at ht; rw [ht, tieOf_comm]; exact adj_tie.mp a
        · exact w.ts t ht
    | nil =>
      obtain ⟨ok, pm⟩ := closed_ok hW hr w eo eh
      exact ⟨⟨fun _ => ok, fun h => absurd rfl h⟩, fun p hp => pm.mem_iff.mpr hp, .inr ⟨rfl, pm.length_eq⟩⟩
theorem ring_out {W : Wb} (hW : WebOk W) (hr : poorF W = none) {ring : List Int} (r : RingOk W ring) (hlt : (ring.length : Int) < W.n) : ∃ p ∈ up 0 W.n.toNat, ringAt W ring p = true := by
  have nu : (up 0 W.n.toNat).Nodup := (up_inc _ _).imp fun {a b} h => (show a ≠ b by omega)
  obtain ⟨v, hv, hvr⟩ : ∃ v ∈ up 0 W.n.toNat, v ∉ ring := by
    refine Classical.byContradiction fun h => ?_
    have := List.Nodup.length_le_of_subset nu (l₂ := ring) fun x hx => Classical.byContradiction fun h2 => h ⟨x, hx, h2⟩
    rw [up_length] at this
    omega
  refine Classical.byContradiction fun hno => ?_
  have none : ∀ p, p ∉ ring → ∀ y, adj W p y → y ∉ ring := fun p hp y hy hyr => by
    have rp := hW.adj hy
    refine hno ⟨p, mem_up.mpr (by omega), ?_⟩
    unfold ringAt
    refine decide_eq_true ⟨hp, List.ne_nil_of_mem (a := y) (List.mem_filter.mpr ⟨(mem_nbrs hW).mpr hy, by simpa using hyr⟩)⟩
  obtain ⟨u, hu⟩ : ∃ u, u ∈ ring := ⟨_, itemN_mem (i := 0) (by have := r.len; omega)⟩
  have ru := r.pl.2 u hu
  have rv := mem_up.mp hv
  have hna : ¬ adj W u v := fun h => none v hvr u (adj_comm.mp h) hu
  have sum := rich_deg hr ru (by omega) (fun e => hvr (by rw [← e]; exact hu)) hna
  have d1 : (nbrs W u).length + 1 ≤ ring.length := by
    have := List.Nodup.length_le_of_subset (l₁ := u :: nbrs W u) (l₂ := ring) (List.nodup_cons.mpr ⟨fun h => adj_irr hW ((mem_nbrs hW).mp h), (nbrs_inc W u).imp fun {a b} h => (show a ≠ b by omega)⟩) fun y hy => by
      rcases List.mem_cons.mp hy with rfl | hy
      · exact hu
      · exact Classical.byContradiction fun h => none y h u (adj_comm.mp ((mem_nbrs hW).mp hy)) hu
    simpa using this
  have d2 : (nbrs W v).length + 1 + ring.length ≤ W.n.toNat := by
    have := List.Nodup.length_le_of_subset (l₁ := (v :: nbrs W v) ++ ring) (l₂ := up 0 W.n.toNat) (List.nodup_append.mpr ⟨List.nodup_cons.mpr ⟨fun h => adj_irr hW ((mem_nbrs hW).mp h), (nbrs_inc W v).imp fun {a b} h => (show a ≠ b by omega)⟩, r.pl.1, fun a ha b hb e => by
      subst e
      rcases List.mem_cons.mp ha with rfl | ha
      · exact hvr hb
      · exact none v hvr a ((mem_nbrs hW).mp ha) hb⟩) fun y hy => by
      rcases List.mem_append.mp hy with hy | hy
      · rcases List.mem_cons.mp hy with rfl | hy
        · exact hv
        · have := hW.adj ((mem_nbrs hW).mp hy)
          exact mem_up.mpr (by omega)
      · have := r.pl.2 y hy
        exact mem_up.mpr (by omega)
    simp at this
    omega
  have e1 := nbrs_deg hW u
  have e2 := nbrs_deg hW v
  omega
theorem stepRing_ok {W : Wb} (hW : WebOk W) (hr : poorF W = none) {ring : List Int} (r : RingOk W ring) (hlt : (ring.length : Int) < W.n) :
    (stepRing W ring).1 = .opened ∧ WayOk W (stepRing W ring).2 ∧ (∀ p ∈ ring, p ∈ (stepRing W ring).2) ∧ (stepRing W ring).2.length = ring.length + 1 := by
  obtain ⟨q, hq, hqa⟩ := ring_out hW hr r hlt
  unfold stepRing
  cases e : (up 0 W.n.toNat).find? (ringAt W ring) with
  | none => exact absurd hqa (List.find?_eq_none.mp e q hq)
  | some p =>
    have hp := List.find?_some e
    have rp := mem_up.mp (List.mem_of_find?_eq_some e)
    unfold ringAt at hp
    obtain ⟨h1, h2⟩ := of_decide_eq_true hp
    obtain ⟨x, rest, ei⟩ : ∃ x rest, inF W ring p = x :: rest := by
      cases e2 : inF W ring p with
      | nil => exact absurd e2 h2
      | cons x rest => exact ⟨x, rest, rfl⟩
    have hx : x ∈ inF W ring p := by rw [ei]; exact List.mem_cons_self ..
    obtain ⟨m1, m2⟩ := List.mem_filter.mp hx
    have m2 := of_decide_eq_true m2
    have ax := (mem_nbrs hW).mp m1
    have rot := rotAt_rot ring x
    have hhd := rotAt_head m2
    dsimp only
    rw [ei]
    show Wd.opened = .opened ∧ WayOk W (p :: rotAt ring x) ∧ (∀ q ∈ ring, q ∈ p :: rotAt ring x) ∧ (p :: rotAt ring x).length = ring.length + 1
    refine ⟨rfl, ⟨by simp, ⟨List.nodup_cons.mpr ⟨fun h => h1 (rot.perm.mem_iff.mpr h), rot.perm.nodup r.pl.1⟩, fun q hq => ?_⟩, fun t ht => ?_⟩, fun q hq => List.mem_cons_of_mem _ (rot.perm.mem_iff.mp hq), by rw [List.length_cons, rot.perm.length_eq]⟩
    · rcases List.mem_cons.mp hq with rfl | hq
      · omega
      · exact r.pl.2 q (rot.perm.mem_iff.mpr hq)
    · rw [show p :: rotAt ring x = [p] ++ rotAt ring x from rfl, links_app, joint_of (xs := [p]) (a := p) rfl hhd] at ht
      rcases List.mem_append.mp ht with ht | ht
      · rcases List.mem_append.mp ht with ht | ht
        · cases ht
        · rw [List.mem_singleton] at ht; rw [ht]; exact adj_tie.mp ax
      · exact r.ts t (rot.ties.mem_iff.mpr (List.mem_append_right _ ht))
def mu (W : Wb) (s : Stp) : Nat := 2 * (W.n.toNat - s.2.length) + (if s.1 = .closed then 0 else 1)
theorem StpOk.len {W : Wb} {s : Stp} (h : StpOk W s) : s.2.length ≤ W.n.toNat := by
  by_cases e : s.1 = .closed
  · exact (h.1 e).pl.len
  · exact (h.2 e).pl.len
theorem next_ok {W : Wb} (hW : WebOk W) (hr : poorF W = none) {s : Stp} (h : StpOk W s) (hl : isLast W s = false) :
    StpOk W (nextF W s) ∧ mu W (nextF W s) < mu W s ∧ (∀ p ∈ s.2, p ∈ (nextF W s).2) ∧ (nextF W s).2.length = s.2.length + (if (nextF W s).1 = .closed then 0 else 1) := by
  have h3 := hW.lo
  have hlen := h.len
  unfold nextF
  by_cases e : s.1 = .closed
  · rw [if_pos e]
    have ring := h.1 e
    have hlt : (s.2.length : Int) < W.n := by
      refine Classical.byContradiction fun h2 => ?_
      unfold isLast at hl
      exact of_decide_eq_false hl ⟨e, by omega⟩
    obtain ⟨a1, a2, a3, a4⟩ := stepRing_ok hW hr ring hlt
    have a2l := a2.pl.len
    refine ⟨⟨fun h => (by rw [a1] at h; cases h), fun _ => a2⟩, ?_, a3, ?_⟩
    · unfold mu
      rw [a1, e, a4]
      simp
      omega
    · rw [a4, a1]; rfl
  · rw [if_neg e]
    obtain ⟨a1, a2, a3⟩ := stepWay_ok hW hr (h.2 e)
    have a1l := a1.len
    refine ⟨a1, ?_, a2, ?_⟩
    · unfold mu
      rw [if_neg e]
      rcases a3 with ⟨b1, b2⟩ | ⟨b1, b2⟩
      · rw [b1, b2]; rw [b2] at a1l; simp; omega
      · rw [b1, b2]; simp
    · rcases a3 with ⟨b1, b2⟩ | ⟨b1, b2⟩
      · rw [b1, b2]; rfl
      · rw [b1, b2]; rfl
theorem first_ok {W : Wb} (hW : WebOk W) (hr : poorF W = none) {way : List Int} (w : WayOk W way) : StpOk W (stepWay W way) ∧ mu W (stepWay W way) + 2 ≤ 2 * W.n.toNat ∧ (∀ p ∈ way, p ∈ (stepWay W way).2) ∧ (stepWay W way).2.length = way.length + (if (stepWay W way).1 = .closed then 0 else 1) := by
  have hpos := List.length_pos_iff.mpr w.ne
  have hpl := w.pl.len
  obtain ⟨a1, a2, a3⟩ := stepWay_ok hW hr w
  have a1l := a1.len
  refine ⟨a1, ?_, a2, ?_⟩
  · unfold mu
    rcases a3 with ⟨b1, b2⟩ | ⟨b1, b2⟩
    · rw [b1, b2]; rw [b2] at a1l; simp; omega
    · rw [b1, b2]; simp; omega
  · rcases a3 with ⟨b1, b2⟩ | ⟨b1, b2⟩
    · rw [b1, b2]; rfl
    · rw [b1, b2]; rfl
theorem grow_head (W : Wb) (k : Nat) (s : Stp) : (growN W k s)[0]? = some s := by
  cases k with
  | zero => rfl
  | succ k => unfold growN; split <;> rfl
theorem last_of_mu {W : Wb} {s : Stp} (h : StpOk W s) (h0 : mu W s = 0) (hn : 0 ≤ W.n) : isLast W s = true := by
  have hl := h.len
  unfold mu at h0
  have e : s.1 = .closed := by
    refine Classical.byContradiction fun h => ?_
    rw [if_neg h] at h0; omega
  rw [if_pos e] at h0
  exact decide_eq_true ⟨e, by omega⟩
/-- each step and the one behind it; only the last one is last -/
theorem grow_at {W : Wb} (hW : WebOk W) (hr : poorF W = none) : ∀ (k : Nat) (s : Stp), StpOk W s → mu W s ≤ k → (growN W k s).length ≤ mu W s + 1 ∧
    ∀ (i : Nat) (x : Stp), (growN W k s)[i]? = some x → StpOk W x ∧ (isLast W x = true ↔ i + 1 = (growN W k s).length) ∧ (isLast W x = false → (growN W k s)[i + 1]? = some (nextF W x))
  | 0, s, h, hm => by
    have hl := last_of_mu h (by omega) (by have := hW.lo; omega)
    refine ⟨by unfold growN; simp, fun i x e => ?_⟩
    unfold growN at e ⊢
    cases i with
    | zero => simp at e; subst e; exact ⟨h, by simp [hl], fun h2 => by rw [hl] at h2; cases h2⟩
    | succ i => simp at e
  | k + 1, s, h, hm => by
    by_cases hl : isLast W s = true
    · have e0 : growN W (k + 1) s = [s] := by unfold growN; rw [if_pos hl]
      rw [e0]
      refine ⟨by simp, fun i x e => ?_⟩
      cases i with
      | zero => simp at e; subst e; exact ⟨h, by simp [hl], fun h2 => by rw [hl] at h2; cases h2⟩
      | succ i => simp at e
    · have hl' : isLast W s = false := by simpa using hl
      have e0 : growN W (k + 1) s = s :: growN W k (nextF W s) := by conv => lhs; unfold growN; rw [if_neg hl]
      obtain ⟨n1, n2, _, _⟩ := next_ok hW hr h hl'
      obtain ⟨g1, g2⟩ := grow_at hW hr k (nextF W s) n1 (by omega)
      have hpos : 0 < (growN W k (nextF W s)).length := by
        have := grow_head W k (nextF W s)
        exact (List.getElem?_eq_some_iff.mp this).1
      rw [e0]
      refine ⟨by rw [List.length_cons]; omega, fun i x e => ?_⟩
      cases i with
      | zero =>
        simp at e
        subst e
        refine ⟨h, ?_, fun _ => ?_⟩
        · rw [hl', List.length_cons]
          constructor
          · intro h; cases h
          · intro h; omega
        · rw [List.getElem?_cons_succ]; exact grow_head W k _
      | succ i =>
        rw [List.getElem?_cons_succ] at e
        obtain ⟨a1, a2, a3⟩ := g2 i x e
        refine ⟨a1, ?_, fun h2 => by rw [List.getElem?_cons_succ]; exact a3 h2⟩
        rw [a2, List.length_cons]
        omega
theorem grow_last (W : Wb) {k : Nat} {s : Stp} (h : isLast W s = true) : growN W k s = [s] := by
  cases k with
  | zero => rfl
  | succ k => unfold growN; rw [if_pos h]
end Cr
set_option maxHeartbeats 4000000
/-! Fw59: xs.pop(k) as a statement -/
namespace Cr
open PySem PySem.Spec PyProof.Rows L2
section
variable {X : Cx} {w : Wx} {e : Expr} {pos : Pos}
@[simp] def hPop (ds zs : List PD) (P : List PD → Prop) : Prop := match zs with
  | [.int n] => (match ixN ds.length n with
    | some m => m < ds.length ∧ -(2 ^ 63) ≤ n ∧ n < 2 ^ 63 ∧ P (ds.eraseIdx m)
    | none => False)
  | _ => False
theorem ds_pop (i : Nat) {x : Str} {p1 p2 p3 : Pos} {fa : EA} (hN : X.N[i]? = some x) (hv : Vis X.env.scope x) (ha : DA X w [e] fa)
    (hbase : attributeBase (.Name x p1) "pop" X.env (eval (.Name x p1) X.env) = eval (.Name x p1) X.env := by rfl)
    (hfew : ((backTo p3 (starEach [e] X.env)).all (fun x => !x.1) && (backToKw p3 (keywordEach [] X.env)).all (fun x => x.1.isSome)
      && decide ([e].length + ([] : List Keyword).length + (if ([] : List Keyword).isEmpty then 0 else 1) < 30)) = true := by rfl)
    (hline : (p2.endLine == p3.line) = true := by rfl) (hs : starEach (e :: []) X.env = (false, eval e X.env) :: starEach [] X.env := by rfl) (hplain : (backTo p3 (starEach [] X.env)).any (·.1) = false := by rfl)
    (hd : (x == ("__debug__" : Str)) = false := by decide) (hcd : (x == ("__classdict__" : Str)) = false := by decide) (hsw : swapsWith (.Call (.Attribute (.Name x p1) "pop" p2) [e] [] p3) none pos.line X.env = pure false := by rfl) :
    DS X w (.Expr (.Call (.Attribute (.Name x p1) "pop" p2) [e] [] p3) pos) (sMut i fa hPop) :=
  ds_mut i PySem.F.slot_list_pop PySem.F.type_list_pop mt_popAt hN hv (fun H a vs us ds zs P Q q rr ru h k => by
    unfold hPop at h
    split at h
    · rename_i n
      split at h
      · rename_i m em
        obtain ⟨h1, h2, h3, h4⟩ := h
        obtain ⟨u, rfl, ru1⟩ := reps_one ru
        cases ru1
        obtain ⟨v, ev, rv⟩ := rr.get (List.getElem?_eq_getElem h1)
        rw [← rr.length] at em
        exact ⟨a, vs, n, m, v, rfl, rfl, q, h2, h3, (ixN_seq em).1, ev, k _ _ h4 (rr.eraseIdx m) _⟩
      · exact h.elim
    · exact h.elim) ha hbase hfew hline hs hplain hd hcd hsw
end
end Cr
set_option maxHeartbeats 4000000
/-! Fw60: rich webs, renamed -/
namespace Cr
open PySem PySem.Spec PyProof.Rows L2
def RichW (W : Wb) : Prop := ∀ a b : Int, (0 ≤ a ∧ a < W.n) → (0 ≤ b ∧ b < W.n) → a ≠ b → ¬ adj W a b → W.n ≤ deg W a + deg W b
theorem rich_iff {W : Wb} : poorF W = none ↔ RichW W := by
  refine ⟨fun h a b ha hb hab hn => rich_deg h ha hb hab hn, fun h => List.find?_eq_none.mpr fun p hp => ?_⟩
  have hp := mem_all.mp hp
  intro hb
  unfold poorB at hb
  obtain ⟨h1, h2⟩ := of_decide_eq_true hb
  have := h p.1 p.2 (by omega) (by omega) (by omega) fun ha => h1 (by
    have ha := adj_tie.mp ha
    unfold tieOf at ha
    rwa [Int.min_eq_left (by omega), Int.max_eq_right (by omega)] at ha)
  omega
def renT (ps : List Int) (t : Int × Int) : Int × Int := tieOf (itemN ps t.1.toNat) (itemN ps t.2.toNat)
def renW (W : Wb) (ps : List Int) : Wb := ⟨W.n, srtP (W.ts.map (renT ps))⟩
section
variable {W : Wb} {ps : List Int}
theorem perm_items (hp : ps.Perm (up 0 W.n.toNat)) : ps.length = W.n.toNat ∧ ps.Nodup ∧ (∀ p ∈ ps, 0 ≤ p ∧ p < W.n) ∧ ∀ x, 0 ≤ x → x < W.n → ∃ a, (0 ≤ a ∧ a < W.n) ∧ itemN ps a.toNat = x := by
  have hl := hp.length_eq
  rw [up_length] at hl
  refine ⟨hl, hp.symm.nodup ((up_inc 0 W.n.toNat).imp fun {x y} h => (show x ≠ y by omega)), fun p h => by have := mem_up.mp (hp.mem_iff.mp h); omega, fun x x0 x1 => ?_⟩
  obtain ⟨i, hi, e⟩ := List.mem_iff_getElem.mp (hp.mem_iff.mpr (mem_up.mpr (show 0 ≤ x ∧ x < 0 + (W.n.toNat : Int) by omega)))
  exact ⟨(i : Int), by omega, by rw [show ((i : Int)).toNat = i by omega]; unfold itemN; rw [List.getElem?_eq_getElem hi, e]; rfl⟩
theorem item_inj (hn : ps.Nodup) {a b : Int} (ha : 0 ≤ a ∧ a < ps.length) (hb : 0 ≤ b ∧ b < ps.length) (e : itemN ps a.toNat = itemN ps b.toNat) : a = b := by
  have := (List.getElem?_inj (i := a.toNat) (j := b.toNat) (by omega) hn).mp (by rw [itemN_get (by omega), itemN_get (by omega), e])
  omega
theorem ren_ok (hW : WebOk W) (hp : ps.Perm (up 0 W.n.toNat)) : TsR W.n (W.ts.map (renT ps)) := by
  obtain ⟨hl, hn, hr, _⟩ := perm_items hp
  have h3 := hW.lo
  refine ⟨?_, fun t ht => ?_⟩
  · rw [List.Nodup, List.pairwise_map]
    refine List.Pairwise.imp_of_mem (fun {s t} hs ht hne e => hne ?_) hW.ts.nodup
    have rs := hW.ts.1 s hs
    have rt := hW.ts.1 t ht
    rcases tieOf_eq.mp e with ⟨e1, e2⟩ | ⟨e1, e2⟩
    · exact Prod.ext (item_inj hn (by omega) (by omega) e1) (item_inj hn (by omega) (by omega) e2)
    · have := item_inj hn (a := s.1) (b := t.2) (by omega) (by omega) e1
      have := item_inj hn (a := s.2) (b := t.1) (by omega) (by omega) e2
      omega
  · obtain ⟨s, hs, rfl⟩ := List.mem_map.mp ht
    have rs := hW.ts.1 s hs
    exact tieOf_range (hr _ (itemN_mem (by omega))) (hr _ (itemN_mem (by omega))) fun e => by
      have := item_inj hn (a := s.1) (b := s.2) (by omega) (by omega) e
      omega
theorem ren_web (hW : WebOk W) (hp : ps.Perm (up 0 W.n.toNat)) : WebOk (renW W ps) := (ren_ok hW hp).web hW.lo hW.hi
theorem ren_adj (hW : WebOk W) (hp : ps.Perm (up 0 W.n.toNat)) {a b : Int} (ha : 0 ≤ a ∧ a < W.n) (hb : 0 ≤ b ∧ b < W.n) : adj (renW W ps) (itemN ps a.toNat) (itemN ps b.toNat) ↔ adj W a b := by
  obtain ⟨hl, hn, hr, _⟩ := perm_items hp
  have h3 := hW.lo
  rw [adj_tie, adj_tie]
  show _ ∈ srtP _ ↔ _
  rw [mem_srtP, List.mem_map]
  constructor
  · rintro ⟨t, ht, e⟩
    have rt := hW.ts.1 t ht
    have et : tieOf a b = t := by
      rcases tieOf_eq.mp e with ⟨e1, e2⟩ | ⟨e1, e2⟩
      · have i1 := item_inj hn (a := t.1) (b := a) (by omega) (by omega) e1
        have i2 := item_inj hn (a := t.2) (b := b) (by omega) (by omega) e2
        unfold tieOf
        rw [← i1, ← i2, Int.min_eq_left (by omega), Int.max_eq_right (by omega)]
      · have i1 := item_inj hn (a := t.1) (b := b) (by omega) (by omega) e1
        have i2 := item_inj hn (a := t.2) (b := a) (by omega) (by omega) e2
        unfold tieOf
        rw [← i1, ← i2, Int.min_eq_right (by omega), Int.max_eq_left (by omega)]
    rw [et]; exact ht
  · intro h
    refine ⟨tieOf a b, h, ?_⟩
    unfold renT tieOf
    simp only
    rcases Int.le_total a b with q | q
    · rw [Int.min_eq_left q, Int.max_eq_right q]
    · rw [Int.min_eq_right q, Int.max_eq_left q]; rw [Int.min_comm, Int.max_comm]
theorem ren_deg (hW : WebOk W) (hp : ps.Perm (up 0 W.n.toNat)) {a : Int} (ha : 0 ≤ a ∧ a < W.n) : deg (renW W ps) (itemN ps a.toNat) = deg W a := by
  obtain ⟨hl, hn, hr, hx⟩ := perm_items hp
  have h3 := hW.lo
  have hR := ren_web hW hp
  rw [← nbrs_deg hR, ← nbrs_deg hW]
  have : (nbrs (renW W ps) (itemN ps a.toNat)).Perm ((nbrs W a).map fun y => itemN ps y.toNat) := by
    refine (List.perm_ext_iff_of_nodup ((nbrs_inc _ _).imp fun {a b} h => (show a ≠ b by omega)) ?_).mpr fun y => ?_
    · rw [List.Nodup, List.pairwise_map]
      refine List.Pairwise.imp_of_mem (fun {s t} hs ht hlt e => ?_) (nbrs_inc W a)
      have rs := hW.adj ((mem_nbrs hW).mp hs)
      have rt := hW.adj ((mem_nbrs hW).mp ht)
      have := item_inj hn (a := s) (b := t) (by omega) (by omega) e
      omega
    · rw [mem_nbrs hR, List.mem_map]
      constructor
      · intro h
        have ry := hR.adj h
        obtain ⟨b, rb, e⟩ := hx y ry.2.2.1 ry.2.2.2.1
        rw [← e] at h
        exact ⟨b, (mem_nbrs hW).mpr ((ren_adj hW hp ha rb).mp h), e⟩
      · rintro ⟨b, hb, rfl⟩
        have hb := (mem_nbrs hW).mp hb
        have rb := hW.adj hb
        exact (ren_adj hW hp ha ⟨rb.2.2.1, rb.2.2.2.1⟩).mpr hb
  rw [this.length_eq, List.length_map]
theorem ren_rich (hW : WebOk W) (hp : ps.Perm (up 0 W.n.toNat)) (r : RichW W) : RichW (renW W ps) := fun x y hx hy hxy hn => by
  obtain ⟨_, _, _, hex⟩ := perm_items hp
  obtain ⟨a, ra, rfl⟩ := hex x hx.1 hx.2
  obtain ⟨b, rb, rfl⟩ := hex y hy.1 hy.2
  rw [ren_deg hW hp ra, ren_deg hW hp rb]
  exact r a b ra rb (fun e => hxy (by rw [e])) fun h => hn ((ren_adj hW hp ra rb).mpr h)
end
theorem even_rich {n : Int} (h : evenN n) : RichW (evenW n) := fun a b ha hb _ _ => by
  obtain ⟨h1, h2, h3⟩ := id h
  have hd : ∀ p, 0 ≤ p → p < n → deg (evenW n) p = n / 2 := fun p p0 p1 => by
    have e1 : (degs (evenW n))[p.toNat]? = some (deg (evenW n) p) := by
      show ((up 0 n.toNat).map (degT (evenTs n)))[p.toNat]? = _
      rw [List.getElem?_map, up_get (by omega)]
      show some (degT (evenTs n) (0 + ((p.toNat : Nat) : Int))) = some (degT (evenTs n) p)
      congr 2; omega
    rw [even_degs h, List.getElem?_replicate, if_pos (by omega)] at e1
    exact (Option.some.inj e1).symm
  have ha : 0 ≤ a ∧ a < n := ha
  have hb : 0 ≤ b ∧ b < n := hb
  rw [hd a ha.1 ha.2, hd b hb.1 hb.2]
  show n ≤ _
  omega
end Cr
set_option maxHeartbeats 4000000
/-! Fw61: errors with fields, raised in a calm suite and read in a held one -/
namespace Cr
open PySem PySem.Spec PyProof.Rows L2
/-- what an __init__ promises that lays its arguments down in the fields ns -/
def initSp (K : PySem.W.Frag) (ns : List Str) : Sp := fun vs H Q _ => ∃ (a C : Addr) (ys : List V), vs = .ref a :: ys ∧ ys.length = ns.length ∧ H a = some (exo a C none) ∧ OexC K C ∧ (∀ n ∈ ns, PySem.W.findIn K (.ref C) n = some none) ∧
  ∀ (d : Addr) (G : Hp), H d = none → d ≠ a → G a = some (exo a C (some d)) → G d = some (exd d (ns.zip ys).reverse) → (∀ b, b ≠ a → b ≠ d → G b = H b) → Q .non G
section
variable {P : Program} {w : World} {K : PySem.W.Frag} {mg : Str → Option Value} {base : Heap}
theorem init1_of {x qual n1 : Str} {st : Stmt} {f : Addr} {fd : FuncData} {N ps : List Str} (hN : N.length = 2) (F : Fun K x qual st f fd) (S : FnScope N ps (defScope st)) (hps : ps.length = 2)
    (hbody : ∀ (cdv : Value) (A : Around) (outer : List Env) (s : Shared) (H : Hp) (E : XK), ∃ t, PSs (cxOf (L2N.CX P w) P w K mg base N qual (defScope st) f cdv A outer s H E) (defBody st) t ∧ ∀ (T : Ends) (a C : Addr) (y : V) (H : Hp), H a = some (exo a C none) → OexC K C → PySem.W.findIn K (.ref C) n1 = some none →
      (∀ d, H d = none → d ≠ a → T.nx [some (.ref a), some y] (upd (upd H d (exd d [(n1, y)])) a (exo a C (some d)))) → t T [some (.ref a), some y] H) :
    FnG P w K mg base 1 f fd ps (initSp K [n1]) := by
  refine fnG_of F S ?_ ?_
  · rintro vs H Q E ⟨a, C, ys, rfl, hl, _⟩
    rw [List.length_cons, hl, hps]; rfl
  · rintro cdv A outer s H vs Q E hr hg ⟨a, C, ys, rfl, hl, ea, oc, hf, q⟩
    obtain ⟨t, ht, hq⟩ := hbody cdv A outer s H E
    refine ⟨_, ht, ?_⟩
    match ys, hl with
    | [y], _ =>
      have est : L2.start N [V.ref a, y] = [some (.ref a), some y] := by unfold L2.start; rw [hN]; rfl
      rw [est]
      refine hq _ a C y H ea oc (hf n1 (by simp)) fun d hd hda => ?_
      refine q d _ hd hda upd_same ?_ fun b h1 h2 => ?_
      · rw [upd_ne hda, upd_same]; rfl
      · rw [upd_ne h1, upd_ne h2]
theorem init2_of {x qual n1 n2 : Str} {st : Stmt} {f : Addr} {fd : FuncData} {N ps : List Str} (hN : N.length = 3) (F : Fun K x qual st f fd) (S : FnScope N ps (defScope st)) (hps : ps.length = 3)
    (hbody : ∀ (cdv : Value) (A : Around) (outer : List Env) (s : Shared) (H : Hp) (E : XK), ∃ t, PSs (cxOf (L2N.CX P w) P w K mg base N qual (defScope st) f cdv A outer s H E) (defBody st) t ∧ ∀ (T : Ends) (a C : Addr) (y z : V) (H : Hp), H a = some (exo a C none) → OexC K C → PySem.W.findIn K (.ref C) n1 = some none → PySem.W.findIn K (.ref C) n2 = some none →
      (∀ d, H d = none → d ≠ a → T.nx [some (.ref a), some y, some z] (upd (upd (upd H d (exd d [(n1, y)])) a (exo a C (some d))) d (exd d [(n2, z), (n1, y)]))) → t T [some (.ref a), some y, some z] H) :
    FnG P w K mg base 1 f fd ps (initSp K [n1, n2]) := by
  refine fnG_of F S ?_ ?_
  · rintro vs H Q E ⟨a, C, ys, rfl, hl, _⟩
    rw [List.length_cons, hl, hps]; rfl
  · rintro cdv A outer s H vs Q E hr hg ⟨a, C, ys, rfl, hl, ea, oc, hf, q⟩
    obtain ⟨t, ht, hq⟩ := hbody cdv A outer s H E
    refine ⟨_, ht, ?_⟩
    match ys, hl with
    | [y, z], _ =>
      have est : L2.start N [V.ref a, y, z] = [some (.ref a), some y, some z] := by unfold L2.start; rw [hN]; rfl
      rw [est]
      refine hq _ a C y z H ea oc (hf n1 (by simp)) (hf n2 (by simp)) fun d hd hda => ?_
      refine q d _ hd hda ?_ upd_same fun b h1 h2 => ?_
      · rw [upd_ne (Ne.symm hda), upd_same]
      · rw [upd_ne h2, upd_ne h1, upd_ne h2]
/-- a class whose __init__ lays its arguments down in the fields ns -/
structure InitC (P : Program) (w : World) (K : PySem.W.Frag) (mg : Str → Option Value) (base : Heap) (x : Str) (ns : List Str) (C : Addr) : Prop where
  nm : mg x = some (.ref C)
  ox : OexC K C
  fl : ∀ n ∈ ns, PySem.W.findIn K (.ref C) n = some none
  fn : ∃ (g : Addr) (fd : FuncData) (ps : List Str), PySem.W.findIn K (.ref C) "__init__" = some (some (.ref g)) ∧ PySem.W.typeIn K (.ref g) = some (.type "function") ∧ FnG P w K mg base 1 g fd ps (initSp K ns) ∧ Binds K fd ps []
end
section
variable {X : Cx} {w : Wx} {x : Str} {p p2 pos : Pos}
/-- a class is called whose __init__ lays down fields: the error made, its fields in a dict of their own -/
theorem pmk_init {ns : List Str} {C : Addr} {e : Expr} {es : List Expr} {ta : TA} (J : InitC X.prog X.w X.K X.mg X.base x ns C) (hr : Room 2 X.A) (hgu : X.A.guards = some []) (tk : L2N.Takes X w.W) (hg : Gl X x) (ha : PA X (e :: es) ta)
    (hdb : (x == ("__debug__" : Str)) = false := by decide) (he : starEach (e :: es) X.env = (false, eval e X.env) :: starEach es X.env := by rfl) (hpl : (backTo pos (starEach es X.env)).any (·.1) = false := by rfl) :
    L2N.PMk X (.Call (.Name x p) (e :: es) [] pos) (fun σ H Q => ta σ H fun vs H1 => vs.length = ns.length ∧ vs.length ≤ 1000 ∧ ∀ d, H1 d = none → Q (.ref C) (some d) (upd H1 d (.xd (ns.zip vs).reverse))) := by
  intro pins s σ H Q I h
  obtain ⟨g, fd, ps, iC, tI, FN, bn⟩ := J.fn
  have oc := J.ox
  obtain ⟨nm, qn, nsA, bs, bm, sn, sb, ab, co, dl, s0, s1, s2, s3, s5, look, pure⟩ := id oc.cls
  refine wpAny_Call_Name_kw (ld_glob I hg J.nm ?_ hdb)
  refine PySem.W.callWith_K (h₀ := X.base) I.ok.mod.kin oc.kC (thn (ha.run pos pins s σ H _ I h) ?_) he hpl
  rintro us ⟨hp, gs, dr, tc, os⟩ ⟨vs, H1, I1, rv, hlen, hsmall, q⟩
  refine ⟨I1.kIn, ?_⟩
  show wpAny _ _ (call (.ref C) us) _ _ _
  -- the object in making lies behind its tuple
  have big : hp.objs.size ≤ hp.objs.size + 1 := by omega
  have free := I1.hok.fresh big
  have stays : ∀ b o, hp.get? b = some o → ((hp.push (PySem.W.kdv_tup us)).push (PySem.HandSPX.excO C hp.objs.size)).get? b = some o :=
    fun _ _ z => Heap.get?_push_of_some _ (Heap.get?_push_of_some _ z)
  have lies : ((hp.push (PySem.W.kdv_tup us)).push (PySem.HandSPX.excO C hp.objs.size)).get? (hp.objs.size + 1) = some (PySem.HandSPX.excO C hp.objs.size) := by
    heap_get
  generalize hA : hp.objs.size + 1 = A at big free lies
  have I2 := I1.laid (t' := tc) stays big (exo_ok (P := X.prog) (w := X.w) (H := upd H1 A (exo A C none)) lies)
  have promise : initSp X.K ns (.ref A :: vs) (upd H1 A (exo A C none)) (fun v G => v = .non ∧ ∃ d, G A = some (exo A C (some d)) ∧ G d = some (exd d (ns.zip vs).reverse) ∧ H1 d = none ∧ upd (del G A) d (.xd (ns.zip vs).reverse) = upd H1 d (.xd (ns.zip vs).reverse)) (fun _ _ _ => False) := by
    refine ⟨A, C, vs, rfl, hlen, upd_same, oc, J.fl, fun d G hd hda ga gd rest => ⟨rfl, d, ga, gd, ?_, ?_⟩⟩
    · rwa [upd_ne hda] at hd
    · funext b
      by_cases hb : b = d
      · subst hb; rw [upd_same, upd_same]
      · rw [upd_ne hb, upd_ne hb]
        by_cases hb2 : b = A
        · subst hb2; rw [del_same, free]
        · rw [del_ne hb2, rest b hb2 hb, upd_ne hb2]
  have both : Vals (V.ref A :: vs) (Value.ref A :: us) := .cons rfl rv
  have lens : (Value.ref A :: us).length = ps.length := both.length.symm.trans (FN.len _ _ _ _ promise)
  have many : us.length ≤ sizeLine := by
    have := sizeLine_big
    have := Paired.length rv
    omega
  have bound := bn _ (Value.ref A :: us) I2.kIn (by rw [List.append_nil]; exact lens)
  rw [List.append_nil] at bound
  have looksI := PySem.W.looks_findIn (M := model X.prog X.w) I1.kIn iC
  subst hA
  refine wpAny_call (PySem.HandSPX.call_own F.excBase_ValueError (fun Y => PySem.HandSPX.refsVE_contains Y bm pure) (I1.kIn _ _ look) looksI
    (fun self => PySem.W.bind_fn I1.kIn self tI) many (codeAny_mono (FN.run _ X.stack _ _ ⟨_, []⟩ _ _ _ (fun _ _ _ => False) (hr.make C us []) hgu (I2.env0.make C us []) bound both promise) ?_))
  intro r s' back
  cases r with
  | error er => exact L2N.passes_call tk (E := fun _ _ _ => False) (fun _ _ _ _ z => z.elim) pins σ _ _ er s' I2 back
  | ok fl =>
    cases fl with
    | next => cases back
    | brk => cases back
    | cont => cases back
    | ret u =>
      obtain ⟨v, G, osG, bareG, unG, okG, rG, rfl, d, ga, gd, hd, same⟩ := back
      obtain ⟨hG, gG, dG, tG, oG⟩ := s'
      obtain ⟨t0, Z, JZ, kZ, zA, atA, noA⟩ := mk_end0 (d2 := dG) (t2 := tG) I1 big stays unG okG osG bareG ga gd hd
      rw [same] at JZ noA
      refine ⟨rG, hp.objs.size + 1, _, _, ⟨Z, gG, dG, tG, oG⟩, _, .ref C, some d, rfl, JZ, kZ, zA, atA, ⟨rfl, rfl, ?_⟩, rfl, rfl, noA, rfl, bareG, raises_own oc.exC oc.tyC, q d hd⟩
      intro vs' hv
      cases hv
      rfl
/-- raise x(..) of such a class -/
def vals? : List D → Option (List PD)
  | [] => some []
  | .val d :: r => (vals? r).map (d :: ·)
  | _ => none
@[simp] theorem vals_nil : vals? [] = some [] := rfl
@[simp] theorem vals_cons (d : PD) (r : List D) : vals? (.val d :: r) = (vals? r).map (d :: ·) := rfl
@[simp] def sRaiseF (x : Str) (ns : List Str) (fa : EA) : ES := fun d ρ => fa ρ (fun ds => match vals? ds with
  | some vs => vs.length = ns.length ∧ vs.length ≤ 1000 ∧ vs ≠ [] ∧ d.ex (x, (ns.zip vs).reverse) ρ
  | none => False) (fun z => d.ex z ρ)
theorem fsOk_app {H : Hp} : ∀ {xs us : List (Str × V)} {ys ws : List (Str × PD)}, FsOk H xs ys → FsOk H us ws → FsOk H (xs ++ us) (ys ++ ws)
  | [], _, [], _, _, h => h
  | (_, _) :: _, _, (_, _) :: _, _, ⟨a, b, c⟩, h => ⟨a, b, fsOk_app c h⟩
  | [], _, _ :: _, _, h, _ => h.elim
  | _ :: _, _, [], _, h, _ => h.elim
theorem fsOk_rev {H : Hp} : ∀ {xs : List (Str × V)} {ys : List (Str × PD)}, FsOk H xs ys → FsOk H xs.reverse ys.reverse
  | [], [], _ => trivial
  | (_, _) :: _, (_, _) :: _, ⟨a, b, c⟩ => by
    rw [List.reverse_cons, List.reverse_cons]
    exact fsOk_app (fsOk_rev c) ⟨a, b, trivial⟩
  | [], _ :: _, h => h.elim
  | _ :: _, [], h => h.elim
theorem fsOk_zip {K : PySem.W.Frag} {Hs H : Hp} : ∀ {ns : List Str} {vs : List V} {ds : List D} {xs : List PD}, AllOk K Hs H vs ds → vals? ds = some xs → FsOk H (ns.zip vs) (ns.zip xs)
  | [], _, _, _, _, _ => by simp [FsOk]
  | n :: ns, [], [], xs, _, h => by
    cases h
    simp [FsOk]
  | n :: ns, v :: vs, d :: ds, xs, ⟨a, b⟩, h => by
    cases d with
    | val d =>
      simp only [vals_cons, Option.map_eq_some_iff] at h
      obtain ⟨r, hr, rfl⟩ := h
      exact ⟨rfl, a, fsOk_zip b hr⟩
    | _ => cases h
  | _, [], _ :: _, _, h, _ => h.elim
  | _, _ :: _, [], _, h, _ => h.elim
theorem vals_len {K : PySem.W.Frag} {Hs H : Hp} : ∀ {vs : List V} {ds : List D} {xs : List PD}, AllOk K Hs H vs ds → vals? ds = some xs → vs.length = xs.length
  | [], [], xs, _, h => by cases h; rfl
  | v :: vs, d :: ds, xs, ⟨_, b⟩, h => by
    cases d with
    | val d =>
      simp only [vals_cons, Option.map_eq_some_iff] at h
      obtain ⟨r, hr, rfl⟩ := h
      rw [List.length_cons, List.length_cons, vals_len b hr]
    | _ => cases h
  | [], _ :: _, _, h, _ => h.elim
  | _ :: _, [], _, h, _ => h.elim
theorem ds_raiseF {ns : List Str} {C : Addr} {e : Expr} {es : List Expr} {fa : EA} (hc : X.calm = true) (tk : L2N.Takes X w.W) (hw : w.mg = X.mg) (J : InitC X.prog X.w X.K X.mg X.base x ns C) (hr : Room 2 X.A) (hgu : X.A.guards = some []) (hg : Gl X x) (ha : DA X w (e :: es) fa)
    (hdb : (x == ("__debug__" : Str)) = false := by decide) (he : starEach (e :: es) X.env = (false, eval e X.env) :: starEach es X.env := by rfl) (hpl : (backTo p2 (starEach es X.env)).any (·.1) = false := by rfl) :
    DS X w (.Raise (some (.Call (.Name x p) (e :: es) [] p2)) none pos) (sRaiseF x ns fa) := by
  refine (L2N.ps_raise hc tk (pmk_init J hr hgu tk hg ha hdb he hpl)).imp fun T σ H ⟨B, ρ, d, Fρ, hf, N⟩ => ?_
  refine ⟨B, ρ, _, _, Fρ, hf, fun ds hd vs H1 hs ok => ?_, fun z hz cls dd H1 hs ok => ?_⟩
  · cases ev : vals? ds with
    | none => rw [ev] at hd; exact hd.elim
    | some xs =>
      rw [ev] at hd
      obtain ⟨h1, h2, h3, h4⟩ := hd
      have hl := vals_len ok ev
      refine ⟨by omega, by omega, fun a na => ?_⟩
      have hs2 : Same H (upd H1 a (.xd (ns.zip vs).reverse)) := hs.trans ((Same.refl H1).upd_new na)
      refine N.ex _ _ _ _ _ _ (Fρ.mono hs2) h4 ⟨by rw [hw]; exact J.nm, .inr ⟨?_, a, _, rfl, upd_same, ?_⟩⟩
      · intro z
        have e := congrArg List.length z
        have p := List.length_pos_iff.mpr h3
        simp only [List.length_reverse, List.length_zip, List.length_nil] at e
        omega
      · exact (fsOk_rev (fsOk_zip ok ev)).fx (Same.upd_new (Same.refl H1) na).fx
  · exact N.ex z _ _ _ _ _ (Fρ.mono hs) hz ok
/-! ### a field of a held error -/
theorem fsOk_look {H : Hp} {n : Str} {d : PD} : ∀ {xs : List (Str × V)} {ys : List (Str × PD)}, FsOk H xs ys → ys.lookup n = some d → ∃ v, xs.lookup n = some v ∧ RepF H v d
  | [], [], _, e => by cases e
  | (a, v) :: xs, (b, u) :: ys, ⟨h1, h2, h3⟩, e => by
    subst h1
    rw [List.lookup_cons] at e ⊢
    split at e
    · cases e; exact ⟨v, rfl, h2⟩
    · exact fsOk_look h3 e
  | [], _ :: _, h, _ => h.elim
  | _ :: _, [], h, _ => h.elim
@[simp] def eFld (i : Nat) (er : Er) (c n : Str) : EE := fun ρ P _ => ρ[i]? = some (.ext (errV er)) ∧ er.x.1 = c ∧ match er.x.2.lookup n with
  | some v => P (.val v)
  | none => False
theorem de_fld {er : Er} {i : Nat} {c n fld : Str} {D : Addr} {p1 : Pos} (hE : HotE X er) (hN : X.N[i]? = some n) (hv : Vis X.env.scope n) (hc : X.mg c = some (.ref D)) (C : ExcC X.K D) (hno : PySem.W.findIn X.K (.ref D) fld = some none)
    (hd : (n == ("__debug__" : Str)) = false := by decide) (hcd : (n == ("__classdict__" : Str)) = false := by decide) (hb : attributeBase (.Name n p1) fld X.env (eval (.Name n p1) X.env) = eval (.Name n p1) X.env := by rfl) :
    DE X w (.Attribute (.Name n p1) fld pos) (eFld i er c fld) := by
  refine ⟨fun pins s σ H Q I h => ?_⟩
  obtain ⟨B, ρ, P, E, F, ⟨e1, e2, hf⟩, hP, _⟩ := h
  split at hf
  · rename_i val ev
    obtain ⟨_, _, _, _, fo⟩ := F.slot i _ e1
    refine attr_of hb (thn ((pe_var hN hv hd hcd).run pins s σ H (fun y G => y = .ref er.a ∧ G = H) I ⟨_, err_slot F e1, rfl, rfl⟩) ?_)
    rintro u s1 ⟨y, G, I1, ry, rfl, rfl⟩
    obtain rfl : u = Value.ref er.a := ry
    obtain ⟨ob, cls, hp, hot, ⟨z1, z2⟩, ⟨fs, hfs⟩, gm, _⟩ := hE
    have gc : cls = .ref D := by
      rw [e2] at gm
      exact Option.some.inj (gm.symm.trans hc)
    subst gc
    have there := (I1.pin (er.a, ob) (List.mem_append_left _ hp)).1
    rcases fo with ⟨e0, _⟩ | ⟨_, dd, vs, ed, ea, fo⟩
    · rw [e0] at ev; cases ev
    · obtain ⟨y, ey, rp⟩ := fsOk_look fo ev
      obtain ⟨⟨mA, hns, rel⟩, _⟩ : ObjOk X.prog X.w G s1.heap dd (.xd vs) ∧ True := ⟨I1.hok dd _ ea, trivial⟩
      obtain ⟨od, ho, look⟩ := lookIn_ns hns
      obtain ⟨z, hz, rz⟩ := RelO.some_of (v := y) (o := mA fld) (by rw [← ey]; exact rel fld)
      have J : PySem.W.InstAt s1.heap er.a ob D (some od) := by
        refine ⟨there, z1, ?_, ?_⟩
        · unfold PySem.W.notCls; rw [hfs]
        · rw [z2, ed]; exact ho
      exact HandSPX.exc_get I1.kIn J C.hg C.hk C.hs (PySem.W.findObj_own C.hd hno rfl (by rw [look, hz])) (handed_of rz) ⟨y, G, I1.tok _, rz, hP _ hf _ _ (Same.refl G) rp⟩
  · exact hf.elim
end
end Cr
set_option maxHeartbeats 4000000
/-! Fw62: isinstance of held errors that have fields -/
namespace Cr
open PySem PySem.Spec PyProof.Rows L2
open PySem.W (InstAt findObj)
section
variable {prog : Program} {w : World} {A : Around} {E : Value → Shared → Prop} {s : Shared} {K : PySem.W.Frag} {x D : Addr} {ox : Obj} {od : Option Obj}
theorem find_cls (C : ExcC K D) : findObj K D od "__class__" = some (.bind (.builtin "getset_descriptor.__get__") (.builtin "object.__class__")) := by
  obtain ⟨cd, hc, _⟩ := PySem.W.any_some C.hd
  unfold findObj
  rw [hc, Option.bind_some, C.ha, Option.bind_some]
  simp [C.hn, C.ht]
/-- e.__class__ of an error, with a dict of its own or without -/
theorem cls_of_err {Q : Option Value → Shared → Prop} (C : ExcC K D) (X : K.In s.heap) (I : InstAt s.heap x ox D od) (q : Q (some (.ref D)) { s with toks := s.toks + 1 }) :
    wpAny (model prog w) A (getAttr? (.ref x) "__class__") Q E s := by
  rcases s with ⟨hp, gs, dr, tc, os⟩
  have kind := I.type (M := model prog w)
  have by1 := PySem.W.looks_findIn (M := model prog w) X C.hg
  have by2 := PySem.W.looks_findIn (M := model prog w) X C.hk
  have by3 := PySem.W.looks_find (M := model prog w) X I (find_cls C)
  have isExc : PySem.W.Looks (model prog w) hp (isInstance (.ref x) (.type "BaseException")) true := by
    refine kind.andThen ?_
    exact PySem.W.looks_subIn X C.hs
  have other : (Value.builtin "BaseException.__getattribute__" == Value.builtin "object.__getattribute__") = false := by decide +kernel
  have plain1 : (onTheHeap (Value.ref D) && Value.builtin "BaseException.__getattribute__" == Value.builtin "object.__getattribute__") = false :=
    by rw [other]; rfl
  unfold getAttr? getAttrBy? getAttrBy
  refine wpAny_bind (wpAny_mkText (wpAny_bind (wpAny_attempt (wpAny_holding (wpAny_bind (kind.at (wpAny_bind (by1.at ?_))))))))
  change wpAny _ _ (if (onTheHeap (Value.ref D) && Value.builtin "BaseException.__getattribute__" == Value.builtin "object.__getattribute__") = true then _ else _) _ _ _
  rw [plain1, if_neg Bool.false_ne_true]; unfold getAttrByItsOwn hookBefore
  apply wpAny_bind; rw [if_pos (show onTheHeap (Value.ref D) = true from rfl)]
  apply by2.at; refine wpAny_bind (wpAny_attempt (wpAny_holding ?_))
  unfold callGetattribute; rw [show (false && onTheHeap (Value.builtin "BaseException.__getattribute__")) = false from rfl, if_neg Bool.false_ne_true]
  unfold boundAndCalled; rw [PySem.F.excAttr_ValueError.ga.bind (.ref x)]
  apply wpAny_bind; apply wpAny_pure
  change wpAny _ _ (call (.builtin "BaseException.__getattribute__") [.ref x, .str "__class__" tc]) _ _ _
  refine wpAny_call (codeAny_call_builtin PySem.F.excAttr_ValueError.ga.plain PySem.F.entry_bexc_ga ?_)
  refine @PySem.W.check_slot (model prog w) _ _ ⟨hp, gs, dr, tc + 1, os⟩ "BaseException.__getattribute__" "BaseException" "__getattribute__" (.ref x) [.str "__class__" tc] [] _ (by decide +kernel) (by decide +kernel) isExc
    (PySem.F.args_bexc_ga (.ref x) (.str "__class__" tc)) ?_
  unfold Builtin.«object.__getattribute__»
  refine wpAny_bind (wpAny_of_eq (a := ((Value.ref x : Value), [Value.str "__class__" tc])) (by first | rfl | (simp only [slotArgs]; rfl)) (wpAny_bind (wpAny_pure (wpAny_bind (kind.at (wpAny_bind (by3.at ?_)))))))
  change wpAny _ _ (holding [Value.builtin "object.__class__"] (call (.builtin "getset_descriptor.__get__") [.builtin "object.__class__", .ref x, .ref D]) >>= ret) _ _ _
  refine wpAny_bind (wpAny_holding (wpAny_call (PySem.W.class_get (s := ⟨hp, gs, dr, tc + 1, os⟩) (ox := ox) (od := od) X I C.hm (wpAny_pure ?_))))
  change wpAny _ _ (handedOut (.ref D)) _ _ _
  rw [PySem.W.handedOut_of (v := .ref D) rfl]
  first
    | exact wpAny_pure (wpAny_pure q)
    | exact wpAny_pure q
    | exact wpAny_pure (wpAny_bind (wpAny_pure (wpAny_pure q)))
theorem kitx_err (C : ExcC K D) : PySem.W.KitX K (.ref x) (.ref D) (fun h => InstAt h x ox D od) where
  ty := fun M h _ J => InstAt.type J
  it := fun M h X I A Q E s k q => by
    obtain ⟨cd, hc, _⟩ := PySem.W.any_some C.hd
    unfold PySem.W.clsIn at hc
    split at hc
    · rename_i eo
      unfold isType loadHead
      exact wpAny_bind (wpAny_loadPart (k _ _ (X _ _ eo)) (wpAny_pure q))
    · cases hc
  ne := fun h tp dd its n sl X htp => by
    obtain ⟨cd, hc, _⟩ := PySem.W.any_some C.hd
    cases hq : (Value.ref D == Value.ref tp) with
    | false => rfl
    | true =>
      obtain rfl : D = tp := Value.ref.inj (beq_iff_eq.mp hq)
      unfold PySem.W.clsIn at hc
      split at hc
      · rename_i eo
        cases (X _ _ eo).symm.trans htp
      · cases hc
  ca := fun X I k => cls_of_err C X I k
end
section
variable {X : Cx} {w : Wx} {er : Er} {i : Nat} {n y : Str} {p p1 p2 pos : Pos}
theorem call_isErrF {D : Addr} (hE : HotE X er) (g : X.mg er.x.1 = some (.ref D)) (C : ExcC X.K D) : CallR X (.builtin "isinstance") (fun xs H Q => FldOk H er.x er.d ∧ rIsE X.K D er.a xs H Q) := by
  intro pins s σ H xs us Q I r h
  obtain ⟨fo, b, q, h⟩ := h
  obtain ⟨ob, cls, hp, hot, ⟨z1, z2⟩, ⟨fs, hfs⟩, gm, hd⟩ := hE
  have hget := (I.pin (er.a, ob) (List.mem_append_left _ hp)).1
  obtain rfl : cls = .ref D := Option.some.inj (gm.symm.trans g)
  obtain ⟨od, J⟩ : ∃ od, InstAt s.heap er.a ob D od := by
    rcases fo with ⟨_, ed⟩ | ⟨_, dd, vs, ed, ea, _⟩
    · refine ⟨none, hget, z1, ?_, ?_⟩
      · unfold PySem.W.notCls; rw [hfs]
      · rw [z2, ed]; trivial
    · obtain ⟨⟨mA, hns, _⟩, _⟩ : ObjOk X.prog X.w H s.heap dd (.xd vs) ∧ True := ⟨I.hok dd _ ea, trivial⟩
      obtain ⟨od, ho, _⟩ := lookIn_ns hns
      refine ⟨some od, hget, z1, ?_, ?_⟩
      · unfold PySem.W.notCls; rw [hfs]
      · rw [z2, ed]; exact ho
  have Z : PySem.W.KitX X.K (.ref er.a) (.ref D) (fun h => InstAt h er.a ob D od) := kitx_err C
  rcases h with ⟨c, cv, rfl, hc, e⟩ | ⟨t, vs, cs, rfl, et, hc, e⟩
  · cases r with
    | cons rx rr =>
      cases rr with
      | cons rt rr =>
        cases rr
        cases rx
        have := hc.uniq rt
        subst this
        exact PySem.W.kia_one Z I.kIn J e (fun z => nomatch z) fun tk => ⟨.bl b, H, I.kept (t' := tk) fun _ _ z => z, rfl, q⟩
  · cases r with
    | cons rx rr =>
      cases rr with
      | cons rt rr =>
        cases rr
        cases rx
        cases rt
        obtain ⟨its, rv, ⟨o, eo, oc, n, od'⟩, _⟩ := I.tuple (.of et)
        have := clsVs_uniq hc rv
        subst this
        obtain ⟨c', d', da', sl'⟩ := o
        dsimp only at oc od'
        subst oc od'
        exact PySem.W.kia_tup (its := its) Z I.kIn J eo (by simpa using e) (fun z => nomatch z) fun tk => ⟨.bl b, H, I.kept (t' := tk) fun _ _ z => z, rfl, q⟩
@[simp] def eIsF (i : Nat) (er : Er) (ts : List Tbl) : EE := fun ρ P _ => ρ[i]? = some (.ext (errV er)) ∧ match anyT ts er.x.1 with
  | some b => P (.val (.bool b))
  | none => False
theorem de_isErrF {c : Value} {v : V} {t : Tbl} (hE : HotE X er) (hN : X.N[i]? = some n) (hv : Vis X.env.scope n) (hg : Gl X "isinstance") (hm : X.mg "isinstance" = none) (hc : Names X y c) (hcv : ClsV v c) (ht : ErrT X.K X.mg c t)
    (hd : (n == ("__debug__" : Str)) = false := by decide) (hcd : (n == ("__classdict__" : Str)) = false := by decide)
    (he : starEach (.Name n p1 :: [.Name y p2]) X.env = (false, eval (.Name n p1) X.env) :: starEach [.Name y p2] X.env := by rfl) (he2 : starEach [.Name y p2] X.env = (false, eval (.Name y p2) X.env) :: starEach [] X.env := by rfl)
    (hpl : (backTo pos (starEach [.Name y p2] X.env)).any (·.1) = false := by rfl) :
    DE X w (.Call (.Name "isinstance" p) [.Name n p1, .Name y p2] [] pos) (eIsF i er [t]) := by
  refine ⟨fun pins s σ H Q I h => ?_⟩
  obtain ⟨B, ρ, P, E, F, hf, hP, hE'⟩ := h
  obtain ⟨e1, hf⟩ := hf
  obtain ⟨_, _, _, _, fo⟩ := F.slot i _ e1
  split at hf
  · rename_i b eb
    obtain ⟨D, g, C⟩ := errT_at (cs := []) (c := c) (.cons ht .nil) eb
    have k := anyT_ok (cs := [c]) g (.cons ht .nil) eb
    have k1 : PySem.W.kitOne X.K (.ref D) c = some b := by
      unfold PySem.W.kitAny at k
      split at k
      · rename_i q; cases k; exact q
      · rename_i q; unfold PySem.W.kitAny at k; cases k; exact q
      · cases k
    exact (pe_callB (call_isErrF hE g C) hg hm (by decide +kernel) (pa_cons (pe_var hN hv hd hcd) (pa_cons (pe_names hc hcv) pa_nil he2) he) (by decide) (by decide) he hpl).run pins s σ H Q I
      ⟨.ref er.a, err_slot F e1, fo, b, hP _ hf _ H (Same.refl H) (.bl b), .inl ⟨v, c, rfl, hcv, k1⟩⟩
  · exact hf.elim
theorem de_isErrTF {es : List Expr} {vs : List V} {cs : List Value} {t : Tbl} {ts : List Tbl} {k : Nat} (hE : HotE X er) (hN : X.N[i]? = some n) (hv : Vis X.env.scope n) (hg : Gl X "isinstance") (hm : X.mg "isinstance" = none) (hc : ClsEs X es vs cs (t :: ts)) (hl : vs.length ≤ 1000 := by simp)
    (hd : (n == ("__debug__" : Str)) = false := by decide) (hcd : (n == ("__classdict__" : Str)) = false := by decide)
    (he : starEach (.Name n p1 :: [.Tuple es k p2]) X.env = (false, eval (.Name n p1) X.env) :: starEach [.Tuple es k p2] X.env := by rfl) (he2 : starEach [.Tuple es k p2] X.env = (false, eval (.Tuple es k p2) X.env) :: starEach [] X.env := by rfl)
    (hpl : (backTo pos (starEach [.Tuple es k p2] X.env)).any (·.1) = false := by rfl) :
    DE X w (.Call (.Name "isinstance" p) [.Name n p1, .Tuple es k p2] [] pos) (eIsF i er (t :: ts)) := by
  refine ⟨fun pins s σ H Q I h => ?_⟩
  obtain ⟨B, ρ, P, E, F, hf, hP, hE'⟩ := h
  obtain ⟨e1, hf⟩ := hf
  obtain ⟨_, _, _, _, fo⟩ := F.slot i _ e1
  split at hf
  · rename_i b eb
    have hce := hc.err
    obtain ⟨D, g, C⟩ : ∃ D, X.mg er.x.1 = some (.ref D) ∧ ExcC X.K D := by
      match cs, hce with
      | c :: cs, hce => exact errT_at hce eb
    have kk := anyT_ok g hce eb
    refine (pe_callB (call_isErrF hE g C) hg hm (by decide +kernel) (pa_cons (pe_var hN hv hd hcd) (pa_cons (pe_tup hc.pa) pa_nil he2) he) (by decide) (by decide) he hpl).run pins s σ H Q I ?_
    refine ⟨.ref er.a, err_slot F e1, by have := sizeLine_big; omega, fun tp np => ?_⟩
    have s2 := (Same.refl H).upd_new (o := .tup vs) np
    exact ⟨fo.fx s2.fx, b, hP _ hf _ _ s2 (.bl b), .inr ⟨tp, vs, cs, rfl, upd_same, hc.cls, kk⟩⟩
  · exact hf.elim
end
end Cr
set_option maxHeartbeats 4000000
/-! Fw63: draws from a deck below a bound that is told -/
namespace Cr
open PySem PySem.Spec PyProof.Rows L2
def kapN (ns : List Int) : Prop := ∀ n ∈ ns, 0 ≤ n ∧ n < 2 ^ 60
def c_l_next2 : DSp := fun ds P _ => ∃ m : Int, ds = [.ext (dice kapN), .val (.int m)] ∧ 0 < m ∧ ∀ r : Int, 0 ≤ r → r < m → P (.val (.int r))
section
variable {P : Program} {w : World} {K : PySem.W.Frag} {mg : Str → Option Value} {base : Heap}
theorem next2_of {x qual : Str} {st : Stmt} {f : Addr} {fd : FuncData} {N ps : List Str} (hN : N.length = 2) (F : Fun K x qual st f fd) (S : FnScope N ps (defScope st)) (hps : ps.length = 2)
    (hbody : ∀ (cdv : Value) (A : Around) (outer : List Env) (s : Shared) (H : Hp) (E : XK), Room 0 (A.deeper (envOfC qual (defScope st) s.heap.objs.size f cdv)) → ∃ t, PSs (cxOf (L2N.CX P w) P w K mg base N qual (defScope st) f cdv A outer s H E) (defBody st) t ∧ ∀ (a : Addr) (ns : List Int) (m : Int) (T : Ends) (H : Hp), H a = some (.lst (ns.map V.int)) → 0 < m →
      (ns = [] → ∀ p, H p = none → T.rt (.int 0) (upd H p (.lst []))) → (∀ n, ns.getLast? = some n → ∀ p, H p = none → T.rt (.int (n % m)) (upd (upd H p (.lst [])) a (.lst (ns.dropLast.map V.int)))) → t T [some (.ref a), some (.int m)] H) :
    FnD P w K mg base 1 f fd ps c_l_next2 := by
  refine fnG_of F S ?_ ?_
  · rintro vs H Q E ⟨ds, P, E', hl, ha, _⟩
    rw [ha.length, hl]
  · rintro cdv A outer s H vs Q E hr hg ⟨ds, P', E', hl, ha, ⟨m, rfl, m0, hS⟩, hP, hE⟩
    obtain ⟨t, ht, hq⟩ := hbody cdv A outer s H E hr
    refine ⟨_, pss_open (pss_close ht), ?_⟩
    match vs, ha with
    | [v, u], ha =>
      obtain ⟨⟨_, a, rfl, ea⟩, hn, _⟩ := ha
      cases hn
      refine ⟨a, kapN, ea, ?_⟩
      intro ns kn
      have est : L2.start N [V.ref a, V.int m] = [some (.ref a), some (.int m)] := by unfold L2.start; rw [hN]; rfl
      rw [est]
      refine ⟨a, kapN, hq a ns m _ _ upd_same m0 (fun e p np => ?_) fun n hn p np => ?_⟩
      · have hpa : a ≠ p := fun e => by subst e; rw [upd_same] at np; cases np
        have np' : H p = none := by rwa [upd_ne (Ne.symm hpa)] at np
        refine ⟨ns, by rw [upd_ne hpa, upd_same], kn, ?_⟩
        have e : upd (upd (upd H a (.lst (ns.map V.int))) p (.lst [])) a (.ext (dcF kapN a)) = upd H p (.lst []) := by
          funext b
          by_cases h1 : b = a
          · subst h1; rw [upd_same, upd_ne hpa, ea]
          · rw [upd_ne h1]
            by_cases h2 : b = p
            · subst h2; rw [upd_same, upd_same]
            · rw [upd_ne h2, upd_ne h1, upd_ne h2]
        rw [e]
        exact hP _ (hS 0 (by omega) m0) _ _ ((Same.refl H).upd_new np') (.int 0)
      · have hpa : a ≠ p := fun e => by subst e; rw [upd_same] at np; cases np
        have np' : H p = none := by rwa [upd_ne (Ne.symm hpa)] at np
        refine ⟨ns.dropLast, upd_same, fun k hk => kn k (List.dropLast_subset _ hk), ?_⟩
        have e : upd (upd (upd (upd H a (.lst (ns.map V.int))) p (.lst [])) a (.lst (ns.dropLast.map V.int))) a (.ext (dcF kapN a)) = upd H p (.lst []) := by
          funext b
          by_cases h1 : b = a
          · subst h1; rw [upd_same, upd_ne hpa, ea]
          · rw [upd_ne h1, upd_ne h1]
            by_cases h2 : b = p
            · subst h2; rw [upd_same, upd_same]
            · rw [upd_ne h2, upd_ne h1, upd_ne h2]
        rw [e]
        exact hP _ (hS _ (Int.emod_nonneg _ (by omega)) (Int.emod_lt_of_pos _ m0)) _ _ ((Same.refl H).upd_new np') (.int _)
theorem eqv_nil (ns : List Int) : PyData.eqv (.list (ns.map .int)) (.list []) = decide (ns = []) := by
  cases ns with
  | nil => rfl
  | cons n ns => simp [PyData.eqv, PyData.eqvAll]
end
end Cr
set_option maxHeartbeats 4000000
/-! Fw64: what an own error class with __init__ is; defs that are never reached -/
namespace Cr
open PySem PySem.Spec PyProof.Rows L2
theorem tail_refs : ∀ l : List Value, PySem.W.excTail bmVE l = PySem.HandSPX.refsVE l := by
  intro l
  induction l with
  | nil => rfl
  | cons a r ih => cases a <;> first | exact ih | rfl
theorem oex_cls {K : PySem.W.Frag} {C : Addr} (e : PySem.W.excInitIn K C bmVE "ValueError.__new__" = true) (hd : PySem.W.hasDictIn K C = true) :
    ∃ nm q N bs bm sn sub ab col dd k0 k1 k2 k3 k5, K.lookup C = some (excClassObj nm q C N bs bm true sn sub ab col dd k0 k1 k2 k3 k5 "ValueError.__new__") ∧ PySem.HandSPX.refsVE bm = true := by
  unfold PySem.W.excInitIn at e
  split at e
  · rename_i dd cd sl look
    split at e
    · rename_i C' bm k0 k1 k2 k3 n k5 hmro hsl
      simp only [Bool.and_eq_true, beq_iff_eq, Bool.not_eq_true'] at e
      obtain ⟨⟨⟨e1, e2⟩, e3⟩, e4⟩ := e
      subst e1 e2
      have full : cd.hasDict = true := by
        obtain ⟨cd', h1, h2⟩ := PySem.W.any_some hd
        unfold PySem.W.clsIn at h1
        rw [look] at h1
        cases h1
        exact h2
      rcases cd with ⟨nm, bs, mro, N, q, hdict, sn, sub, ab, col, hdel⟩
      dsimp only at hmro e3 full
      subst hmro e3 full
      have slots : sl = #[k0, k1, k2, k3, some (.builtin "ValueError.__new__"), k5] := by
        rcases sl with ⟨l⟩
        exact congrArg _ hsl
      subst slots
      exact ⟨nm, q, N, bs, bm, sn, sub, ab, col, dd, k0, k1, k2, k3, k5, look, by rw [← tail_refs]; exact e4⟩
    · cases e
  · cases e
theorem fnD_never {P : Program} {w : World} {K : PySem.W.Frag} {mg : Str → Option Value} {base : Heap} {k : Nat} {f : Addr} {fd : FuncData} {ps : List Str} : FnD P w K mg base k f fd ps (fun _ _ _ => False) :=
  ⟨fun _ _ _ _ h => by obtain ⟨_, _, _, _, _, h, _⟩ := h; exact h.elim, fun _ _ _ _ _ _ _ _ _ _ _ _ _ _ h => by obtain ⟨_, _, _, _, _, h, _⟩ := h; exact h.elim⟩
end Cr
set_option maxHeartbeats 4000000
/-! Fw65: hubs; the closing of a forest with a hub lacks ties -/
namespace Cr
open PySem PySem.Spec PyProof.Rows L2
def hubTs (n : Int) : List (Int × Int) := (up 0 n.toNat).map fun p => (p, n)
def hubW (W : Wb) : Wb := ⟨W.n + 1, srtP (W.ts ++ hubTs W.n)⟩
theorem mem_hubTs {n : Int} {t : Int × Int} : t ∈ hubTs n ↔ 0 ≤ t.1 ∧ t.1 < n ∧ t.2 = n := by
  unfold hubTs
  rw [List.mem_map]
  constructor
  · rintro ⟨p, hp, rfl⟩
    have := mem_up.mp hp
    exact ⟨by omega, by show p < n; omega, rfl⟩
  · rintro ⟨h1, h2, h3⟩
    exact ⟨t.1, mem_up.mpr (by omega), Prod.ext rfl h3.symm⟩
theorem hub_ok {W : Wb} (hW : WebOk W) (h : W.n ≤ 19) : WebOk (hubW W) := by
  have h3 := hW.lo
  have ts : TsR (W.n + 1) (W.ts ++ hubTs W.n) := by
    refine ⟨List.nodup_append.mpr ⟨hW.ts.nodup, ?_, fun s hs t ht e => ?_⟩, fun t ht => ?_⟩
    · unfold hubTs
      rw [List.Nodup, List.pairwise_map]
      exact (up_inc 0 W.n.toNat).imp fun {x y} h e => by cases e; omega
    · subst e
      have a := hW.ts.1 s hs
      have b := mem_hubTs.mp ht
      omega
    · rcases List.mem_append.mp ht with ht | ht
      · have := hW.ts.1 t ht; omega
      · have := mem_hubTs.mp ht; omega
  exact ts.web (by omega) (by omega)
theorem hub_mem {W : Wb} {t : Int × Int} : t ∈ (hubW W).ts ↔ t ∈ W.ts ∨ (0 ≤ t.1 ∧ t.1 < W.n ∧ t.2 = W.n) := by
  show t ∈ srtP _ ↔ _
  rw [mem_srtP, List.mem_append, mem_hubTs]
theorem hub_deg (W : Wb) {v : Int} (h1 : v < W.n) : deg (hubW W) v ≤ deg W v + 1 := by
  unfold deg
  show degT (srtP _) v ≤ _
  rw [degT_srt, degT_app]
  have : degT (hubTs W.n) v ≤ 1 := by
    unfold degT hubTs
    rw [List.countP_map, List.countP_eq_length_filter]
    have : ((up 0 W.n.toNat).filter ((fun q : Int × Int => decide (q.1 = v ∨ q.2 = v)) ∘ fun p => (p, W.n))).length ≤ [v].length := by
      refine List.Nodup.length_le_of_subset (List.Nodup.sublist List.filter_sublist ((up_inc 0 W.n.toNat).imp fun {x y} h => (show x ≠ y by omega))) fun x hx => ?_
      have := of_decide_eq_true (List.mem_filter.mp hx).2
      rw [List.mem_singleton]
      rcases this with h | h
      · exact h
      · have : W.n = v := h
        omega
    simp only [List.length_cons, List.length_nil] at this
    omega
  omega
def Touch (a b h : Int) (ts : List (Int × Int)) : Prop := ∀ t ∈ ts, (t.1 = a ∨ t.1 = b ∨ t.1 = h) ∨ (t.2 = a ∨ t.2 = b ∨ t.2 = h)
theorem touch_deg {V : Wb} (hV : WebOk V) {a b h x : Int} (T : Touch a b h V.ts) (ha : x ≠ a) (hb : x ≠ b) (hh : x ≠ h) : deg V x ≤ 3 := by
  unfold deg
  rw [← found_len]
  have : (found V.ts x).length ≤ [a, b, h].length := by
    refine List.Nodup.length_le_of_subset (found_nodup hV.ts x) fun y hy => ?_
    obtain ⟨q, hq, e⟩ := List.mem_filterMap.mp hy
    have := T q hq
    unfold otherOf at e
    simp only [List.mem_cons, List.not_mem_nil, or_false]
    split at e
    · cases e; omega
    · split at e
      · cases e; omega
      · cases e
  simp only [List.length_cons, List.length_nil] at this
  omega
theorem two_cover {A B : Int × Int → Bool} : ∀ {ts : List (Int × Int)}, (∀ t ∈ ts, ¬ (A t = true ∧ B t = true)) → ts.countP A + ts.countP B ≤ ts.length ∧ (ts.length ≤ ts.countP A + ts.countP B → ∀ t ∈ ts, A t = true ∨ B t = true)
  | [], _ => ⟨Nat.le_refl _, fun _ t ht => by cases ht⟩
  | t :: ts, h => by
    obtain ⟨h1, h2⟩ := two_cover (A := A) (B := B) fun s hs => h s (List.mem_cons_of_mem _ hs)
    have h0 := h t List.mem_cons_self
    rw [List.countP_cons, List.countP_cons, List.length_cons]
    cases ea : A t <;> cases eb : B t
    · refine ⟨by simp; omega, fun g => ?_⟩
      simp at g
      omega
    · refine ⟨by simp; omega, fun g s hs => ?_⟩
      simp at g
      rcases List.mem_cons.mp hs with rfl | hs
      · exact .inr eb
      · exact h2 (by omega) s hs
    · refine ⟨by simp; omega, fun g s hs => ?_⟩
      simp at g
      rcases List.mem_cons.mp hs with rfl | hs
      · exact .inl ea
      · exact h2 (by omega) s hs
    · exact absurd ⟨ea, eb⟩ h0
theorem Steps.uncons {more : Int} {V : Wb} {p : Int × Int} {ps : List (Int × Int)} (h : Steps more V (p :: ps)) : WebOk V ∧ (putsOf V more).head? = some p ∧ Steps more (V.put p) ps := by
  obtain ⟨h1, h2⟩ := h [] p ps rfl
  refine ⟨h1, h2, fun a q b e => ?_⟩
  subst e
  exact h (p :: a) q b rfl
theorem touch_all {a b h : Int} : ∀ {ps : List (Int × Int)} {V : Wb}, 9 ≤ V.n → Touch a b h V.ts → Steps 0 V ps → Touch a b h (after V ps).ts
  | [], _, _, T, _ => T
  | p :: ps, V, h9, T, st => by
    obtain ⟨hV, hp, st'⟩ := st.uncons
    obtain ⟨rp, ip⟩ := mem_puts.mp (List.mem_of_mem_head? hp)
    refine touch_all (ps := ps) (V := V.put p) h9 (fun t ht => ?_) st'
    have ht : t ∈ V.ts ++ [p] := mem_after (ps := [p]) (W := V).mp ht
    rcases List.mem_append.mp ht with ht | ht
    · exact T t ht
    · rw [List.mem_singleton] at ht
      subst ht
      refine Classical.byContradiction fun no => ?_
      have d1 := touch_deg hV T (x := t.1) (by omega) (by omega) (by omega)
      have d2 := touch_deg hV T (x := t.2) (by omega) (by omega) (by omega)
      have := ip.1
      omega
theorem two_free (x y : Int) : ∃ a b : Int, 0 ≤ a ∧ a < b ∧ b ≤ 3 ∧ a ≠ x ∧ a ≠ y ∧ b ≠ x ∧ b ≠ y := by
  by_cases h0 : 0 = x ∨ 0 = y
  · by_cases h1 : 1 = x ∨ 1 = y
    · exact ⟨2, 3, by omega, by omega, by omega, by omega, by omega, by omega, by omega⟩
    · by_cases h2 : 2 = x ∨ 2 = y
      · exact ⟨1, 3, by omega, by omega, by omega, by omega, by omega, by omega, by omega⟩
      · exact ⟨1, 2, by omega, by omega, by omega, by omega, by omega, by omega, by omega⟩
  · by_cases h1 : 1 = x ∨ 1 = y
    · by_cases h2 : 2 = x ∨ 2 = y
      · exact ⟨0, 3, by omega, by omega, by omega, by omega, by omega, by omega, by omega⟩
      · exact ⟨0, 2, by omega, by omega, by omega, by omega, by omega, by omega, by omega⟩
    · exact ⟨0, 1, by omega, by omega, by omega, by omega, by omega, by omega, by omega⟩
/-- the closing of a web of few ties with a hub lacks ties -/
theorem hub_open {W : Wb} (hW : WebOk W) (h8 : 8 ≤ W.n) (h19 : W.n ≤ 19) (hl : (W.ts.length : Int) ≤ W.n - 1) {ps : List (Int × Int)} (st : Steps 0 (hubW W) ps) : after (hubW W) ps ≠ ⟨W.n + 1, allPairs (W.n + 1)⟩ := by
  intro e
  have et : (after (hubW W) ps).ts = allPairs (W.n + 1) := congrArg Wb.ts e
  match ps, st, et with
  | [], _, et =>
    have el : (hubW W).ts.length = (allPairs (W.n + 1)).length := congrArg List.length et
    have e1 : (hubW W).ts.length = W.ts.length + W.n.toNat := by
      show (srtP _).length = _
      rw [srtP_len, List.length_append]
      unfold hubTs
      rw [List.length_map, up_length]
    have e2 := all_len2 (n := W.n + 1) (by omega) (by omega)
    have : W.n = 8 ∨ W.n = 9 ∨ W.n = 10 ∨ W.n = 11 ∨ W.n = 12 ∨ W.n = 13 ∨ W.n = 14 ∨ W.n = 15 ∨ W.n = 16 ∨ W.n = 17 ∨ W.n = 18 ∨ W.n = 19 := by omega
    rcases this with h | h | h | h | h | h | h | h | h | h | h | h <;> (rw [h] at e2 el; omega)
  | p :: ps, st, et =>
    obtain ⟨hV, hp, _⟩ := st.uncons
    obtain ⟨rp, i1, i2⟩ := mem_puts.mp (List.mem_of_mem_head? hp)
    have hn : (hubW W).n = W.n + 1 := rfl
    rw [hn] at rp i1
    rw [hub_mem] at i2
    have p2 : p.2 < W.n := by omega
    have d1 := hub_deg W (v := p.1) (by omega)
    have d2 := hub_deg W (v := p.2) p2
    have sum : W.ts.length ≤ W.ts.countP (fun q => decide (q.1 = p.1 ∨ q.2 = p.1)) + W.ts.countP (fun q => decide (q.1 = p.2 ∨ q.2 = p.2)) := by
      have a1 : deg W p.1 = ((W.ts.countP fun q => decide (q.1 = p.1 ∨ q.2 = p.1) : Nat) : Int) := rfl
      have a2 : deg W p.2 = ((W.ts.countP fun q => decide (q.1 = p.2 ∨ q.2 = p.2) : Nat) : Int) := rfl
      omega
    have cover := (two_cover (ts := W.ts) (A := fun q => decide (q.1 = p.1 ∨ q.2 = p.1)) (B := fun q => decide (q.1 = p.2 ∨ q.2 = p.2)) fun t ht hab => by
      have h1 := of_decide_eq_true hab.1
      have h2 := of_decide_eq_true hab.2
      have := hW.ts.1 t ht
      have : t = p := Prod.ext (by omega) (by omega)
      subst this
      exact i2 (.inl ht)).2 sum
    have T : Touch p.1 p.2 W.n (hubW W).ts := fun t ht => by
      rcases hub_mem.mp ht with ht | ht
      · rcases cover t ht with h | h
        · have := of_decide_eq_true h; omega
        · have := of_decide_eq_true h; omega
      · omega
    have T2 := touch_all (by rw [hn]; omega) T st
    obtain ⟨a, b, a0, ab, b3, q1, q2, q3, q4⟩ := two_free p.1 p.2
    have hm : (a, b) ∈ allPairs (W.n + 1) := mem_all.mpr ⟨a0, ab, by show b < _; omega⟩
    rw [← et] at hm
    have := T2 _ hm
    simp only at this
    omega
end Cr
set_option maxHeartbeats 4000000
/-! Fw66: what are no held ties; webs of few ties have no put; a star has a bar -/
namespace Cr
open PySem PySem.Spec PyProof.Rows L2
theorem held_none {W : Wb} {xs : List PD} (h : ∃ x ∈ xs, ∀ t, x = encPr t → t ∉ W.ts) : heldOf W (.tuple xs) = none := by
  cases e : heldOf W (.tuple xs) with
  | none => rfl
  | some hs =>
    obtain ⟨e1, ok⟩ := heldOf_some e
    injection e1 with e1
    subst e1
    obtain ⟨x, hx, hn⟩ := h
    obtain ⟨t, ht, rfl⟩ := List.mem_map.mp hx
    exact absurd (ok.ts t ht) (hn t rfl)
theorem held_not {W : Wb} {hs : List (Int × Int)} (h : ¬ HeldOk W hs) : heldOf W (.tuple (hs.map encPr)) = none := by simp [heldOf, h]
theorem held_pair {W : Wb} (hW : WebOk W) {a b : Int} (h : ¬ (0 ≤ a ∧ a < b ∧ b < W.n)) : heldOf W (.tuple [.tuple [.int a, .int b]]) = none :=
  held_none ⟨_, List.mem_singleton.mpr rfl, fun t e ht => by
    injection e with e
    injection e with e1 e
    injection e with e2 e
    injection e1 with e1
    injection e2 with e2
    have := hW.ts.1 t ht
    omega⟩
theorem few_puts {W : Wb} (hW : WebOk W) (hl : (W.ts.length : Int) ≤ W.n - 1) {k : Int} (hk : 0 ≤ k) : putsOf W k = [] := by
  refine List.eq_nil_iff_forall_not_mem.mpr fun p hp => ?_
  obtain ⟨rp, i1, i2⟩ := mem_puts.mp hp
  have := (two_cover (ts := W.ts) (A := fun q => decide (q.1 = p.1 ∨ q.2 = p.1)) (B := fun q => decide (q.1 = p.2 ∨ q.2 = p.2)) fun t ht hab => by
    have h1 := of_decide_eq_true hab.1
    have h2 := of_decide_eq_true hab.2
    have := hW.ts.1 t ht
    have : t = p := Prod.ext (by omega) (by omega)
    subst this
    exact i2 ht).1
  have a1 : deg W p.1 = ((W.ts.countP fun q => decide (q.1 = p.1 ∨ q.2 = p.1) : Nat) : Int) := rfl
  have a2 : deg W p.2 = ((W.ts.countP fun q => decide (q.1 = p.2 ∨ q.2 = p.2) : Nat) : Int) := rfl
  omega
def star8 : Wb := ⟨8, (up 1 7).map fun p => (0, p)⟩
theorem star8_ts : star8.ts = [(0, 1), (0, 2), (0, 3), (0, 4), (0, 5), (0, 6), (0, 7)] := by decide +kernel
theorem star8_ok : WebOk star8 := ⟨by decide, by decide, by rw [star8_ts]; decide, by
  rw [star8_ts]
  simp [Cr.lexLt]⟩
theorem star8_joined {L : List Int} (h0 : (0 : Int) ∉ L) {a b : Int} (ha : a ∈ L) (h : Joined star8 L a b) : a = b := by
  induction h with
  | refl => rfl
  | step h e m ih =>
    subst ih
    rename_i q
    have hm := adj_tie.mp e
    unfold star8 at hm
    obtain ⟨p, hp, et⟩ := List.mem_map.mp hm
    have := congrArg Prod.fst et
    unfold tieOf at this
    simp only at this
    have : a = 0 ∨ q = 0 := by omega
    rcases this with h | h
    · subst h; exact absurd ha h0
    · subst h; exact absurd m h0
open Classical in
theorem star8_bar : ([0] : List Int).length < (leasts star8 (leftOf 8 [0]) (leftOf 8 [0])).length := by
  have h0 : (0 : Int) ∉ leftOf 8 [0] := fun h => (mem_left.mp h).2 (by simp)
  have hin : ∀ a : Int, 1 ≤ a → a < 8 → a ∈ leasts star8 (leftOf 8 [0]) (leftOf 8 [0]) := fun a h1 h2 => by
    refine List.mem_filter.mpr ⟨mem_left.mpr ⟨by omega, by simp; omega⟩, decide_eq_true ?_⟩
    intro b hb hlt hj
    have := star8_joined h0 hb hj
    omega
  have : ([1, 2] : List Int).length ≤ (leasts star8 (leftOf 8 [0]) (leftOf 8 [0])).length := List.Nodup.length_le_of_subset (by decide) fun x hx => by
    simp only [List.mem_cons, List.not_mem_nil, or_false] at hx
    rcases hx with rfl | rfl
    · exact hin 1 (by decide) (by decide)
    · exact hin 2 (by decide) (by decide)
  exact this
theorem held_four (n : Int) (ts : List (Int × Int)) : ¬ HeldOk ⟨n, ts⟩ [(0, 1), (0, 2), (1, 3), (2, 3)] := fun h => h.no
  ⟨[(0, 1), (0, 2), (1, 3)], 2, 3, [], rfl, .tie (b := 0) (by simp) (.tie (b := 1) (by simp) (.tie (b := 3) (by simp) (.refl 3)))⟩
theorem held_five (W : Wb) (a b c d e : Int × Int) : ¬ HeldOk W [a, b, c, d, e] := fun h => by have := h.len; simp at this
theorem held_twice (W : Wb) (a : Int × Int) : ¬ HeldOk W [a, a] := fun h => by have := h.nodup; simp at this
theorem held_three {W : Wb} {p : Int} {ts : List (Int × Int)} (h : ∀ t ∈ ts, t.1 = p ∨ t.2 = p) (h3 : 3 ≤ ts.length) : ¬ HeldOk W ts := fun ok => by
  have := ok.few p
  have : ts.countP (fun q => decide (q.1 = p ∨ q.2 = p)) = ts.length := List.countP_eq_length.mpr fun t ht => decide_eq_true (h t ht)
  unfold degT at *
  omega
end Cr
set_option maxHeartbeats 4000000
/-! Fw67: texts: split, join, the signs of a text, the number that a text tells -/
namespace Cr
open PySem PySem.Spec PyProof.Rows L2
def strL (ys : List Str) : List PD := ys.map PyData.str
theorem reps_strs (H : Hp) : ∀ ys : List Str, RepsF H (ys.map V.str) (strL ys)
  | [] => .nil
  | y :: ys => .cons (.str y) (reps_strs H ys)
theorem strs_reps {H : Hp} : ∀ {ys : List Str} {vs : List V}, RepsF H vs (strL ys) → vs = ys.map V.str
  | [], vs, h => by cases h; rfl
  | y :: ys, vs, h => by
    cases h with
    | cons h1 h2 => cases h1; rw [strs_reps h2]; rfl
section
variable {X : Cx} {w : Wx} {o e : Expr} {fo fe : EE} {apos pos : Pos} {tg : Expr}
@[simp] def eSplit (fo fe : EE) : EE := fun ρ P E => fo ρ (fun x => match x with
  | .val (.str a) => fe ρ (fun y => match y with
    | .val (.str b) => (b.length == 0) = false ∧ a.length + 2 ≤ sizeLine ∧ P (.new (strL (Txt.split a b)))
    | _ => False) E
  | _ => False) E
theorem de_split (ho : DE X w o fo) (he : DE X w e fe) (hs : starEach [e] X.env = [(false, eval e X.env)] := by rfl) (hbase : attributeBase o "split" X.env (eval o X.env) = eval o X.env := by rfl) (hline : (apos.endLine == pos.line) = true := by rfl) :
    DE X w (.Call (.Attribute o "split" apos) [e] [] pos) (eSplit fo fe) := by
  refine (pe_split ho he hs hbase hline).imp fun σ H Q ⟨B, ρ, P, E, F, hf, hP, hE⟩ => ?_
  refine ⟨B, ρ, _, E, F, hf, fun d z v H1 s1 r => ?_, hE⟩
  split at z
  · rename_i a
    obtain rfl := res_str r
    refine ⟨⟨a, rfl⟩, B, ρ, _, E, F.mono s1, z, fun d2 z2 v2 H2 s2 r2 => ?_, fun x ex cls dd H' s' r' => hE x ex cls dd H' (s1.trans s') r'⟩
    split at z2
    · rename_i b
      obtain rfl := res_str r2
      refine ⟨a, b, rfl, rfl, z2.1, z2.2.1, fun p np => ?_⟩
      have s3 : Same H2 (L2.upd H2 p (.lst ((Txt.split a b).map V.str))) := (Same.refl H2).upd_new np
      exact hP _ z2.2.2 _ _ ((s1.trans s2).trans s3) ⟨p, _, rfl, (s1.trans s2).free np, upd_same, reps_strs _ _⟩
    · exact z2.elim
  · exact z.elim
@[simp] def eJoin (fo fe : EE) : EE := fun ρ P E => fo ρ (fun x => match x with
  | .val (.str a) => fe ρ (fun y => match listy y with
    | some xs => ∃ ys : List Str, xs = strL ys ∧ (ys.map (·.length)).sum + ys.length * a.length ≤ 16777216 ∧ P (.val (.str (Txt.join a ys)))
    | none => False) E
  | _ => False) E
theorem de_join (ho : DE X w o fo) (he : DE X w e fe) (hs : starEach [e] X.env = [(false, eval e X.env)] := by rfl) (hbase : attributeBase o "join" X.env (eval o X.env) = eval o X.env := by rfl) (hline : (apos.endLine == pos.line) = true := by rfl) :
    DE X w (.Call (.Attribute o "join" apos) [e] [] pos) (eJoin fo fe) := by
  refine (pe_join ho he hs hbase hline).imp fun σ H Q ⟨B, ρ, P, E, F, hf, hP, hE⟩ => ?_
  refine ⟨B, ρ, _, E, F, hf, fun d z v H1 s1 r => ?_, hE⟩
  split at z
  · rename_i a
    obtain rfl := res_str r
    refine ⟨⟨a, rfl⟩, B, ρ, _, E, F.mono s1, z, fun d2 z2 v2 H2 s2 r2 => ?_, fun x ex cls dd H' s' r' => hE x ex cls dd H' (s1.trans s') r'⟩
    split at z2
    · rename_i xs exs
      obtain ⟨ys, rfl, z3, z4⟩ := z2
      obtain ⟨p, vs, rfl, hq, rr⟩ := listy_ok exs r2
      obtain rfl := strs_reps rr
      exact ⟨a, p, ys, rfl, rfl, .inl hq, z3, hP _ z4 _ _ (s1.trans s2) (.str _)⟩
    · exact z2.elim
  · exact z.elim
/-- the signs of a text -/
def signs (z : Str) : List PD := z.cps.toList.map fun c => .str ⟨#[c]⟩
@[simp] def iStrD (f : EE) : EI := fun ρ P E => f ρ (fun x => match x with
  | .val (.str z) => z.cps.size ≤ sizeLine ∧ P true (signs z)
  | _ => False) E
theorem di_str (h : DE X w e f) : DI X w tg e (iStrD f) := by
  refine (pi_str h).imp fun σ H R ⟨B, ρ, P, E, F, hf, hP, hE⟩ => ?_
  refine ⟨B, ρ, _, E, F, hf, fun d z v H1 s1 r => ?_, hE⟩
  split at z
  · rename_i y
    obtain rfl := res_str r
    have hlen : (signs y).length = y.cps.size := by unfold signs; simp
    refine ⟨y, rfl, hP true _ z.2 _ _ s1 ⟨by rw [hlen]; exact z.1, fun _ => none, (fun _ _ e => by cases e), (fun _ _ _ e => by cases e), fun H2 _ => ⟨fun i hi => ⟨?_, ?_⟩, ?_⟩⟩⟩
    · show i < y.cps.size
      omega
    · rintro v' H3 ⟨rfl, c, ec, rfl⟩
      refine ⟨Same.refl _, .str ⟨#[c]⟩, ?_, .inl (.str _)⟩
      unfold signs
      rw [List.getElem?_map, Array.getElem?_toList, ec]
      rfl
    · show y.cps.size ≤ (signs y).length
      omega
  · exact z.elim
@[simp] def gInS (neg : Bool) : G2 := fun x y P => match x, y with
  | .val (.str a), .val (.str z) => ∃ c, a = ⟨#[c]⟩ ∧ P (.val (.bool (if neg then !decide (c ∈ z.cps.toList) else decide (c ∈ z.cps.toList))))
  | _, _ => False
theorem c_inS {b : Expr} (h : behindInMarks .In b = false := by rfl) : CmpR X .In b (gInS false) := by
  refine ⟨⟨_, op_in_sign, ?_⟩, h⟩
  intro Hs H x y v u P Q rx ry h q
  unfold gInS at h
  split at h
  · obtain ⟨c, rfl, h⟩ := h
    exact ⟨c, _, res_str rx, res_str ry, q _ h _ H (Same.refl H) (.bl _)⟩
  · exact h.elim
theorem c_notInS {b : Expr} (h : behindInMarks .NotIn b = false := by rfl) : CmpR X .NotIn b (gInS true) := by
  refine ⟨⟨_, op_notIn_sign, ?_⟩, h⟩
  intro Hs H x y v u P Q rx ry h q
  unfold gInS at h
  split at h
  · obtain ⟨c, rfl, h⟩ := h
    exact ⟨c, _, res_str rx, res_str ry, q _ h _ H (Same.refl H) (.bl _)⟩
  · exact h.elim
@[simp] def gIntS : GC := fun ds P => match ds with
  | [.val (.str a)] => ∃ n, PySem.intText? a = some n ∧ a.length ≤ 640 ∧ P (.val (.int n))
  | _ => False
theorem k_intS {K : PySem.W.Frag} : CallK K (fun xs H Q => ∃ a n, xs = [.str a] ∧ PySem.intText? a = some n ∧ a.length ≤ 640 ∧ Q (.int n) H) gIntS := by
  intro Hs H vs ds P Q ok h q
  unfold gIntS at h
  split at h
  · obtain ⟨v, rfl, r⟩ := all1 ok
    obtain ⟨n, h1, h2, h3⟩ := h
    exact ⟨_, n, by rw [res_str r], h1, h2, q _ h3 _ H (Same.refl H) (.int _)⟩
  · exact h.elim
end
end Cr
set_option maxHeartbeats 4000000
/-! Fw68: the text of a web, and how it falls into lines and words -/
namespace Cr
open PySem PySem.Spec PyProof.Rows L2
def numT (i : Int) : Str := toString i
theorem cut_once {c : Nat} : ∀ {a b A B : List Nat}, c ∉ a → c ∉ b → a ++ c :: A = b ++ c :: B → a = b ∧ A = B
  | [], [], A, B, _, _, e => ⟨rfl, (List.cons.inj e).2⟩
  | [], y :: b, A, B, _, hb, e => by
    have := (List.cons.inj e).1
    subst this
    exact absurd List.mem_cons_self hb
  | x :: a, [], A, B, ha, _, e => by
    have := (List.cons.inj e).1
    subst this
    exact absurd List.mem_cons_self ha
  | x :: a, y :: b, A, B, ha, hb, e => by
    obtain ⟨e1, e2⟩ := List.cons.inj e
    obtain ⟨h1, h2⟩ := cut_once (fun h => ha (List.mem_cons_of_mem _ h)) (fun h => hb (List.mem_cons_of_mem _ h)) e2
    exact ⟨by rw [e1, h1], h2⟩
theorem join_cons (c : Nat) (x y : Str) (r : List Str) : (Str.join ⟨#[c]⟩ (x :: y :: r)).cps.toList = x.cps.toList ++ c :: (Str.join ⟨#[c]⟩ (y :: r)).cps.toList := by
  show (x ++ ⟨#[c]⟩ ++ Str.join ⟨#[c]⟩ (y :: r)).cps.toList = _
  rw [Str.cps_append, Str.cps_append]
  simp
theorem join_uniq (c : Nat) : ∀ {ps qs : List Str}, ps ≠ [] → qs ≠ [] → (∀ p ∈ ps, c ∉ p.cps.toList) → (∀ p ∈ qs, c ∉ p.cps.toList) → Str.join ⟨#[c]⟩ ps = Str.join ⟨#[c]⟩ qs → ps = qs
  | [], _, h, _, _, _, _ => absurd rfl h
  | _, [], _, h, _, _, _ => absurd rfl h
  | [x], [y], _, _, _, _, e => by
    have : x = y := e
    rw [this]
  | [x], y :: z :: r, _, _, hx, _, e => by
    have e1 : x.cps.toList = y.cps.toList ++ c :: (Str.join ⟨#[c]⟩ (z :: r)).cps.toList := by
      rw [← join_cons]
      exact congrArg (fun s : Str => s.cps.toList) e
    exact absurd (by rw [e1]; simp) (hx x List.mem_cons_self)
  | x :: z :: r, [y], _, _, _, hy, e => by
    have e1 : y.cps.toList = x.cps.toList ++ c :: (Str.join ⟨#[c]⟩ (z :: r)).cps.toList := by
      rw [← join_cons]
      exact (congrArg (fun s : Str => s.cps.toList) e).symm
    exact absurd (by rw [e1]; simp) (hy y List.mem_cons_self)
  | x :: z :: r, y :: u :: t, _, _, hx, hy, e => by
    have e1 := congrArg (fun s : Str => s.cps.toList) e
    simp only [join_cons] at e1
    obtain ⟨h1, h2⟩ := cut_once (hx x List.mem_cons_self) (hy y List.mem_cons_self) e1
    have h3 : x = y := Str.ext' (Array.toList_inj.mp h1)
    have h4 : Str.join ⟨#[c]⟩ (z :: r) = Str.join ⟨#[c]⟩ (u :: t) := Str.ext' (Array.toList_inj.mp h2)
    rw [h3, join_uniq c (by simp) (by simp) (fun p hp => hx p (List.mem_cons_of_mem _ hp)) (fun p hp => hy p (List.mem_cons_of_mem _ hp)) h4]
theorem split_of (c : Nat) {ps : List Str} (h : ps ≠ []) (hf : ∀ p ∈ ps, c ∉ p.cps.toList) (hne : Str.join ⟨#[c]⟩ ps ≠ Str.empty) : Txt.split (Str.join ⟨#[c]⟩ ps) ⟨#[c]⟩ = ps := by
  have e := StrLaws.join_split (Str.join ⟨#[c]⟩ ps) ⟨#[c]⟩
  refine join_uniq c (fun h0 => hne ?_) h (StrLaws.split_free _ c) hf e
  rw [h0] at e
  exact e.symm
/-! ### numbers as words -/
structure NumT (z : Str) : Prop where
  len : z.length = 1 ∨ z.length = 2
  dig : ∀ c ∈ z.cps.toList, c ∈ (Str.ofString "0123456789").cps.toList
  hd : ∃ c, atI z.cps.toList 0 = some c ∧ (c = 48 → z.length = 1)
def numB (z : Str) : Bool := (z.length == 1 || z.length == 2) && z.cps.toList.all (fun c => decide (48 ≤ c ∧ c ≤ 57)) && (z.length == 1 || (z.cps.toList.head? != some 48 && z.cps.toList.head?.isSome))
theorem num_all : ((List.range 21).all fun k => numB (numT k)) = true := by decide +kernel
theorem num_ok {n : Int} (h0 : 0 ≤ n) (h : n ≤ 20) : numB (numT n) = true := by
  have := List.all_eq_true.mp num_all n.toNat (List.mem_range.mpr (by omega))
  rwa [show ((n.toNat : Nat) : Int) = n by omega] at this
theorem num_dig {n : Int} (h0 : 0 ≤ n) (h : n ≤ 20) : ∀ c ∈ (numT n).cps.toList, 48 ≤ c ∧ c ≤ 57 := fun c hc => by
  have := num_ok h0 h
  unfold numB at this
  simp only [Bool.and_eq_true] at this
  exact of_decide_eq_true (List.all_eq_true.mp this.1.2 c hc)
theorem num_len {n : Int} (h0 : 0 ≤ n) (h : n ≤ 20) : (numT n).length = 1 ∨ (numT n).length = 2 := by
  have := num_ok h0 h
  unfold numB at this
  simp only [Bool.and_eq_true, Bool.or_eq_true, beq_iff_eq] at this
  exact this.1.1
theorem num_head {n : Int} (h0 : 0 ≤ n) (h : n ≤ 20) : ∃ c, (numT n).cps.toList.head? = some c ∧ (c = 48 → (numT n).length = 1) := by
  have := num_ok h0 h
  have hl := num_len h0 h
  unfold numB at this
  simp only [Bool.and_eq_true, Bool.or_eq_true, beq_iff_eq] at this
  obtain ⟨c, hc⟩ : ∃ c, (numT n).cps.toList.head? = some c := by
    cases e : (numT n).cps.toList with
    | nil =>
      have : (numT n).length = 0 := by
        show (numT n).cps.size = 0
        rw [← Array.length_toList, e]; rfl
      omega
    | cons c r => exact ⟨c, rfl⟩
  refine ⟨c, hc, fun e48 => ?_⟩
  subst e48
  rcases this.2 with h | ⟨h, _⟩
  · exact h
  · rw [hc] at h; simp at h
theorem num_text {n : Int} (h0 : 0 ≤ n) (h : n ≤ 20) : PySem.intText? (numT n) = some n := PySem.W.KIN.num_reads h0 (by omega)
/-! ### lines -/
abbrev nlS : Str := ⟨#[10]⟩
abbrev spS : Str := ⟨#[32]⟩
theorem nlE : Str.ofString "\n" = nlS := by decide
theorem spE : Str.ofString " " = spS := by decide
theorem emE : Str.ofString "" = Str.empty := by decide
def headT (n : Int) : Str := Str.ofString "places " ++ numT n
def tieT (t : Int × Int) : Str := Str.ofString "tie " ++ numT t.1 ++ spS ++ numT t.2
def lineT (W : Wb) : List Str := headT W.n :: W.ts.map tieT
def textW (W : Wb) : Str := Str.join nlS (lineT W ++ [Str.empty])
theorem join_snoc (x : Str) : ∀ L : List Str, Str.join nlS (L ++ [Str.empty]) ++ (x ++ nlS) = Str.join nlS (L ++ [x] ++ [Str.empty])
  | [] => by
    show Str.empty ++ (x ++ nlS) = x ++ nlS ++ Str.empty
    rw [Str.empty_append, Str.append_empty]
  | [y] => by
    show y ++ nlS ++ Str.empty ++ (x ++ nlS) = y ++ nlS ++ (x ++ nlS ++ Str.empty)
    rw [Str.append_empty, Str.append_empty]
  | y :: z :: L => by
    have ih := join_snoc x (z :: L)
    show y ++ nlS ++ Str.join nlS ((z :: L) ++ [Str.empty]) ++ (x ++ nlS) = y ++ nlS ++ Str.join nlS ((z :: L) ++ [x] ++ [Str.empty])
    rw [Str.append_assoc, ih]
theorem join_map (L : List Str) : Str.join Str.empty (L.map fun x => x ++ nlS) = Str.join nlS (L ++ [Str.empty]) := by
  match L with
  | [] => rfl
  | [x] =>
    show x ++ nlS = x ++ nlS ++ Str.empty
    rw [Str.append_empty]
  | x :: y :: L =>
    have ih := join_map (y :: L)
    show x ++ nlS ++ Str.empty ++ Str.join Str.empty ((y :: L).map fun x => x ++ nlS) = x ++ nlS ++ Str.join nlS ((y :: L) ++ [Str.empty])
    rw [Str.append_empty, ih]
theorem len_join {L : List Str} (h : ∀ x ∈ L, x.length ≤ 11) : (Str.join nlS (L ++ [Str.empty])).length ≤ 12 * L.length := by
  match L with
  | [] => exact Nat.le_refl _
  | [x] =>
    have := h x List.mem_cons_self
    show (x ++ nlS ++ Str.empty).length ≤ _
    rw [Str.append_empty, Str.length_append]
    have : nlS.length = 1 := rfl
    simp only [List.length_cons, List.length_nil]
    omega
  | x :: y :: L =>
    have ih := len_join (L := y :: L) fun z hz => h z (List.mem_cons_of_mem _ hz)
    have := h x List.mem_cons_self
    show (x ++ nlS ++ Str.join nlS ((y :: L) ++ [Str.empty])).length ≤ _
    rw [Str.length_append, Str.length_append]
    have : nlS.length = 1 := rfl
    simp only [List.length_cons] at *
    omega
theorem len_head {n : Int} (h0 : 0 ≤ n) (h : n ≤ 20) : (headT n).length ≤ 11 := by
  unfold headT
  rw [Str.length_append]
  have : (Str.ofString "places ").length = 7 := by decide
  have := num_len h0 h
  omega
theorem len_tie {t : Int × Int} (h : 0 ≤ t.1 ∧ t.1 ≤ 20 ∧ 0 ≤ t.2 ∧ t.2 ≤ 20) : (tieT t).length ≤ 11 := by
  unfold tieT
  rw [Str.length_append, Str.length_append, Str.length_append]
  have : (Str.ofString "tie ").length = 4 := by decide
  have : spS.length = 1 := rfl
  have := num_len h.1 h.2.1
  have := num_len h.2.2.1 h.2.2.2
  omega
theorem free_head {n : Int} (h0 : 0 ≤ n) (h : n ≤ 20) : 10 ∉ (headT n).cps.toList := by
  unfold headT
  rw [Str.cps_append, Array.toList_append]
  intro hc
  rcases List.mem_append.mp hc with hc | hc
  · revert hc; decide
  · have := num_dig h0 h _ hc; omega
theorem free_tie {t : Int × Int} (h : 0 ≤ t.1 ∧ t.1 ≤ 20 ∧ 0 ≤ t.2 ∧ t.2 ≤ 20) : 10 ∉ (tieT t).cps.toList := by
  unfold tieT
  rw [Str.cps_append, Str.cps_append, Str.cps_append, Array.toList_append, Array.toList_append, Array.toList_append]
  intro hc
  rcases List.mem_append.mp hc with hc | hc
  · rcases List.mem_append.mp hc with hc | hc
    · rcases List.mem_append.mp hc with hc | hc
      · revert hc; decide
      · have := num_dig h.1 h.2.1 _ hc; omega
    · revert hc; decide
  · have := num_dig h.2.2.1 h.2.2.2 _ hc; omega
section
variable {W : Wb}
theorem tie_rg (hW : WebOk W) {t : Int × Int} (ht : t ∈ W.ts) : 0 ≤ t.1 ∧ t.1 ≤ 20 ∧ 0 ≤ t.2 ∧ t.2 ≤ 20 := by
  have := hW.ts.1 t ht
  have := hW.hi
  omega
theorem line_len (hW : WebOk W) : ∀ x ∈ lineT W, x.length ≤ 11 := fun x hx => by
  have := hW.lo
  have := hW.hi
  rcases List.mem_cons.mp hx with rfl | hx
  · exact len_head (by omega) (by omega)
  · obtain ⟨t, ht, rfl⟩ := List.mem_map.mp hx
    exact len_tie (tie_rg hW ht)
theorem text_len (hW : WebOk W) : (textW W).length ≤ 5000 := by
  have := len_join (line_len hW)
  have h2 := hW.ts.len hW.hi
  have : (lineT W).length = W.ts.length + 1 := by simp [lineT]
  unfold textW
  omega
theorem text_split (hW : WebOk W) : Txt.split (textW W) nlS = lineT W ++ [Str.empty] := by
  have := hW.lo
  have := hW.hi
  refine split_of 10 (by simp) (fun p hp => ?_) ?_
  · rcases List.mem_append.mp hp with hp | hp
    · rcases List.mem_cons.mp hp with rfl | hp
      · exact free_head (by omega) (by omega)
      · obtain ⟨t, ht, rfl⟩ := List.mem_map.mp hp
        exact free_tie (tie_rg hW ht)
    · rw [List.mem_singleton] at hp
      subst hp
      decide
  · intro e
    have e1 := congrArg Str.length e
    have e2 : (Str.join nlS (lineT W ++ [Str.empty])).length = (headT W.n ++ nlS ++ Str.join nlS (W.ts.map tieT ++ [Str.empty])).length := by
      unfold lineT
      cases W.ts with
      | nil => rfl
      | cons t ts => rfl
    rw [e2, Str.length_append, Str.length_append] at e1
    have : nlS.length = 1 := rfl
    have : Str.empty.length = 0 := rfl
    omega
end
theorem head_split {n : Int} (h0 : 0 ≤ n) (h : n ≤ 20) : Txt.split (headT n) spS = [Str.ofString "places", numT n] := by
  have e : headT n = Str.join spS [Str.ofString "places", numT n] := by
    show _ = Str.ofString "places" ++ spS ++ numT n
    have : Str.ofString "places " = Str.ofString "places" ++ spS := by decide
    unfold headT
    rw [this]
  rw [e]
  refine split_of 32 (by simp) (fun p hp => ?_) fun e0 => ?_
  · simp only [List.mem_cons, List.not_mem_nil, or_false] at hp
    rcases hp with rfl | rfl
    · decide
    · intro hc; have := num_dig h0 h _ hc; omega
  · rw [← e] at e0
    have e1 := congrArg Str.length e0
    unfold headT at e1
    rw [Str.length_append] at e1
    have : (Str.ofString "places ").length = 7 := by decide
    have : Str.empty.length = 0 := rfl
    omega
theorem tie_split {t : Int × Int} (h : 0 ≤ t.1 ∧ t.1 ≤ 20 ∧ 0 ≤ t.2 ∧ t.2 ≤ 20) : Txt.split (tieT t) spS = [Str.ofString "tie", numT t.1, numT t.2] := by
  have e : tieT t = Str.join spS [Str.ofString "tie", numT t.1, numT t.2] := by
    show _ = Str.ofString "tie" ++ spS ++ (numT t.1 ++ spS ++ numT t.2)
    have : Str.ofString "tie " = Str.ofString "tie" ++ spS := by decide
    unfold tieT
    rw [this]
    simp only [Str.append_assoc]
  rw [e]
  refine split_of 32 (by simp) (fun p hp => ?_) fun e0 => ?_
  · simp only [List.mem_cons, List.not_mem_nil, or_false] at hp
    rcases hp with rfl | rfl | rfl
    · decide
    · intro hc; have := num_dig h.1 h.2.1 _ hc; omega
    · intro hc; have := num_dig h.2.2.1 h.2.2.2 _ hc; omega
  · rw [← e] at e0
    have e1 := congrArg Str.length e0
    unfold tieT at e1
    rw [Str.length_append, Str.length_append, Str.length_append] at e1
    have : (Str.ofString "tie ").length = 4 := by decide
    have : Str.empty.length = 0 := rfl
    omega
end Cr
set_option maxHeartbeats 4000000
/-! Fw69: instances whose fields never change: made, read, asked by methods -/
namespace Cr
open PySem PySem.Spec PyProof.Rows L2
/-- where the class of the instances lies -/
class RcI where
  rc : Addr
/-- an instance of the class at C with these fields -/
def instF (C : Addr) (fs : List (Str × PD)) : Hp → V → Prop := fun H v => ∃ (a dx : Addr) (vs : List (Str × V)), v = .ref a ∧ H a = some (.ins C dx vs) ∧ FsOk H vs fs
theorem instF_stab {C : Addr} {fs : List (Str × PD)} (v : V) : Stab (instF C fs) v := fun _ _ s ⟨a, dx, vs, e, ea, f⟩ => ⟨a, dx, vs, e, s _ _ ea (fun _ z => nomatch z), f.fx s⟩
/-- what an __init__ promises that lays its arguments down in the fields ns of an instance -/
def mkSp (K : PySem.W.Frag) (ns : List Str) : Sp := fun vs H Q _ => ∃ (a C dx : Addr) (ys : List V), vs = .ref a :: ys ∧ ys.length = ns.length ∧ H a = some (.ins C dx []) ∧ Cls K C ∧ (∀ n ∈ ns, NoAttr K C n) ∧ Q .non (upd H a (.ins C dx (ns.zip ys)))
section
variable {P : Program} {w : World} {K : PySem.W.Frag} {mg : Str → Option Value} {base : Heap}
theorem mk3_of {x qual n1 n2 n3 : Str} {st : Stmt} {f : Addr} {fd : FuncData} {N ps : List Str} (hN : N.length = 4) (F : Fun K x qual st f fd) (S : FnScope N ps (defScope st)) (hps : ps.length = 4)
    (hbody : ∀ (cdv : Value) (A : Around) (outer : List Env) (s : Shared) (H : Hp) (E : XK), ∃ t, PSs (cxOf (L2N.CX P w) P w K mg base N qual (defScope st) f cdv A outer s H E) (defBody st) t ∧ ∀ (T : Ends) (a C dx : Addr) (y z u : V) (H : Hp), H a = some (.ins C dx []) → Cls K C → NoAttr K C n1 → NoAttr K C n2 → NoAttr K C n3 →
      T.nx [some (.ref a), some y, some z, some u] (upd H a (.ins C dx [(n1, y), (n2, z), (n3, u)])) → t T [some (.ref a), some y, some z, some u] H) :
    FnG P w K mg base 1 f fd ps (mkSp K [n1, n2, n3]) := by
  refine fnG_of F S ?_ ?_
  · rintro vs H Q E ⟨a, C, dx, ys, rfl, hl, _⟩
    rw [List.length_cons, hl, hps]; rfl
  · rintro cdv A outer s H vs Q E hr hg ⟨a, C, dx, ys, rfl, hl, ea, oc, hf, q⟩
    obtain ⟨t, ht, hq⟩ := hbody cdv A outer s H E
    refine ⟨_, ht, ?_⟩
    match ys, hl with
    | [y, z, u], _ =>
      have est : L2.start N [V.ref a, y, z, u] = [some (.ref a), some y, some z, some u] := by unfold L2.start; rw [hN]; rfl
      rw [est]
      exact hq _ a C dx y z u H ea oc (hf n1 (by simp)) (hf n2 (by simp)) (hf n3 (by simp)) q
/-- a class whose instances hold the fields ns -/
structure ObjC (P : Program) (w : World) (K : PySem.W.Frag) (mg : Str → Option Value) (base : Heap) (x : Str) (ns : List Str) (C : Addr) : Prop where
  nm : mg x = some (.ref C)
  cl : Cls K C
  fl : ∀ n ∈ ns, NoAttr K C n
  fn : ∃ (g : Addr) (fd : FuncData) (ps : List Str), Mk K C g ∧ FnG P w K mg base 1 g fd ps (mkSp K ns) ∧ Binds K fd ps []
/-- a method, by its promise -/
structure MethOk (P : Program) (w : World) (K : PySem.W.Frag) (mg : Str → Option Value) (base : Heap) (C : Addr) (m : Str) (k : Nat) (ps : List Str) (S : DSp) : Prop where
  ex : ∃ (f : Addr) (fd : FuncData), FnD P w K mg base k f fd ps S ∧ Meth K C m f ∧ Binds K fd ps []
end
section
variable {X : Cx} {w : Wx} {o e : Expr} {es : List Expr} {fo : EE} {fa : EA} {x m : Str} {p pos apos : Pos} {C : Addr} {ns : List Str}
/-- o.n -/
@[simp] def eGet (C : Addr) (n : Str) (fo : EE) : EE := fun ρ P E => fo ρ (fun d => ∃ fs, d = .ext (instF C fs) ∧ match fs.lookup n with | some v => P (.val v) | none => False) E
theorem de_get {n : Str} (ho : DE X w o fo) (c : Cls X.K C) (hn : NoAttr X.K C n) (hb : attributeBase o n X.env (eval o X.env) = eval o X.env := by rfl) : DE X w (.Attribute o n pos) (eGet C n fo) := by
  refine (pe_fld ho hb).imp fun σ H Q ⟨B, ρ, P, E, F, hf, hP, hE⟩ => ?_
  refine ⟨B, ρ, _, E, F, hf, fun d ⟨fs, ed, z⟩ v H1 s1 r => ?_, hE⟩
  subst ed
  obtain ⟨_, a, dx, vs, rfl, ea, fo⟩ := r
  split at z
  · rename_i y ey
    obtain ⟨v, ev, rv⟩ := fsOk_look fo ey
    exact ⟨a, C, dx, vs, v, rfl, ea, c, hn, ev, hP _ z _ _ s1 rv⟩
  · exact z.elim
/-- C(..) -/
@[simp] def eMake (C : Addr) (ns : List Str) (fa : EA) : EE := fun ρ P E => fa ρ (fun ds => match vals? ds with
  | some vs => vs.length = ns.length ∧ P (.ext (instF C (ns.zip vs)))
  | none => False) E
theorem de_make (J : ObjC X.prog X.w X.K X.mg X.base x ns C) (hr : Room 2 X.A) (hgu : X.A.guards = some []) (tk : L2N.Takes X w.W) (hg : Gl X x) (ha : DA X w (e :: es) fa)
    (hdb : (x == ("__debug__" : Str)) = false := by decide) (he : starEach (e :: es) X.env = (false, eval e X.env) :: starEach es X.env := by rfl) (hpl : (backTo pos (starEach es X.env)).any (·.1) = false := by rfl) :
    DE X w (.Call (.Name x p) (e :: es) [] pos) (eMake C ns fa) := by
  refine ⟨fun pins s σ H Q I h => ?_⟩
  obtain ⟨B, ρ, P, E, F, hf, hP, hE⟩ := h
  obtain ⟨g, fd, ps, M, FN, bn⟩ := J.fn
  refine wpAny_Call_Name_kw (ld_glob I hg J.nm ?_ hdb)
  refine PySem.W.callWith_K (h₀ := X.base) I.ok.mod.kin M.kp (thn (ha.run pos pins s σ H (fun vs H1 => ∃ xs, vs.length = ns.length ∧ Same H H1 ∧ FsOk H1 (ns.zip vs) (ns.zip xs) ∧ P (.ext (instF C (ns.zip xs)))) I ⟨B, ρ, _, E, F, hf, ?_, hE⟩) ?_) he hpl
  · intro ds hd vs H1 s1 ok
    cases ev : vals? ds with
    | none => rw [ev] at hd; exact hd.elim
    | some xs =>
      rw [ev] at hd
      exact ⟨xs, by rw [vals_len ok ev]; exact hd.1, s1, fsOk_zip ok ev, hd.2⟩
  rintro us s1 ⟨vs, H1, I1, rv, xs, hlen, sm, fo, q⟩
  refine ⟨I1.kIn, ?_⟩
  show wpAny _ _ (call (.ref C) us) _ _ _
  have na : H1 (s1.heap.objs.size + 1) = none := I1.hok.fresh (Nat.le_succ s1.heap.objs.size)
  have nd := I1.hok.fresh (Nat.le_refl s1.heap.objs.size)
  have I2 := Inv.made (C := C) I1
  generalize hA : s1.heap.objs.size + 1 = A at na I2
  generalize hD : s1.heap.objs.size = dx at nd I2
  have hne : dx ≠ A := by omega
  have sm2 : Same H1 (upd (upd H1 dx (.own A)) A (.ins C dx [])) := ((Same.refl H1).upd_new nd).upd_new na
  have promise : mkSp X.K ns (.ref A :: vs) (upd (upd H1 dx (.own A)) A (.ins C dx [])) (fun v G => v = .non ∧ G A = some (.ins C dx (ns.zip vs)) ∧ Same H1 G) (fun _ _ _ => False) := by
    refine ⟨A, C, dx, vs, rfl, hlen, upd_same, J.cl, J.fl, rfl, upd_same, ?_⟩
    rw [upd_upd]
    exact ((Same.refl H1).upd_new nd).upd_new na
  have both : Vals (V.ref A :: vs) (Value.ref A :: us) := .cons rfl rv
  have lens : (Value.ref A :: us).length = ps.length := both.length.symm.trans (FN.len _ _ _ _ promise)
  have bound := bn _ (Value.ref A :: us) I2.kIn (by rw [List.append_nil]; exact lens)
  rw [List.append_nil] at bound
  subst hA hD
  refine wpAny_call (make_map (f := g) I1.kIn M.makes M.init (beq_iff_eq.mp M.fn) (codeAny_mono (FN.run _ X.stack _ _ ⟨_, []⟩ _ _ _ (fun _ _ _ => False) (hr.make C us []) hgu (I2.env0.make C us []) bound both promise) ?_))
  intro r s' back
  cases r with
  | error er => exact L2N.passes_call tk (E := fun _ _ _ => False) (fun _ _ _ _ z => z.elim) pins σ _ _ er s' I2 back
  | ok fl =>
    cases fl with
    | next => cases back
    | brk => cases back
    | cont => cases back
    | ret u =>
      obtain ⟨v, G, I3, rG, ev, eA, sG⟩ := I2.after back
      subst ev
      refine ⟨rG, V.ref _, G, I3, rfl, hP _ q _ _ (sm.trans sG) ⟨instF_stab _, _, _, _, rfl, eA, fo.fx sG.fx⟩⟩
/-- o.m(): the contract gets the instance first -/
@[simp] def eMeth0 (C : Addr) (m : Str) (S : DSp) (fo : EE) : EE := fun ρ P E => fo ρ (fun d => ∃ fs, d = .ext (instF C fs) ∧ fs.lookup m = none ∧ S [d] (@kontI ⟨P⟩) E) E
@[simp] def eMeth (C : Addr) (m : Str) (n : Nat) (S : DSp) (fo : EE) (fa : EA) : EE := fun ρ P E => fo ρ (fun d => ∃ fs, d = .ext (instF C fs) ∧ fs.lookup m = none ∧ fa ρ (fun ds => ds.length = n ∧ (∀ z ∈ ds, (argOf z).isSome) ∧ S (d :: ds) (@kontI ⟨P⟩) E) E) E
theorem fsOk_none {H : Hp} {n : Str} : ∀ {xs : List (Str × V)} {ys : List (Str × PD)}, FsOk H xs ys → ys.lookup n = none → xs.lookup n = none
  | [], [], _, _ => rfl
  | (a, v) :: xs, (b, u) :: ys, ⟨h1, h2, h3⟩, e => by
    subst h1
    rw [List.lookup_cons] at e ⊢
    split at e
    · cases e
    · exact fsOk_none h3 e
  | [], _ :: _, h, _ => h.elim
  | _ :: _, [], h, _ => h.elim
section
variable {S : DSp} {k n : Nat} {ps : List Str}
theorem de_meth0 {pl : Sem Bool} (ho : DE X w o fo) (c : Cls X.K C) (M : MethOk X.prog X.w X.K X.mg X.base C m k ps S) (hn : ps.length = 1) (hr : Room k X.A) (hgu : X.A.guards = some []) (tk : L2N.Takes X w.W) (hw : w.mg = X.mg)
    (ht : eval (.Call (.Attribute o m apos) [] [] pos) X.env = (do
      let ov ← eval o X.env
      standAt apos.atName
      let (f, first) ← holding [ov] (getMethod ov m pl)
      callWith pos f first (backTo pos (starEach [] X.env)) (backToKw pos (keywordEach [] X.env))) := by rfl) :
    DE X w (.Call (.Attribute o m apos) [] [] pos) (eMeth0 C m S fo) := by
  refine ⟨fun pins s σ H Q I h => ?_⟩
  obtain ⟨B, ρ, P, E, F, hf, hP, hE⟩ := h
  obtain ⟨f, fd, FN, hm, hb⟩ := M.ex
  refine PySem.W.methodCall_KW (pl := pl) (thn (ho.run pins s σ H (fun v H1 => ∃ fs, ResOk X.K H H1 v (.ext (instF C fs)) ∧ Same H H1 ∧ fs.lookup m = none ∧ S [.ext (instF C fs)] (@kontI ⟨P⟩) E) I ⟨B, ρ, _, E, F, hf, ?_, hE⟩) ?_) ht
  · rintro d ⟨fs, rfl, h1, h2⟩ v H1 s1 r
    exact ⟨fs, r, s1, h1, h2⟩
  rintro u s1 ⟨v, H1, I1, rv, fs, r, sm, hl, q⟩
  obtain ⟨st, a, dx, vs, rfl, ea, fo⟩ := r
  obtain rfl : u = Value.ref a := rv
  refine getmeth_ok I1 ea c hm (fsOk_none fo hl) ?_
  refine PySem.W.callWith_K0 (first := [.ref a]) I1.kIn hm.kp (run_call (us := [.ref a]) (vs := [.ref a]) FN hr hgu hb tk I1 (.cons rfl .nil) ?_)
  refine ⟨[.ext (instF C fs)], P, E, hn.symm, ⟨⟨st, a, dx, vs, rfl, ea, fo⟩, trivial⟩, q, fun d pd z H2 s2 r2 => hP d pd z H2 (sm.trans s2) (r2.weak sm), fun x ex cls dd H2 s2 r2 => hE x ex cls dd H2 (sm.trans s2) (by rw [hw]; exact r2)⟩
theorem de_meth {pl : Sem Bool} (ho : DE X w o fo) (c : Cls X.K C) (M : MethOk X.prog X.w X.K X.mg X.base C m k ps S) (hn : ps.length = n + 1) (hr : Room k X.A) (hgu : X.A.guards = some []) (tk : L2N.Takes X w.W) (hw : w.mg = X.mg)
    (ha : DA X w (e :: es) fa) (hst : starEach (e :: es) X.env = (false, eval e X.env) :: starEach es X.env := by rfl) (hpl : (backTo pos (starEach es X.env)).any (·.1) = false := by rfl)
    (ht : eval (.Call (.Attribute o m apos) (e :: es) [] pos) X.env = (do
      let ov ← eval o X.env
      standAt apos.atName
      let (f, first) ← holding [ov] (getMethod ov m pl)
      callWith pos f first (backTo pos (starEach (e :: es) X.env)) (backToKw pos (keywordEach [] X.env))) := by rfl) :
    DE X w (.Call (.Attribute o m apos) (e :: es) [] pos) (eMeth C m n S fo fa) := by
  refine ⟨fun pins s σ H Q I h => ?_⟩
  obtain ⟨B, ρ, P, E, F, hf, hP, hE⟩ := h
  obtain ⟨f, fd, FN, hm, hb⟩ := M.ex
  refine PySem.W.methodCall_KW (pl := pl) (thn (ho.run pins s σ H (fun v H1 => ∃ fs, ResOk X.K H H1 v (.ext (instF C fs)) ∧ Same H H1 ∧ fs.lookup m = none ∧ fa ρ (fun ds => ds.length = n ∧ (∀ z ∈ ds, (argOf z).isSome) ∧ S (.ext (instF C fs) :: ds) (@kontI ⟨P⟩) E) E) I ⟨B, ρ, _, E, F, hf, ?_, hE⟩) ?_) ht
  · rintro d ⟨fs, rfl, h1, h2⟩ v H1 s1 r
    exact ⟨fs, r, s1, h1, h2⟩
  rintro u s1 ⟨v, H1, I1, rv, fs, r, sm, hl, q⟩
  obtain ⟨st, a, dx, vs, rfl, ea, fo⟩ := r
  obtain rfl : u = Value.ref a := rv
  refine getmeth_ok I1 ea c hm (fsOk_none fo hl) ?_
  refine PySem.W.callWith_K (first := [.ref a]) (h₀ := X.base) I.ok.mod.kin hm.kp (thn (ha.run pos pins s1 σ H1 (fun ws H2 => ∃ ds, ds.length = n ∧ ArgsOk X.K H2 ws ds ∧ Same H1 H2 ∧ S (.ext (instF C fs) :: ds) (@kontI ⟨P⟩) E) I1 ⟨B, ρ, _, E, F.mono sm, q, ?_, fun x ex cls dd H' s' r' => hE x ex cls dd H' (sm.trans s') r'⟩) ?_) hst hpl
  · rintro ds ⟨h1, h2, h3⟩ ws H2 s2 ok
    exact ⟨ds, h1, argsOk_of ok h2, s2, h3⟩
  rintro us s2 ⟨ws, H2, I2, rw2, ds, hdl, ok, sm2, q2⟩
  refine ⟨I2.kIn, ?_⟩
  refine run_call (us := .ref a :: us) (vs := .ref a :: ws) FN hr hgu hb tk I2 (.cons rfl rw2) ?_
  refine ⟨.ext (instF C fs) :: ds, P, E, by rw [List.length_cons, hdl, hn], ⟨⟨st, a, dx, vs, rfl, sm2 _ _ ea, fo.fx sm2.fx⟩, ok⟩, q2, fun d pd z H3 s3 r3 => hP d pd z H3 ((sm.trans sm2).trans s3) (r3.weak (sm.trans sm2)), fun x ex cls dd H3 s3 r3 => hE x ex cls dd H3 ((sm.trans sm2).trans s3) (by rw [hw]; exact r3)⟩
end
end
end Cr
set_option maxHeartbeats 1000000
/-! Fw70: rows of held ties in any web, lots brought together, a ring where all is tied -/
namespace Cr
open PySem PySem.Spec PyProof.Rows L2
theorem Laid.more {n : Int} {done : List (Int × Int)} {rows : List (List Int)} (L : Laid n done rows) {a b : Int} (h : 0 ≤ a ∧ a < b ∧ b < n) : ∃ rows', Laid n (done ++ [(a, b)]) rows' := by
  obtain ⟨one, e1, m1, a1⟩ := pick_row (a := a) L.nodup (List.mem_flatten.mpr (L.mem.mpr (by omega)))
  obtain ⟨other, e2, m2, b2⟩ := pick_row (a := b) L.nodup (List.mem_flatten.mpr (L.mem.mpr (by omega)))
  by_cases heq : one = other
  · exact ⟨rows, L.same m1 a1 (heq ▸ b2)⟩
  have hX : (∃ X, (X = one ∨ X = one.reverse) ∧ X.getLast? = some a) ∨ (one.head? ≠ some a ∧ one.getLast? ≠ some a) := by
    by_cases h1 : one.getLast? = some a
    · exact .inl ⟨one, .inl rfl, h1⟩
    · by_cases h2 : one.head? = some a
      · exact .inl ⟨one.reverse, .inr rfl, by rw [List.getLast?_reverse]; exact h2⟩
      · exact .inr ⟨h2, h1⟩
  have hY : (∃ Y, (Y = other ∨ Y = other.reverse) ∧ Y.head? = some b) ∨ (other.head? ≠ some b ∧ other.getLast? ≠ some b) := by
    by_cases h1 : other.head? = some b
    · exact .inl ⟨other, .inl rfl, h1⟩
    · by_cases h2 : other.getLast? = some b
      · exact .inl ⟨other.reverse, .inr rfl, by rw [List.head?_reverse]; exact h2⟩
      · exact .inr ⟨h1, h2⟩
  rcases hX with ⟨X, hX, lX⟩ | ⟨q1, q2⟩
  · rcases hY with ⟨Y, hY, lY⟩ | ⟨q1, q2⟩
    · exact ⟨_, L.join h.2.1 e1 e2 heq hX hY lX lY⟩
    · exact ⟨rows, L.inner (.inr rfl) m2 b2 q1 q2⟩
  · exact ⟨rows, L.inner (.inl rfl) m1 a1 q1 q2⟩
theorem Laid.ex {n : Int} (hn : 0 ≤ n) : ∀ us : List (Int × Int), (∀ t ∈ us, 0 ≤ t.1 ∧ t.1 < t.2 ∧ t.2 < n) → ∃ rows, Laid n us.reverse rows
  | [], _ => ⟨_, Laid.start hn⟩
  | t :: us, h => by
    obtain ⟨rows, L⟩ := Laid.ex hn us fun t ht => h t (List.mem_cons_of_mem _ ht)
    rw [List.reverse_cons]
    exact L.more (h t (List.mem_cons_self ..))
/-- held ties lie in rows, end to end -/
structure Rows (n : Int) (hs : List (Int × Int)) (rows : List (List Int)) : Prop where
  laid : Laid n hs rows
  cnt : (rows.length : Int) + hs.length = n
  all : ∀ t ∈ hs, ∃ r ∈ rows, t ∈ links r
  nd : hs.Nodup
  rg : ∀ t ∈ hs, 0 ≤ t.1 ∧ t.1 < t.2 ∧ t.2 < n
theorem rows_ex {n : Int} (hn : 0 ≤ n) {hs : List (Int × Int)} (hr : ∀ t ∈ hs, 0 ≤ t.1 ∧ t.1 < t.2 ∧ t.2 < n) (nd : hs.Nodup) (few : ∀ p, degT hs p < 3) (no : ¬ hasRing hs) : ∃ rows, Rows n hs rows := by
  obtain ⟨rows, L⟩ := Laid.ex hn hs.reverse fun t ht => hr t (List.mem_reverse.mp ht)
  rw [List.reverse_reverse] at L
  have c := L.good few no
  exact ⟨rows, L, c, L.all c, nd, hr⟩
theorem Rows.same {n : Int} {hs : List (Int × Int)} {rows : List (List Int)} (h : Rows n hs rows) {r s : List Int} {a : Int} (hr : r ∈ rows) (hs' : s ∈ rows) (ha : a ∈ r) (hb : a ∈ s) : r = s := by
  obtain ⟨x, e, _, _⟩ := pick_row (a := a) h.laid.nodup (List.mem_flatten.mpr ⟨r, hr, ha⟩)
  rw [pick_uniq e hr ha, pick_uniq e hs' hb]
theorem Rows.link {n : Int} {hs : List (Int × Int)} {rows : List (List Int)} (h : Rows n hs rows) {r : List Int} (hr : r ∈ rows) {t : Int × Int} (ht : t ∈ hs) (hp : t.1 ∈ r ∨ t.2 ∈ r) : t ∈ links r := by
  obtain ⟨s, hs', hts⟩ := h.all t ht
  have := links_in hts
  have e : r = s := by
    rcases hp with hp | hp
    · exact h.same hr hs' hp this.1
    · exact h.same hr hs' hp this.2
  rw [e]; exact hts
theorem degT_filter (ts : List (Int × Int)) (p : Int) : degT (ts.filter fun t => decide (t.1 = p ∨ t.2 = p)) p = degT ts p := by
  unfold degT
  rw [List.countP_filter]
  congr 1
  refine List.countP_congr fun t _ => ?_
  simp
theorem Rows.headDeg {n : Int} {hs : List (Int × Int)} {rows : List (List Int)} (h : Rows n hs rows) {r : List Int} (hr : r ∈ rows) {p : Int} (hp : r.head? = some p) : degT hs p < 2 := by
  have hin : p ∈ r := by
    cases r with
    | nil => cases hp
    | cons x r => cases hp; exact List.mem_cons_self ..
  have h1 : degT hs p ≤ degT (links r) p := by
    rw [← degT_filter hs p]
    refine degT_sub (h.nd.filter _) (fun t ht => ?_) p
    have := List.mem_filter.mp ht
    refine h.link hr this.1 ?_
    rcases of_decide_eq_true this.2 with e | e
    · left; rw [e]; exact hin
    · right; rw [e]; exact hin
  have hn := row_nodup h.laid.nodup hr
  match r, hp, hn with
  | [x], _, _ =>
    have h2 : degT (links [x]) p = 0 := degT_zero fun t ht => by cases ht
    omega
  | x :: y :: r, hp, hn =>
    cases hp
    have h2 : degT (links (y :: r)) p = 0 := degT_links_out (List.nodup_cons.mp hn).1
    rw [links_cc, show tieOf p y :: links (y :: r) = [tieOf p y] ++ links (y :: r) from rfl, degT_app, degT_one, h2] at h1
    split at h1 <;> omega
theorem Rows.few {n : Int} {hs : List (Int × Int)} {rows : List (List Int)} (h : Rows n hs rows) {r : List Int} (hr : r ∈ rows) {p : Int} (hp : p ∈ r) (hd : degT hs p < 2) : ∃ X, (X = r ∨ X = r.reverse) ∧ X.head? = some p := by
  by_cases h1 : r.head? = some p
  · exact ⟨r, .inl rfl, h1⟩
  · by_cases h2 : r.getLast? = some p
    · exact ⟨r.reverse, .inr rfl, by rw [List.head?_reverse]; exact h2⟩
    · exfalso
      have q1 := degT_inner hp h1 h2
      have q2 := degT_sub (links_nodup (row_nodup h.laid.nodup hr)) (h.laid.sub r hr) p
      omega
def farE (x : Int) (t : Int × Int) : Int := if t.1 = x then t.2 else t.1
def besF (hs : List (Int × Int)) (x : Int) (row : List Int) : List Int := ((hs.filter fun t => decide (t.1 = x ∨ t.2 = x)).map (farE x)).filter fun q => decide (q ∉ row)
theorem besF_nodup {n : Int} {hs : List (Int × Int)} (nd : hs.Nodup) (rg : ∀ t ∈ hs, 0 ≤ t.1 ∧ t.1 < t.2 ∧ t.2 < n) (x : Int) (row : List Int) : (besF hs x row).Nodup := by
  refine List.Pairwise.filter _ ?_
  refine List.pairwise_map.mpr ?_
  refine (nd.filter _).imp_of_mem fun {s t} hs' ht hne e => hne ?_
  have a1 := List.mem_filter.mp hs'
  have a2 := List.mem_filter.mp ht
  have b1 := of_decide_eq_true a1.2
  have b2 := of_decide_eq_true a2.2
  have c1 := rg s a1.1
  have c2 := rg t a2.1
  obtain ⟨s1, s2⟩ := s
  obtain ⟨t1, t2⟩ := t
  unfold farE at e
  simp only at e b1 b2 c1 c2
  rw [Prod.mk.injEq]
  split at e <;> split at e <;> omega
theorem mem_besF {n : Int} {hs : List (Int × Int)} (rg : ∀ t ∈ hs, 0 ≤ t.1 ∧ t.1 < t.2 ∧ t.2 < n) {x q : Int} {row : List Int} : q ∈ besF hs x row ↔ (q ≠ x ∧ tieOf x q ∈ hs) ∧ q ∉ row := by
  unfold besF
  rw [List.mem_filter, List.mem_map, decide_eq_true_eq]
  refine and_congr_left fun _ => ⟨?_, ?_⟩
  · rintro ⟨⟨t1, t2⟩, ht, rfl⟩
    have a1 := List.mem_filter.mp ht
    have b1 := of_decide_eq_true a1.2
    have c1 := rg _ a1.1
    simp only at b1 c1
    unfold farE tieOf
    simp only
    split
    · rename_i e
      subst e
      refine ⟨by omega, ?_⟩
      rw [Int.min_eq_left (by omega), Int.max_eq_right (by omega)]
      exact a1.1
    · obtain rfl : t2 = x := by omega
      refine ⟨by omega, ?_⟩
      rw [Int.min_eq_right (by omega), Int.max_eq_left (by omega)]
      exact a1.1
  · rintro ⟨hne, ht⟩
    refine ⟨_, List.mem_filter.mpr ⟨ht, decide_eq_true ?_⟩, ?_⟩
    · unfold tieOf; simp only; omega
    · unfold farE tieOf
      simp only
      split <;> omega
theorem nodup_one {L : List Int} {z : Int} (nd : L.Nodup) (h : ∀ q, q ∈ L ↔ q = z) : L = [z] := by
  match L, nd, h with
  | [], _, h => exact absurd ((h z).mpr rfl) (by simp)
  | [a], _, h => rw [(h a).mp (List.mem_cons_self ..)]
  | a :: b :: r, nd, h =>
    exfalso
    have e1 := (h a).mp (by simp)
    have e2 := (h b).mp (by simp)
    exact (List.nodup_cons.mp nd).1 (by rw [e1, e2]; simp)
theorem split_one {A B C D : List Int} {x : Int} (hn : (A ++ x :: B).Nodup) (e : A ++ x :: B = C ++ x :: D) : A = C ∧ B = D := by
  have nx : ∀ {A B : List Int}, (A ++ x :: B).Nodup → x ∉ A := fun {A B} h hx => (List.nodup_append.mp h).2.2 x hx x (by simp) rfl
  have go : ∀ (A C : List Int), x ∉ A → x ∉ C → A ++ x :: B = C ++ x :: D → A = C ∧ B = D := by
    intro A
    induction A with
    | nil =>
      intro C _ hC e
      cases C with
      | nil => simp at e; exact ⟨rfl, e⟩
      | cons c C => simp at e; exact absurd (by rw [e.1]; simp) hC
    | cons a A ih =>
      intro C hA hC e
      cases C with
      | nil => simp at e; exact absurd (by rw [e.1]; simp) hA
      | cons c C =>
        simp at e
        obtain ⟨rfl, e⟩ := e
        have := ih C (fun h => hA (by simp [h])) (fun h => hC (by simp [h])) e
        exact ⟨by rw [this.1], this.2⟩
  exact go A C (nx hn) (nx (e ▸ hn)) e
theorem Rows.step {n : Int} {hs : List (Int × Int)} {rows : List (List Int)} (h : Rows n hs rows) {r X R as bs : List Int} {x : Int} (hr : r ∈ rows) (hX : X = r ∨ X = r.reverse) (e : X = as ++ x :: bs) (hd : ∀ p ∈ X, p ∉ R) : besF hs x (R ++ as ++ [x]) = bs.head?.toList := by
  have hn := row_nodup h.laid.nodup hr
  have mX : ∀ p, p ∈ X ↔ p ∈ r := fun p => by rcases hX with rfl | rfl <;> simp
  have lX : ∀ t, t ∈ links X ↔ t ∈ links r := fun t => by
    rcases hX with rfl | rfl
    · exact Iff.rfl
    · exact links_mem_rev
  have nX : X.Nodup := by
    rcases hX with rfl | rfl
    · exact hn
    · exact (List.reverse_perm r).symm.nodup hn
  have hx : x ∈ r := (mX x).mp (by rw [e]; simp)
  have key : ∀ q, q ∈ besF hs x (R ++ as ++ [x]) ↔ bs.head? = some q := fun q => by
    rw [mem_besF h.rg]
    rw [e] at nX
    obtain ⟨n1, n2, n3⟩ := List.nodup_append.mp nX
    have n4 := List.nodup_cons.mp n2
    constructor
    · rintro ⟨⟨hne, ht⟩, hno⟩
      have h1 : tieOf x q ∈ links X := (lX _).mpr (h.link hr ht (by
        rcases tieOf_left x q with e | e
        · left; rw [e]; exact hx
        · right; rw [e]; exact hx))
      have ends : (tieOf x q).1 = q ∨ (tieOf x q).2 = q := by rw [tieOf_comm]; exact tieOf_left q x
      obtain ⟨cs, ds, y, z, e2, et⟩ := links_mem h1
      have hyz : (y = x ∧ z = q) ∨ (y = q ∧ z = x) := by
        unfold tieOf at et
        rw [Prod.mk.injEq] at et
        omega
      rw [e] at e2
      rcases hyz with ⟨rfl, rfl⟩ | ⟨rfl, rfl⟩
      · have : as = cs ∧ bs = z :: ds := split_one nX e2
        rw [this.2]
        rfl
      · exfalso
        have e3 : as ++ z :: bs = (cs ++ [y]) ++ z :: ds := by rw [e2]; simp
        have := split_one nX e3
        exact hno (by rw [this.1]; simp)
    · intro hb
      obtain ⟨ds, rfl⟩ : ∃ ds, bs = q :: ds := by
        cases bs with
        | nil => cases hb
        | cons y ds => cases hb; exact ⟨ds, rfl⟩
      have hqx : q ≠ x := fun e => n4.1 (by rw [e]; simp)
      refine ⟨⟨hqx, h.laid.sub r hr _ ((lX _).mp ?_)⟩, ?_⟩
      · rw [e, links_app]
        refine List.mem_append_right _ ?_
        rw [links_cc]
        exact List.mem_cons_self ..
      · intro hm
        rw [List.append_assoc] at hm
        rcases List.mem_append.mp hm with hm | hm
        · exact hd q (by rw [e]; simp) hm
        · rcases List.mem_append.mp hm with hm | hm
          · exact n3 q hm q (by simp) rfl
          · exact hqx (List.mem_singleton.mp hm)
  have nd := besF_nodup h.nd h.rg x (R ++ as ++ [x])
  cases bs with
  | nil => exact List.eq_nil_iff_forall_not_mem.mpr fun q hq => by have := (key q).mp hq; cases this
  | cons z ds => exact nodup_one nd fun q => by rw [key]; simp [eq_comm]
/-- rows gone, one behind another, each either way round -/
inductive Gone (rows : List (List Int)) : List (List Int) → List Int → Prop
  | nil : Gone rows [] []
  | snoc {ks : List (List Int)} {R r X : List Int} : Gone rows ks R → r ∈ rows → (∀ p ∈ r, p ∉ R) → (X = r ∨ X = r.reverse) → Gone rows (ks ++ [r]) (R ++ X)
theorem Gone.mem {rows ks : List (List Int)} {R : List Int} (h : Gone rows ks R) : ∀ p, p ∈ R ↔ ∃ r ∈ ks, p ∈ r := by
  induction h with
  | nil => simp
  | @snoc ks R r X _ hr hd hX ih =>
    intro p
    have mX : p ∈ X ↔ p ∈ r := by rcases hX with rfl | rfl <;> simp
    rw [List.mem_append, ih, mX]
    constructor
    · rintro (⟨s, hs, h⟩ | h)
      · exact ⟨s, by simp [hs], h⟩
      · exact ⟨r, by simp, h⟩
    · rintro ⟨s, hs, h⟩
      rcases List.mem_append.mp hs with hs | hs
      · exact .inl ⟨s, hs, h⟩
      · rw [List.mem_singleton] at hs; subst hs; exact .inr h
theorem Gone.sub {rows ks : List (List Int)} {R : List Int} (h : Gone rows ks R) : ∀ r ∈ ks, r ∈ rows := by
  induction h with
  | nil => intro r hr; cases hr
  | @snoc ks R r X _ hr hd hX ih =>
    intro s hs
    rcases List.mem_append.mp hs with hs | hs
    · exact ih s hs
    · rw [List.mem_singleton] at hs; subst hs; exact hr
theorem Gone.nodup {rows ks : List (List Int)} {R : List Int} (h : Gone rows ks R) (hn : ∀ r ∈ rows, r.Nodup) : R.Nodup := by
  induction h with
  | nil => exact List.nodup_nil
  | @snoc ks R r X _ hr hd hX ih =>
    refine List.nodup_append.mpr ⟨ih, ?_, fun a ha b hb e => ?_⟩
    · rcases hX with rfl | rfl
      · exact hn _ hr
      · exact (List.reverse_perm r).symm.nodup (hn _ hr)
    · subst e
      refine hd a ?_ ha
      rcases hX with rfl | rfl
      · exact hb
      · simpa using hb
theorem Gone.links {rows ks : List (List Int)} {R : List Int} (h : Gone rows ks R) : ∀ r ∈ ks, ∀ t ∈ links r, t ∈ Cr.links R := by
  induction h with
  | nil => intro r hr; cases hr
  | @snoc ks R r X _ hr hd hX ih =>
    intro s hs t ht
    rw [links_app]
    rcases List.mem_append.mp hs with hs | hs
    · exact List.mem_append_left _ (List.mem_append_left _ (ih s hs t ht))
    · rw [List.mem_singleton] at hs
      subst hs
      refine List.mem_append_right _ ?_
      rcases hX with rfl | rfl
      · exact ht
      · exact links_mem_rev.mpr ht
theorem Gone.end {n : Int} {hs : List (Int × Int)} {rows ks : List (List Int)} {R : List Int} (h : Gone rows ks R) (hR : Rows n hs rows) (hd : ∀ p : Int, 0 ≤ p → p < n → degT hs p < 2 → p ∈ R) : R.Perm (up 0 n.toNat) ∧ ∀ t ∈ hs, t ∈ rties R := by
  have all : ∀ r ∈ rows, r ∈ ks := fun r hr => by
    obtain ⟨p, hp⟩ : ∃ p, r.head? = some p := ⟨_, List.head?_eq_some_head (hR.laid.ne _ hr)⟩
    have hin : p ∈ r := List.mem_of_head? hp
    have hrg := hR.laid.mem.mp ⟨r, hr, hin⟩
    have := hd p hrg.1 hrg.2 (hR.headDeg hr hp)
    obtain ⟨s, hs', hps⟩ := (h.mem p).mp this
    rw [hR.same hr (h.sub s hs') hin hps]
    exact hs'
  refine ⟨?_, fun t ht => ?_⟩
  · refine (List.perm_ext_iff_of_nodup (h.nodup fun r hr => row_nodup hR.laid.nodup hr) ((up_inc 0 n.toNat).imp fun {x y} q => (show x ≠ y by omega))).mpr fun p => ?_
    rw [h.mem, mem_up]
    constructor
    · rintro ⟨r, hr, hp⟩
      have := hR.laid.mem.mp ⟨r, h.sub r hr, hp⟩
      omega
    · intro hp
      obtain ⟨r, hr, hpr⟩ := hR.laid.mem.mpr (show 0 ≤ p ∧ p < n by omega)
      exact ⟨r, all r hr, hpr⟩
  · obtain ⟨r, hr, htr⟩ := hR.all t ht
    exact List.mem_append_right _ (h.links r (all r hr) t htr)
/-- lots of places brought together tie by tie -/
structure Lots (n : Int) (found : List (Int × Int)) (lots : List (List Int)) : Prop where
  perm : lots.flatten.Perm (up 0 n.toNat)
  sep : ∀ r ∈ lots, ∀ t ∈ found, t.1 ∈ r ↔ t.2 ∈ r
theorem Lots.start {n : Int} : Lots n [] ((up 0 n.toNat).map fun p => [p]) := by
  refine ⟨?_, fun r hr t ht => by cases ht⟩
  rw [← List.flatMap_def, List.flatMap_singleton']
theorem Lots.nodup {n : Int} {found : List (Int × Int)} {lots : List (List Int)} (h : Lots n found lots) : lots.flatten.Nodup :=
  h.perm.symm.nodup ((up_inc _ _).imp fun {a b} q => (show a ≠ b by omega))
theorem Lots.pick {n : Int} {found : List (Int × Int)} {lots : List (List Int)} (h : Lots n found lots) {a : Int} (h0 : 0 ≤ a) (h1 : a < n) : ∃ r, lots.filter (fun r => decide (a ∈ r)) = [r] ∧ r ∈ lots ∧ a ∈ r :=
  pick_row h.nodup (h.perm.mem_iff.mpr (mem_up.mpr (by omega)))
theorem Lots.apart {n : Int} {found : List (Int × Int)} {lots : List (List Int)} (h : Lots n found lots) {a b : Int} {one other : List Int} (e1 : lots.filter (fun r => decide (a ∈ r)) = [one]) (m1 : one ∈ lots) (a1 : a ∈ one) (e2 : lots.filter (fun r => decide (b ∈ r)) = [other]) (hne : one ≠ other) : ¬ Conn found a b := fun hc =>
  hne (pick_uniq e2 m1 ((hc.keep (P := fun x => x ∈ one) fun t ht => h.sep one m1 t ht).mp a1))
theorem Lots.join {n : Int} {found : List (Int × Int)} {lots : List (List Int)} (h : Lots n found lots) {a b : Int} {one other : List Int} (e1 : lots.filter (fun r => decide (a ∈ r)) = [one]) (m1 : one ∈ lots) (a1 : a ∈ one) (e2 : lots.filter (fun r => decide (b ∈ r)) = [other]) (m2 : other ∈ lots) (b2 : b ∈ other) (hne : one ≠ other) :
    Lots n (found ++ [(a, b)]) ((lots.filter fun r => decide (r ≠ one) && decide (r ≠ other)) ++ [one ++ other]) := by
  have ef : (lots.filter fun r => decide (r ≠ one) && decide (r ≠ other)) = lots.filter fun r => decide (a ∉ r) && decide (b ∉ r) := by
    refine List.filter_congr fun r hr => ?_
    have q1 : r = one ↔ a ∈ r := ⟨fun e => e ▸ a1, fun h => pick_uniq e1 hr h⟩
    have q2 : r = other ↔ b ∈ r := ⟨fun e => e ▸ b2, fun h => pick_uniq e2 hr h⟩
    by_cases c1 : a ∈ r <;> by_cases c2 : b ∈ r <;> simp [q1, q2, c1, c2]
  rw [ef]
  have hp := two_rows e1 e2 hne
  refine ⟨?_, fun r hr t ht => ?_⟩
  · refine List.Perm.trans ?_ h.perm
    rw [List.flatten_append, List.flatten_cons, List.flatten_nil, List.append_nil]
    refine List.Perm.trans ?_ hp.flatten.symm
    rw [List.flatten_cons, List.flatten_cons, ← List.append_assoc one]
    exact List.perm_append_comm
  · rcases List.mem_append.mp hr with hr | hr
    · have hf := List.mem_filter.mp hr
      rcases List.mem_append.mp ht with ht | ht
      · exact h.sep r hf.1 t ht
      · rw [List.mem_singleton] at ht
        subst ht
        have := hf.2
        simp at this
        simp [this]
    · rw [List.mem_singleton] at hr
      subst hr
      rcases List.mem_append.mp ht with ht | ht
      · rw [List.mem_append, List.mem_append, h.sep one m1 t ht, h.sep other m2 t ht]
      · rw [List.mem_singleton] at ht
        subst ht
        simp [a1, b2]
theorem held_more {found : List (Int × Int)} {a b : Int} (few : ∀ p, degT found p < 3) (no : ¬ hasRing found) (h : ¬ Conn found a b) (da : degT found a < 2) (db : degT found b < 2) : (∀ p, degT (found ++ [(a, b)]) p < 3) ∧ ¬ hasRing (found ++ [(a, b)]) := by
  refine ⟨fun p => ?_, fun hr => (hasRing_snoc.mp hr).elim no h⟩
  rw [degT_app, degT_one]
  have := few p
  split
  · rename_i q
    rcases q with rfl | rfl <;> simp_all <;> omega
  · omega
theorem Lots.held {W : Wb} {found : List (Int × Int)} (hW : WebOk W) (nd : found.Nodup) (hs : ∀ t ∈ found, t ∈ W.ts) (hl : found.length ≤ 4) (few : ∀ p, degT found p < 3) (no : ¬ hasRing found) : HeldOk W (srtP found) := by
  have h3 := hW.lo
  obtain ⟨rows, R⟩ := rows_ex (n := W.n) (by omega) (fun t ht => hW.ts.1 t (hs t ht)) nd few no
  have hrl := R.laid.perm.length_eq
  rw [up_length] at hrl
  have hc := R.cnt
  have hrow : 1 ≤ rows.length := by
    cases rows with
    | nil => simp at hrl; omega
    | cons r rows => simp
  refine heldOk_cyc (ps := rows.flatten) R.laid.nodup (by omega) (srtP_lt nd) (fun t ht => ?_) (fun t ht => hs t (mem_srtP.mp ht)) (by rw [srtP_len]; omega) (by rw [srtP_len]; omega)
  obtain ⟨r, hr, ht'⟩ := R.all t (mem_srtP.mp ht)
  exact List.mem_append_right _ (links_flat hr ht')
/-- where all is tied behind the last put, the last ring led back is one of the web -/
theorem led_all {W : Wb} {hs ps : List (Int × Int)} {R : List Int} (hW : WebOk W) (row : PutsRow hs.length W ps) (hh : HeldOk W hs) (hall : (after W ps).ts = allPairs W.n) (hR : R.Perm (up 0 W.n.toNat)) (hRh : ∀ t ∈ hs, t ∈ rties R) : WholeOk (after W ps) hs R := by
  have h3 := hW.lo
  have hRl := hR.length_eq
  rw [up_length] at hRl
  have hRn : R.Nodup := hR.symm.nodup ((up_inc 0 W.n.toNat).imp fun {x y} h => (show x ≠ y by omega))
  have hRr : ∀ p ∈ R, 0 ≤ p ∧ p < W.n := fun p hp => by have := mem_up.mp (hR.mem_iff.mp hp); omega
  have an : (after W ps).n = W.n := after_n ps W
  exact ⟨⟨⟨hRn, fun p hp => by rw [an]; exact hRr p hp⟩, by omega, fun t ht => by rw [hall]; exact mem_all.mpr (rties_range hRn hRr (by omega) t ht)⟩, by rw [an]; omega, hRh⟩
theorem backs_last {W : Wb} {hs ps : List (Int × Int)} (hrow : PutsRow hs.length W ps) (hh : ∀ t ∈ hs, t ∈ W.ts) : ∀ (k : Nat) (r : List Int), k ≤ ps.length → WholeOk (after W (ps.take k)) hs r → told r = r →
    ∃ x, (backs W hs ps k r).getLast? = some x ∧ WholeOk W hs x ∧ told x = x
  | 0, r, _, w, t => ⟨r, rfl, by rw [List.take_zero] at w; exact w, t⟩
  | k + 1, r, hk, w, t => by
    obtain ⟨p, hp⟩ : ∃ p, ps[k]? = some p := ⟨_, List.getElem?_eq_getElem (by omega)⟩
    obtain ⟨ok, hm, e, _⟩ := hrow.at hp
    unfold backs
    rw [hp, Option.getD_some]
    rw [e, after_snoc] at w
    have hh2 : ∀ t ∈ hs, t ∈ (after W (ps.take k)).ts := fun t ht => mem_after.mpr (List.mem_append_left _ (hh t ht))
    have w2 := over_whole ok hh2 hm w
    have w3 := w.ring.pl.1
    have h3 : 3 ≤ r.length := w.ring.len
    obtain ⟨x, e1, e2⟩ := backs_last hrow hh k _ (by omega) w2 (told_overF w3 h3)
    refine ⟨x, ?_, e2⟩
    cases e3 : backs W hs ps k (overF (after W (ps.take k)) hs p r) with
    | nil => rw [e3] at e1; cases e1
    | cons y L => rw [List.getLast?_cons_cons, ← e3]; exact e1
end Cr
set_option maxHeartbeats 1000000
/-! Fw71: comprehensions that pick, way found along held ties -/
namespace Cr
open PySem PySem.Spec PyProof.Rows L2
theorem flt_map {α β : Type} (p : α → Prop) [DecidablePred p] (g : α → β) : ∀ l : List α, l.filterMap (fun x => if p x then some (g x) else none) = (l.filter fun x => decide (p x)).map g
  | [] => rfl
  | x :: l => by
    rw [List.filterMap_cons, List.filter_cons]
    by_cases h : p x <;> simp [h, flt_map p g l]
/-- a comprehension that picks -/
theorem LcI.pick {α : Type} {f : α → PD} {ts : List α} {vs : List Nat} {t : Bd} {cond : ET} {elt : EE} {ρ : En} {P : D → Prop} (p : α → Prop) [DecidablePred p] (g : α → PD)
    (hs : ∀ x ∈ ts, ∀ (Q : PD → Prop) (R : Prop), (p x → Q (g x)) → (¬ p x → R) → t (f x) (wipeD ρ vs) fun ρ' => cond ρ' (fun b => if b = true then elt ρ' (fun y => match y with | .val z => Q z | _ => False) (fun _ => False) else R) fun _ => False)
    (he : P (.new ((ts.filter fun x => decide (p x)).map g))) : LcI (ts.map f) vs t cond elt ρ P := by
  refine LcI.fltm (fun x => if p x then some (g x) else none) (fun x hx Q R q r => hs x hx Q R (fun h => q _ (by simp [h])) fun h => r (by simp [h])) ?_
  rw [flt_map]
  exact he
theorem LcI.pickR {lo : Int} {n : Nat} {vs : List Nat} {t : Bd} {cond : ET} {elt : EE} {ρ : En} {P : D → Prop} (p : Int → Prop) [DecidablePred p] (g : Int → PD)
    (hs : ∀ x : Int, lo ≤ x → x < lo + n → ∀ (Q : PD → Prop) (R : Prop), (p x → Q (g x)) → (¬ p x → R) → t (.int x) (wipeD ρ vs) fun ρ' => cond ρ' (fun b => if b = true then elt ρ' (fun y => match y with | .val z => Q z | _ => False) (fun _ => False) else R) fun _ => False)
    (he : P (.new (((up lo n).filter fun x => decide (p x)).map g))) : LcI (Cr.rng lo n) vs t cond elt ρ P := by
  rw [rng_up]
  exact LcI.pick p g (fun x hx Q R q r => hs x (mem_up.mp hx).1 (mem_up.mp hx).2 Q R q r) he
end Cr
set_option maxHeartbeats 4000000
namespace LW
open PySem PySem.Spec PyProof.Rows L2 Cr
abbrev c_l_next : DSp := Cr.c_l_next2
@[simp] abbrev n_is_int : Nat := 3
def b_is_int : ES := (sRet (eAnd (eIsI "int" (eVar 0)) (eAnd (eNot (eIsI "bool" (eVar 0))) (eChain gLe gLe (eVar 1) (eVar 0) (eVar 2)))))
def c_is_int : DSp := fun ds P _ => ∃ d lo hi, ds = [.val d, .val (.int lo), .val (.int hi)] ∧ P (.val (.bool (isIntIn lo hi d)))
theorem h_is_int : ∀ ds P E, c_is_int ds P E → rdB n_is_int b_is_int ds P E := by
  rintro _ P E ⟨d, lo, hi, rfl, hP⟩
  cases d <;> simp [b_is_int, isIntIn] at hP ⊢ <;> try exact hP
  split
  · rename_i h; simpa [h] using hP
  · rename_i h; simpa [h] using hP
@[simp] abbrev n_in_order : Nat := 0
abbrev c_in_order : DSp := fun _ _ _ => False

@[simp] abbrev n_counts_of : Nat := 5
def b_counts_of : ES := (sSeq (sSet 1 (eLc (iRange1 (eBin gIx (eVar 0) (eC (.int 0)))) [4] (bName 4) tTrue (eC (.int 0)))) (sSeq (sFor (iSeq (eBin gIx (eVar 0) (eC (.int 1)))) (bPair 2 3) (sSeq (sAugSub 1 (fun i j => i + j) (eVar 2) (eC (.int 1))) (sAugSub 1 (fun i j => i + j) (eVar 3) (eC (.int 1))))) (sRet (eCB gTuple (aCons (eVar 1) aNil)))))
def c_counts_of : DSp := fun ds P _ => ∃ W, ds = [.val (encW W)] ∧ WebOk W ∧ P (.val (.tuple ((degs W).map .int)))
theorem h_counts_of : ∀ ds P E, c_counts_of ds P E → rdB n_counts_of b_counts_of ds P E := by
  rintro _ P E ⟨W, rfl, hW, hP⟩
  have h1 := hW.lo
  have h2 := hW.hi
  simp [b_counts_of]
  refine ⟨by omega, by omega, LcI.rng (fun _ => .int 0) (fun x _ _ Q q => by simpa using q) ?_⟩
  simp
  refine ForI.map (fun pre ρ => ∃ u v, ρ = [.val (encW W), .new ((up 0 W.n.toNat).map (fun p => .int (degT pre p))), u, v, .unset]) ⟨_, _, rfl⟩ ?_ ?_
  · rintro a ⟨x, y⟩ b _ e ⟨u, v, rfl⟩
    have := hW.ts.1 (x, y) (by rw [e]; simp)
    simp only at this
    simp [encPr, up_at this.1 (show x < W.n.toNat by omega), set_up _ this.1]
    simp [up_at (show 0 ≤ y by omega) (show y < W.n.toNat by omega), set_up _ (show 0 ≤ y by omega), show y ≠ x by omega]
    refine ⟨by omega, by omega, ?_⟩
    intro p hp
    rw [degT_app, degT_one]
    by_cases e1 : p = y
    · subst e1; simp
    · have e1' : ¬ y = p := fun h => e1 h.symm
      by_cases e2 : p = x
      · subst e2; simp [e1]
      · have e2' : ¬ x = p := fun h => e2 h.symm
        simp [e1, e2, e1', e2']
  · rintro _ ⟨u, v, rfl⟩
    simp
    have : degs W = (up 0 W.n.toNat).map (degT W.ts) := rfl
    rw [this, List.map_map] at hP
    exact hP
@[simp] abbrev n_beside : Nat := 5
def b_beside : ES := (sSeq (sSet 2 (eLst aNil)) (sSeq (sFor (iSeq (eBin gIx (eVar 0) (eC (.int 1)))) (bPair 3 4) (sIf (tOf (eBin gEq (eVar 3) (eVar 1))) (sMut 2 (aCons (eVar 4) aNil) hAppend) (sIf (tOf (eBin gEq (eVar 4) (eVar 1))) (sMut 2 (aCons (eVar 3) aNil) hAppend) sNext))) (sRet (eCB gTuple (aCons (eCB gSrt (aCons (eVar 2) aNil)) aNil)))))
def c_beside : DSp := fun ds P _ => ∃ W p, ds = [.val (encW W), .val (.int p)] ∧ WebOk W ∧ P (.val (.tuple ((nbrs W p).map .int)))
theorem h_beside : ∀ ds P E, c_beside ds P E → rdB n_beside b_beside ds P E := by
  rintro _ P E ⟨W, p, rfl, hW, hP⟩
  have h1 := hW.lo
  have h2 := hW.hi
  have hl := hW.ts.len h2
  have hz := sizeLine_big
  simp [b_beside]
  refine ForI.map (fun pre ρ => ∃ u v, ρ = [.val (encW W), .val (.int p), .new ((found pre p).map .int), u, v]) ⟨_, _, rfl⟩ ?_ ?_
  · rintro a ⟨x, y⟩ b _ e ⟨u, v, rfl⟩
    have hla : (found a p).length ≤ a.length := List.length_filterMap_le ..
    have hlb : a.length ≤ 400 := by have := congrArg List.length e; simp at this; omega
    have ef : found (a ++ [(x, y)]) p = found a p ++ (otherOf p (x, y)).toList := by unfold found; rw [List.filterMap_append]; simp [Option.toList]; split <;> simp_all
    rw [ef]
    simp [encPr, otherOf]
    by_cases e1 : x = p
    · simp [e1]; omega
    · by_cases e2 : y = p
      · simp [e1, e2]; omega
      · simp [e1, e2]
  · rintro _ ⟨u, v, rfl⟩
    simp
    rw [← srtI_uniq ((found_perm hW p).symm) ((nbrs_inc W p).imp fun h => by omega)]
    exact hP
@[simp] abbrev n_all_tied : Nat := 4
def b_all_tied : ES := (sSeq (sSet 1 (eLst aNil)) (sSeq (sFor (iRange1 (eVar 0)) (bName 2) (sExtend 1 (eLc (iRange2 (eBin gAdd (eVar 2) (eC (.int 1))) (eVar 0)) [3] (bName 3) tTrue (eTup (aCons (eVar 2) (aCons (eVar 3) aNil)))))) (sRet (eTup (aCons (eVar 0) (aCons (eCB gTuple (aCons (eVar 1) aNil)) aNil))))))
def c_all_tied : DSp := fun ds P _ => ∃ n : Int, ds = [.val (.int n)] ∧ 0 ≤ n ∧ n ≤ 20 ∧ P (.val (encW ⟨n, allPairs n⟩))
theorem h_all_tied : ∀ ds P E, c_all_tied ds P E → rdB n_all_tied b_all_tied ds P E := by
  rintro _ P E ⟨n, rfl, h0, h1, hP⟩
  have hz := sizeLine_big
  simp [b_all_tied]
  refine ⟨by omega, by omega, ForI.rng (fun i ρ => ∃ u, ρ = [.val (.int n), .new (((up 0 i).flatMap fun a => pairsFrom a n).map encPr), u, .unset]) ⟨_, rfl⟩ ?_ ?_⟩
  · rintro i _ hi ⟨u, rfl⟩
    simp
    repeat refine ⟨by omega, ?_⟩
    refine LcI.rng (fun b => encPr (i, b)) (fun x _ _ Q q => ?_) ?_
    · simp [encPr] at q ⊢
      exact ⟨by omega, q⟩
    · have hlen := flat_len n i (by omega)
      simp [up_succ] at hlen ⊢
      refine ⟨by omega, ?_⟩
      simp [pairsFrom]
  · rintro _ ⟨u, rfl⟩
    simp
    exact ⟨by omega, hP⟩
@[simp] abbrev n_told_ring : Nat := 0
abbrev c_told_ring : DSp := fun _ _ _ => False

@[simp] abbrev n_have_ring : Nat := 8
def b_have_ring : ES := (sSeq (sSet 2 (eListRg (rg1 (eBin gIx (eVar 0) (eC (.int 0)))))) (sSeq (sFor (iSeq (eVar 1)) (bPair 3 4) (sSeq (sSet 5 (eBin gIx (eVar 2) (eVar 3))) (sSeq (sSet 6 (eBin gIx (eVar 2) (eVar 4))) (sSeq (sIf (tOf (eBin gEq (eVar 5) (eVar 6))) (sRet (eC (.bool true))) sNext) (sSet 2 (eLc (iSeq (eVar 2)) [7] (bName 7) tTrue (eIf (tOf (eBin gEq (eVar 7) (eVar 6))) (eVar 5) (eVar 7)))))))) (sRet (eC (.bool false)))))
open Classical in
noncomputable def c_have_ring : DSp := fun ds P _ => ∃ W ts, ds = [.val (encW W), .val (.tuple (ts.map encPr))] ∧ WebOk W ∧ (∀ t ∈ ts, 0 ≤ t.1 ∧ t.1 < W.n ∧ 0 ≤ t.2 ∧ t.2 < W.n) ∧ P (.val (.bool (decide (hasRing ts))))
open Classical in
theorem h_have_ring : ∀ ds P E, c_have_ring ds P E → rdB n_have_ring b_have_ring ds P E := by
  rintro _ P E ⟨W, ts, rfl, hW, hb, hP⟩
  have hz := sizeLine_big
  have h1 := hW.lo
  have h2 := hW.hi
  simp [b_have_ring]
  repeat refine And.intro (by omega) ?_
  refine ForI.map (fun pre ρ => ∃ (lab : Int → Int) (a b c d : D), ρ = [.val (encW W), .val (.tuple (ts.map encPr)), .new ((up 0 W.n.toNat).map fun p => .int (lab p)), a, b, c, d, .unset] ∧ (∀ a b, lab a = lab b ↔ Conn pre a b) ∧ ¬ hasRing pre) ⟨id, .unset, .unset, .unset, .unset, by simp [rng_up], fun a b => ⟨fun e => by cases e; exact .refl _, fun h => (Conn.keep (P := fun x => x = a) (fun t ht => by simp at ht) h).mp rfl |>.symm⟩, hasRing_nil⟩ ?_ ?_
  · rintro pre ⟨x, y⟩ post _ e ⟨lab, a, b, c, d, rfl, hlab, hno⟩
    have hxy := hb (x, y) (by rw [e]; simp)
    simp only at hxy
    simp [encPr, atI_up (f := fun p => PyData.int (lab p)) hxy.1 (show x < W.n.toNat by omega), atI_up (f := fun p => PyData.int (lab p)) hxy.2.2.1 (show y < W.n.toNat by omega)]
    split
    · rename_i hl
      have : hasRing ts := ⟨pre, x, y, post, e, (hlab x y).mp hl⟩
      rw [decide_eq_true this] at hP
      exact hP
    · rename_i hl
      refine LcI.map (f := fun p => PyData.int (lab p)) (fun p => .int (relab (lab x) (lab y) (lab p))) (fun p hp Q q => ?_) ?_
      · simp
        unfold relab at q
        split <;> simp_all
      · simp
        refine ⟨fun p => relab (lab x) (lab y) (lab p), fun p _ => rfl, ?_, ?_⟩
        · exact relab_conn hlab
        · rw [hasRing_snoc]
          rintro (h | h)
          · exact hno h
          · exact hl ((hlab x y).mpr h)
  · rintro _ ⟨lab, a, b, c, d, rfl, hlab, hno⟩
    simp
    rw [decide_eq_false hno] at hP
    exact hP
@[simp] abbrev n_at_place : Nat := 0
abbrev c_at_place : DSp := fun _ _ _ => False

@[simp] abbrev n_lots_of : Nat := 5
def b_lots_of : ES := (sSeq (sSet 1 (eLst aNil)) (sSeq (sFor (iRange2 (eC (.int 1)) (eBin gShl (eC (.int 1)) (eVar 0))) (bName 2) (sSeq (sSet 3 (eCB gTuple (aCons (eLc (iRange1 (eVar 0)) [4] (bName 4) (tOf (eBin gEq (eBin gAnd (eBin gShr (eVar 2) (eVar 4)) (eC (.int 1))) (eC (.int 1)))) (eVar 4)) aNil))) (sIf (tOf (eBin gLt (eBin gMul (eC (.int 2)) (eCB gLen (aCons (eVar 3) aNil))) (eVar 0))) (sMut 1 (aCons (eVar 3) aNil) hAppend) sNext))) (sRetV 1)))
def c_lots_of : DSp := fun ds P _ => ds = [.val (.int 8)] ∧ ∀ lots : List (List Int), lots.head? = some [0] → (∀ l ∈ lots, plOk 8 l) → P (.new (lots.map encI))
theorem h_lots_of : ∀ ds P E, c_lots_of ds P E → rdB n_lots_of b_lots_of ds P E := by
  rintro _ P E ⟨rfl, hP⟩
  have hz := sizeLine_big
  simp [b_lots_of]
  refine ⟨⟨by decide, by decide, by decide⟩, ?_⟩
  refine ForI.rng (fun i ρ => ∃ (lots : List (List Int)) (u v w : D), ρ = [.val (.int 8), .new (lots.map encI), u, v, w] ∧ (1 ≤ i → lots.head? = some [0]) ∧ (∀ l ∈ lots, plOk 8 l) ∧ lots.length ≤ i) ⟨[], _, _, _, rfl, fun h => by omega, (fun l hl => by cases hl), by simp⟩ ?_ ?_
  · rintro i _ hi ⟨lots, u, v, w, rfl, hh, hp, hl⟩
    simp
    refine LcI.frng (fun b => if Builtin.bitAnd ((1 + (i : Int)) / 2 ^ b.toNat) 1 = 1 then some (.int b) else none) (fun b b0 b1 Q R q r => ?_) ?_
    · simp
      refine ⟨b0, ?_⟩
      split
      · rename_i h
        exact q _ (by rw [if_pos h])
      · rename_i h
        exact r (by rw [if_neg h])
    · have e : ∀ L : List Int, L.filterMap (fun b => if Builtin.bitAnd ((1 + (i : Int)) / 2 ^ b.toNat) 1 = 1 then some (PyData.int b) else none) = (L.filter fun b => decide (Builtin.bitAnd ((1 + (i : Int)) / 2 ^ b.toNat) 1 = 1)).map .int := by
        intro L
        induction L with
        | nil => rfl
        | cons y L ih =>
          rw [List.filterMap_cons, List.filter_cons]
          by_cases h : Builtin.bitAnd ((1 + (i : Int)) / 2 ^ y.toNat) 1 = 1
          · rw [if_pos h, decide_eq_true h, ih]; rfl
          · rw [if_neg h, decide_eq_false h, ih]; rfl
      rw [e]
      have hsub : (List.filter (fun b : Int => decide (Builtin.bitAnd ((1 + (i : Int)) / 2 ^ b.toNat) 1 = 1)) (up 0 8)).Sublist (up 0 8) := List.filter_sublist
      have h1 : i = 0 → List.filter (fun b : Int => decide (Builtin.bitAnd ((1 + (i : Int)) / 2 ^ b.toNat) 1 = 1)) (up 0 8) = [0] := fun h => by subst h; decide +kernel
      generalize List.filter (fun b : Int => decide (Builtin.bitAnd ((1 + (i : Int)) / 2 ^ b.toNat) 1 = 1)) (up 0 8) = F at hsub h1 ⊢
      have hFl := hsub.length_le
      rw [up_length] at hFl
      simp
      refine ⟨mulA (by omega) (by omega), ?_⟩
      split
      · refine ⟨by omega, lots ++ [F], by simp [encI], ?_, fun l hl' => ?_, by simp; omega⟩
        · by_cases h0 : i = 0
          · have : lots = [] := List.length_eq_zero_iff.mp (by omega)
            rw [this, h1 h0]; rfl
          · have := hh (by omega)
            cases lots with
            | nil => cases this
            | cons x r => exact this
        · rcases List.mem_append.mp hl' with h | h
          · exact hp l h
          · rw [List.mem_singleton] at h
            subst h
            refine ⟨List.Nodup.sublist hsub ((up_inc 0 8).imp fun {x y} h => (show x ≠ y by omega)), fun p hp' => ?_⟩
            have := mem_up.mp (hsub.subset hp')
            omega
      · rename_i hc
        refine ⟨lots, rfl, ?_, hp, by omega⟩
        by_cases h0 : i = 0
        · rw [h1 h0] at hc; simp at hc
        · exact hh (by omega)
  · rintro _ ⟨lots, u, v, w, rfl, hh, hp, hl⟩
    simp
    exact hP lots (hh (by decide)) hp
@[simp] abbrev n_with_put : Nat := 2
def b_with_put : ES := (sRet (eTup (aCons (eBin gIx (eVar 0) (eC (.int 0))) (aCons (eCB gTuple (aCons (eCB gSrt (aCons (eBin gAdd (eBin gIx (eVar 0) (eC (.int 1))) (eTup (aCons (eVar 1) aNil))) aNil)) aNil)) aNil))))
def c_with_put : DSp := fun ds P _ => ∃ W p, ds = [.val (encW W), .val (encPr p)] ∧ WebOk W ∧ p ∉ W.ts ∧ P (.val (encW (W.put p)))
theorem h_with_put : ∀ ds P E, c_with_put ds P E → rdB n_with_put b_with_put ds P E := by
  rintro _ P E ⟨W, p, rfl, hW, hn, hP⟩
  have h1 := hW.lo
  have h2 := hW.hi
  have hz := sizeLine_big
  have hl := hW.ts.len h2
  simp [b_with_put]
  rw [put_srt hW hn]
  exact ⟨by omega, by omega, by omega, hP⟩
@[simp] abbrev n_from_put : Nat := 0
abbrev c_from_put : DSp := fun _ _ _ => False

@[simp] abbrev n_held_beside : Nat := 0
abbrev c_held_beside : DSp := fun _ _ _ => False

@[simp] abbrev n_l_cell_at : Nat := 2
def b_l_cell_at : ES := (sSeq (sIf (tOf (eBin gLt (eVar 1) (eCB gLen (aCons (eVar 0) aNil)))) (sRet (eBin gIx (eVar 0) (eVar 1))) sNext) (sRet (eC (.int 0))))
def c_l_cell_at : DSp := fun ds P _ => ∃ (ns : List Int) (k : Nat), ds = [.scr (ns.map .int), .val (.int k)] ∧ ns.length ≤ 63 ∧ ∀ c : Int, P (.val (.int c))
theorem h_l_cell_at : ∀ ds P E, c_l_cell_at ds P E → rdB n_l_cell_at b_l_cell_at ds P E := by
  rintro _ P E ⟨ns, k, rfl, hl, hP⟩
  have hz := sizeLine_big
  simp [b_l_cell_at]
  split
  · rename_i h
    obtain ⟨c, hc⟩ : ∃ c, ns[k]? = some c := ⟨_, List.getElem?_eq_getElem (by omega)⟩
    have : atI (ns.map PyData.int) (k : Int) = some (.int c) := atI_int hc
    simp [this]
    exact hP c
  · exact hP 0
@[simp] abbrev n_l_stream : Nat := 6
def b_l_stream : ES := (sSeq (sSet 2 (eLst aNil)) (sSeq (sIf (tOf (eBin gGeA (eVar 0) (eBin gPow (eC (.int 10)) (eC (.int 18))))) (sSeq (sFor (iRange1 (eVar 1)) (bName 3) (sSeq (sMut 2 (aCons (eBin gMod (eVar 0) (eC (.int 1000))) aNil) hAppend) (sSet 0 (eBin gDiv (eVar 0) (eC (.int 1000)))))) (sRet (eRevL (eVar 2)))) sNext) (sSeq (sSet 4 (eBin gAdd (eBin gMod (eVar 0) (eC (.int 2147483647))) (eC (.int 39373)))) (sSeq (sSet 5 (eBin gAdd (eBin gMod (eVar 0) (eC (.int 2147483629))) (eC (.int 69621)))) (sSeq (sFor (iRange1 (eVar 1)) (bName 3) (sSeq (sSet 4 (eBin gMod (eBin gAdd (eBin gAdd (eBin gMul (eVar 4) (eC (.int 48271))) (eBin gMul (eVar 3) (eVar 3))) (eC (.int 7))) (eC (.int 2147483647)))) (sSeq (sSet 5 (eBin gMod (eBin gAdd (eBin gMul (eVar 5) (eC (.int 39373))) (eBin gMod (eVar 4) (eC (.int 8191)))) (eC (.int 2147483629)))) (sMut 2 (aCons (eBin gDiv (eBin gAdd (eVar 4) (eBin gMul (eC (.int 5)) (eVar 5))) (eC (.int 7))) aNil) hAppend)))) (sRetV 2))))))
def c_l_stream : DSp := fun ds P _ => ∃ (c k : Int), ds = [.val (.int c), .val (.int k)] ∧ 0 ≤ k ∧ k ≤ 1000 ∧ ∀ ns : List Int, kapN ns → P (.new (ns.map .int))
theorem h_l_stream : ∀ ds P E, c_l_stream ds P E → rdB n_l_stream b_l_stream ds P E := by
  rintro _ P E ⟨c, k, rfl, h0, h1, hP⟩
  have hz := sizeLine_big
  simp [b_l_stream]
  refine ⟨cpow10, ?_⟩
  split
  · rename_i hc
    repeat refine And.intro (by omega) ?_
    refine ForI.rng (fun i ρ => ∃ (ns : List Int) (d : Int) (x y z : D), ρ = [.val (.int d), .val (.int k), .new (ns.map .int), x, y, z] ∧ kapN ns ∧ ns.length = i) ⟨[], c, _, _, _, rfl, fun n hn => (by cases hn), rfl⟩ ?_ ?_
    · rintro i _ hi ⟨ns, d, x, y, z, rfl, kn, hl⟩
      have m := emodB (show (0 : Int) < 1000 by decide) d
      simp
      refine ⟨by omega, log9 (by decide) (by decide), ns ++ [d % 1000], by simp, fun n hn => ?_, by simp [hl]⟩
      rcases List.mem_append.mp hn with hn | hn
      · exact kn n hn
      · rw [List.mem_singleton] at hn; subst hn; omega
    · rintro _ ⟨ns, d, x, y, z, rfl, kn, hl⟩
      simp
      rw [← List.map_reverse]
      exact hP _ fun n hn => kn n (List.mem_reverse.mp hn)
  · rename_i hc
    repeat refine And.intro (by omega) ?_
    have m1 := emodB (show (0 : Int) < 2147483647 by decide) c
    have m2 := emodB (show (0 : Int) < 2147483629 by decide) c
    refine ForI.rng (fun i ρ => ∃ (ns : List Int) (p q : Int) (x : D), ρ = [.val (.int c), .val (.int k), .new (ns.map .int), x, .val (.int p), .val (.int q)] ∧ kapN ns ∧ ns.length = i ∧ 0 ≤ p ∧ p < 4294967296 ∧ 0 ≤ q ∧ q < 4294967296) ⟨[], _, _, _, rfl, fun n hn => (by cases hn), rfl, by omega, by omega, by omega, by omega⟩ ?_ ?_
    · rintro i _ hi ⟨ns, p, q, x, rfl, kn, hl, p0, p1, q0, q1⟩
      simp
      have m1 := emodB (show (0 : Int) < 2147483647 by decide) (p * 48271 + (i : Int) * i + 7)
      refine ⟨mulA (by omega) (by omega), mulA (by omega) (by omega), mulA (by omega) (by omega), ?_⟩
      generalize (p * 48271 + (i : Int) * i + 7) % 2147483647 = p' at m1 ⊢
      have m2 := emodB (show (0 : Int) < 2147483629 by decide) (q * 39373 + p' % 8191)
      generalize (q * 39373 + p' % 8191) % 2147483629 = q' at m2 ⊢
      refine ⟨mulA (by omega) (by omega), log9 (by decide) (by decide), by omega, ns ++ [(p' + 5 * q') / 7], p', q', ⟨by simp, rfl, rfl⟩, fun n hn => ?_, by simp [hl], by omega, by omega, by omega, by omega⟩
      rcases List.mem_append.mp hn with hn | hn
      · exact kn n hn
      · rw [List.mem_singleton] at hn; subst hn; omega
    · rintro _ ⟨ns, p, q, x, rfl, kn, hl, p0, p1, q0, q1⟩
      simp
      exact hP ns kn
@[simp] abbrev n_l_at : Nat := 3
def b_l_at : ES := (sRet (eLc (iSeq (eVar 0)) [2] (bName 2) (tOf (eBin (gIn false) (eVar 1) (eVar 2))) (eVar 2)))
def c_l_at : DSp := fun ds P _ => ∃ (ts : List (Int × Int)) (p : Int), ds = [.val (.tuple (ts.map encPr)), .val (.int p)] ∧ P (.new ((ts.filter fun t => decide (t.1 = p ∨ t.2 = p)).map encPr))
theorem h_l_at : ∀ ds P E, c_l_at ds P E → rdB n_l_at b_l_at ds P E := by
  rintro _ P E ⟨ts, p, rfl, hP⟩
  have hz := sizeLine_big
  simp [b_l_at]
  refine LcI.fltm (f := encPr) (fun t => if t.1 = p ∨ t.2 = p then some (encPr t) else none) (fun t ht Q R q r => ?_) ?_
  · simp [encPr]
    split
    · rename_i h
      exact q _ (by rw [if_pos (by omega)]; rfl)
    · rename_i h
      exact r (by rw [if_neg (by omega)])
  · have e : ∀ L : List (Int × Int), L.filterMap (fun t => if t.1 = p ∨ t.2 = p then some (encPr t) else none) = (L.filter fun t => decide (t.1 = p ∨ t.2 = p)).map encPr := by
      intro L
      induction L with
      | nil => rfl
      | cons y L ih =>
        rw [List.filterMap_cons, List.filter_cons]
        by_cases h : y.1 = p ∨ y.2 = p
        · rw [if_pos h, decide_eq_true h, ih]; rfl
        · rw [if_neg h, decide_eq_false h, ih]; rfl
    rw [e]
    exact hP
@[simp] abbrev n_l_ring_or_five : Nat := 5
def b_l_ring_or_five : ES := (sSeq (sSet 1 (eLst aNil)) (sSeq (sFor (iRange1 (eVar 0)) (bName 2) (sExtend 1 (eLc (iRange2 (eBin gAdd (eVar 2) (eC (.int 1))) (eVar 0)) [4] (bName 4) tTrue (eTup (aCons (eVar 2) (aCons (eVar 4) aNil)))))) (sSeq (sSet 3 (eLst (aCons (eTup (aCons (eTup (aCons (eVar 0) (aCons (eCB gTuple (aCons (eVar 1) aNil)) aNil))) (aCons (eTup (aCons (eTup (aCons (eC (.int 0)) (aCons (eC (.int 1)) aNil))) (aCons (eTup (aCons (eC (.int 0)) (aCons (eC (.int 2)) aNil))) (aCons (eTup (aCons (eC (.int 1)) (aCons (eC (.int 3)) aNil))) (aCons (eTup (aCons (eC (.int 2)) (aCons (eC (.int 3)) aNil))) aNil))))) aNil))) aNil))) (sSeq (sIf (tOf (eBin gGt (eVar 0) (eC (.int 5)))) (sMut 3 (aCons (eTup (aCons (eTup (aCons (eVar 0) (aCons (eCB gTuple (aCons (eVar 1) aNil)) aNil))) (aCons (eTup (aCons (eTup (aCons (eC (.int 0)) (aCons (eC (.int 1)) aNil))) (aCons (eTup (aCons (eC (.int 1)) (aCons (eC (.int 2)) aNil))) (aCons (eTup (aCons (eC (.int 2)) (aCons (eC (.int 3)) aNil))) (aCons (eTup (aCons (eC (.int 3)) (aCons (eC (.int 4)) aNil))) (aCons (eTup (aCons (eC (.int 4)) (aCons (eC (.int 5)) aNil))) aNil)))))) aNil))) aNil) hAppend) sNext) (sRetV 3)))))
def c_l_ring_or_five : DSp := fun ds P _ => ∃ n : Int, ds = [.val (.int n)] ∧ 4 ≤ n ∧ n ≤ 9 ∧ ∀ xs : List PD, (∀ x ∈ xs, ∃ (W : Wb) (d : PD), x = .tuple [encW W, d] ∧ WebOk W ∧ heldOf W d = none) → P (.new xs)
theorem h_l_ring_or_five : ∀ ds P E, c_l_ring_or_five ds P E → rdB n_l_ring_or_five b_l_ring_or_five ds P E := by
  rintro _ P E ⟨n, rfl, h4, h9, hP⟩
  have hz := sizeLine_big
  simp [b_l_ring_or_five]
  repeat refine And.intro (by omega) ?_
  refine ForI.rng (fun a ρ => ∃ u v w, ρ = [.val (.int n), .new ((rowsTo a n).map encPr), u, v, w]) ⟨_, _, _, rfl⟩ ?_ ?_
  · rintro a _ ha ⟨u, v, w, rfl⟩
    simp
    repeat refine And.intro (by omega) ?_
    refine LcI.rng (fun b => encPr ((a : Int), b)) (fun b b0 b1 Q q => ?_) ?_
    · simp
      repeat refine And.intro (by omega) ?_
      exact q
    · have hlen := rows_filter_len (n := n) (a := a) (by omega) (by omega) fun _ => true
      rw [List.filter_eq_self.mpr fun _ _ => rfl, List.filter_eq_self.mpr fun _ _ => rfl] at hlen
      have e : (up ((a : Int) + 1) (n - ((a : Int) + 1)).toNat).map (fun b => encPr ((a : Int), b)) = (pairsFrom a n).map encPr := by unfold pairsFrom; rw [List.map_map]; rfl
      rw [e]
      simp [rowsTo_succ]
      omega
  · rintro _ ⟨u, v, w, rfl⟩
    rw [rowsTo_end]
    have hA : WebOk ⟨n, allPairs n⟩ := ⟨by show 3 ≤ n; omega, by show n ≤ 20; omega, all_ok n⟩
    simp
    have four : heldOf ⟨n, allPairs n⟩ (.tuple ([(0, 1), (0, 2), (1, 3), (2, 3)].map encPr)) = none := held_not (held_four n _)
    have five : heldOf ⟨n, allPairs n⟩ (.tuple ([(0, 1), (1, 2), (2, 3), (3, 4), (4, 5)].map encPr)) = none := held_not (held_five _ _ _ _ _ _)
    repeat refine And.intro (by omega) ?_
    split
    · repeat refine And.intro (by omega) ?_
      refine hP _ fun x hx => ?_
      simp only [List.mem_cons, List.not_mem_nil, or_false] at hx
      rcases hx with rfl | rfl
      · exact ⟨_, _, rfl, hA, four⟩
      · exact ⟨_, _, rfl, hA, five⟩
    · refine hP _ fun x hx => ?_
      simp only [List.mem_cons, List.not_mem_nil, or_false] at hx
      subst hx
      exact ⟨_, _, rfl, hA, four⟩
@[simp] abbrev n_is_tied : Nat := 0
abbrev c_is_tied : DSp := fun _ _ _ => False

@[simp] abbrev n_are_places : Nat := 3
def b_are_places : ES := (sSeq (sIf (tNotD (tOf (eIsI "tuple" (eVar 1)))) (sRet (eC (.bool false))) sNext) (sSeq (sFor (iRange1 (eCB gLen (aCons (eVar 1) aNil))) (bName 2) (sIf (tOrD (tNotD (tOf (eCallN 3 c_is_int (aCons (eBin gIx (eVar 1) (eVar 2)) (aCons (eC (.int 0)) (aCons (eBin gSub (eBin gIx (eVar 0) (eC (.int 0))) (eC (.int 1))) aNil)))))) (tOf (eBin (gIn false) (eBin gIx (eVar 1) (eVar 2)) (eSl (eVar 1) oNone (oSome (eVar 2)))))) (sRet (eC (.bool false))) sNext)) (sRet (eC (.bool true)))))
def c_are_places : DSp := fun ds P _ => ∃ W d, ds = [.val (encW W), .val d] ∧ shortD d ∧ P (.val (.bool (placesOf W.n d).isSome))
theorem h_are_places : ∀ ds P E, c_are_places ds P E → rdB n_are_places b_are_places ds P E := by
  rintro _ P E ⟨W, d, rfl, hd, hP⟩
  have hz := sizeLine_big
  cases d <;> try (simp [b_are_places, placesOf] at hP ⊢ ; exact hP)
  rename_i xs
  have hl : xs.length ≤ 100000 := hd
  simp [b_are_places]
  refine ⟨by omega, ForI.rng (fun i ρ => ∃ (u : D) (ps : List Int), ρ = [.val (encW W), .val (.tuple xs), u] ∧ asInts (xs.take i) = some ps ∧ plOk W.n ps) ⟨_, [], rfl, rfl, List.nodup_nil, by simp⟩ ?_ ?_⟩
  · rintro i _ hi ⟨u, ps, rfl, e, ok⟩
    obtain ⟨x, hx⟩ : ∃ x, xs[i]? = some x := ⟨_, List.getElem?_eq_getElem hi⟩
    have bad : (∀ a, x = .int a → 0 ≤ a → a < W.n → a ∈ ps) → P (.val (.bool false)) := fun h => by
      have : placesOf W.n (.tuple xs) = none := by
        cases e2 : placesOf W.n (.tuple xs) with
        | none => rfl
        | some qs =>
          obtain ⟨e3, ok2⟩ := placesOf_some e2
          cases e3
          rw [List.getElem?_map] at hx
          cases e4 : qs[i]? with
          | none => rw [e4] at hx; cases hx
          | some a =>
            rw [e4] at hx
            cases hx
            rw [← List.map_take, asInts_map] at e
            cases e
            have := ok2.2 a (List.mem_of_getElem? e4)
            have hm := h a rfl this.1 this.2
            have hnd := ok2.1
            obtain ⟨hlt, e5⟩ := List.getElem?_eq_some_iff.mp e4
            have e6 : qs = qs.take i ++ a :: qs.drop (i + 1) := by rw [← e5]; simp
            rw [e6] at hnd
            exact absurd rfl ((List.nodup_append.mp hnd).2.2 a hm a (List.mem_cons_self ..))
      rw [this] at hP
      exact hP
    have ex : xs.take i = ps.map .int := asInts_some e
    simp [atI_at hx]
    refine ⟨x, 0, W.n - 1, rfl, ?_⟩
    simp
    by_cases hI : isIntIn 0 (W.n - 1) x = true
    · obtain ⟨a, rfl, a0, a1⟩ := isIntIn_true hI
      simp [hI, ex]
      split
      · rename_i hm
        exact bad fun b eb _ _ => by cases eb; exact hm
      · rename_i hm
        refine ⟨ps ++ [a], ?_, ?_, ?_⟩
        · have : xs.take (i + 1) = ps.map PyData.int ++ [.int a] := by rw [List.take_add_one, hx, ex]; rfl
          rw [this]
          have := asInts_map (ps ++ [a])
          rwa [List.map_append] at this
        · exact List.nodup_append.mpr ⟨ok.1, by simp, fun x hx' y hy e => by simp at hy; subst hy; subst e; exact hm hx'⟩
        · intro p hp
          rcases List.mem_append.mp hp with hp | hp
          · exact ok.2 p hp
          · simp at hp; omega
    · simp [hI]
      exact bad fun a e h1 h2 => absurd (by subst e; exact decide_eq_true (by omega)) hI
  · rintro _ ⟨u, ps, rfl, e, ok⟩
    simp
    rw [List.take_length] at e
    have : placesOf W.n (.tuple xs) = some ps := by unfold placesOf; simp [e, ok]
    rw [this] at hP
    exact hP
@[simp] abbrev n_ring_ties : Nat := 0
abbrev c_ring_ties : DSp := fun _ _ _ => False

@[simp] abbrev n_is_tie : Nat := 2
def b_is_tie : ES := (sSeq (sIf (tOrD (tNotD (tOf (eIsI "tuple" (eVar 1)))) (tOf (eBin gNe (eCB gLen (aCons (eVar 1) aNil)) (eC (.int 2))))) (sRet (eC (.bool false))) sNext) (sRet (eAnd (eCallN 3 c_is_int (aCons (eBin gIx (eVar 1) (eC (.int 0))) (aCons (eC (.int 0)) (aCons (eBin gSub (eBin gIx (eVar 0) (eC (.int 0))) (eC (.int 1))) aNil)))) (eAnd (eCallN 3 c_is_int (aCons (eBin gIx (eVar 1) (eC (.int 1))) (aCons (eC (.int 0)) (aCons (eBin gSub (eBin gIx (eVar 0) (eC (.int 0))) (eC (.int 1))) aNil)))) (eBin (gIn false) (eVar 1) (eBin gIx (eVar 0) (eC (.int 1))))))))
def c_is_tie : DSp := fun ds P _ => ∃ W d, ds = [.val (encW W), .val d] ∧ WebOk W ∧ P (.val (.bool (isTieD W d)))
theorem h_is_tie : ∀ ds P E, c_is_tie ds P E → rdB n_is_tie b_is_tie ds P E := by
  rintro _ P E ⟨W, d, rfl, hW, hP⟩
  have hz := sizeLine_big
  cases d <;> try (simp [b_is_tie, isTieD, asPair] at hP ⊢ ; exact hP)
  rename_i xs
  by_cases hl : xs.length = 2
  · obtain ⟨x, y, rfl⟩ : ∃ x y, xs = [x, y] := by
      match xs, hl with
      | [x, y], _ => exact ⟨x, y, rfl⟩
    have no : (∀ a b, x = .int a → y = .int b → ¬ ((0 ≤ a ∧ a ≤ W.n - 1) ∧ 0 ≤ b ∧ b ≤ W.n - 1)) → P (.val (.bool false)) := fun h => by
      have : isTieD W (.tuple [x, y]) = false := by
        cases e : isTieD W (.tuple [x, y]) with
        | false => rfl
        | true =>
          obtain ⟨⟨a, b⟩, e2, hm⟩ := isTieD_true e
          have e3 : PyData.tuple [x, y] = .tuple [.int a, .int b] := e2
          simp at e3
          have := hW.ts.1 _ hm
          simp only at this
          exact absurd ⟨⟨this.1, by omega⟩, by omega, by omega⟩ (h a b e3.1 e3.2)
      rw [this] at hP
      exact hP
    simp [b_is_tie]
    refine ⟨x, _, _, rfl, ?_⟩
    simp
    by_cases hx : isIntIn 0 (W.n - 1) x = true
    · obtain ⟨a, rfl, a0, a1⟩ := isIntIn_true hx
      simp [hx]
      refine ⟨y, _, _, rfl, ?_⟩
      simp
      by_cases hy : isIntIn 0 (W.n - 1) y = true
      · obtain ⟨b, rfl, b0, b1⟩ := isIntIn_true hy
        simp [hy]
        exact hP
      · simp [hy]
        exact no fun a' b e1 e2 h => hy (by rw [e2]; exact decide_eq_true h.2)
    · simp [hx]
      exact no fun a b e1 e2 h => hx (by rw [e1]; exact decide_eq_true h.1)
  · have : isTieD W (.tuple xs) = false := by
      cases e : isTieD W (.tuple xs) with
      | false => rfl
      | true =>
        obtain ⟨p, e2, hm⟩ := isTieD_true e
        cases e2
        exact absurd rfl hl
    rw [this] at hP
    have hl2 : ¬ ((xs.length : Int) = 2) := by omega
    simp [b_is_tie, hl2]
    exact hP
@[simp] abbrev n_piece_of : Nat := 6
def b_piece_of : ES := (sSeq (sSet 3 (eLst (aCons (eVar 2) aNil))) (sSeq (sSet 4 (eC (.int 0))) (sSeq (sWhile (tOf (eBin gLt (eVar 4) (eCB gLen (aCons (eVar 3) aNil)))) (sSeq (sFor (iSeq (eCallN 2 c_beside (aCons (eVar 0) (aCons (eBin gIx (eVar 3) (eVar 4)) aNil)))) (bName 5) (sIf (tAndD (tOf (eBin (gIn false) (eVar 5) (eVar 1))) (tOf (eBin (gIn true) (eVar 5) (eVar 3)))) (sMut 3 (aCons (eVar 5) aNil) hAppend) sNext)) (sAug 4 (fun i j => i + j) (eC (.int 1))))) (sRet (eCB gTuple (aCons (eCB gSrt (aCons (eVar 3) aNil)) aNil))))))
def c_piece_of : DSp := fun ds P _ => ∃ (W : Wb) (L : List Int) (a : Int), ds = [.val (encW W), .val (.list (L.map .int)), .val (.int a)] ∧ WebOk W ∧ a ∈ L ∧ L.length ≤ 100 ∧ (∀ p ∈ L, 0 ≤ p ∧ p < W.n) ∧ ∀ ps, PieceOk W L a ps → P (.val (.tuple (ps.map .int)))
theorem h_piece_of : ∀ ds P E, c_piece_of ds P E → rdB n_piece_of b_piece_of ds P E := by
  rintro _ P E ⟨W, L, a, rfl, hW, ha, hl, hr, hP⟩
  have hz := sizeLine_big
  simp [b_piece_of]
  refine ⟨by omega, ?_⟩
  refine WhileI.go (fun m ρ => ∃ (F : List Int) (k : Nat) (u : D), ρ = [.val (encW W), .val (.list (L.map .int)), .val (.int a), .new (F.map .int), .val (.int k), u] ∧ k ≤ F.length ∧ m = 200 - k ∧ FoundUp W L a F k) 200 ⟨[a], 0, _, rfl, by simp, rfl, by simp, fun q hq => by simp at hq; subst hq; exact .refl, by simp, fun j q hj => by omega⟩ ?_
  rintro m _ ⟨F, k, u, rfl, hk, rfl, hF⟩
  have hFl := hF.len ha
  simp
  by_cases hlt : k < F.length
  · simp [hlt]
    obtain ⟨q, gq⟩ : ∃ q, F[k]? = some q := ⟨_, List.getElem?_eq_getElem hlt⟩
    have hjq : Joined W L a q := hF.jn q (List.mem_of_getElem? gq)
    simp [atI_int gq]
    refine ⟨W, q, rfl, hW, ?_⟩
    simp
    refine ForI.map (fun done ρ => ∃ (G : List Int) (u : D), ρ = [.val (encW W), .val (.list (L.map .int)), .val (.int a), .new (G.map .int), .val (.int k), u] ∧ FoundUp W L a G k ∧ k < G.length ∧ G[k]? = some q ∧ ∀ r ∈ done, r ∈ L → r ∈ G) ⟨F, u, rfl, hF, hlt, gq, fun r h => nomatch h⟩ ?_ ?_
    · rintro done r rest _ e ⟨G, v, rfl, hG, hGk, hGq, hdone⟩
      have hGl := hG.len ha
      have hadj : adj W q r := by
        have : r ∈ nbrs W q := by rw [e]; simp
        exact of_decide_eq_true (List.mem_filter.mp this).2
      simp
      have keep : (r ∈ L → r ∈ G) → ∃ G1 : List Int, List.map PyData.int G = List.map PyData.int G1 ∧ FoundUp W L a G1 k ∧ k < G1.length ∧ G1[k]? = some q ∧ ∀ (x : Int), x ∈ done ∨ x = r → x ∈ L → x ∈ G1 := fun h =>
        ⟨G, rfl, hG, hGk, hGq, fun x hx hxL => by
          rcases hx with hx | rfl
          · exact hdone x hx hxL
          · exact h hxL⟩
      split
      · rename_i hrL
        split
        · rename_i hrG
          exact keep fun _ => hrG
        · rename_i hrG
          have get : ∀ j x, (G ++ [r])[j]? = some x → j < k → G[j]? = some x := fun j x h hj => by rwa [List.getElem?_append_left (by omega)] at h
          refine ⟨by omega, G ++ [r], by simp, ⟨?_, fun x hx => ?_, List.mem_append_left _ hG.at0, fun j x hj hx y hy hxy => List.mem_append_left _ (hG.cl j x hj (get j x hx hj) y hy hxy)⟩, by simp; omega, ?_, ?_⟩
          · exact List.nodup_append.mpr ⟨hG.nd, by simp, fun x hx y hy e5 => by simp at hy; subst hy; exact hrG (e5 ▸ hx)⟩
          · rcases List.mem_append.mp hx with hx | hx
            · exact hG.jn x hx
            · simp at hx; subst hx; exact hjq.step hadj hrL
          · rw [List.getElem?_append_left hGk]; exact hGq
          · intro x hx hxL
            rcases hx with hx | rfl
            · exact List.mem_append_left _ (hdone x hx hxL)
            · simp
      · rename_i hrL
        exact keep fun h => absurd h hrL
    · rintro _ ⟨G, v, rfl, hG, hGk, hGq, hdone⟩
      simp
      have hGl := hG.len ha
      refine ⟨200 - (k + 1), by omega, G, k + 1, ⟨rfl, by omega⟩, hGk, rfl, hG.nd, hG.jn, hG.at0, fun j x hj hx y hy hxy => ?_⟩
      by_cases e : j = k
      · subst e
        rw [hGq] at hx
        cases hx
        refine hdone y ?_ hy
        have := hr y hy
        exact List.mem_filter.mpr ⟨mem_up.mpr (by omega), decide_eq_true hxy⟩
      · exact hG.cl j x (by omega) hx y hy hxy
  · simp [hlt]
    exact hP _ (hF.done (by omega))
@[simp] abbrev n_open_ties : Nat := 0
abbrev c_open_ties : DSp := fun _ _ _ => False

@[simp] abbrev n_taken_round : Nat := 0
abbrev c_taken_round : DSp := fun _ _ _ => False

@[simp] abbrev n_place_paper : Nat := 0
abbrev c_place_paper : DSp := fun _ _ _ => False

@[simp] abbrev n_is_put : Nat := 0
abbrev c_is_put : DSp := fun _ _ _ => False

@[simp] abbrev n_put_ahead : Nat := 5
def b_put_ahead : ES := (sSeq (sSet 2 (eCallN 1 c_counts_of (aCons (eVar 0) aNil))) (sSeq (sFor (iRange1 (eBin gIx (eVar 0) (eC (.int 0)))) (bName 3) (sFor (iRange2 (eBin gAdd (eVar 3) (eC (.int 1))) (eBin gIx (eVar 0) (eC (.int 0)))) (bName 4) (sIf (tAndD (tOf (eBin gGeA (eBin gAdd (eBin gIx (eVar 2) (eVar 3)) (eBin gIx (eVar 2) (eVar 4))) (eBin gAdd (eBin gIx (eVar 0) (eC (.int 0))) (eVar 1)))) (tOf (eBin (gIn true) (eTup (aCons (eVar 3) (aCons (eVar 4) aNil))) (eBin gIx (eVar 0) (eC (.int 1)))))) (sRet (eTup (aCons (eVar 3) (aCons (eVar 4) aNil)))) sNext))) (sRet (eC .none))))
def c_put_ahead : DSp := fun ds P _ => ∃ W more, ds = [.val (encW W), .val (.int more)] ∧ WebOk W ∧ P (.val (match (putsOf W more).head? with | some p => encPr p | none => .none))
theorem h_put_ahead : ∀ ds P E, c_put_ahead ds P E → rdB n_put_ahead b_put_ahead ds P E := by
  rintro _ P E ⟨W, more, rfl, hW, hP⟩
  have h1 := hW.lo
  have h2 := hW.hi
  have hz := sizeLine_big
  simp [b_put_ahead]
  refine ⟨W, rfl, hW, ?_⟩
  simp
  refine ⟨by omega, by omega, ForI.rng (fun i ρ => ∃ u v, ρ = [.val (encW W), .val (.int more), .val (.tuple ((degs W).map .int)), u, v] ∧ noPut W more (rowsTo i W.n)) ⟨_, _, rfl, noPut_nil⟩ ?_ ?_⟩
  · rintro i _ hi ⟨_, _, rfl, nil⟩
    simp
    repeat refine ⟨by omega, ?_⟩
    refine ForI.rng (fun j ρ => ∃ v, ρ = [.val (encW W), .val (.int more), .val (.tuple ((degs W).map .int)), .val (.int i), v] ∧ noPut W more (preP i j W.n)) ⟨_, rfl, by rw [preP_zero]; exact nil⟩ ?_ ?_
    · rintro j _ hj ⟨_, rfl, nil⟩
      obtain ⟨suf, es⟩ := all_split (n := W.n) (i := i) (j := j) (by omega)
      simp [atI_degs (W := W) (a := i) (by omega) (by omega), atI_degs (W := W) (a := i + 1 + j) (by omega) (by omega)]
      have er : preP i (j + 1) W.n = preP i j W.n ++ [((i : Int), (i : Int) + 1 + j)] := preP_succ i j W.n
      rw [er]
      split
      · rename_i c1
        refine ⟨by omega, ?_⟩
        split
        · rename_i c2
          exact noPut_snoc nil fun h => h.2 c2
        · rename_i c2
          refine ⟨by omega, ?_⟩
          rw [noPut_head nil es ⟨c1, c2⟩] at hP
          exact hP
      · rename_i c1
        exact noPut_snoc nil fun h => c1 h.1
    · rintro _ ⟨_, rfl, nil⟩
      rw [preP_end] at nil
      simpa using nil
  · rintro _ ⟨_, _, rfl, nil⟩
    rw [rowsTo_end] at nil
    have e : putsOf W more = [] := nil
    rw [e] at hP
    simpa using hP
@[simp] abbrev n_web_with : Nat := 0
abbrev c_web_with : DSp := fun _ _ _ => False

@[simp] abbrev n_turned : Nat := 0
abbrev c_turned : DSp := fun _ _ _ => False

@[simp] abbrev n_easy_ring : Nat := 0
abbrev c_easy_ring : DSp := fun _ _ _ => False

@[simp] abbrev n_l_web : Nat := 8
def b_l_web : ES := (sSeq (sSet 3 (eBin gAdd (eVar 1) (eCallN 2 c_l_next (aCons (eVar 0) (aCons (eBin gAdd (eBin gSub (eVar 2) (eVar 1)) (eC (.int 1))) aNil))))) (sSeq (sSet 4 (eBin gAdd (eC (.int 2)) (eCallN 2 c_l_next (aCons (eVar 0) (aCons (eC (.int 9)) aNil))))) (sSeq (sSet 5 (eLst aNil)) (sSeq (sFor (iRange1 (eVar 3)) (bName 6) (sFor (iRange2 (eBin gAdd (eVar 6) (eC (.int 1))) (eVar 3)) (bName 7) (sIf (tOf (eBin gLt (eCallN 2 c_l_next (aCons (eVar 0) (aCons (eC (.int 10)) aNil))) (eVar 4))) (sMut 5 (aCons (eTup (aCons (eVar 6) (aCons (eVar 7) aNil))) aNil) hAppend) sNext))) (sRet (eTup (aCons (eVar 3) (aCons (eCB gTuple (aCons (eVar 5) aNil)) aNil))))))))
def c_l_web : DSp := fun ds P _ => ∃ lo hi : Int, ds = [.ext (dice kapN), .val (.int lo), .val (.int hi)] ∧ 3 ≤ lo ∧ lo ≤ hi ∧ hi ≤ 20 ∧ ∀ W, WebOk W → lo ≤ W.n → W.n ≤ hi → P (.val (encW W))
theorem h_l_web : ∀ ds P E, c_l_web ds P E → rdB n_l_web b_l_web ds P E := by
  rintro _ P E ⟨lo, hi, rfl, h0, h1, h2, h⟩
  have hz := sizeLine_big
  simp [b_l_web]
  refine ⟨_, rfl, by omega, fun r a0 a1 => ?_⟩
  obtain ⟨n, hn⟩ : ∃ n, n = lo + r := ⟨_, rfl⟩
  simp
  rw [← hn]
  refine ⟨9, rfl, by decide, fun r2 b0 b1 => ?_⟩
  simp
  generalize 2 + r2 = d
  repeat refine And.intro (by omega) ?_
  refine ForI.rng (fun i ρ => ∃ ts u v, ρ = [.ext (dice kapN), .val (.int lo), .val (.int hi), .val (.int n), .val (.int d), .new (ts.map encPr), u, v] ∧ TsOk n ts ∧ ∀ p ∈ ts, p.1 < i) ⟨[], _, _, rfl, ⟨by simp, List.Pairwise.nil⟩, by simp⟩ ?_ ?_
  · rintro i _ hi' ⟨ts, u, v, rfl, ok, lt⟩
    simp
    repeat refine And.intro (by omega) ?_
    refine ForI.rng (fun j ρ => ∃ ts v, ρ = [.ext (dice kapN), .val (.int lo), .val (.int hi), .val (.int n), .val (.int d), .new (ts.map encPr), .val (.int i), v] ∧ TsOk n ts ∧ ∀ p ∈ ts, p.1 < i ∨ p.1 = i ∧ p.2 < i + 1 + j) ⟨ts, _, rfl, ok, fun p hp => .inl (lt p hp)⟩ ?_ ?_
    · rintro j _ hj ⟨ts, v, rfl, ok, lt⟩
      have := ok.len (by omega)
      simp
      refine ⟨10, rfl, by decide, fun x x0 x1 => ?_⟩
      simp
      split
      case isFalse => exact ⟨ts, rfl, ok, fun p q hp => by have := lt _ hp; simp only at this; omega⟩
      refine ⟨by omega, by omega, ts ++ [((i : Int), (i : Int) + 1 + j)], ?_, ⟨?_, ?_⟩, ?_⟩
      · simp [encPr]
      · intro p hp
        rcases List.mem_append.mp hp with hp | hp
        · exact ok.1 p hp
        · simp at hp; subst hp; simp only; omega
      · rw [List.pairwise_append]
        refine ⟨ok.2, List.pairwise_singleton .., fun p hp q hq => ?_⟩
        simp at hq; subst hq
        have := lt p hp
        unfold Cr.lexLt; simp only; omega
      · intro p q hp
        rcases List.mem_append.mp hp with hp | hp
        · have := lt _ hp; simp only at this; omega
        · simp at hp; omega
    · rintro _ ⟨ts, v, rfl, ok, lt⟩
      simp
      exact ⟨ts, rfl, ok, fun p q hp => by have := lt _ hp; have := ok.1 _ hp; simp only at *; omega⟩
  · rintro _ ⟨ts, u, v, rfl, ok, lt⟩
    simp
    exact ⟨by omega, h ⟨n, ts⟩ ⟨by simp only; omega, by simp only; omega, ok⟩ (by simp only; omega) (by simp only; omega)⟩
@[simp] abbrev n_l_poor : Nat := 4
def b_l_poor : ES := (sSeq (sSet 1 (eBin gAdd (eC (.int 9)) (eCallN 2 c_l_next (aCons (eVar 0) (aCons (eC (.int 4)) aNil))))) (sSeq (sSet 2 (eLst (aCons (eTup (aCons (eC (.int 0)) (aCons (eC (.int 1)) aNil))) aNil))) (sSeq (sFor (iRange2 (eC (.int 2)) (eVar 1)) (bName 3) (sMut 2 (aCons (eTup (aCons (eBin gAdd (eC (.int 1)) (eCallN 2 c_l_next (aCons (eVar 0) (aCons (eBin gSub (eVar 3) (eC (.int 1))) aNil)))) (aCons (eVar 3) aNil))) aNil) hAppend)) (sRet (eTup (aCons (eVar 1) (aCons (eCB gTuple (aCons (eCB gSrt (aCons (eVar 2) aNil)) aNil)) aNil)))))))
def c_l_poor : DSp := fun ds P _ => ds = [.ext (dice kapN)] ∧ ∀ W, WebOk W → 9 ≤ W.n → W.n ≤ 12 → (W.ts.length : Int) ≤ W.n - 1 → W.ts ≠ [] → P (.val (encW W))
theorem h_l_poor : ∀ ds P E, c_l_poor ds P E → rdB n_l_poor b_l_poor ds P E := by
  rintro _ P E ⟨rfl, hP⟩
  have hz := sizeLine_big
  simp [b_l_poor]
  refine ⟨4, rfl, by decide, fun r r0 r1 => ?_⟩
  obtain ⟨n, hn⟩ : ∃ n, n = 9 + r := ⟨_, rfl⟩
  simp
  rw [← hn]
  repeat refine And.intro (by omega) ?_
  refine ForI.rng (fun i ρ => ∃ (ts : List (Int × Int)) (u : D), ρ = [.ext (dice kapN), .val (.int n), .new (ts.map encPr), u] ∧ ts.length = i + 1 ∧ (∀ t ∈ ts, 0 ≤ t.1 ∧ t.1 < t.2 ∧ t.2 < i + 2) ∧ ts.Nodup) ⟨[(0, 1)], _, rfl, by simp, by simp, by simp⟩ ?_ ?_
  · rintro i _ hi ⟨ts, u, rfl, hl, hr, nd⟩
    simp
    refine ⟨_, rfl, by omega, fun y y0 y1 => ?_⟩
    simp
    refine ⟨by omega, by omega, ts ++ [(1 + y, 2 + (i : Int))], by simp [encPr], by simp; omega, fun a b hab => ?_, ?_⟩
    · rcases List.mem_append.mp hab with h | h
      · have := hr _ h; simp only at this; omega
      · rw [List.mem_singleton] at h; cases h; omega
    · refine List.nodup_append.mpr ⟨nd, by simp, fun a ha b hb e => ?_⟩
      rw [List.mem_singleton] at hb
      subst hb e
      have := hr _ ha
      simp only at this
      omega
  · rintro _ ⟨ts, u, rfl, hl, hr, nd⟩
    simp
    have ok : TsR n ts := ⟨nd, fun t ht => by have := hr t ht; omega⟩
    refine ⟨by omega, ?_⟩
    exact hP ⟨n, srtP ts⟩ (ok.web (by omega) (by omega)) (by simp only; omega) (by simp only; omega) (by simp only [srtP_len]; omega) (fun e => by have := congrArg List.length e; simp only [srtP_len, List.length_nil] at this; omega)
@[simp] abbrev n_l_wrong_held : Nat := 5
def b_l_wrong_held : ES := (sSeq (sSet 1 (eLst (aCons (eC .none) (aCons (eC (.int 0)) (aCons (eC (.bool true)) (aCons (eC (.str "")) (aCons (eFrz (eLst aNil)) (aCons (eC (.dict [])) (aCons (eFrz (eLst (aCons (eTup (aCons (eC (.int 0)) (aCons (eC (.int 1)) aNil))) aNil))) (aCons (eTup (aCons (eC .none) aNil)) (aCons (eTup (aCons (eTup (aCons (eC (.int 0)) aNil)) aNil)) (aCons (eTup (aCons (eTup (aCons (eC (.int 0)) (aCons (eC (.int 1)) (aCons (eC (.int 2)) aNil)))) aNil)) (aCons (eTup (aCons (eTup (aCons (eNeg (eC (.int 1))) (aCons (eC (.int 0)) aNil))) aNil)) (aCons (eTup (aCons (eTup (aCons (eC (.int 1)) (aCons (eC (.int 0)) aNil))) aNil)) (aCons (eTup (aCons (eFrz (eLst (aCons (eC (.int 0)) (aCons (eC (.int 1)) aNil)))) aNil)) aNil))))))))))))))) (sSeq (sMut 1 (aCons (eTup (aCons (eTup (aCons (eC (.int 0)) (aCons (eC (.int 0)) aNil))) aNil)) aNil) hAppend) (sSeq (sExtend 1 (eLst (aCons (eTup (aCons (eTup (aCons (eC (.int 0)) (aCons (eBin gIx (eVar 0) (eC (.int 0))) aNil))) aNil)) (aCons (eTup (aCons (eTup (aCons (eC (.bool false)) (aCons (eC (.bool true)) aNil))) aNil)) (aCons (eC (.str "01")) (aCons (eTup (aCons (eC (.str "0")) (aCons (eC (.str "1")) aNil))) (aCons (eTup (aCons (eTup (aCons (eC (.int 0)) (aCons (eC (.int 1)) aNil))) (aCons (eTup (aCons (eC (.int 0)) (aCons (eC (.int 1)) aNil))) aNil))) (aCons (eTup (aCons (eTup aNil) (aCons (eTup aNil) aNil))) (aCons (eDict1 (eC (.int 0)) (eC (.int 1))) (aCons (eFrz (eLst (aCons (eC .none) aNil))) aNil)))))))))) (sSeq (sFor (iRange1 (eBin gIx (eVar 0) (eC (.int 0)))) (bName 2) (sIf (tOf (eBin gGt (eCB gLen (aCons (eCallN 2 c_l_at (aCons (eBin gIx (eVar 0) (eC (.int 1))) (aCons (eVar 2) aNil))) aNil)) (eC (.int 2)))) (sMut 1 (aCons (eCB gTuple (aCons (eSl (eCallN 2 c_l_at (aCons (eBin gIx (eVar 0) (eC (.int 1))) (aCons (eVar 2) aNil))) oNone (oSome (eC (.int 3)))) aNil)) aNil) hAppend) sNext)) (sSeq (sFor (iSeq (eBin gIx (eVar 0) (eC (.int 1)))) (bPair 3 4) (sExtend 1 (eLst (aCons (eTup (aCons (eTup (aCons (eVar 4) (aCons (eVar 3) aNil))) aNil)) (aCons (eTup (aCons (eTup (aCons (eVar 3) (aCons (eVar 4) aNil))) (aCons (eTup (aCons (eVar 3) (aCons (eVar 4) aNil))) aNil))) (aCons (eFrz (eLst (aCons (eTup (aCons (eVar 3) (aCons (eVar 4) aNil))) aNil))) (aCons (eTup (aCons (eTup (aCons (eVar 3) (aCons (eVar 4) aNil))) (aCons (eC .none) aNil))) aNil))))))) (sRetV 1))))))
def t_wrong : ES := (sSeq (sMut 1 (aCons (eTup (aCons (eTup (aCons (eC (.int 0)) (aCons (eC (.int 0)) aNil))) aNil)) aNil) hAppend) (sSeq (sExtend 1 (eLst (aCons (eTup (aCons (eTup (aCons (eC (.int 0)) (aCons (eBin gIx (eVar 0) (eC (.int 0))) aNil))) aNil)) (aCons (eTup (aCons (eTup (aCons (eC (.bool false)) (aCons (eC (.bool true)) aNil))) aNil)) (aCons (eC (.str "01")) (aCons (eTup (aCons (eC (.str "0")) (aCons (eC (.str "1")) aNil))) (aCons (eTup (aCons (eTup (aCons (eC (.int 0)) (aCons (eC (.int 1)) aNil))) (aCons (eTup (aCons (eC (.int 0)) (aCons (eC (.int 1)) aNil))) aNil))) (aCons (eTup (aCons (eTup aNil) (aCons (eTup aNil) aNil))) (aCons (eDict1 (eC (.int 0)) (eC (.int 1))) (aCons (eFrz (eLst (aCons (eC .none) aNil))) aNil)))))))))) (sSeq (sFor (iRange1 (eBin gIx (eVar 0) (eC (.int 0)))) (bName 2) (sIf (tOf (eBin gGt (eCB gLen (aCons (eCallN 2 c_l_at (aCons (eBin gIx (eVar 0) (eC (.int 1))) (aCons (eVar 2) aNil))) aNil)) (eC (.int 2)))) (sMut 1 (aCons (eCB gTuple (aCons (eSl (eCallN 2 c_l_at (aCons (eBin gIx (eVar 0) (eC (.int 1))) (aCons (eVar 2) aNil))) oNone (oSome (eC (.int 3)))) aNil)) aNil) hAppend) sNext)) (sSeq (sFor (iSeq (eBin gIx (eVar 0) (eC (.int 1)))) (bPair 3 4) (sExtend 1 (eLst (aCons (eTup (aCons (eTup (aCons (eVar 4) (aCons (eVar 3) aNil))) aNil)) (aCons (eTup (aCons (eTup (aCons (eVar 3) (aCons (eVar 4) aNil))) (aCons (eTup (aCons (eVar 3) (aCons (eVar 4) aNil))) aNil))) (aCons (eFrz (eLst (aCons (eTup (aCons (eVar 3) (aCons (eVar 4) aNil))) aNil))) (aCons (eTup (aCons (eTup (aCons (eVar 3) (aCons (eVar 4) aNil))) (aCons (eC .none) aNil))) aNil))))))) (sRetV 1)))))
theorem t_wrong_eq : b_l_wrong_held = (sSeq (sSet 1 (eLst (aCons (eC .none) (aCons (eC (.int 0)) (aCons (eC (.bool true)) (aCons (eC (.str "")) (aCons (eFrz (eLst aNil)) (aCons (eC (.dict [])) (aCons (eFrz (eLst (aCons (eTup (aCons (eC (.int 0)) (aCons (eC (.int 1)) aNil))) aNil))) (aCons (eTup (aCons (eC .none) aNil)) (aCons (eTup (aCons (eTup (aCons (eC (.int 0)) aNil)) aNil)) (aCons (eTup (aCons (eTup (aCons (eC (.int 0)) (aCons (eC (.int 1)) (aCons (eC (.int 2)) aNil)))) aNil)) (aCons (eTup (aCons (eTup (aCons (eNeg (eC (.int 1))) (aCons (eC (.int 0)) aNil))) aNil)) (aCons (eTup (aCons (eTup (aCons (eC (.int 1)) (aCons (eC (.int 0)) aNil))) aNil)) (aCons (eTup (aCons (eFrz (eLst (aCons (eC (.int 0)) (aCons (eC (.int 1)) aNil)))) aNil)) aNil))))))))))))))) t_wrong) := rfl
def t2_wrong : ES := (sSeq (sExtend 1 (eLst (aCons (eTup (aCons (eTup (aCons (eC (.int 0)) (aCons (eBin gIx (eVar 0) (eC (.int 0))) aNil))) aNil)) (aCons (eTup (aCons (eTup (aCons (eC (.bool false)) (aCons (eC (.bool true)) aNil))) aNil)) (aCons (eC (.str "01")) (aCons (eTup (aCons (eC (.str "0")) (aCons (eC (.str "1")) aNil))) (aCons (eTup (aCons (eTup (aCons (eC (.int 0)) (aCons (eC (.int 1)) aNil))) (aCons (eTup (aCons (eC (.int 0)) (aCons (eC (.int 1)) aNil))) aNil))) (aCons (eTup (aCons (eTup aNil) (aCons (eTup aNil) aNil))) (aCons (eDict1 (eC (.int 0)) (eC (.int 1))) (aCons (eFrz (eLst (aCons (eC .none) aNil))) aNil)))))))))) (sSeq (sFor (iRange1 (eBin gIx (eVar 0) (eC (.int 0)))) (bName 2) (sIf (tOf (eBin gGt (eCB gLen (aCons (eCallN 2 c_l_at (aCons (eBin gIx (eVar 0) (eC (.int 1))) (aCons (eVar 2) aNil))) aNil)) (eC (.int 2)))) (sMut 1 (aCons (eCB gTuple (aCons (eSl (eCallN 2 c_l_at (aCons (eBin gIx (eVar 0) (eC (.int 1))) (aCons (eVar 2) aNil))) oNone (oSome (eC (.int 3)))) aNil)) aNil) hAppend) sNext)) (sSeq (sFor (iSeq (eBin gIx (eVar 0) (eC (.int 1)))) (bPair 3 4) (sExtend 1 (eLst (aCons (eTup (aCons (eTup (aCons (eVar 4) (aCons (eVar 3) aNil))) aNil)) (aCons (eTup (aCons (eTup (aCons (eVar 3) (aCons (eVar 4) aNil))) (aCons (eTup (aCons (eVar 3) (aCons (eVar 4) aNil))) aNil))) (aCons (eFrz (eLst (aCons (eTup (aCons (eVar 3) (aCons (eVar 4) aNil))) aNil))) (aCons (eTup (aCons (eTup (aCons (eVar 3) (aCons (eVar 4) aNil))) (aCons (eC .none) aNil))) aNil))))))) (sRetV 1))))
theorem t2_wrong_eq : t_wrong = (sSeq (sMut 1 (aCons (eTup (aCons (eTup (aCons (eC (.int 0)) (aCons (eC (.int 0)) aNil))) aNil)) aNil) hAppend) t2_wrong) := rfl
def t3_wrong : ES := (sSeq (sFor (iRange1 (eBin gIx (eVar 0) (eC (.int 0)))) (bName 2) (sIf (tOf (eBin gGt (eCB gLen (aCons (eCallN 2 c_l_at (aCons (eBin gIx (eVar 0) (eC (.int 1))) (aCons (eVar 2) aNil))) aNil)) (eC (.int 2)))) (sMut 1 (aCons (eCB gTuple (aCons (eSl (eCallN 2 c_l_at (aCons (eBin gIx (eVar 0) (eC (.int 1))) (aCons (eVar 2) aNil))) oNone (oSome (eC (.int 3)))) aNil)) aNil) hAppend) sNext)) (sSeq (sFor (iSeq (eBin gIx (eVar 0) (eC (.int 1)))) (bPair 3 4) (sExtend 1 (eLst (aCons (eTup (aCons (eTup (aCons (eVar 4) (aCons (eVar 3) aNil))) aNil)) (aCons (eTup (aCons (eTup (aCons (eVar 3) (aCons (eVar 4) aNil))) (aCons (eTup (aCons (eVar 3) (aCons (eVar 4) aNil))) aNil))) (aCons (eFrz (eLst (aCons (eTup (aCons (eVar 3) (aCons (eVar 4) aNil))) aNil))) (aCons (eTup (aCons (eTup (aCons (eVar 3) (aCons (eVar 4) aNil))) (aCons (eC .none) aNil))) aNil))))))) (sRetV 1)))
theorem t3_wrong_eq : t2_wrong = (sSeq (sExtend 1 (eLst (aCons (eTup (aCons (eTup (aCons (eC (.int 0)) (aCons (eBin gIx (eVar 0) (eC (.int 0))) aNil))) aNil)) (aCons (eTup (aCons (eTup (aCons (eC (.bool false)) (aCons (eC (.bool true)) aNil))) aNil)) (aCons (eC (.str "01")) (aCons (eTup (aCons (eC (.str "0")) (aCons (eC (.str "1")) aNil))) (aCons (eTup (aCons (eTup (aCons (eC (.int 0)) (aCons (eC (.int 1)) aNil))) (aCons (eTup (aCons (eC (.int 0)) (aCons (eC (.int 1)) aNil))) aNil))) (aCons (eTup (aCons (eTup aNil) (aCons (eTup aNil) aNil))) (aCons (eDict1 (eC (.int 0)) (eC (.int 1))) (aCons (eFrz (eLst (aCons (eC .none) aNil))) aNil)))))))))) t3_wrong) := rfl
def c_l_wrong_held : DSp := fun ds P _ => ∃ W : Wb, ds = [.val (encW W)] ∧ WebOk W ∧ ∀ xs : List PD, (∀ x ∈ xs, heldOf W x = none) → 22 ≤ xs.length → xs.length ≤ 10000 → P (.new xs)
theorem h_l_wrong_held : ∀ ds P E, c_l_wrong_held ds P E → rdB n_l_wrong_held b_l_wrong_held ds P E := by
  rintro _ P E ⟨W, rfl, hW, hP⟩
  have hz := sizeLine_big
  have h1 := hW.lo
  have h2 := hW.hi
  have htl := hW.ts.len h2
  simp [t_wrong_eq]
  repeat refine And.intro (by omega) ?_
  obtain ⟨B, hB, hBl, hBb⟩ : ∃ B : List PD, B = [PyData.none, PyData.int 0, PyData.bool true, PyData.str (Str.ofString ""), PyData.list [], PyData.dict [], PyData.list [PyData.tuple [PyData.int 0, PyData.int 1]], PyData.tuple [PyData.none], PyData.tuple [PyData.tuple [PyData.int 0]], PyData.tuple [PyData.tuple [PyData.int 0, PyData.int 1, PyData.int 2]], PyData.tuple [PyData.tuple [PyData.int (-1), PyData.int 0]], PyData.tuple [PyData.tuple [PyData.int 1, PyData.int 0]], PyData.tuple [PyData.list [PyData.int 0, PyData.int 1]]] ∧ B.length = 13 ∧ ∀ b ∈ B, heldOf W b = none := by
    refine ⟨_, rfl, rfl, fun b hb => ?_⟩
    simp only [List.mem_cons, List.not_mem_nil, or_false] at hb
    rcases hb with rfl | rfl | rfl | rfl | rfl | rfl | rfl | rfl | rfl | rfl | rfl | rfl | rfl
    · rfl
    · rfl
    · rfl
    · rfl
    · rfl
    · rfl
    · rfl
    · exact held_none ⟨_, List.mem_singleton.mpr rfl, fun t e => by cases e⟩
    · exact held_none ⟨_, List.mem_singleton.mpr rfl, fun t e => by simp [encPr] at e⟩
    · exact held_none ⟨_, List.mem_singleton.mpr rfl, fun t e => by simp [encPr] at e⟩
    · exact held_pair hW (by omega)
    · exact held_pair hW (by omega)
    · exact held_none ⟨_, List.mem_singleton.mpr rfl, fun t e => by cases e⟩
  rw [← hB]
  clear hB
  rw [t2_wrong_eq]
  simp
  rw [hBl]
  repeat refine And.intro (by omega) ?_
  rw [t3_wrong_eq]
  simp
  rw [hBl]
  repeat refine And.intro (by omega) ?_
  obtain ⟨C, hC, hCl, hCb⟩ : ∃ C : List PD, C = B ++ [PyData.tuple [PyData.tuple [PyData.int 0, PyData.int 0]], PyData.tuple [PyData.tuple [PyData.int 0, PyData.int W.n]], PyData.tuple [PyData.tuple [PyData.bool false, PyData.bool true]], PyData.str (Str.ofString "01"), PyData.tuple [PyData.str (Str.ofString "0"), PyData.str (Str.ofString "1")], PyData.tuple [PyData.tuple [PyData.int 0, PyData.int 1], PyData.tuple [PyData.int 0, PyData.int 1]], PyData.tuple [PyData.tuple [], PyData.tuple []], PyData.dict [(PyData.int 0, PyData.int 1)], PyData.list [PyData.none]] ∧ C.length = 22 ∧ ∀ b ∈ C, heldOf W b = none := by
    refine ⟨_, rfl, by simp [hBl], fun b hb => ?_⟩
    rcases List.mem_append.mp hb with hb | hb
    · exact hBb b hb
    simp only [List.mem_cons, List.not_mem_nil, or_false] at hb
    rcases hb with rfl | rfl | rfl | rfl | rfl | rfl | rfl | rfl | rfl
    · exact held_pair hW (by omega)
    · exact held_pair hW (by omega)
    · exact held_none ⟨_, List.mem_singleton.mpr rfl, fun t e => by cases e⟩
    · rfl
    · exact held_none ⟨PyData.str (Str.ofString "0"), by simp, fun t e => by cases e⟩
    · exact held_not (hs := [(0, 1), (0, 1)]) (held_twice W _)
    · exact held_none ⟨PyData.tuple [], by simp, fun t e => by cases e⟩
    · rfl
    · rfl
  rw [← hC]
  clear hC
  refine ⟨rfl, ?_⟩
  refine ForI.rng (fun i ρ => ∃ (xs : List PD) (u v w : D), ρ = [.val (encW W), .new xs, u, v, w] ∧ (∀ b ∈ xs, heldOf W b = none) ∧ 22 ≤ xs.length ∧ xs.length ≤ 22 + i) ⟨C, _, _, _, rfl, hCb, by omega, by omega⟩ ?_ ?_
  · rintro i _ hi ⟨xs, u, v, w, rfl, hb, hl, hu⟩
    simp
    refine ⟨W.ts, i, rfl, ?_⟩
    simp
    split
    · rename_i h3
      refine ⟨W.ts, i, rfl, ?_⟩
      simp
      refine ⟨by omega, fun b hb' => ?_, by omega, by omega⟩
      rcases hb' with hb' | rfl
      · exact hb b hb'
      · refine held_not (held_three (p := (i : Int)) (fun t ht => ?_) ?_)
        · have := List.mem_of_mem_drop (List.mem_of_mem_take ht)
          have := (List.mem_filter.mp this).2
          simpa using this
        · rw [cutP_to _ (by decide), List.length_take]
          have h3' : 2 < ((W.ts.filter fun t => decide (t.1 = (i : Int)) || decide (t.2 = (i : Int))).length : Int) := by simpa using h3
          show 3 ≤ min 3 _
          omega
    · exact ⟨hb, hl, by omega⟩
  · rintro _ ⟨xs, u, v, w, rfl, hb, hl, hu⟩
    simp
    refine ForI.map (fun pre ρ => ∃ (xs : List PD) (u v w : D), ρ = [.val (encW W), .new xs, u, v, w] ∧ (∀ b ∈ xs, heldOf W b = none) ∧ 22 ≤ xs.length ∧ xs.length ≤ 50 + 4 * pre.length) ⟨xs, _, _, _, rfl, hb, hl, by simp; omega⟩ ?_ ?_
    · rintro a t b _ e ⟨xs, u, v, w, rfl, hb, hl, hu⟩
      have ht : t ∈ W.ts := by rw [e]; simp
      have hal : a.length ≤ W.ts.length := by rw [e]; simp
      simp [encPr]
      have rt := hW.ts.1 t ht
      have hlen := hW.ts.len h2
      repeat refine And.intro (by omega) ?_
      refine ⟨fun b hb' => ?_, by omega, by omega⟩
      rcases hb' with hb' | rfl | rfl | rfl | rfl
      · exact hb b hb'
      · exact held_pair hW (by omega)
      · exact held_not (hs := [t, t]) (held_twice W _)
      · rfl
      · exact held_none ⟨PyData.none, by simp, fun t e => by cases e⟩
    · rintro _ ⟨xs, u, v, w, rfl, hb, hl, hu⟩
      simp
      exact hP xs hb hl (by omega)
@[simp] abbrev n_is_way : Nat := 0
abbrev c_is_way : DSp := fun _ _ _ => False

@[simp] abbrev n_is_held : Nat := 4
def b_is_held : ES := (sSeq (sIf (tOrD (tNotD (tOf (eIsI "tuple" (eVar 1)))) (tOf (eBin gGt (eCB gLen (aCons (eVar 1) aNil)) (eC (.int 4))))) (sRet (eC (.bool false))) sNext) (sSeq (sSet 2 (eBin gMul (eLst (aCons (eC (.int 0)) aNil)) (eBin gIx (eVar 0) (eC (.int 0))))) (sSeq (sFor (iRange1 (eCB gLen (aCons (eVar 1) aNil))) (bName 3) (sSeq (sIf (tOrD (tNotD (tOf (eCallN 2 c_is_tie (aCons (eVar 0) (aCons (eBin gIx (eVar 1) (eVar 3)) aNil))))) (tAndD (tOf (eBin gGt (eVar 3) (eC (.int 0)))) (tOf (eBin gGeA (eBin gIx (eVar 1) (eBin gSub (eVar 3) (eC (.int 1)))) (eBin gIx (eVar 1) (eVar 3)))))) (sRet (eC (.bool false))) sNext) (sSeq (sAugSub 2 (fun i j => i + j) (eBin gIx (eBin gIx (eVar 1) (eVar 3)) (eC (.int 0))) (eC (.int 1))) (sAugSub 2 (fun i j => i + j) (eBin gIx (eBin gIx (eVar 1) (eVar 3)) (eC (.int 1))) (eC (.int 1)))))) (sRet (eAnd (eBin gLt (eCB gMaxA (aCons (eVar 2) aNil)) (eC (.int 3))) (eNot (eCallN 2 c_have_ring (aCons (eVar 0) (aCons (eVar 1) aNil)))))))))
def c_is_held : DSp := fun ds P _ => ∃ W d, ds = [.val (encW W), .val d] ∧ WebOk W ∧ P (.val (.bool (heldOf W d).isSome))
open Classical in
theorem h_is_held : ∀ ds P E, c_is_held ds P E → rdB n_is_held b_is_held ds P E := by
  rintro _ P E ⟨W, d, rfl, hW, hP⟩
  have hz := sizeLine_big
  have h1 := hW.lo
  have h2 := hW.hi
  cases d <;> try (simp [b_is_held, heldOf] at hP ⊢ ; exact hP)
  rename_i xs
  have no : (∀ hs, xs = hs.map encPr → HeldOk W hs → False) → P (.val (.bool false)) := fun h => by
    have : heldOf W (.tuple xs) = none := by
      cases e : heldOf W (.tuple xs) with
      | none => rfl
      | some hs =>
        obtain ⟨e2, ok⟩ := heldOf_some e
        cases e2
        exact (h hs rfl ok).elim
    rw [this] at hP
    exact hP
  simp [b_is_held]
  split
  · rename_i hl
    refine no fun hs e ok => ?_
    subst e
    have := ok.len
    simp at hl
    omega
  · rename_i hl
    have hl : xs.length ≤ 4 := by omega
    repeat refine And.intro (by omega) ?_
    have e0 : (List.replicate W.n.toNat [PyData.int 0]).flatten = (up 0 W.n.toNat).map (fun p => .int (degT [] p)) := by
      refine List.ext_getElem? fun i => ?_
      by_cases hi : i < W.n.toNat
      · simp [up_get hi, List.getElem?_replicate, hi, degT]
      · have : (up 0 W.n.toNat)[i]? = none := List.getElem?_eq_none (by simp; omega)
        simp [this, List.getElem?_replicate, hi]
    rw [List.flatten_replicate_singleton] at e0
    try rw [e0]
    refine ForI.rng (fun i ρ => ∃ (u : D) (hs : List (Int × Int)), ρ = [.val (encW W), .val (.tuple xs), .new ((up 0 W.n.toNat).map (fun p => .int (degT hs p))), u] ∧ xs.take i = hs.map encPr ∧ (∀ t ∈ hs, t ∈ W.ts) ∧ hs.Pairwise lexLt) ⟨_, [], rfl, rfl, by simp, List.Pairwise.nil⟩ ?_ ?_
    · rintro i _ hi ⟨u, hs, rfl, et, hts, hup⟩
      obtain ⟨x, hx⟩ : ∃ x, xs[i]? = some x := ⟨_, List.getElem?_eq_getElem hi⟩
      have hlen : hs.length = i := by
        have := congrArg List.length et
        simp at this; omega
      have bad : (∀ hs' p, xs = hs'.map encPr → HeldOk W hs' → hs'.take i = hs → hs'[i]? = some p → x = encPr p → False) → P (.val (.bool false)) := fun h => by
        refine no fun hs' e ok => ?_
        subst e
        rw [List.getElem?_map] at hx
        cases e4 : hs'[i]? with
        | none => rw [e4] at hx; cases hx
        | some p =>
          rw [e4] at hx
          cases hx
          refine h hs' p rfl ok ?_ e4 rfl
          have := congrArg asPrs et
          rw [← List.map_take, asPrs_map, asPrs_map] at this
          exact Option.some.inj this
      simp [atI_at hx]
      refine ⟨W, x, rfl, hW, ?_⟩
      simp
      by_cases hT : isTieD W x = true
      · obtain ⟨⟨a, b⟩, rfl, hm⟩ := isTieD_true hT
        have hab := hW.ts.1 _ hm
        simp only at hab
        simp [hm]
        have step : (∀ q, hs.getLast? = some q → lexLt q (a, b)) → ∃ hs2, (hs2 = hs ++ [(a, b)] ∧ xs.take (i + 1) = hs2.map encPr ∧ (∀ t ∈ hs2, t ∈ W.ts) ∧ hs2.Pairwise lexLt) := fun hq => by
          refine ⟨_, rfl, ?_, ?_, ?_⟩
          · rw [List.take_add_one, hx, et]; simp
          · intro t ht
            rcases List.mem_append.mp ht with ht | ht
            · exact hts t ht
            · simp at ht; subst ht; exact hm
          · rw [List.pairwise_append]
            refine ⟨hup, List.pairwise_singleton .., fun t ht q hq' => ?_⟩
            simp at hq'
            subst hq'
            obtain ⟨ys, z, rfl⟩ : ∃ ys z, hs = ys ++ [z] := by
              rcases List.eq_nil_or_concat hs with rfl | ⟨ys, z, rfl⟩
              · cases ht
              · exact ⟨ys, z, by simp⟩
            have hz' := hq z (by simp)
            rcases List.mem_append.mp ht with ht | ht
            · exact lexLt.trans ((List.pairwise_append.mp hup).2.2 t ht z (by simp)) hz'
            · simp at ht; subst ht; exact hz'
        have body : (∀ q, hs.getLast? = some q → lexLt q (a, b)) → ∃ hs2 : List (Int × Int), (((up 0 W.n.toNat).map (fun p => PyData.int (degT hs p))).set a.toNat (.int (degT hs a + 1))).set b.toNat (.int (degT hs b + 1)) = (up 0 W.n.toNat).map (fun p => PyData.int (degT hs2 p)) ∧ xs.take (i + 1) = hs2.map encPr ∧ (∀ t ∈ hs2, t ∈ W.ts) ∧ hs2.Pairwise lexLt := fun hq => by
          obtain ⟨hs2, rfl, g1, g2, g3⟩ := step hq
          refine ⟨_, ?_, g1, g2, g3⟩
          rw [set_up _ hab.1, set_up _ (show 0 ≤ b by omega)]
          refine List.map_congr_left fun p hp => ?_
          rw [degT_app, degT_one]
          by_cases e1 : p = b
          · subst e1; simp
          · have e1' : ¬ b = p := fun h => e1 h.symm
            by_cases e2 : p = a
            · subst e2; simp [e1, e1']
            · have e2' : ¬ a = p := fun h => e2 h.symm
              simp [e1, e2, e1', e2']
        have ea : Option.map (fun p => PyData.int (degT hs p)) (up 0 W.n.toNat)[a.toNat]? = some (.int (degT hs a)) := by rw [up_at hab.1 (by omega)]; rfl
        have eb : (((up 0 W.n.toNat).map (fun p => PyData.int (degT hs p))).set a.toNat (.int (degT hs a + 1)))[b.toNat]? = some (.int (degT hs b)) := by
          rw [List.getElem?_set_ne (by omega), List.getElem?_map, up_at (show 0 ≤ b by omega) (by omega)]; rfl
        have tail : (∀ q, hs.getLast? = some q → lexLt q (a, b)) → ∃ (u : D) (hs_1 : List (Int × Int)), ((((up 0 W.n.toNat).map (fun p => PyData.int (degT hs p))).set a.toNat (.int (degT hs a + 1))).set b.toNat (.int (degT hs b + 1)) = (up 0 W.n.toNat).map (fun p => PyData.int (degT hs_1 p)) ∧ D.val (PyData.int (i : Int)) = u) ∧ xs.take (i + 1) = hs_1.map encPr ∧ (∀ (a b : Int), (a, b) ∈ hs_1 → (a, b) ∈ W.ts) ∧ hs_1.Pairwise lexLt := fun hq => by
          obtain ⟨hs2, g0, g1, g2, g3⟩ := body hq
          exact ⟨_, hs2, ⟨g0, rfl⟩, g1, fun a b h => g2 (a, b) h, g3⟩
        split
        · rename_i hi0
          obtain ⟨j, rfl⟩ : ∃ j, i = j + 1 := ⟨i - 1, by omega⟩
          obtain ⟨q, hq⟩ : ∃ q, hs[j]? = some q := ⟨_, List.getElem?_eq_getElem (by omega)⟩
          have hql : hs.getLast? = some q := by rw [List.getLast?_eq_getElem?, hlen]; exact hq
          have hxj : xs[j]? = some (encPr q) := by
            have : (xs.take (j + 1))[j]? = some (encPr q) := by rw [et, List.getElem?_map, hq]; rfl
            rw [List.getElem?_take_of_lt (by omega)] at this
            exact this
          have e1 : atI xs (((j + 1 : Nat) : Int) - 1) = some (encPr q) := by
            rw [show (((j + 1 : Nat) : Int) - 1) = (j : Int) by omega]
            exact atI_at hxj
          rw [e1]
          simp
          split
          · rename_i hB
            refine bad fun hs' p e ok e2 e3 e4 => ?_
            have ep : p = (a, b) := by
              have := congrArg asPair e4
              rw [asPair_pr, asPair_pr] at this
              exact (Option.some.inj this).symm
            subst ep
            have hj : hs'[j]? = some q := by
              rw [← e2, List.getElem?_take_of_lt (by omega)] at hq
              exact hq
            obtain ⟨l1, r1⟩ := List.getElem?_eq_some_iff.mp hj
            obtain ⟨l2, r2⟩ := List.getElem?_eq_some_iff.mp e3
            have := List.pairwise_iff_getElem.mp ok.up j (j + 1) l1 l2 (by omega)
            rw [r1, r2] at this
            exact lexB_true hB this
          · rename_i hB
            have hq2 : ∀ z, hs.getLast? = some z → lexLt z (a, b) := fun z hz' => by
              rw [hql] at hz'
              cases hz'
              exact lexB_false (by simpa using hB)
            refine ⟨hab.1, ?_⟩
            rw [ea]
            refine ⟨by omega, ?_⟩
            try dsimp only
            rw [eb]
            exact tail hq2
        · rename_i hi0
          have hn : hs = [] := List.length_eq_zero_iff.mp (by omega)
          have hq2 : ∀ z, hs.getLast? = some z → lexLt z (a, b) := fun z hz' => by rw [hn] at hz'; cases hz'
          try simp
          refine ⟨hab.1, ?_⟩
          rw [ea]
          refine ⟨by omega, ?_⟩
          try dsimp only
          rw [eb]
          exact tail hq2
      · simp [hT]
        exact bad fun hs' p e ok e2 e3 e4 => hT (by rw [e4]; exact decide_eq_true (ok.ts p (List.mem_of_getElem? e3)))
    · rintro _ ⟨u, hs, rfl, et, hts, hup⟩
      rw [List.take_length] at et
      subst et
      simp
      refine ⟨(up 0 W.n.toNat).map (degT hs), by simp [Function.comp_def], ?_, fun m hm hle => ?_⟩
      · intro e
        have := congrArg List.length e
        simp at this
        omega
      · try simp
        have hfew : m < 3 ↔ ∀ p, degT hs p < 3 := by
          constructor
          · intro h p
            by_cases hp : 0 ≤ p ∧ p < W.n
            · have := hle (degT hs p) (List.mem_map.mpr ⟨p, mem_up.mpr (by omega), rfl⟩)
              omega
            · have : degT hs p = 0 := degT_zero fun t ht => by
                have := hW.ts.1 t (hts t ht)
                constructor
                · intro e; subst e; exact hp (by omega)
                · intro e; subst e; exact hp (by omega)
              omega
          · intro h
            obtain ⟨p, _, rfl⟩ := List.mem_map.mp hm
            exact h p
        split
        · rename_i h3
          refine ⟨W, hs, rfl, hW, fun t ht => by have := hW.ts.1 t (hts t ht); omega, ?_⟩
          simp
          by_cases hr : hasRing hs
          · rw [decide_eq_true hr]
            exact no fun hs' e ok => by
              have := congrArg asPrs e
              rw [asPrs_map, asPrs_map] at this
              cases this
              exact ok.no hr
          · rw [decide_eq_false hr]
            have : HeldOk W hs := ⟨by simpa using hl, hts, hup, hfew.mp h3, hr⟩
            rw [heldOf_ok this] at hP
            exact hP
        · rename_i h3
          exact no fun hs' e ok => by
            have := congrArg asPrs e
            rw [asPrs_map, asPrs_map] at this
            cases this
            exact h3 (hfew.mpr ok.few)
@[simp] abbrev n_pieces : Nat := 6
def b_pieces : ES := (sSeq (sSet 2 (eLc (iRange1 (eBin gIx (eVar 0) (eC (.int 0)))) [4] (bName 4) (tOf (eBin (gIn true) (eVar 4) (eVar 1))) (eVar 4))) (sSeq (sSet 3 (eLst aNil)) (sFreeze 2 (sSeq (sFor (iSeq (eVar 2)) (bName 4) (sIf (tOf (eBin gEq (eLc (iSeq (eVar 3)) [5] (bName 5) (tOf (eBin (gIn false) (eVar 4) (eVar 5))) (eVar 5)) (eLst aNil))) (sFreeze 2 (sMut 3 (aCons (eCallN 3 c_piece_of (aCons (eVar 0) (aCons (eVar 2) (aCons (eVar 4) aNil)))) aNil) hAppend)) sNext)) (sRet (eCB gTuple (aCons (eVar 3) aNil)))))))
def c_pieces : DSp := fun ds P _ => ∃ (W : Wb) (lot : List Int), ds = [.val (encW W), .val (.tuple (lot.map .int))] ∧ WebOk W ∧ ∀ cs, PiecesUp W (leftOf W.n lot) (leftOf W.n lot) cs → P (.val (.tuple (cs.map encI)))
theorem h_pieces : ∀ ds P E, c_pieces ds P E → rdB n_pieces b_pieces ds P E := by
  rintro _ P E ⟨W, lot, rfl, hW, hP⟩
  have hz := sizeLine_big
  have h3 := hW.lo
  have h20 := hW.hi
  simp [b_pieces]
  refine ⟨by omega, by omega, ?_⟩
  refine LcI.frng (fun p => if p ∈ lot then none else some (.int p)) (fun p p0 p1 Q R q r => ?_) ?_
  · simp
    split
    · rename_i h; exact r (by simp [h])
    · rename_i h; exact q _ (by simp [h])
  · obtain ⟨L, hL⟩ : ∃ L, L = leftOf W.n lot := ⟨_, rfl⟩
    rw [← hL] at hP
    have hs : L.Pairwise (· < ·) := by rw [hL]; exact left_up _ _
    have hr : ∀ p ∈ L, 0 ≤ p ∧ p < W.n := fun p hp => by rw [hL] at hp; exact (mem_left.mp hp).1
    have hl : L.length ≤ 20 := by
      rw [hL]
      have := List.length_filter_le (fun p => decide (p ∉ lot)) (up 0 W.n.toNat)
      rw [up_length] at this
      unfold leftOf
      omega
    have e1 : (up 0 W.n.toNat).filterMap (fun p => if p ∈ lot then none else some (PyData.int p)) = L.map .int := by
      rw [hL]
      unfold leftOf
      generalize up 0 W.n.toNat = R
      induction R with
      | nil => rfl
      | cons t R ih =>
        rw [List.filterMap_cons, List.filter_cons]
        by_cases h : t ∈ lot <;> simp [h] <;> simpa using ih
    rw [e1]
    simp
    refine ForI.map (fun done ρ => ∃ (cs : List (List Int)) (u : D), ρ = [.val (encW W), .val (.tuple (lot.map .int)), .val (.list (L.map .int)), .new (cs.map encI), u, .unset] ∧ PiecesUp W L done cs) ⟨[], _, rfl, .nil⟩ ?_ ?_
    · rintro done a rest _ e ⟨cs, u, rfl, hcs⟩
      simp
      have haL : a ∈ L := by rw [e]; simp
      refine LcI.fltm (f := encI) (fun c => if a ∈ c then some (encI c) else none) (fun c hc Q R q r => ?_) ?_
      · simp [encI]
        split
        · rename_i h; exact q _ (by simp [h, encI])
        · rename_i h; exact r (by simp [h])
      · simp
        have hdl : done.length ≤ 20 := by
          have := congrArg List.length e
          simp at this
          omega
        have hcl : cs.length ≤ 20 := by
          rw [hcs.len]
          exact Nat.le_trans (List.length_filter_le ..) hdl
        have hti : ∀ x ∈ cs.filterMap (fun c => if a ∈ c then some (encI c) else none), tiny 1000 1 x := fun x hx => by
          obtain ⟨c, hc, hxc⟩ := List.mem_filterMap.mp hx
          split at hxc
          · cases hxc
            obtain ⟨b, hb, _, ok⟩ := hcs.pcs c hc
            have hbL : b ∈ L := by rw [e]; exact List.mem_append_left _ hb
            have hin : ∀ y ∈ c, y ∈ L := fun y hy => ((ok.mem y).mp hy).mem hbL
            have hcn : c.length ≤ L.length := List.Nodup.length_le_of_subset (ok.up.imp fun {x y} h => (show x ≠ y by omega)) hin
            exact tiny.ints (L := 20) (fun y hy => by have := hr y (hin y hy); omega) (by omega) (by decide)
          · cases hxc
        refine ⟨(tiny.lst (M := 100000) (L := 20) hti (Nat.le_trans (List.length_filterMap_le ..) hcl) (by decide)).shaped (by decide), ?_⟩
        split
        · rename_i hno
          refine ⟨W, L, a, rfl, hW, haL, by omega, hr, fun ps ok => ?_⟩
          simp
          exact ⟨by omega, cs ++ [ps], by simp [encI], hcs.new e hs hno ok⟩
        · rename_i hno
          refine ⟨cs, rfl, hcs.old e hs ?_⟩
          refine Classical.byContradiction fun hc => hno fun c hcm hac => hc ⟨c, hcm, hac⟩
    · rintro _ ⟨cs, u, rfl, hcs⟩
      simp
      exact hP cs hcs
@[simp] abbrev n_rounds_of : Nat := 0
abbrev c_rounds_of : DSp := fun _ _ _ => False

@[simp] abbrev n_tie_at : Nat := 0
abbrev c_tie_at : DSp := fun _ _ _ => False

@[simp] abbrev n_are_puts : Nat := 0
abbrev c_are_puts : DSp := fun _ _ _ => False

@[simp] abbrev n_closed : Nat := 4
def b_closed : ES := (sSeq (sSet 2 (eLst aNil)) (sSeq (sSet 3 (eCallN 2 c_put_ahead (aCons (eVar 0) (aCons (eVar 1) aNil)))) (sSeq (sWhile (tOf (eBin gIsNot (eVar 3) (eC .none))) (sSeq (sMut 2 (aCons (eVar 3) aNil) hAppend) (sSeq (sSet 0 (eCallN 2 c_with_put (aCons (eVar 0) (aCons (eVar 3) aNil)))) (sSet 3 (eCallN 2 c_put_ahead (aCons (eVar 0) (aCons (eVar 1) aNil))))))) (sRet (eTup (aCons (eVar 0) (aCons (eCB gTuple (aCons (eVar 2) aNil)) aNil)))))))
def c_closed : DSp := fun ds P _ => ∃ W more, ds = [.val (encW W), .val (.int more)] ∧ WebOk W ∧ ∀ ps, Steps more W ps → WebOk (after W ps) → Reach more W (after W ps) → putsOf (after W ps) more = [] → P (.val (.tuple [encW (after W ps), .tuple (ps.map encPr)]))
def headV (l : List (Int × Int)) : PD := match l.head? with | some p => encPr p | none => .none
theorem h_closed : ∀ ds P E, c_closed ds P E → rdB n_closed b_closed ds P E := by
  rintro _ P E ⟨W, more, rfl, hW, hP⟩
  have h1 := hW.lo
  have h2 := hW.hi
  have hz := sizeLine_big
  simp [b_closed]
  refine ⟨W, more, rfl, hW, ?_⟩
  simp
  refine WhileI.go (fun m ρ => ∃ ps, ρ = [.val (encW (after W ps)), .val (.int more), .new (ps.map encPr), .val (headV (putsOf (after W ps) more))] ∧ WebOk (after W ps) ∧ Steps more W ps ∧ Reach more W (after W ps) ∧ (after W ps).ts.length + m = 400 ∧ ps.length ≤ (after W ps).ts.length) (400 - W.ts.length) ⟨[], rfl, hW, Steps.nil, Reach.refl .., by have := hW.ts.len h2; show W.ts.length + _ = _; omega, Nat.zero_le _⟩ ?_
  rintro m _ ⟨ps, rfl, ok, st, re, em, el⟩
  have hl := ok.ts.len ok.hi
  cases e : putsOf (after W ps) more with
  | nil =>
    simp [headV]
    exact ⟨by omega, hP ps st ok re e⟩
  | cons p qs =>
    have hp : p ∈ putsOf (after W ps) more := by rw [e]; exact List.mem_cons_self ..
    obtain ⟨ok2, len2⟩ := puts_put ok hp
    have hl2 := ok2.ts.len ok2.hi
    simp [headV, encPr]
    refine ⟨by omega, after W ps, p, rfl, ok, (mem_puts.mp hp).2.2, ?_⟩
    simp
    refine ⟨_, more, rfl, ok2, ?_⟩
    simp
    refine ⟨m - 1, by omega, ps ++ [p], ?_, ?_, st.snoc ok (by rw [e]; rfl), ?_, ?_, ?_⟩
    · rw [after_snoc]; simp [encPr, headV]
    · rw [after_snoc]; exact ok2
    · rw [after_snoc]; exact re.step ok hp
    · rw [after_snoc]; omega
    · rw [after_snoc]; simp; omega
@[simp] abbrev n_over : Nat := 0
abbrev c_over : DSp := fun _ _ _ => False

@[simp] abbrev n_is_ring : Nat := 0
abbrev c_is_ring : DSp := fun _ _ _ => False

@[simp] abbrev n_is_bar : Nat := 2
def b_is_bar : ES := (sSeq (sIf (tOrD (tNotD (tOf (eCallN 2 c_are_places (aCons (eVar 0) (aCons (eVar 1) aNil))))) (tOrD (tOf (eBin gEq (eCB gLen (aCons (eVar 1) aNil)) (eC (.int 0)))) (tOf (eBin gNe (eVar 1) (eCB gTuple (aCons (eCB gSrt (aCons (eVar 1) aNil)) aNil)))))) (sRet (eC (.bool false))) sNext) (sRet (eBin gGt (eCB gLen (aCons (eCallN 2 c_pieces (aCons (eVar 0) (aCons (eVar 1) aNil))) aNil)) (eCB gLen (aCons (eVar 1) aNil)))))
/-- whether a row of places is a bar -/
noncomputable def barOf (W : Wb) (ps : List Int) : Prop := ps.length < (leasts W (leftOf W.n ps) (leftOf W.n ps)).length
noncomputable instance (W : Wb) (ps : List Int) : Decidable (barOf W ps) := inferInstanceAs (Decidable (_ < _))
noncomputable def isBarD (W : Wb) (d : PD) : Bool := match placesOf W.n d with
  | some ps => decide (ps ≠ [] ∧ ps.Pairwise (· ≤ ·) ∧ barOf W ps)
  | none => false
def c_is_bar : DSp := fun ds P _ => ∃ (W : Wb) (d : PD), ds = [.val (encW W), .val d] ∧ WebOk W ∧ shortD d ∧ P (.val (.bool (isBarD W d)))
theorem h_is_bar : ∀ ds P E, c_is_bar ds P E → rdB n_is_bar b_is_bar ds P E := by
  rintro _ P E ⟨W, d, rfl, hW, hd, hP⟩
  have hz := sizeLine_big
  unfold isBarD at hP
  simp [b_is_bar, -gNe]
  refine ⟨W, d, rfl, hd, ?_⟩
  cases e : placesOf W.n d with
  | none =>
    rw [e] at hP
    simpa using hP
  | some ps =>
    rw [e] at hP
    obtain ⟨rfl, ok⟩ := placesOf_some e
    have srt : ps.Pairwise (· ≤ ·) ↔ ps = srtI ps := ⟨fun h => (srtI_id h).symm, fun h => by rw [h]; exact srtI_le ps⟩
    have hP : P (.val (.bool (decide (ps ≠ [] ∧ ps.Pairwise (· ≤ ·) ∧ barOf W ps)))) := hP
    simp [-gNe]
    split
    · rename_i h0
      rw [decide_eq_false (fun h => h.1 h0)] at hP
      exact hP
    · rename_i h0
      by_cases hs : ps = srtI ps
      · rw [← hs]
        simp
        refine ⟨W, ps, rfl, hW, fun cs hcs => ?_⟩
        have hl := hcs.len
        simp
        have : decide (ps ≠ [] ∧ ps.Pairwise (· ≤ ·) ∧ barOf W ps) = decide (ps.length < cs.length) := by
          unfold barOf
          rw [hl]
          exact decide_eq_decide.mpr ⟨fun h => h.2.2, fun h => ⟨h0, srt.mpr hs, h⟩⟩
        rw [this] at hP
        exact hP
      · have hs2 : ¬ ps.Pairwise (· ≤ ·) := fun h => hs (srt.mp h)
        rw [decide_eq_false (fun h => hs2 h.2.1)] at hP
        simp [hs]
        exact hP
@[simp] abbrev n_next_tie : Nat := 0
abbrev c_next_tie : DSp := fun _ _ _ => False

@[simp] abbrev n_is_whole_ring : Nat := 0
abbrev c_is_whole_ring : DSp := fun _ _ _ => False

@[simp] abbrev n_led_back : Nat := 0
abbrev c_led_back : DSp := fun _ _ _ => False

@[simp] abbrev n_looked_at : Nat := 0
abbrev c_looked_at : DSp := fun _ _ _ => False

@[simp] abbrev n_by_cases : Nat := 3
def b_by_cases : ES := (sSeq (sIf (tNotD (tOf (eCallN 2 c_is_held (aCons (eVar 0) (aCons (eVar 1) aNil))))) (sRaise "NoHeld") sNext) (sSeq (sIf (tOf (eBin gGt (eBin gIx (eVar 0) (eC (.int 0))) (eC (.int 8)))) (sRaiseF "TooGreat" ["most"] (aCons (eC (.int 8)) aNil)) sNext) (sSeq (sFor (iSeq (eCallN 1 c_lots_of (aCons (eBin gIx (eVar 0) (eC (.int 0))) aNil))) (bName 2) (sIf (tOf (eCallN 2 c_is_bar (aCons (eVar 0) (aCons (eVar 2) aNil)))) (sRet (eTup (aCons (eC (.str "none")) (aCons (eTup (aCons (eC (.str "lot")) (aCons (eVar 2) aNil))) aNil)))) sNext)) sNever)))
def c_by_cases : DSp := fun ds P E => ∃ (W : Wb) (d : PD), ds = [.val (encW W), .val d] ∧ WebOk W ∧ ((heldOf W d = none ∧ E ("NoHeld", [])) ∨ ((heldOf W d).isSome = true ∧ 9 ≤ W.n ∧ E ("TooGreat", [("most", .int 8)])) ∨
  (W = star8 ∧ d = .tuple [] ∧ P (.val (.tuple [.str "none", .tuple [.str "lot", .tuple [.int 0]]]))))
theorem held_nil (W : Wb) : (heldOf W (.tuple [])).isSome = true := by
  have : heldOf W (.tuple ([].map encPr)) = some [] := heldOf_ok ⟨by simp, by simp, List.Pairwise.nil, fun p => by simp [degT], hasRing_nil⟩
  rw [List.map_nil] at this
  rw [this]; rfl
theorem h_by_cases : ∀ ds P E, c_by_cases ds P E → rdB n_by_cases b_by_cases ds P E := by
  rintro _ P E ⟨W, d, rfl, hW, h⟩
  have hz := sizeLine_big
  simp [b_by_cases]
  refine ⟨W, d, rfl, hW, ?_⟩
  rcases h with ⟨e, hE⟩ | ⟨e, h9, hE⟩ | ⟨rfl, rfl, hP⟩
  · rw [e]
    simp
    exact hE
  · rw [e]
    simp
    rw [if_pos (by omega)]
    exact hE
  · rw [held_nil]
    simp [star8]
    refine ⟨rfl, fun lots h0 hp => ?_⟩
    simp
    refine ForI.go (fun i ρ => i = 0 ∧ ∃ u : D, ρ = [.val (encW star8), .val (.tuple []), u]) ⟨rfl, _, rfl⟩ ?_ ?_
    · rintro i x _ hx ⟨rfl, u, rfl⟩
      obtain ⟨r, rfl⟩ : ∃ r, lots = [0] :: r := by
        cases lots with
        | nil => cases h0
        | cons y r => cases h0; exact ⟨r, rfl⟩
      obtain rfl : encI [0] = x := by simpa using hx
      simp
      have bar : isBarD star8 (encI [0]) = true := by
        unfold isBarD
        have : placesOf star8.n (encI [0]) = some [0] := placesOf_ok (n := star8.n) (ps := [0]) ⟨by simp, fun p hp => by rw [List.mem_singleton] at hp; subst hp; decide⟩
        rw [this]
        exact decide_eq_true ⟨by simp, List.pairwise_singleton .., star8_bar⟩
      refine ⟨star8, _, rfl, star8_ok, by simp [shortD, encI], ?_⟩
      rw [bar]
      simp [encI]
      repeat refine And.intro (by omega) ?_
      exact hP
    · rintro ρ ⟨h, _⟩
      have := List.length_eq_zero_iff.mp h
      rw [List.map_eq_nil_iff] at this
      subst this
      cases h0
@[simp] abbrev n_ask : Nat := 4
def b_ask : ES := (sSeq (sIf (tNotD (tOf (eCallN 2 c_is_held (aCons (eVar 0) (aCons (eVar 1) aNil))))) (sRaise "NoHeld") sNext) (sSeq (sAsg (eCallN 2 c_closed (aCons (eVar 0) (aCons (eCB gLen (aCons (eVar 1) aNil)) aNil))) (bPair 2 3)) (sSeq (sIf (tOf (eBin gEq (eVar 2) (eCallN 1 c_all_tied (aCons (eBin gIx (eVar 0) (eC (.int 0))) aNil)))) (sRet (eTup (aCons (eC (.str "ring")) (aCons (eBin gIx (eCallN 4 c_led_back (aCons (eVar 0) (aCons (eVar 1) (aCons (eVar 3) (aCons (eCallN 2 c_easy_ring (aCons (eBin gIx (eVar 0) (eC (.int 0))) (aCons (eVar 1) aNil))) aNil))))) (eNeg (eC (.int 1)))) aNil)))) sNext) (sRet (eCallN 2 c_by_cases (aCons (eVar 0) (aCons (eVar 1) aNil)))))))
def c_ask : DSp := fun ds _ E => ∃ (W : Wb) (d : PD), ds = [.val (encW W), .val d] ∧ WebOk W ∧ ((heldOf W d = none ∧ E ("NoHeld", [])) ∨ (∃ hs, heldOf W d = some hs ∧ 9 ≤ W.n ∧ (W.ts.length : Int) ≤ W.n - 1 ∧ E ("TooGreat", [("most", .int 8)])))
theorem eqvW (V U : Wb) : PyData.eqv (encW V) (encW U) = decide (V = U) := by
  obtain ⟨n, ts⟩ := V
  obtain ⟨m, us⟩ := U
  unfold encW
  rw [eqv_tup, PyData.eqvAll, PyData.eqvAll, PyData.eqvAll, eqv_int, eqv_tup, eqvAll_prs]
  by_cases h1 : n = m <;> by_cases h2 : ts = us <;> simp [h1, h2]
theorem h_ask : ∀ ds P E, c_ask ds P E → rdB n_ask b_ask ds P E := by
  rintro _ P E ⟨W, d, rfl, hW, h⟩
  have hz := sizeLine_big
  have h2 := hW.hi
  simp [b_ask]
  refine ⟨W, d, rfl, hW, ?_⟩
  rcases h with ⟨e, hE⟩ | ⟨hs, e, h9, hl, hE⟩
  · rw [e]
    simp
    exact hE
  · obtain ⟨rfl, hok⟩ := heldOf_some e
    rw [e]
    simp
    refine ⟨W, hs.length, rfl, hW, fun ps st ok _ _ => ?_⟩
    obtain rfl := st.closed (few_puts hW hl (by omega))
    have this : W ≠ ⟨W.n, allPairs W.n⟩ := fun e => by
      have e1 : W.ts = allPairs W.n := congrArg Wb.ts e
      have e2 := all_len2 (n := W.n) (by omega) h2
      rw [← e1] at e2
      have : W.n = 9 ∨ W.n = 10 ∨ W.n = 11 ∨ W.n = 12 ∨ W.n = 13 ∨ W.n = 14 ∨ W.n = 15 ∨ W.n = 16 ∨ W.n = 17 ∨ W.n = 18 ∨ W.n = 19 ∨ W.n = 20 := by omega
      rcases this with h | h | h | h | h | h | h | h | h | h | h | h <;> (rw [h] at e2 hl; omega)
    simp
    refine ⟨_, rfl, by omega, by omega, ?_⟩
    simp
    have sh := hW.tiny.shaped (by decide)
    have hA : WebOk ⟨W.n, allPairs W.n⟩ := ⟨hW.lo, h2, all_ok W.n⟩
    have shA := hA.tiny.shaped (by decide)
    have ne : PyData.eqv (encW W) (encW ⟨W.n, allPairs W.n⟩) = false := by rw [eqvW]; exact decide_eq_false this
    refine ⟨sh, shA, ne, W, _, rfl, hW, .inr (.inl ⟨by rw [e]; rfl, h9, hE⟩)⟩
@[simp] abbrev n_l_no_held : Nat := 4
def b_l_no_held : ES := (sSeq (sTry (sIf (tOf (eVar 2)) (sExpr (eCallN 2 c_ask (aCons (eVar 0) (aCons (eVar 1) aNil)))) (sExpr (eCallN 2 c_by_cases (aCons (eVar 0) (aCons (eVar 1) aNil))))) [⟨[("NoHeld", true), ("NoPut", false), ("NoRing", false), ("TooGreat", false)], sAs 3 fun er => (sRet (eAnd (eIsF 3 er [[("NoHeld", true), ("NoPut", true), ("NoRing", true), ("TooGreat", true)]]) (eAnd (eIsF 3 er [[("NoHeld", true), ("NoPut", true), ("NoRing", true), ("TooGreat", true)]]) (eNot (eIsF 3 er [[("NoHeld", false), ("NoPut", false), ("NoRing", false), ("TooGreat", true)]])))))⟩]) (sRet (eC (.bool false))))
def c_l_no_held : DSp := fun ds P _ => ∃ (W : Wb) (d : PD) (b : Bool), ds = [.val (encW W), .val d, .val (.bool b)] ∧ WebOk W ∧ heldOf W d = none ∧ P (.val (.bool true))
theorem h_l_no_held : ∀ ds P E, c_l_no_held ds P E → rdB n_l_no_held b_l_no_held ds P E := by
  rintro _ P E ⟨W, d, b, rfl, hW, hd, hP⟩
  have hz := sizeLine_big
  have l1 : List.lookup (Str.ofString "NoHeld") [(Str.ofString "NoHeld", true), (Str.ofString "NoPut", false), (Str.ofString "NoRing", false), (Str.ofString "TooGreat", false)] = some true := by decide +kernel
  have l2 : List.lookup (Str.ofString "NoHeld") [(Str.ofString "NoHeld", true), (Str.ofString "NoPut", true), (Str.ofString "NoRing", true), (Str.ofString "TooGreat", true)] = some true := by decide +kernel
  have l3 : List.lookup (Str.ofString "NoHeld") [(Str.ofString "NoHeld", false), (Str.ofString "NoPut", false), (Str.ofString "NoRing", false), (Str.ofString "TooGreat", true)] = some false := by decide +kernel
  simp [b_l_no_held]
  cases b
  · simp
    refine ⟨W, d, rfl, hW, .inl ⟨hd, ?_⟩⟩
    simp [l1, l2, l3]
    exact hP
  · simp
    refine ⟨W, d, rfl, hW, .inl ⟨hd, ?_⟩⟩
    simp [l1, l2, l3]
    exact hP
@[simp] abbrev n_l_too_great : Nat := 4
def b_l_too_great : ES := (sSeq (sTry (sIf (tOf (eVar 2)) (sExpr (eCallN 2 c_ask (aCons (eVar 0) (aCons (eVar 1) aNil)))) (sExpr (eCallN 2 c_by_cases (aCons (eVar 0) (aCons (eVar 1) aNil))))) [⟨[("NoHeld", false), ("NoPut", false), ("NoRing", false), ("TooGreat", true)], sAs 3 fun er => (sSeq (sIf (tOf (eIsF 3 er [[("NoHeld", true), ("NoPut", false), ("NoRing", false), ("TooGreat", false)], [("NoHeld", false), ("NoPut", false), ("NoRing", false), ("TooGreat", false)], [("NoHeld", false), ("NoPut", true), ("NoRing", false), ("TooGreat", false)], [("NoHeld", false), ("NoPut", false), ("NoRing", true), ("TooGreat", false)], [("NoHeld", false), ("NoPut", false), ("NoRing", false), ("TooGreat", false)], [("NoHeld", false), ("NoPut", false), ("NoRing", false), ("TooGreat", false)]])) (sRet (eC (.bool false))) sNext) (sSeq (sIf (tOf (eIsF 3 er [[("NoHeld", false), ("NoPut", false), ("NoRing", false), ("TooGreat", false)], [("NoHeld", false), ("NoPut", false), ("NoRing", false), ("TooGreat", false)], [("NoHeld", false), ("NoPut", false), ("NoRing", false), ("TooGreat", false)], [("NoHeld", false), ("NoPut", false), ("NoRing", false), ("TooGreat", false)], [("NoHeld", false), ("NoPut", false), ("NoRing", false), ("TooGreat", false)], [("NoHeld", false), ("NoPut", false), ("NoRing", false), ("TooGreat", false)]])) (sRet (eC (.bool false))) sNext) (sRet (eAnd (eIsF 3 er [[("NoHeld", true), ("NoPut", true), ("NoRing", true), ("TooGreat", true)]]) (eAnd (eIsF 3 er [[("NoHeld", true), ("NoPut", true), ("NoRing", true), ("TooGreat", true)]]) (eBin gEq (eFld 3 er "TooGreat" "most") (eC (.int 8))))))))⟩]) (sRet (eC (.bool false))))
def c_l_too_great : DSp := fun ds P _ => ∃ (W : Wb) (hs : List (Int × Int)) (b : Bool), ds = [.val (encW W), .val (.tuple (hs.map encPr)), .val (.bool b)] ∧ WebOk W ∧ HeldOk W hs ∧ 9 ≤ W.n ∧ (W.ts.length : Int) ≤ W.n - 1 ∧ P (.val (.bool true))
theorem h_l_too_great : ∀ ds P E, c_l_too_great ds P E → rdB n_l_too_great b_l_too_great ds P E := by
  rintro _ P E ⟨W, hs, b, rfl, hW, hh, h9, hl, hP⟩
  have hz := sizeLine_big
  have l1 : List.lookup (Str.ofString "TooGreat") [(Str.ofString "NoHeld", false), (Str.ofString "NoPut", false), (Str.ofString "NoRing", false), (Str.ofString "TooGreat", true)] = some true := by decide +kernel
  have l2 : List.lookup (Str.ofString "TooGreat") [(Str.ofString "NoHeld", true), (Str.ofString "NoPut", true), (Str.ofString "NoRing", true), (Str.ofString "TooGreat", true)] = some true := by decide +kernel
  have l3 : List.lookup (Str.ofString "TooGreat") [(Str.ofString "NoHeld", false), (Str.ofString "NoPut", false), (Str.ofString "NoRing", false), (Str.ofString "TooGreat", false)] = some false := by decide +kernel
  have l4 : List.lookup (Str.ofString "TooGreat") [(Str.ofString "NoHeld", true), (Str.ofString "NoPut", false), (Str.ofString "NoRing", false), (Str.ofString "TooGreat", false)] = some false := by decide +kernel
  have l5 : List.lookup (Str.ofString "TooGreat") [(Str.ofString "NoHeld", false), (Str.ofString "NoPut", true), (Str.ofString "NoRing", false), (Str.ofString "TooGreat", false)] = some false := by decide +kernel
  have l6 : List.lookup (Str.ofString "TooGreat") [(Str.ofString "NoHeld", false), (Str.ofString "NoPut", false), (Str.ofString "NoRing", true), (Str.ofString "TooGreat", false)] = some false := by decide +kernel
  have e := heldOf_ok hh
  simp [b_l_too_great]
  cases b
  · simp
    refine ⟨W, _, rfl, hW, .inr (.inl ⟨by rw [e]; rfl, h9, ?_⟩)⟩
    simp [l1, l2, l3, l4, l5, l6]
    exact hP
  · simp
    refine ⟨W, _, rfl, hW, .inr ⟨hs, e, h9, hl, ?_⟩⟩
    simp [l1, l2, l3, l4, l5, l6]
    exact hP
@[simp] abbrev n_law : Nat := 12
def b_law : ES := (sSeq (sFor (iRange2 (eC (.int 4)) (eC (.int 10))) (bName 1) (sFor (iSeq (eCallN 1 c_l_ring_or_five (aCons (eVar 1) aNil))) (bPair 2 3) (sIf (tOrD (tNotD (tOf (eCallN 3 c_l_no_held (aCons (eVar 2) (aCons (eVar 3) (aCons (eC (.bool true)) aNil)))))) (tNotD (tOf (eCallN 3 c_l_no_held (aCons (eVar 2) (aCons (eVar 3) (aCons (eC (.bool false)) aNil))))))) (sRet (eC (.bool false))) sNext))) (sSeq (sFor (iRange1 (eC (.int 2))) (bName 4) (sSeq (sSet 5 (eCallN 2 c_l_stream (aCons (eBin gAdd (eCallN 2 c_l_cell_at (aCons (eVar 0) (aCons (eVar 4) aNil))) (eVar 4)) (aCons (eC (.int 60)) aNil)))) (sDice kapN 5 (sSeq (sSet 2 (eCallN 3 c_l_web (aCons (eVar 5) (aCons (eC (.int 3)) (aCons (eC (.int 6)) aNil))))) (sSeq (sSet 6 (eCallN 1 c_l_poor (aCons (eVar 5) aNil))) (sSeq (sFor (iSeq (eLst (aCons (eVar 2) (aCons (eVar 6) aNil)))) (bName 7) (sSeq (sSet 8 (eCallN 1 c_l_wrong_held (aCons (eVar 7) aNil))) (sFor (iSeq (eBin gAdd (eSl (eVar 8) oNone (oSome (eC (.int 22)))) (eLc (iRange1 (eC (.int 4))) [10] (bName 10) tTrue (eBin gIx (eVar 8) (eCallN 2 c_l_next (aCons (eVar 5) (aCons (eCB gLen (aCons (eVar 8) aNil)) aNil))))))) (bName 3) (sIf (tOrD (tNotD (tOf (eCallN 3 c_l_no_held (aCons (eVar 7) (aCons (eVar 3) (aCons (eC (.bool true)) aNil)))))) (tNotD (tOf (eCallN 3 c_l_no_held (aCons (eVar 7) (aCons (eVar 3) (aCons (eC (.bool false)) aNil))))))) (sRet (eC (.bool false))) sNext)))) (sSeq (sFor (iSeq (eLst (aCons (eTup aNil) (aCons (eTup (aCons (eBin gIx (eBin gIx (eVar 6) (eC (.int 1))) (eCallN 2 c_l_next (aCons (eVar 5) (aCons (eCB gLen (aCons (eBin gIx (eVar 6) (eC (.int 1))) aNil)) aNil)))) aNil)) aNil)))) (bName 9) (sIf (tOrD (tNotD (tOf (eCallN 3 c_l_too_great (aCons (eVar 6) (aCons (eVar 9) (aCons (eC (.bool true)) aNil)))))) (tNotD (tOf (eCallN 3 c_l_too_great (aCons (eVar 6) (aCons (eVar 9) (aCons (eC (.bool false)) aNil))))))) (sRet (eC (.bool false))) sNext)) (sIf (tOf (eBin gNe (eBin gIx (eCallN 2 c_by_cases (aCons (eTup (aCons (eC (.int 8)) (aCons (eCB gTuple (aCons (eCB gSrt (aCons (eLc (iRange2 (eC (.int 1)) (eC (.int 8))) [11] (bName 11) tTrue (eTup (aCons (eC (.int 0)) (aCons (eVar 11) aNil)))) aNil)) aNil)) aNil))) (aCons (eTup aNil) aNil))) (eC (.int 0))) (eC (.str "none")))) (sRet (eC (.bool false))) sNext)))))))) (sRet (eC (.bool true)))))
def v_law : ES := (sSeq (sFor (iRange1 (eC (.int 2))) (bName 4) (sSeq (sSet 5 (eCallN 2 c_l_stream (aCons (eBin gAdd (eCallN 2 c_l_cell_at (aCons (eVar 0) (aCons (eVar 4) aNil))) (eVar 4)) (aCons (eC (.int 60)) aNil)))) (sDice kapN 5 (sSeq (sSet 2 (eCallN 3 c_l_web (aCons (eVar 5) (aCons (eC (.int 3)) (aCons (eC (.int 6)) aNil))))) (sSeq (sSet 6 (eCallN 1 c_l_poor (aCons (eVar 5) aNil))) (sSeq (sFor (iSeq (eLst (aCons (eVar 2) (aCons (eVar 6) aNil)))) (bName 7) (sSeq (sSet 8 (eCallN 1 c_l_wrong_held (aCons (eVar 7) aNil))) (sFor (iSeq (eBin gAdd (eSl (eVar 8) oNone (oSome (eC (.int 22)))) (eLc (iRange1 (eC (.int 4))) [10] (bName 10) tTrue (eBin gIx (eVar 8) (eCallN 2 c_l_next (aCons (eVar 5) (aCons (eCB gLen (aCons (eVar 8) aNil)) aNil))))))) (bName 3) (sIf (tOrD (tNotD (tOf (eCallN 3 c_l_no_held (aCons (eVar 7) (aCons (eVar 3) (aCons (eC (.bool true)) aNil)))))) (tNotD (tOf (eCallN 3 c_l_no_held (aCons (eVar 7) (aCons (eVar 3) (aCons (eC (.bool false)) aNil))))))) (sRet (eC (.bool false))) sNext)))) (sSeq (sFor (iSeq (eLst (aCons (eTup aNil) (aCons (eTup (aCons (eBin gIx (eBin gIx (eVar 6) (eC (.int 1))) (eCallN 2 c_l_next (aCons (eVar 5) (aCons (eCB gLen (aCons (eBin gIx (eVar 6) (eC (.int 1))) aNil)) aNil)))) aNil)) aNil)))) (bName 9) (sIf (tOrD (tNotD (tOf (eCallN 3 c_l_too_great (aCons (eVar 6) (aCons (eVar 9) (aCons (eC (.bool true)) aNil)))))) (tNotD (tOf (eCallN 3 c_l_too_great (aCons (eVar 6) (aCons (eVar 9) (aCons (eC (.bool false)) aNil))))))) (sRet (eC (.bool false))) sNext)) (sIf (tOf (eBin gNe (eBin gIx (eCallN 2 c_by_cases (aCons (eTup (aCons (eC (.int 8)) (aCons (eCB gTuple (aCons (eCB gSrt (aCons (eLc (iRange2 (eC (.int 1)) (eC (.int 8))) [11] (bName 11) tTrue (eTup (aCons (eC (.int 0)) (aCons (eVar 11) aNil)))) aNil)) aNil)) aNil))) (aCons (eTup aNil) aNil))) (eC (.int 0))) (eC (.str "none")))) (sRet (eC (.bool false))) sNext)))))))) (sRet (eC (.bool true))))
theorem v_law_eq : b_law = (sSeq (sFor (iRange2 (eC (.int 4)) (eC (.int 10))) (bName 1) (sFor (iSeq (eCallN 1 c_l_ring_or_five (aCons (eVar 1) aNil))) (bPair 2 3) (sIf (tOrD (tNotD (tOf (eCallN 3 c_l_no_held (aCons (eVar 2) (aCons (eVar 3) (aCons (eC (.bool true)) aNil)))))) (tNotD (tOf (eCallN 3 c_l_no_held (aCons (eVar 2) (aCons (eVar 3) (aCons (eC (.bool false)) aNil))))))) (sRet (eC (.bool false))) sNext))) v_law) := rfl
def c_law : DSp := fun ds P _ => ∃ (ns : List Int), ds = [.scr (ns.map .int)] ∧ ns.length ≤ 63 ∧ P (.val (.bool true))
theorem h_law : ∀ ds P E, c_law ds P E → rdB n_law b_law ds P E := by
  rintro _ P E ⟨ns, rfl, h0, h⟩
  have hz := sizeLine_big
  simp [v_law_eq]
  refine ForI.rng (fun _ ρ => ∃ a b c d e f g i j k l : D, ρ = [.scr (ns.map .int), a, b, c, d, e, f, g, i, j, k, l]) ⟨_, _, _, _, _, _, _, _, _, _, _, rfl⟩ ?_ ?_
  · rintro m _ hm ⟨a, b, c, d, e, f, g, i, j, k, l, rfl⟩
    simp
    refine ⟨_, rfl, by omega, by omega, fun xs hx => ?_⟩
    simp
    refine ForI.go (fun _ ρ => ∃ a b c d e f g i j k l : D, ρ = [.scr (ns.map .int), a, b, c, d, e, f, g, i, j, k, l]) ⟨_, _, _, _, _, _, _, _, _, _, _, rfl⟩ ?_ ?_
    · rintro q x _ hq ⟨a, b, c, d, e, f, g, i, j, k, l, rfl⟩
      obtain ⟨W, y, rfl, hW, hy⟩ := hx x (List.mem_of_getElem? hq)
      simp
      refine ⟨W, y, _, rfl, hW, hy, ?_⟩
      simp
      refine ⟨W, y, _, rfl, hW, hy, ?_⟩
      simp
    · rintro _ ⟨a, b, c, d, e, f, g, i, j, k, l, rfl⟩
      exact ⟨_, _, _, _, _, _, _, _, _, _, _, rfl⟩
  · rintro _ ⟨a, b, c, d, e, f, g, i, j, k, l, rfl⟩
    simp [v_law]
    refine ForI.rng (fun _ ρ => ∃ a b c d e f g i j k l : D, ρ = [.scr (ns.map .int), a, b, c, d, e, f, g, i, j, k, l]) ⟨_, _, _, _, _, _, _, _, _, _, _, rfl⟩ ?_ ?_
    · rintro m _ hm ⟨a, b, c, d, e, f, g, i, j, k, l, rfl⟩
      simp
      refine ⟨ns, m, rfl, h0, fun cell => ?_⟩
      simp
      refine ⟨_, 60, rfl, by decide, by decide, fun xs kx => ?_⟩
      simp
      refine ⟨xs, rfl, kx, 3, 6, rfl, by decide, by decide, by decide, fun W hW _ _ => ?_⟩
      simp
      refine ⟨rfl, fun V hV h9 h12 hl hne => ?_⟩
      simp
      repeat refine And.intro (by omega) ?_
      refine ForI.go (fun _ ρ => ∃ b c g i j k l : D, ρ = [.scr (ns.map .int), a, b, c, .val (.int m), .ext (dice kapN), .val (encW V), g, i, j, k, l]) ⟨_, _, _, _, _, _, _, rfl⟩ ?_ ?_
      · rintro q x _ hq ⟨b, c, g, i, j, k, l, rfl⟩
        obtain ⟨U, rfl, hU⟩ : ∃ U : Wb, x = encW U ∧ WebOk U := by
          have := List.mem_of_getElem? hq
          simp only [List.mem_cons, List.not_mem_nil, or_false] at this
          rcases this with rfl | rfl
          · exact ⟨_, rfl, hW⟩
          · exact ⟨_, rfl, hV⟩
        simp
        refine ⟨U, rfl, hU, fun xs hx l22 l10 => ?_⟩
        simp
        repeat refine And.intro (by omega) ?_
        refine LcI.allR (β := PD) id (fun _ d => heldOf U d = none) (fun z hz' Q q => ?_) ?_
        · simp
          refine ⟨_, rfl, by omega, fun r r0 r1 => ?_⟩
          obtain ⟨y, hy, hym⟩ := atI_mem (xs := xs) (i := r) r0 r1
          simp [hy]
          exact q y (hx y hym)
        · intro bs hbl hbs
          simp
          have hcl : (cutP xs none (some 22)).length ≤ xs.length := cutP_len ..
          repeat refine And.intro (by omega) ?_
          refine ForI.go (fun _ ρ => ∃ c j k l : D, ρ = [.scr (ns.map .int), a, b, c, .val (.int m), .ext (dice kapN), .val (encW V), .val (encW U), .new xs, j, k, l]) ⟨_, _, _, _, rfl⟩ ?_ ?_
          · rintro q' x _ hq' ⟨c, j, k, l, rfl⟩
            have hx' : heldOf U x = none := by
              rcases List.mem_append.mp (List.mem_of_getElem? hq') with h | h
              · exact hx x (List.mem_of_mem_drop (List.mem_of_mem_take h))
              · obtain ⟨n, hn⟩ := List.getElem?_of_mem h
                exact hbs n x (by simpa using hn)
            simp
            refine ⟨U, x, _, rfl, hU, hx', ?_⟩
            simp
            refine ⟨U, x, _, rfl, hU, hx', ?_⟩
            simp
          · rintro _ ⟨c, j, k, l, rfl⟩
            exact ⟨_, _, _, _, _, _, _, rfl⟩
      · rintro _ ⟨b, c, g, i, j, k, l, rfl⟩
        have hlv := List.length_pos_iff.mpr hne
        simp
        refine ⟨_, rfl, by omega, fun r r0 r1 => ?_⟩
        obtain ⟨t, ht⟩ : ∃ t, V.ts[r.toNat]? = some t := ⟨_, List.getElem?_eq_getElem (by omega)⟩
        have hat : atI (V.ts.map encPr) r = some (encPr t) := by
          have := atI_at (xs := V.ts.map encPr) (n := r.toNat) (x := encPr t) (by rw [List.getElem?_map, ht]; rfl)
          rwa [show ((r.toNat : Nat) : Int) = r by omega] at this
        have h1t : HeldOk V [t] := ⟨by simp, fun u hu => by rw [List.mem_singleton] at hu; subst hu; exact List.mem_of_getElem? ht, List.pairwise_singleton .., fun p => by rw [degT_one]; split <;> omega, fun hh => by
          obtain ⟨pre, x, y, post, e, cn⟩ := hh
          have hp : pre = [] := by
            cases pre with
            | nil => rfl
            | cons z zs => have := congrArg List.length e; simp at this
          subst hp
          cases e
          have rt := hV.ts.1 (x, y) (List.mem_of_getElem? ht)
          cases cn with
          | refl => simp only at rt; omega
          | tie h _ => simp at h⟩
        have h0t : HeldOk V [] := ⟨by simp, by simp, List.Pairwise.nil, fun p => by simp [degT], hasRing_nil⟩
        simp [hat]
        repeat refine And.intro (by omega) ?_
        refine ForI.go (fun _ ρ => ∃ j : D, ρ = [.scr (ns.map .int), a, b, c, .val (.int m), .ext (dice kapN), .val (encW V), g, i, j, k, l]) ⟨_, rfl⟩ ?_ ?_
        · rintro q x _ hq ⟨j, rfl⟩
          obtain ⟨hs, rfl, hh⟩ : ∃ hs : List (Int × Int), x = .tuple (hs.map encPr) ∧ HeldOk V hs := by
            have := List.mem_of_getElem? hq
            simp only [List.mem_cons, List.not_mem_nil, or_false] at this
            rcases this with rfl | rfl
            · exact ⟨[], rfl, h0t⟩
            · exact ⟨[t], rfl, h1t⟩
          simp
          refine ⟨V, hs, _, rfl, hV, hh, h9, hl, ?_⟩
          simp
          refine ⟨V, hs, _, rfl, hV, hh, h9, hl, ?_⟩
          simp
        · rintro _ ⟨j, rfl⟩
          simp
          refine LcI.rng (fun p => encPr (0, p)) (fun p p0 p1 Q q => ?_) ?_
          · simp
            exact ⟨by omega, q⟩
          · have e : (up 1 7).map (fun p => encPr (0, p)) = star8.ts.map encPr := by unfold star8; rw [List.map_map]; rfl
            have es : srtP star8.ts = star8.ts := srtP_id (lt_le star8_ok.ts.2)
            rw [e]
            simp
            rw [es]
            repeat refine And.intro (by omega) ?_
            refine ⟨star8, _, rfl, star8_ok, .inr (.inr ⟨rfl, rfl, ?_⟩)⟩
            simp
    · rintro _ ⟨a, b, c, d, e, f, g, i, j, k, l, rfl⟩
      simp
      exact h
theorem law_true : ∀ ns : List Int, ns.length ≤ 63 → c_law [.scr (ns.map PyData.int)] (fun d => d = .val (.bool true)) fun _ => False := fun ns h => ⟨ns, rfl, h, rfl⟩
def topS (i : Nat) : Stmt := PySem.Challenge.pw_closedrings_k37_refused_asking.main.body.getD i (.Pass ⟨0, 0, 0, 0⟩)
def clsS (i j : Nat) : Stmt := match topS i with
  | .ClassDef _ _ _ body _ _ _ _ _ _ _ => body.getD j (.Pass ⟨0, 0, 0, 0⟩)
  | s => s
abbrev s_is_int : Stmt := topS 17
abbrev s_in_order : Stmt := topS 18
abbrev s_counts_of : Stmt := topS 19
abbrev s_beside : Stmt := topS 20
abbrev s_all_tied : Stmt := topS 21
abbrev s_told_ring : Stmt := topS 30
abbrev s_have_ring : Stmt := topS 32
abbrev s_at_place : Stmt := topS 41
abbrev s_lots_of : Stmt := topS 51
abbrev s_with_put : Stmt := topS 56
abbrev s_from_put : Stmt := topS 61
abbrev s_held_beside : Stmt := topS 66
abbrev s_l_cell_at : Stmt := topS 70
abbrev s_l_stream : Stmt := topS 71
abbrev s_l_next : Stmt := topS 72
abbrev s_l_at : Stmt := topS 74
abbrev s_l_ring_or_five : Stmt := topS 87
abbrev s_is_tied : Stmt := topS 25
abbrev s_are_places : Stmt := topS 26
abbrev s_ring_ties : Stmt := topS 29
abbrev s_is_tie : Stmt := topS 31
abbrev s_piece_of : Stmt := topS 36
abbrev s_open_ties : Stmt := topS 44
abbrev s_taken_round : Stmt := topS 45
abbrev s_place_paper : Stmt := topS 46
abbrev s_is_put : Stmt := topS 54
abbrev s_put_ahead : Stmt := topS 55
abbrev s_web_with : Stmt := topS 58
abbrev s_turned : Stmt := topS 62
abbrev s_easy_ring : Stmt := topS 67
abbrev s_l_web : Stmt := topS 73
abbrev s_l_poor : Stmt := topS 83
abbrev s_l_wrong_held : Stmt := topS 84
abbrev s_is_way : Stmt := topS 27
abbrev s_is_held : Stmt := topS 33
abbrev s_pieces : Stmt := topS 37
abbrev s_rounds_of : Stmt := topS 47
abbrev s_tie_at : Stmt := topS 48
abbrev s_are_puts : Stmt := topS 57
abbrev s_closed : Stmt := topS 59
abbrev s_over : Stmt := topS 63
abbrev s_is_ring : Stmt := topS 28
abbrev s_is_bar : Stmt := topS 38
abbrev s_next_tie : Stmt := topS 49
abbrev s_is_whole_ring : Stmt := topS 34
abbrev s_led_back : Stmt := topS 64
abbrev s_looked_at : Stmt := topS 50
abbrev s_by_cases : Stmt := topS 52
abbrev s_ask : Stmt := topS 68
abbrev s_l_no_held : Stmt := topS 85
abbrev s_l_too_great : Stmt := topS 86
abbrev s_law : Stmt := topS 88
structure Bt (K : PySem.W.Frag) (mg : Str → Option Value) : Prop where
  b_isinstance : mg "isinstance" = none
  b_int : mg "int" = none
  b_bool : mg "bool" = none
  b_range : mg "range" = none
  b_tuple : mg "tuple" = none
  b_sorted : mg "sorted" = none
  b_list : mg "list" = none
  b_len : mg "len" = none
  b_max : mg "max" = none
  c_MOST_HELD : ∃ t, mg "MOST_HELD" = some (.int 4 t)
  c_MOST_PLACES : ∃ t, mg "MOST_PLACES" = some (.int 8 t)
  x_NoHeld : ∃ C, mg "NoHeld" = some (.ref C) ∧ ExF K C
  x_NoPut : ∃ C, mg "NoPut" = some (.ref C) ∧ ExF K C
  x_NoRing : ∃ C, mg "NoRing" = some (.ref C) ∧ ExF K C
  f_TooGreat : ∃ C, mg "TooGreat" = some (.ref C) ∧ ExcC K C ∧ PySem.W.findIn K (.ref C) "most" = some none
  y_RingsError : ∃ C, mg "RingsError" = some (.ref C) ∧ ErrT K mg (.ref C) [("NoHeld", true), ("NoPut", true), ("NoRing", true), ("TooGreat", true)]
  y_ValueError : mg "ValueError" = none ∧ ErrT K mg (.type "ValueError") [("NoHeld", true), ("NoPut", true), ("NoRing", true), ("TooGreat", true)]
  y_TooGreat : ∃ C, mg "TooGreat" = some (.ref C) ∧ ErrT K mg (.ref C) [("NoHeld", false), ("NoPut", false), ("NoRing", false), ("TooGreat", true)]
  y_NoHeld : ∃ C, mg "NoHeld" = some (.ref C) ∧ ErrT K mg (.ref C) [("NoHeld", true), ("NoPut", false), ("NoRing", false), ("TooGreat", false)]
  y_NoText : ∃ C, mg "NoText" = some (.ref C) ∧ ErrT K mg (.ref C) [("NoHeld", false), ("NoPut", false), ("NoRing", false), ("TooGreat", false)]
  y_NoRow : ∃ C, mg "NoRow" = some (.ref C) ∧ ErrT K mg (.ref C) [("NoHeld", false), ("NoPut", false), ("NoRing", false), ("TooGreat", false)]
  y_NoRing : ∃ C, mg "NoRing" = some (.ref C) ∧ ErrT K mg (.ref C) [("NoHeld", false), ("NoPut", false), ("NoRing", true), ("TooGreat", false)]
  y_NoPut : ∃ C, mg "NoPut" = some (.ref C) ∧ ErrT K mg (.ref C) [("NoHeld", false), ("NoPut", true), ("NoRing", false), ("TooGreat", false)]
  y_NoNumber : ∃ C, mg "NoNumber" = some (.ref C) ∧ ErrT K mg (.ref C) [("NoHeld", false), ("NoPut", false), ("NoRing", false), ("TooGreat", false)]
  y_TooFew : ∃ C, mg "TooFew" = some (.ref C) ∧ ErrT K mg (.ref C) [("NoHeld", false), ("NoPut", false), ("NoRing", false), ("TooGreat", false)]
  y_NothingBack : ∃ C, mg "NothingBack" = some (.ref C) ∧ ErrT K mg (.ref C) [("NoHeld", false), ("NoPut", false), ("NoRing", false), ("TooGreat", false)]
  y_NotRich : ∃ C, mg "NotRich" = some (.ref C) ∧ ErrT K mg (.ref C) [("NoHeld", false), ("NoPut", false), ("NoRing", false), ("TooGreat", false)]
  y_NoWeb : ∃ C, mg "NoWeb" = some (.ref C) ∧ ErrT K mg (.ref C) [("NoHeld", false), ("NoPut", false), ("NoRing", false), ("TooGreat", false)]
  y_NoWay : ∃ C, mg "NoWay" = some (.ref C) ∧ ErrT K mg (.ref C) [("NoHeld", false), ("NoPut", false), ("NoRing", false), ("TooGreat", false)]
  y_NoTie : ∃ C, mg "NoTie" = some (.ref C) ∧ ErrT K mg (.ref C) [("NoHeld", false), ("NoPut", false), ("NoRing", false), ("TooGreat", false)]
abbrev N_is_int : List Str := ["thing", "least", "most"]
theorem sc_is_int : FnScope N_is_int ["thing", "least", "most"] (defScope s_is_int) := ⟨rfl, rfl, rfl, by decide +kernel, rfl, by decide +kernel, by decide +kernel⟩
theorem v_is_int_thing : Vis (defScope s_is_int) "thing" := .inl (by decide +kernel)
theorem v_is_int_least : Vis (defScope s_is_int) "least" := .inl (by decide +kernel)
theorem v_is_int_most : Vis (defScope s_is_int) "most" := .inl (by decide +kernel)
theorem g_is_int_isinstance : (defScope s_is_int).names.lookup ("isinstance" : Str) = some .globalImplicit := by decide +kernel
theorem g_is_int_int : (defScope s_is_int).names.lookup ("int" : Str) = some .globalImplicit := by decide +kernel
theorem g_is_int_bool : (defScope s_is_int).names.lookup ("bool" : Str) = some .globalImplicit := by decide +kernel
abbrev N_in_order : List Str := ["a", "b"]
theorem sc_in_order : FnScope N_in_order ["a", "b"] (defScope s_in_order) := ⟨rfl, rfl, rfl, by decide +kernel, rfl, by decide +kernel, by decide +kernel⟩
theorem v_in_order_a : Vis (defScope s_in_order) "a" := .inl (by decide +kernel)
theorem v_in_order_b : Vis (defScope s_in_order) "b" := .inl (by decide +kernel)
abbrev N_counts_of : List Str := ["web", "counts", "a", "b", "place"]
theorem sc_counts_of : FnScope N_counts_of ["web"] (defScope s_counts_of) := ⟨rfl, rfl, rfl, by decide +kernel, rfl, by decide +kernel, by decide +kernel⟩
theorem v_counts_of_web : Vis (defScope s_counts_of) "web" := .inl (by decide +kernel)
theorem v_counts_of_counts : Vis (defScope s_counts_of) "counts" := .inl (by decide +kernel)
theorem v_counts_of_a : Vis (defScope s_counts_of) "a" := .inl (by decide +kernel)
theorem v_counts_of_b : Vis (defScope s_counts_of) "b" := .inl (by decide +kernel)
theorem g_counts_of_range : (defScope s_counts_of).names.lookup ("range" : Str) = some .globalImplicit := by decide +kernel
theorem g_counts_of_tuple : (defScope s_counts_of).names.lookup ("tuple" : Str) = some .globalImplicit := by decide +kernel
abbrev N_beside : List Str := ["web", "place", "found", "a", "b"]
theorem sc_beside : FnScope N_beside ["web", "place"] (defScope s_beside) := ⟨rfl, rfl, rfl, by decide +kernel, rfl, by decide +kernel, by decide +kernel⟩
theorem v_beside_web : Vis (defScope s_beside) "web" := .inl (by decide +kernel)
theorem v_beside_place : Vis (defScope s_beside) "place" := .inl (by decide +kernel)
theorem v_beside_found : Vis (defScope s_beside) "found" := .inl (by decide +kernel)
theorem v_beside_a : Vis (defScope s_beside) "a" := .inl (by decide +kernel)
theorem v_beside_b : Vis (defScope s_beside) "b" := .inl (by decide +kernel)
theorem g_beside_sorted : (defScope s_beside).names.lookup ("sorted" : Str) = some .globalImplicit := by decide +kernel
theorem g_beside_tuple : (defScope s_beside).names.lookup ("tuple" : Str) = some .globalImplicit := by decide +kernel
abbrev N_all_tied : List Str := ["many", "ties", "a", "b"]
theorem sc_all_tied : FnScope N_all_tied ["many"] (defScope s_all_tied) := ⟨rfl, rfl, rfl, by decide +kernel, rfl, by decide +kernel, by decide +kernel⟩
theorem v_all_tied_many : Vis (defScope s_all_tied) "many" := .inl (by decide +kernel)
theorem v_all_tied_ties : Vis (defScope s_all_tied) "ties" := .inl (by decide +kernel)
theorem v_all_tied_a : Vis (defScope s_all_tied) "a" := .inr (.inl (by decide +kernel))
theorem g_all_tied_range : (defScope s_all_tied).names.lookup ("range" : Str) = some .globalImplicit := by decide +kernel
theorem g_all_tied_tuple : (defScope s_all_tied).names.lookup ("tuple" : Str) = some .globalImplicit := by decide +kernel
abbrev N_told_ring : List Str := ["ring", "at", "found"]
theorem sc_told_ring : FnScope N_told_ring ["ring"] (defScope s_told_ring) := ⟨rfl, rfl, rfl, by decide +kernel, rfl, by decide +kernel, by decide +kernel⟩
theorem v_told_ring_ring : Vis (defScope s_told_ring) "ring" := .inl (by decide +kernel)
theorem v_told_ring_at : Vis (defScope s_told_ring) "at" := .inl (by decide +kernel)
theorem v_told_ring_found : Vis (defScope s_told_ring) "found" := .inl (by decide +kernel)
abbrev N_have_ring : List Str := ["web", "ties", "labels", "a", "b", "one", "other", "label"]
theorem sc_have_ring : FnScope N_have_ring ["web", "ties"] (defScope s_have_ring) := ⟨rfl, rfl, rfl, by decide +kernel, rfl, by decide +kernel, by decide +kernel⟩
theorem v_have_ring_web : Vis (defScope s_have_ring) "web" := .inl (by decide +kernel)
theorem v_have_ring_ties : Vis (defScope s_have_ring) "ties" := .inl (by decide +kernel)
theorem v_have_ring_labels : Vis (defScope s_have_ring) "labels" := .inl (by decide +kernel)
theorem v_have_ring_a : Vis (defScope s_have_ring) "a" := .inl (by decide +kernel)
theorem v_have_ring_b : Vis (defScope s_have_ring) "b" := .inl (by decide +kernel)
theorem v_have_ring_one : Vis (defScope s_have_ring) "one" := .inr (.inl (by decide +kernel))
theorem v_have_ring_other : Vis (defScope s_have_ring) "other" := .inr (.inl (by decide +kernel))
theorem g_have_ring_range : (defScope s_have_ring).names.lookup ("range" : Str) = some .globalImplicit := by decide +kernel
theorem g_have_ring_list : (defScope s_have_ring).names.lookup ("list" : Str) = some .globalImplicit := by decide +kernel
abbrev N_at_place : List Str := ["ties", "place", "tie"]
theorem sc_at_place : FnScope N_at_place ["ties", "place"] (defScope s_at_place) := ⟨rfl, rfl, rfl, by decide +kernel, rfl, by decide +kernel, by decide +kernel⟩
theorem v_at_place_ties : Vis (defScope s_at_place) "ties" := .inl (by decide +kernel)
theorem v_at_place_place : Vis (defScope s_at_place) "place" := .inr (.inl (by decide +kernel))
abbrev N_lots_of : List Str := ["many", "found", "number", "lot", "place"]
theorem sc_lots_of : FnScope N_lots_of ["many"] (defScope s_lots_of) := ⟨rfl, rfl, rfl, by decide +kernel, rfl, by decide +kernel, by decide +kernel⟩
theorem v_lots_of_many : Vis (defScope s_lots_of) "many" := .inl (by decide +kernel)
theorem v_lots_of_found : Vis (defScope s_lots_of) "found" := .inl (by decide +kernel)
theorem v_lots_of_number : Vis (defScope s_lots_of) "number" := .inr (.inl (by decide +kernel))
theorem v_lots_of_lot : Vis (defScope s_lots_of) "lot" := .inl (by decide +kernel)
theorem g_lots_of_range : (defScope s_lots_of).names.lookup ("range" : Str) = some .globalImplicit := by decide +kernel
theorem g_lots_of_tuple : (defScope s_lots_of).names.lookup ("tuple" : Str) = some .globalImplicit := by decide +kernel
theorem g_lots_of_len : (defScope s_lots_of).names.lookup ("len" : Str) = some .globalImplicit := by decide +kernel
abbrev N_with_put : List Str := ["web", "put"]
theorem sc_with_put : FnScope N_with_put ["web", "put"] (defScope s_with_put) := ⟨rfl, rfl, rfl, by decide +kernel, rfl, by decide +kernel, by decide +kernel⟩
theorem v_with_put_web : Vis (defScope s_with_put) "web" := .inl (by decide +kernel)
theorem v_with_put_put : Vis (defScope s_with_put) "put" := .inl (by decide +kernel)
theorem g_with_put_sorted : (defScope s_with_put).names.lookup ("sorted" : Str) = some .globalImplicit := by decide +kernel
theorem g_with_put_tuple : (defScope s_with_put).names.lookup ("tuple" : Str) = some .globalImplicit := by decide +kernel
abbrev N_from_put : List Str := ["ring", "put", "at", "found"]
theorem sc_from_put : FnScope N_from_put ["ring", "put"] (defScope s_from_put) := ⟨rfl, rfl, rfl, by decide +kernel, rfl, by decide +kernel, by decide +kernel⟩
theorem v_from_put_ring : Vis (defScope s_from_put) "ring" := .inl (by decide +kernel)
theorem v_from_put_put : Vis (defScope s_from_put) "put" := .inl (by decide +kernel)
theorem v_from_put_at : Vis (defScope s_from_put) "at" := .inl (by decide +kernel)
theorem v_from_put_found : Vis (defScope s_from_put) "found" := .inl (by decide +kernel)
abbrev N_held_beside : List Str := ["held", "place", "row", "found", "tie", "other"]
theorem sc_held_beside : FnScope N_held_beside ["held", "place", "row"] (defScope s_held_beside) := ⟨rfl, rfl, rfl, by decide +kernel, rfl, by decide +kernel, by decide +kernel⟩
theorem v_held_beside_held : Vis (defScope s_held_beside) "held" := .inl (by decide +kernel)
theorem v_held_beside_place : Vis (defScope s_held_beside) "place" := .inr (.inl (by decide +kernel))
theorem v_held_beside_row : Vis (defScope s_held_beside) "row" := .inr (.inl (by decide +kernel))
theorem v_held_beside_found : Vis (defScope s_held_beside) "found" := .inl (by decide +kernel)
abbrev N_l_cell_at : List Str := ["_law_script", "_law_k"]
theorem sc_l_cell_at : FnScope N_l_cell_at ["_law_script", "_law_k"] (defScope s_l_cell_at) := ⟨rfl, rfl, rfl, by decide +kernel, rfl, by decide +kernel, by decide +kernel⟩
theorem v_l_cell_at_l_script : Vis (defScope s_l_cell_at) "_law_script" := .inl (by decide +kernel)
theorem v_l_cell_at_l_k : Vis (defScope s_l_cell_at) "_law_k" := .inl (by decide +kernel)
theorem g_l_cell_at_len : (defScope s_l_cell_at).names.lookup ("len" : Str) = some .globalImplicit := by decide +kernel
abbrev N_l_stream : List Str := ["_law_cell", "_law_many", "_law_found", "_law_k", "_law_number", "_law_other"]
theorem sc_l_stream : FnScope N_l_stream ["_law_cell", "_law_many"] (defScope s_l_stream) := ⟨rfl, rfl, rfl, by decide +kernel, rfl, by decide +kernel, by decide +kernel⟩
theorem v_l_stream_l_cell : Vis (defScope s_l_stream) "_law_cell" := .inl (by decide +kernel)
theorem v_l_stream_l_many : Vis (defScope s_l_stream) "_law_many" := .inl (by decide +kernel)
theorem v_l_stream_l_found : Vis (defScope s_l_stream) "_law_found" := .inl (by decide +kernel)
theorem v_l_stream_l_k : Vis (defScope s_l_stream) "_law_k" := .inl (by decide +kernel)
theorem v_l_stream_l_number : Vis (defScope s_l_stream) "_law_number" := .inl (by decide +kernel)
theorem v_l_stream_l_other : Vis (defScope s_l_stream) "_law_other" := .inl (by decide +kernel)
theorem g_l_stream_range : (defScope s_l_stream).names.lookup ("range" : Str) = some .globalImplicit := by decide +kernel
abbrev N_l_next : List Str := ["_law_xs", "_law_many"]
theorem sc_l_next : FnScope N_l_next ["_law_xs", "_law_many"] (defScope s_l_next) := ⟨rfl, rfl, rfl, by decide +kernel, rfl, by decide +kernel, by decide +kernel⟩
abbrev N_l_at : List Str := ["_law_ties", "_law_place", "_law_tie"]
theorem sc_l_at : FnScope N_l_at ["_law_ties", "_law_place"] (defScope s_l_at) := ⟨rfl, rfl, rfl, by decide +kernel, rfl, by decide +kernel, by decide +kernel⟩
theorem v_l_at_l_ties : Vis (defScope s_l_at) "_law_ties" := .inl (by decide +kernel)
theorem v_l_at_l_place : Vis (defScope s_l_at) "_law_place" := .inr (.inl (by decide +kernel))
abbrev N_l_ring_or_five : List Str := ["_law_many", "_law_ties", "_law_a", "_law_found", "_law_b"]
theorem sc_l_ring_or_five : FnScope N_l_ring_or_five ["_law_many"] (defScope s_l_ring_or_five) := ⟨rfl, rfl, rfl, by decide +kernel, rfl, by decide +kernel, by decide +kernel⟩
theorem v_l_ring_or_five_l_many : Vis (defScope s_l_ring_or_five) "_law_many" := .inl (by decide +kernel)
theorem v_l_ring_or_five_l_ties : Vis (defScope s_l_ring_or_five) "_law_ties" := .inl (by decide +kernel)
theorem v_l_ring_or_five_l_a : Vis (defScope s_l_ring_or_five) "_law_a" := .inr (.inl (by decide +kernel))
theorem v_l_ring_or_five_l_found : Vis (defScope s_l_ring_or_five) "_law_found" := .inl (by decide +kernel)
theorem g_l_ring_or_five_range : (defScope s_l_ring_or_five).names.lookup ("range" : Str) = some .globalImplicit := by decide +kernel
theorem g_l_ring_or_five_tuple : (defScope s_l_ring_or_five).names.lookup ("tuple" : Str) = some .globalImplicit := by decide +kernel
abbrev N_is_tied : List Str := ["web", "a", "b"]
theorem sc_is_tied : FnScope N_is_tied ["web", "a", "b"] (defScope s_is_tied) := ⟨rfl, rfl, rfl, by decide +kernel, rfl, by decide +kernel, by decide +kernel⟩
theorem v_is_tied_web : Vis (defScope s_is_tied) "web" := .inl (by decide +kernel)
theorem v_is_tied_a : Vis (defScope s_is_tied) "a" := .inl (by decide +kernel)
theorem v_is_tied_b : Vis (defScope s_is_tied) "b" := .inl (by decide +kernel)
abbrev N_are_places : List Str := ["web", "thing", "k"]
theorem sc_are_places : FnScope N_are_places ["web", "thing"] (defScope s_are_places) := ⟨rfl, rfl, rfl, by decide +kernel, rfl, by decide +kernel, by decide +kernel⟩
theorem v_are_places_web : Vis (defScope s_are_places) "web" := .inl (by decide +kernel)
theorem v_are_places_thing : Vis (defScope s_are_places) "thing" := .inl (by decide +kernel)
theorem v_are_places_k : Vis (defScope s_are_places) "k" := .inl (by decide +kernel)
theorem g_are_places_isinstance : (defScope s_are_places).names.lookup ("isinstance" : Str) = some .globalImplicit := by decide +kernel
theorem g_are_places_tuple : (defScope s_are_places).names.lookup ("tuple" : Str) = some .globalImplicit := by decide +kernel
theorem g_are_places_len : (defScope s_are_places).names.lookup ("len" : Str) = some .globalImplicit := by decide +kernel
theorem g_are_places_range : (defScope s_are_places).names.lookup ("range" : Str) = some .globalImplicit := by decide +kernel
theorem g_are_places_is_int : (defScope s_are_places).names.lookup ("is_int" : Str) = some .globalImplicit := by decide +kernel
abbrev N_ring_ties : List Str := ["ring", "k"]
theorem sc_ring_ties : FnScope N_ring_ties ["ring"] (defScope s_ring_ties) := ⟨rfl, rfl, rfl, by decide +kernel, rfl, by decide +kernel, by decide +kernel⟩
theorem v_ring_ties_ring : Vis (defScope s_ring_ties) "ring" := .inr (.inl (by decide +kernel))
abbrev N_is_tie : List Str := ["web", "thing"]
theorem sc_is_tie : FnScope N_is_tie ["web", "thing"] (defScope s_is_tie) := ⟨rfl, rfl, rfl, by decide +kernel, rfl, by decide +kernel, by decide +kernel⟩
theorem v_is_tie_web : Vis (defScope s_is_tie) "web" := .inl (by decide +kernel)
theorem v_is_tie_thing : Vis (defScope s_is_tie) "thing" := .inl (by decide +kernel)
theorem g_is_tie_isinstance : (defScope s_is_tie).names.lookup ("isinstance" : Str) = some .globalImplicit := by decide +kernel
theorem g_is_tie_tuple : (defScope s_is_tie).names.lookup ("tuple" : Str) = some .globalImplicit := by decide +kernel
theorem g_is_tie_len : (defScope s_is_tie).names.lookup ("len" : Str) = some .globalImplicit := by decide +kernel
theorem g_is_tie_is_int : (defScope s_is_tie).names.lookup ("is_int" : Str) = some .globalImplicit := by decide +kernel
abbrev N_piece_of : List Str := ["web", "left", "start", "found", "at", "place"]
theorem sc_piece_of : FnScope N_piece_of ["web", "left", "start"] (defScope s_piece_of) := ⟨rfl, rfl, rfl, by decide +kernel, rfl, by decide +kernel, by decide +kernel⟩
theorem v_piece_of_web : Vis (defScope s_piece_of) "web" := .inl (by decide +kernel)
theorem v_piece_of_left : Vis (defScope s_piece_of) "left" := .inl (by decide +kernel)
theorem v_piece_of_start : Vis (defScope s_piece_of) "start" := .inl (by decide +kernel)
theorem v_piece_of_found : Vis (defScope s_piece_of) "found" := .inl (by decide +kernel)
theorem v_piece_of_at : Vis (defScope s_piece_of) "at" := .inl (by decide +kernel)
theorem v_piece_of_place : Vis (defScope s_piece_of) "place" := .inl (by decide +kernel)
theorem g_piece_of_len : (defScope s_piece_of).names.lookup ("len" : Str) = some .globalImplicit := by decide +kernel
theorem g_piece_of_beside : (defScope s_piece_of).names.lookup ("beside" : Str) = some .globalImplicit := by decide +kernel
theorem g_piece_of_sorted : (defScope s_piece_of).names.lookup ("sorted" : Str) = some .globalImplicit := by decide +kernel
theorem g_piece_of_tuple : (defScope s_piece_of).names.lookup ("tuple" : Str) = some .globalImplicit := by decide +kernel
abbrev N_open_ties : List Str := ["reading", "tie"]
theorem sc_open_ties : FnScope N_open_ties ["reading"] (defScope s_open_ties) := ⟨rfl, rfl, rfl, by decide +kernel, rfl, by decide +kernel, by decide +kernel⟩
theorem v_open_ties_reading : Vis (defScope s_open_ties) "reading" := .inr (.inl (by decide +kernel))
abbrev N_taken_round : List Str := ["reading", "place", "found", "ties", "going", "beside", "tie"]
theorem sc_taken_round : FnScope N_taken_round ["reading", "place"] (defScope s_taken_round) := ⟨rfl, rfl, rfl, by decide +kernel, rfl, by decide +kernel, by decide +kernel⟩
theorem v_taken_round_reading : Vis (defScope s_taken_round) "reading" := .inl (by decide +kernel)
theorem v_taken_round_place : Vis (defScope s_taken_round) "place" := .inl (by decide +kernel)
theorem v_taken_round_found : Vis (defScope s_taken_round) "found" := .inr (.inl (by decide +kernel))
theorem v_taken_round_ties : Vis (defScope s_taken_round) "ties" := .inl (by decide +kernel)
theorem v_taken_round_going : Vis (defScope s_taken_round) "going" := .inl (by decide +kernel)
theorem v_taken_round_beside : Vis (defScope s_taken_round) "beside" := .inl (by decide +kernel)
abbrev N_place_paper : List Str := ["reading", "left", "place"]
theorem sc_place_paper : FnScope N_place_paper ["reading"] (defScope s_place_paper) := ⟨rfl, rfl, rfl, by decide +kernel, rfl, by decide +kernel, by decide +kernel⟩
theorem v_place_paper_reading : Vis (defScope s_place_paper) "reading" := .inl (by decide +kernel)
theorem v_place_paper_left : Vis (defScope s_place_paper) "left" := .inl (by decide +kernel)
theorem v_place_paper_place : Vis (defScope s_place_paper) "place" := .inl (by decide +kernel)
abbrev N_is_put : List Str := ["web", "more", "thing", "counts"]
theorem sc_is_put : FnScope N_is_put ["web", "more", "thing"] (defScope s_is_put) := ⟨rfl, rfl, rfl, by decide +kernel, rfl, by decide +kernel, by decide +kernel⟩
theorem v_is_put_web : Vis (defScope s_is_put) "web" := .inl (by decide +kernel)
theorem v_is_put_more : Vis (defScope s_is_put) "more" := .inl (by decide +kernel)
theorem v_is_put_thing : Vis (defScope s_is_put) "thing" := .inl (by decide +kernel)
theorem v_is_put_counts : Vis (defScope s_is_put) "counts" := .inl (by decide +kernel)
abbrev N_put_ahead : List Str := ["web", "more", "counts", "a", "b"]
theorem sc_put_ahead : FnScope N_put_ahead ["web", "more"] (defScope s_put_ahead) := ⟨rfl, rfl, rfl, by decide +kernel, rfl, by decide +kernel, by decide +kernel⟩
theorem v_put_ahead_web : Vis (defScope s_put_ahead) "web" := .inl (by decide +kernel)
theorem v_put_ahead_more : Vis (defScope s_put_ahead) "more" := .inl (by decide +kernel)
theorem v_put_ahead_counts : Vis (defScope s_put_ahead) "counts" := .inl (by decide +kernel)
theorem v_put_ahead_a : Vis (defScope s_put_ahead) "a" := .inl (by decide +kernel)
theorem v_put_ahead_b : Vis (defScope s_put_ahead) "b" := .inl (by decide +kernel)
theorem g_put_ahead_counts_of : (defScope s_put_ahead).names.lookup ("counts_of" : Str) = some .globalImplicit := by decide +kernel
theorem g_put_ahead_range : (defScope s_put_ahead).names.lookup ("range" : Str) = some .globalImplicit := by decide +kernel
abbrev N_web_with : List Str := ["web", "puts", "put"]
theorem sc_web_with : FnScope N_web_with ["web", "puts"] (defScope s_web_with) := ⟨rfl, rfl, rfl, by decide +kernel, rfl, by decide +kernel, by decide +kernel⟩
theorem v_web_with_web : Vis (defScope s_web_with) "web" := .inl (by decide +kernel)
theorem v_web_with_puts : Vis (defScope s_web_with) "puts" := .inl (by decide +kernel)
theorem v_web_with_put : Vis (defScope s_web_with) "put" := .inl (by decide +kernel)
abbrev N_turned : List Str := ["web", "held", "row", "i", "crossing"]
theorem sc_turned : FnScope N_turned ["web", "held", "row"] (defScope s_turned) := ⟨rfl, rfl, rfl, by decide +kernel, rfl, by decide +kernel, by decide +kernel⟩
theorem v_turned_web : Vis (defScope s_turned) "web" := .inl (by decide +kernel)
theorem v_turned_held : Vis (defScope s_turned) "held" := .inl (by decide +kernel)
theorem v_turned_row : Vis (defScope s_turned) "row" := .inl (by decide +kernel)
theorem v_turned_i : Vis (defScope s_turned) "i" := .inl (by decide +kernel)
theorem v_turned_crossing : Vis (defScope s_turned) "crossing" := .inl (by decide +kernel)
abbrev N_easy_ring : List Str := ["many", "held", "row", "place", "coming", "tie"]
theorem sc_easy_ring : FnScope N_easy_ring ["many", "held"] (defScope s_easy_ring) := ⟨rfl, rfl, rfl, by decide +kernel, rfl, by decide +kernel, by decide +kernel⟩
theorem v_easy_ring_many : Vis (defScope s_easy_ring) "many" := .inl (by decide +kernel)
theorem v_easy_ring_held : Vis (defScope s_easy_ring) "held" := .inl (by decide +kernel)
theorem v_easy_ring_row : Vis (defScope s_easy_ring) "row" := .inl (by decide +kernel)
theorem v_easy_ring_place : Vis (defScope s_easy_ring) "place" := .inr (.inl (by decide +kernel))
theorem v_easy_ring_coming : Vis (defScope s_easy_ring) "coming" := .inl (by decide +kernel)
abbrev N_l_web : List Str := ["_law_xs", "_law_least", "_law_most", "_law_many", "_law_share", "_law_ties", "_law_a", "_law_b"]
theorem sc_l_web : FnScope N_l_web ["_law_xs", "_law_least", "_law_most"] (defScope s_l_web) := ⟨rfl, rfl, rfl, by decide +kernel, rfl, by decide +kernel, by decide +kernel⟩
theorem v_l_web_l_xs : Vis (defScope s_l_web) "_law_xs" := .inl (by decide +kernel)
theorem v_l_web_l_least : Vis (defScope s_l_web) "_law_least" := .inl (by decide +kernel)
theorem v_l_web_l_most : Vis (defScope s_l_web) "_law_most" := .inl (by decide +kernel)
theorem v_l_web_l_many : Vis (defScope s_l_web) "_law_many" := .inl (by decide +kernel)
theorem v_l_web_l_share : Vis (defScope s_l_web) "_law_share" := .inl (by decide +kernel)
theorem v_l_web_l_ties : Vis (defScope s_l_web) "_law_ties" := .inl (by decide +kernel)
theorem v_l_web_l_a : Vis (defScope s_l_web) "_law_a" := .inl (by decide +kernel)
theorem v_l_web_l_b : Vis (defScope s_l_web) "_law_b" := .inl (by decide +kernel)
theorem g_l_web_l_next : (defScope s_l_web).names.lookup ("_law_next" : Str) = some .globalImplicit := by decide +kernel
theorem g_l_web_range : (defScope s_l_web).names.lookup ("range" : Str) = some .globalImplicit := by decide +kernel
theorem g_l_web_tuple : (defScope s_l_web).names.lookup ("tuple" : Str) = some .globalImplicit := by decide +kernel
abbrev N_l_poor : List Str := ["_law_xs", "_law_many", "_law_ties", "_law_b"]
theorem sc_l_poor : FnScope N_l_poor ["_law_xs"] (defScope s_l_poor) := ⟨rfl, rfl, rfl, by decide +kernel, rfl, by decide +kernel, by decide +kernel⟩
theorem v_l_poor_l_xs : Vis (defScope s_l_poor) "_law_xs" := .inl (by decide +kernel)
theorem v_l_poor_l_many : Vis (defScope s_l_poor) "_law_many" := .inl (by decide +kernel)
theorem v_l_poor_l_ties : Vis (defScope s_l_poor) "_law_ties" := .inl (by decide +kernel)
theorem v_l_poor_l_b : Vis (defScope s_l_poor) "_law_b" := .inl (by decide +kernel)
theorem g_l_poor_l_next : (defScope s_l_poor).names.lookup ("_law_next" : Str) = some .globalImplicit := by decide +kernel
theorem g_l_poor_range : (defScope s_l_poor).names.lookup ("range" : Str) = some .globalImplicit := by decide +kernel
theorem g_l_poor_sorted : (defScope s_l_poor).names.lookup ("sorted" : Str) = some .globalImplicit := by decide +kernel
theorem g_l_poor_tuple : (defScope s_l_poor).names.lookup ("tuple" : Str) = some .globalImplicit := by decide +kernel
abbrev N_l_wrong_held : List Str := ["_law_web_here", "_law_found", "_law_place", "_law_a", "_law_b"]
theorem sc_l_wrong_held : FnScope N_l_wrong_held ["_law_web_here"] (defScope s_l_wrong_held) := ⟨rfl, rfl, rfl, by decide +kernel, rfl, by decide +kernel, by decide +kernel⟩
theorem v_l_wrong_held_l_web_here : Vis (defScope s_l_wrong_held) "_law_web_here" := .inl (by decide +kernel)
theorem v_l_wrong_held_l_found : Vis (defScope s_l_wrong_held) "_law_found" := .inl (by decide +kernel)
theorem v_l_wrong_held_l_place : Vis (defScope s_l_wrong_held) "_law_place" := .inl (by decide +kernel)
theorem v_l_wrong_held_l_a : Vis (defScope s_l_wrong_held) "_law_a" := .inl (by decide +kernel)
theorem v_l_wrong_held_l_b : Vis (defScope s_l_wrong_held) "_law_b" := .inl (by decide +kernel)
theorem g_l_wrong_held_range : (defScope s_l_wrong_held).names.lookup ("range" : Str) = some .globalImplicit := by decide +kernel
theorem g_l_wrong_held_l_at : (defScope s_l_wrong_held).names.lookup ("_law_at" : Str) = some .globalImplicit := by decide +kernel
theorem g_l_wrong_held_len : (defScope s_l_wrong_held).names.lookup ("len" : Str) = some .globalImplicit := by decide +kernel
theorem g_l_wrong_held_tuple : (defScope s_l_wrong_held).names.lookup ("tuple" : Str) = some .globalImplicit := by decide +kernel
abbrev N_is_way : List Str := ["web", "thing", "k"]
theorem sc_is_way : FnScope N_is_way ["web", "thing"] (defScope s_is_way) := ⟨rfl, rfl, rfl, by decide +kernel, rfl, by decide +kernel, by decide +kernel⟩
theorem v_is_way_web : Vis (defScope s_is_way) "web" := .inl (by decide +kernel)
theorem v_is_way_thing : Vis (defScope s_is_way) "thing" := .inl (by decide +kernel)
theorem v_is_way_k : Vis (defScope s_is_way) "k" := .inl (by decide +kernel)
abbrev N_is_held : List Str := ["web", "thing", "counts", "k"]
theorem sc_is_held : FnScope N_is_held ["web", "thing"] (defScope s_is_held) := ⟨rfl, rfl, rfl, by decide +kernel, rfl, by decide +kernel, by decide +kernel⟩
theorem v_is_held_web : Vis (defScope s_is_held) "web" := .inl (by decide +kernel)
theorem v_is_held_thing : Vis (defScope s_is_held) "thing" := .inl (by decide +kernel)
theorem v_is_held_counts : Vis (defScope s_is_held) "counts" := .inl (by decide +kernel)
theorem v_is_held_k : Vis (defScope s_is_held) "k" := .inl (by decide +kernel)
theorem g_is_held_isinstance : (defScope s_is_held).names.lookup ("isinstance" : Str) = some .globalImplicit := by decide +kernel
theorem g_is_held_tuple : (defScope s_is_held).names.lookup ("tuple" : Str) = some .globalImplicit := by decide +kernel
theorem g_is_held_len : (defScope s_is_held).names.lookup ("len" : Str) = some .globalImplicit := by decide +kernel
theorem g_is_held_MOST_HELD : (defScope s_is_held).names.lookup ("MOST_HELD" : Str) = some .globalImplicit := by decide +kernel
theorem g_is_held_range : (defScope s_is_held).names.lookup ("range" : Str) = some .globalImplicit := by decide +kernel
theorem g_is_held_is_tie : (defScope s_is_held).names.lookup ("is_tie" : Str) = some .globalImplicit := by decide +kernel
theorem g_is_held_max : (defScope s_is_held).names.lookup ("max" : Str) = some .globalImplicit := by decide +kernel
theorem g_is_held_have_ring : (defScope s_is_held).names.lookup ("have_ring" : Str) = some .globalImplicit := by decide +kernel
abbrev N_pieces : List Str := ["web", "lot", "left", "found", "place", "piece"]
theorem sc_pieces : FnScope N_pieces ["web", "lot"] (defScope s_pieces) := ⟨rfl, rfl, rfl, by decide +kernel, rfl, by decide +kernel, by decide +kernel⟩
theorem v_pieces_web : Vis (defScope s_pieces) "web" := .inl (by decide +kernel)
theorem v_pieces_lot : Vis (defScope s_pieces) "lot" := .inr (.inl (by decide +kernel))
theorem v_pieces_left : Vis (defScope s_pieces) "left" := .inl (by decide +kernel)
theorem v_pieces_found : Vis (defScope s_pieces) "found" := .inl (by decide +kernel)
theorem v_pieces_place : Vis (defScope s_pieces) "place" := .inr (.inl (by decide +kernel))
theorem g_pieces_range : (defScope s_pieces).names.lookup ("range" : Str) = some .globalImplicit := by decide +kernel
theorem g_pieces_piece_of : (defScope s_pieces).names.lookup ("piece_of" : Str) = some .globalImplicit := by decide +kernel
theorem g_pieces_tuple : (defScope s_pieces).names.lookup ("tuple" : Str) = some .globalImplicit := by decide +kernel
abbrev N_rounds_of : List Str := ["reading", "found", "place", "ring"]
theorem sc_rounds_of : FnScope N_rounds_of ["reading"] (defScope s_rounds_of) := ⟨rfl, rfl, rfl, by decide +kernel, rfl, by decide +kernel, by decide +kernel⟩
theorem v_rounds_of_reading : Vis (defScope s_rounds_of) "reading" := .inr (.inl (by decide +kernel))
theorem v_rounds_of_found : Vis (defScope s_rounds_of) "found" := .inl (by decide +kernel)
abbrev N_tie_at : List Str := ["reading", "place", "tie"]
theorem sc_tie_at : FnScope N_tie_at ["reading", "place"] (defScope s_tie_at) := ⟨rfl, rfl, rfl, by decide +kernel, rfl, by decide +kernel, by decide +kernel⟩
theorem v_tie_at_reading : Vis (defScope s_tie_at) "reading" := .inl (by decide +kernel)
theorem v_tie_at_place : Vis (defScope s_tie_at) "place" := .inr (.inl (by decide +kernel))
abbrev N_are_puts : List Str := ["web", "more", "thing", "put"]
theorem sc_are_puts : FnScope N_are_puts ["web", "more", "thing"] (defScope s_are_puts) := ⟨rfl, rfl, rfl, by decide +kernel, rfl, by decide +kernel, by decide +kernel⟩
theorem v_are_puts_web : Vis (defScope s_are_puts) "web" := .inl (by decide +kernel)
theorem v_are_puts_more : Vis (defScope s_are_puts) "more" := .inl (by decide +kernel)
theorem v_are_puts_thing : Vis (defScope s_are_puts) "thing" := .inl (by decide +kernel)
theorem v_are_puts_put : Vis (defScope s_are_puts) "put" := .inl (by decide +kernel)
abbrev N_closed : List Str := ["web", "more", "puts", "put"]
theorem sc_closed : FnScope N_closed ["web", "more"] (defScope s_closed) := ⟨rfl, rfl, rfl, by decide +kernel, rfl, by decide +kernel, by decide +kernel⟩
theorem v_closed_web : Vis (defScope s_closed) "web" := .inl (by decide +kernel)
theorem v_closed_more : Vis (defScope s_closed) "more" := .inl (by decide +kernel)
theorem v_closed_puts : Vis (defScope s_closed) "puts" := .inl (by decide +kernel)
theorem v_closed_put : Vis (defScope s_closed) "put" := .inl (by decide +kernel)
theorem g_closed_put_ahead : (defScope s_closed).names.lookup ("put_ahead" : Str) = some .globalImplicit := by decide +kernel
theorem g_closed_with_put : (defScope s_closed).names.lookup ("with_put" : Str) = some .globalImplicit := by decide +kernel
theorem g_closed_tuple : (defScope s_closed).names.lookup ("tuple" : Str) = some .globalImplicit := by decide +kernel
abbrev N_over : List Str := ["web", "held", "put", "ring", "at"]
theorem sc_over : FnScope N_over ["web", "held", "put", "ring"] (defScope s_over) := ⟨rfl, rfl, rfl, by decide +kernel, rfl, by decide +kernel, by decide +kernel⟩
theorem v_over_web : Vis (defScope s_over) "web" := .inl (by decide +kernel)
theorem v_over_held : Vis (defScope s_over) "held" := .inl (by decide +kernel)
theorem v_over_put : Vis (defScope s_over) "put" := .inl (by decide +kernel)
theorem v_over_ring : Vis (defScope s_over) "ring" := .inl (by decide +kernel)
theorem v_over_at : Vis (defScope s_over) "at" := .inl (by decide +kernel)
abbrev N_is_ring : List Str := ["web", "thing"]
theorem sc_is_ring : FnScope N_is_ring ["web", "thing"] (defScope s_is_ring) := ⟨rfl, rfl, rfl, by decide +kernel, rfl, by decide +kernel, by decide +kernel⟩
theorem v_is_ring_web : Vis (defScope s_is_ring) "web" := .inl (by decide +kernel)
theorem v_is_ring_thing : Vis (defScope s_is_ring) "thing" := .inl (by decide +kernel)
abbrev N_is_bar : List Str := ["web", "thing"]
theorem sc_is_bar : FnScope N_is_bar ["web", "thing"] (defScope s_is_bar) := ⟨rfl, rfl, rfl, by decide +kernel, rfl, by decide +kernel, by decide +kernel⟩
theorem v_is_bar_web : Vis (defScope s_is_bar) "web" := .inl (by decide +kernel)
theorem v_is_bar_thing : Vis (defScope s_is_bar) "thing" := .inl (by decide +kernel)
theorem g_is_bar_are_places : (defScope s_is_bar).names.lookup ("are_places" : Str) = some .globalImplicit := by decide +kernel
theorem g_is_bar_len : (defScope s_is_bar).names.lookup ("len" : Str) = some .globalImplicit := by decide +kernel
theorem g_is_bar_sorted : (defScope s_is_bar).names.lookup ("sorted" : Str) = some .globalImplicit := by decide +kernel
theorem g_is_bar_tuple : (defScope s_is_bar).names.lookup ("tuple" : Str) = some .globalImplicit := by decide +kernel
theorem g_is_bar_pieces : (defScope s_is_bar).names.lookup ("pieces" : Str) = some .globalImplicit := by decide +kernel
abbrev N_next_tie : List Str := ["reading", "left", "found", "place", "taken", "tie"]
theorem sc_next_tie : FnScope N_next_tie ["reading"] (defScope s_next_tie) := ⟨rfl, rfl, rfl, by decide +kernel, rfl, by decide +kernel, by decide +kernel⟩
theorem v_next_tie_reading : Vis (defScope s_next_tie) "reading" := .inl (by decide +kernel)
theorem v_next_tie_left : Vis (defScope s_next_tie) "left" := .inl (by decide +kernel)
theorem v_next_tie_found : Vis (defScope s_next_tie) "found" := .inl (by decide +kernel)
theorem v_next_tie_place : Vis (defScope s_next_tie) "place" := .inl (by decide +kernel)
theorem v_next_tie_taken : Vis (defScope s_next_tie) "taken" := .inl (by decide +kernel)
theorem v_next_tie_tie : Vis (defScope s_next_tie) "tie" := .inl (by decide +kernel)
abbrev N_is_whole_ring : List Str := ["web", "held", "thing", "ties", "tie"]
theorem sc_is_whole_ring : FnScope N_is_whole_ring ["web", "held", "thing"] (defScope s_is_whole_ring) := ⟨rfl, rfl, rfl, by decide +kernel, rfl, by decide +kernel, by decide +kernel⟩
theorem v_is_whole_ring_web : Vis (defScope s_is_whole_ring) "web" := .inl (by decide +kernel)
theorem v_is_whole_ring_held : Vis (defScope s_is_whole_ring) "held" := .inl (by decide +kernel)
theorem v_is_whole_ring_thing : Vis (defScope s_is_whole_ring) "thing" := .inl (by decide +kernel)
theorem v_is_whole_ring_ties : Vis (defScope s_is_whole_ring) "ties" := .inr (.inl (by decide +kernel))
abbrev N_led_back : List Str := ["web", "held", "puts", "ring", "webs", "put", "rings", "many"]
theorem sc_led_back : FnScope N_led_back ["web", "held", "puts", "ring"] (defScope s_led_back) := ⟨rfl, rfl, rfl, by decide +kernel, rfl, by decide +kernel, by decide +kernel⟩
theorem v_led_back_web : Vis (defScope s_led_back) "web" := .inl (by decide +kernel)
theorem v_led_back_held : Vis (defScope s_led_back) "held" := .inl (by decide +kernel)
theorem v_led_back_puts : Vis (defScope s_led_back) "puts" := .inl (by decide +kernel)
theorem v_led_back_ring : Vis (defScope s_led_back) "ring" := .inl (by decide +kernel)
theorem v_led_back_webs : Vis (defScope s_led_back) "webs" := .inl (by decide +kernel)
theorem v_led_back_put : Vis (defScope s_led_back) "put" := .inl (by decide +kernel)
theorem v_led_back_rings : Vis (defScope s_led_back) "rings" := .inl (by decide +kernel)
theorem v_led_back_many : Vis (defScope s_led_back) "many" := .inl (by decide +kernel)
abbrev N_looked_at : List Str := ["reading", "paper", "rounds", "tie", "one", "other"]
theorem sc_looked_at : FnScope N_looked_at ["reading"] (defScope s_looked_at) := ⟨rfl, rfl, rfl, by decide +kernel, rfl, by decide +kernel, by decide +kernel⟩
theorem v_looked_at_reading : Vis (defScope s_looked_at) "reading" := .inl (by decide +kernel)
theorem v_looked_at_paper : Vis (defScope s_looked_at) "paper" := .inl (by decide +kernel)
theorem v_looked_at_rounds : Vis (defScope s_looked_at) "rounds" := .inl (by decide +kernel)
theorem v_looked_at_tie : Vis (defScope s_looked_at) "tie" := .inl (by decide +kernel)
theorem v_looked_at_one : Vis (defScope s_looked_at) "one" := .inl (by decide +kernel)
theorem v_looked_at_other : Vis (defScope s_looked_at) "other" := .inl (by decide +kernel)
abbrev N_by_cases : List Str := ["web", "held", "lot"]
theorem sc_by_cases : FnScope N_by_cases ["web", "held"] (defScope s_by_cases) := ⟨rfl, rfl, rfl, by decide +kernel, rfl, by decide +kernel, by decide +kernel⟩
theorem v_by_cases_web : Vis (defScope s_by_cases) "web" := .inl (by decide +kernel)
theorem v_by_cases_held : Vis (defScope s_by_cases) "held" := .inl (by decide +kernel)
theorem v_by_cases_lot : Vis (defScope s_by_cases) "lot" := .inl (by decide +kernel)
theorem g_by_cases_is_held : (defScope s_by_cases).names.lookup ("is_held" : Str) = some .globalImplicit := by decide +kernel
theorem g_by_cases_NoHeld : (defScope s_by_cases).names.lookup ("NoHeld" : Str) = some .globalImplicit := by decide +kernel
theorem g_by_cases_MOST_PLACES : (defScope s_by_cases).names.lookup ("MOST_PLACES" : Str) = some .globalImplicit := by decide +kernel
theorem g_by_cases_TooGreat : (defScope s_by_cases).names.lookup ("TooGreat" : Str) = some .globalImplicit := by decide +kernel
theorem g_by_cases_lots_of : (defScope s_by_cases).names.lookup ("lots_of" : Str) = some .globalImplicit := by decide +kernel
theorem g_by_cases_is_bar : (defScope s_by_cases).names.lookup ("is_bar" : Str) = some .globalImplicit := by decide +kernel
abbrev N_ask : List Str := ["web", "held", "found", "puts"]
theorem sc_ask : FnScope N_ask ["web", "held"] (defScope s_ask) := ⟨rfl, rfl, rfl, by decide +kernel, rfl, by decide +kernel, by decide +kernel⟩
theorem v_ask_web : Vis (defScope s_ask) "web" := .inl (by decide +kernel)
theorem v_ask_held : Vis (defScope s_ask) "held" := .inl (by decide +kernel)
theorem v_ask_found : Vis (defScope s_ask) "found" := .inl (by decide +kernel)
theorem v_ask_puts : Vis (defScope s_ask) "puts" := .inl (by decide +kernel)
theorem g_ask_is_held : (defScope s_ask).names.lookup ("is_held" : Str) = some .globalImplicit := by decide +kernel
theorem g_ask_NoHeld : (defScope s_ask).names.lookup ("NoHeld" : Str) = some .globalImplicit := by decide +kernel
theorem g_ask_len : (defScope s_ask).names.lookup ("len" : Str) = some .globalImplicit := by decide +kernel
theorem g_ask_closed : (defScope s_ask).names.lookup ("closed" : Str) = some .globalImplicit := by decide +kernel
theorem g_ask_all_tied : (defScope s_ask).names.lookup ("all_tied" : Str) = some .globalImplicit := by decide +kernel
theorem g_ask_easy_ring : (defScope s_ask).names.lookup ("easy_ring" : Str) = some .globalImplicit := by decide +kernel
theorem g_ask_led_back : (defScope s_ask).names.lookup ("led_back" : Str) = some .globalImplicit := by decide +kernel
theorem g_ask_by_cases : (defScope s_ask).names.lookup ("by_cases" : Str) = some .globalImplicit := by decide +kernel
abbrev N_l_no_held : List Str := ["_law_web_here", "_law_thing", "_law_by_closing", "error"]
theorem sc_l_no_held : FnScope N_l_no_held ["_law_web_here", "_law_thing", "_law_by_closing"] (defScope s_l_no_held) := ⟨rfl, rfl, rfl, by decide +kernel, rfl, by decide +kernel, by decide +kernel⟩
theorem v_l_no_held_l_web_here : Vis (defScope s_l_no_held) "_law_web_here" := .inl (by decide +kernel)
theorem v_l_no_held_l_thing : Vis (defScope s_l_no_held) "_law_thing" := .inl (by decide +kernel)
theorem v_l_no_held_l_by_closing : Vis (defScope s_l_no_held) "_law_by_closing" := .inl (by decide +kernel)
theorem v_l_no_held_error : Vis (defScope s_l_no_held) "error" := .inl (by decide +kernel)
theorem g_l_no_held_ask : (defScope s_l_no_held).names.lookup ("ask" : Str) = some .globalImplicit := by decide +kernel
theorem g_l_no_held_by_cases : (defScope s_l_no_held).names.lookup ("by_cases" : Str) = some .globalImplicit := by decide +kernel
theorem g_l_no_held_RingsError : (defScope s_l_no_held).names.lookup ("RingsError" : Str) = some .globalImplicit := by decide +kernel
theorem g_l_no_held_isinstance : (defScope s_l_no_held).names.lookup ("isinstance" : Str) = some .globalImplicit := by decide +kernel
theorem g_l_no_held_ValueError : (defScope s_l_no_held).names.lookup ("ValueError" : Str) = some .globalImplicit := by decide +kernel
theorem g_l_no_held_TooGreat : (defScope s_l_no_held).names.lookup ("TooGreat" : Str) = some .globalImplicit := by decide +kernel
theorem g_l_no_held_NoHeld : (defScope s_l_no_held).names.lookup ("NoHeld" : Str) = some .globalImplicit := by decide +kernel
abbrev N_l_too_great : List Str := ["_law_web_here", "_law_held", "_law_by_closing", "error"]
theorem sc_l_too_great : FnScope N_l_too_great ["_law_web_here", "_law_held", "_law_by_closing"] (defScope s_l_too_great) := ⟨rfl, rfl, rfl, by decide +kernel, rfl, by decide +kernel, by decide +kernel⟩
theorem v_l_too_great_l_web_here : Vis (defScope s_l_too_great) "_law_web_here" := .inl (by decide +kernel)
theorem v_l_too_great_l_held : Vis (defScope s_l_too_great) "_law_held" := .inl (by decide +kernel)
theorem v_l_too_great_l_by_closing : Vis (defScope s_l_too_great) "_law_by_closing" := .inl (by decide +kernel)
theorem v_l_too_great_error : Vis (defScope s_l_too_great) "error" := .inl (by decide +kernel)
theorem g_l_too_great_ask : (defScope s_l_too_great).names.lookup ("ask" : Str) = some .globalImplicit := by decide +kernel
theorem g_l_too_great_by_cases : (defScope s_l_too_great).names.lookup ("by_cases" : Str) = some .globalImplicit := by decide +kernel
theorem g_l_too_great_NoText : (defScope s_l_too_great).names.lookup ("NoText" : Str) = some .globalImplicit := by decide +kernel
theorem g_l_too_great_NoRow : (defScope s_l_too_great).names.lookup ("NoRow" : Str) = some .globalImplicit := by decide +kernel
theorem g_l_too_great_NoRing : (defScope s_l_too_great).names.lookup ("NoRing" : Str) = some .globalImplicit := by decide +kernel
theorem g_l_too_great_NoPut : (defScope s_l_too_great).names.lookup ("NoPut" : Str) = some .globalImplicit := by decide +kernel
theorem g_l_too_great_NoNumber : (defScope s_l_too_great).names.lookup ("NoNumber" : Str) = some .globalImplicit := by decide +kernel
theorem g_l_too_great_NoHeld : (defScope s_l_too_great).names.lookup ("NoHeld" : Str) = some .globalImplicit := by decide +kernel
theorem g_l_too_great_isinstance : (defScope s_l_too_great).names.lookup ("isinstance" : Str) = some .globalImplicit := by decide +kernel
theorem g_l_too_great_TooFew : (defScope s_l_too_great).names.lookup ("TooFew" : Str) = some .globalImplicit := by decide +kernel
theorem g_l_too_great_NothingBack : (defScope s_l_too_great).names.lookup ("NothingBack" : Str) = some .globalImplicit := by decide +kernel
theorem g_l_too_great_NotRich : (defScope s_l_too_great).names.lookup ("NotRich" : Str) = some .globalImplicit := by decide +kernel
theorem g_l_too_great_NoWeb : (defScope s_l_too_great).names.lookup ("NoWeb" : Str) = some .globalImplicit := by decide +kernel
theorem g_l_too_great_NoWay : (defScope s_l_too_great).names.lookup ("NoWay" : Str) = some .globalImplicit := by decide +kernel
theorem g_l_too_great_NoTie : (defScope s_l_too_great).names.lookup ("NoTie" : Str) = some .globalImplicit := by decide +kernel
theorem g_l_too_great_RingsError : (defScope s_l_too_great).names.lookup ("RingsError" : Str) = some .globalImplicit := by decide +kernel
theorem g_l_too_great_ValueError : (defScope s_l_too_great).names.lookup ("ValueError" : Str) = some .globalImplicit := by decide +kernel
theorem g_l_too_great_TooGreat : (defScope s_l_too_great).names.lookup ("TooGreat" : Str) = some .globalImplicit := by decide +kernel
abbrev N_law : List Str := ["_law_script", "_law_many", "_law_web_here", "_law_thing", "_law_k", "_law_xs", "_law_poor_here", "_law_one", "_law_wrong", "_law_held", "_law_turn", "_law_place"]
theorem sc_law : FnScope N_law ["_law_script"] (defScope s_law) := ⟨rfl, rfl, rfl, by decide +kernel, rfl, by decide +kernel, by decide +kernel⟩
theorem v_law_l_script : Vis (defScope s_law) "_law_script" := .inl (by decide +kernel)
theorem v_law_l_many : Vis (defScope s_law) "_law_many" := .inl (by decide +kernel)
theorem v_law_l_web_here : Vis (defScope s_law) "_law_web_here" := .inl (by decide +kernel)
theorem v_law_l_thing : Vis (defScope s_law) "_law_thing" := .inl (by decide +kernel)
theorem v_law_l_k : Vis (defScope s_law) "_law_k" := .inl (by decide +kernel)
theorem v_law_l_xs : Vis (defScope s_law) "_law_xs" := .inr (.inl (by decide +kernel))
theorem v_law_l_poor_here : Vis (defScope s_law) "_law_poor_here" := .inl (by decide +kernel)
theorem v_law_l_one : Vis (defScope s_law) "_law_one" := .inl (by decide +kernel)
theorem v_law_l_wrong : Vis (defScope s_law) "_law_wrong" := .inr (.inl (by decide +kernel))
theorem v_law_l_held : Vis (defScope s_law) "_law_held" := .inl (by decide +kernel)
theorem g_law_range : (defScope s_law).names.lookup ("range" : Str) = some .globalImplicit := by decide +kernel
theorem g_law_l_ring_or_five : (defScope s_law).names.lookup ("_law_ring_or_five" : Str) = some .globalImplicit := by decide +kernel
theorem g_law_l_no_held : (defScope s_law).names.lookup ("_law_no_held" : Str) = some .globalImplicit := by decide +kernel
theorem g_law_l_cell_at : (defScope s_law).names.lookup ("_law_cell_at" : Str) = some .globalImplicit := by decide +kernel
theorem g_law_l_stream : (defScope s_law).names.lookup ("_law_stream" : Str) = some .globalImplicit := by decide +kernel
theorem g_law_l_web : (defScope s_law).names.lookup ("_law_web" : Str) = some .globalImplicit := by decide +kernel
theorem g_law_l_poor : (defScope s_law).names.lookup ("_law_poor" : Str) = some .globalImplicit := by decide +kernel
theorem g_law_l_wrong_held : (defScope s_law).names.lookup ("_law_wrong_held" : Str) = some .globalImplicit := by decide +kernel
theorem g_law_len : (defScope s_law).names.lookup ("len" : Str) = some .globalImplicit := by decide +kernel
theorem g_law_l_next : (defScope s_law).names.lookup ("_law_next" : Str) = some .globalImplicit := by decide +kernel
theorem g_law_l_too_great : (defScope s_law).names.lookup ("_law_too_great" : Str) = some .globalImplicit := by decide +kernel
theorem g_law_sorted : (defScope s_law).names.lookup ("sorted" : Str) = some .globalImplicit := by decide +kernel
theorem g_law_tuple : (defScope s_law).names.lookup ("tuple" : Str) = some .globalImplicit := by decide +kernel
theorem g_law_by_cases : (defScope s_law).names.lookup ("by_cases" : Str) = some .globalImplicit := by decide +kernel
abbrev s_init_TooGreat : Stmt := clsS 14 0
abbrev N_init_TooGreat : List Str := ["self", "most"]
theorem sc_init_TooGreat : FnScope N_init_TooGreat ["self", "most"] (defScope s_init_TooGreat) := ⟨rfl, rfl, rfl, by decide +kernel, rfl, by decide +kernel, by decide +kernel⟩
section
variable {P : Program} {w : World} {K : PySem.W.Frag} {mg : Str → Option Value} {base : Heap}
set_option maxHeartbeats 4000000 in
theorem ok_init_TooGreat {f : Addr} {fd : FuncData} (F : Fun K "__init__" "TooGreat.__init__" s_init_TooGreat f fd) : FnG P w K mg base 1 f fd ["self", "most"] (initSp K ["most"]) :=
  init1_of rfl F sc_init_TooGreat rfl fun cdv A outer s H E => ⟨_, pss_one (ps_ost (pv 0) (pv 1)), fun T a C y H ea oc f1 q => ⟨y, rfl, .ref a, rfl, a, C, rfl, oc, f1, .inl ⟨ea, fun dx n ne => q dx n ne⟩⟩⟩
set_option maxHeartbeats 4000000 in
theorem ok_is_int {f : Addr} {fd : FuncData} (F : Fun K "is_int" "is_int" s_is_int f fd) (T : Bt K mg)  : FnD P w K mg base 1 f fd ["thing", "least", "most"] c_is_int := by
  refine FnG.impD (fnD_of (k := 0) (body := b_is_int) F sc_is_int fun cdv A outer s H E hr hg W tk po => ?_) h_is_int
  exact (dss_one (ds_ret (de_and (de_isI (T := "int") (by decide) (by exact g_is_int_isinstance) (T.b_isinstance) (by exact g_is_int_int) (T.b_int) (by decide +kernel) (de_var 0 rfl v_is_int_thing)) (de_and (de_not (de_isI (T := "bool") (by decide) (by exact g_is_int_isinstance) (T.b_isinstance) (by exact g_is_int_bool) (T.b_bool) (by decide +kernel) (de_var 0 rfl v_is_int_thing))) (de_one (de_cc c_le c_le (de_var 1 rfl v_is_int_least) (de_var 0 rfl v_is_int_thing) (de_var 2 rfl v_is_int_most)))))))
theorem ok_in_order {f : Addr} {fd : FuncData} (F : Fun K "in_order" "in_order" s_in_order f fd) (T : Bt K mg) : FnD P w K mg base 1 f fd ["a", "b"] c_in_order := fnD_never
set_option maxHeartbeats 4000000 in
theorem ok_counts_of {f : Addr} {fd : FuncData} (F : Fun K "counts_of" "counts_of" s_counts_of f fd) (T : Bt K mg)  : FnD P w K mg base 1 f fd ["web"] c_counts_of := by
  refine FnG.impD (fnD_of (k := 0) (body := b_counts_of) F sc_counts_of fun cdv A outer s H E hr hg W tk po => ?_) h_counts_of
  exact (dss_cons (ds_setLc 1 [("place", 4)] rfl sc_counts_of.nd rfl rfl (sw_true rfl rfl rfl (by decide +kernel)) (di_range1 (by exact g_counts_of_range) (T.b_range) (de_ix (de_var 0 rfl v_counts_of_web) de_int)) (blkOk_by (N := N_counts_of) (sc := defScope s_counts_of) (own := [("place", 4)]) (by decide +kernel)) (fun _ _ _ _ _ => (dg_name (i := 4) sc_counts_of.nd rfl (.inl rfl))) (fun _ _ _ _ _ => dts_nil) (fun _ _ _ _ _ => de_int)) (dss_cons (ds_for po rfl (di_seq (de_ix (de_var 0 rfl v_counts_of_web) de_int)) (dg_pair (i := 2) (j := 3) rfl sc_counts_of.nd rfl (.inl rfl) rfl (.inl rfl)) (dss_cons (ds_augSub 1 rfl v_counts_of_counts (de_var 2 rfl v_counts_of_a) de_int ip_add) (dss_one (ds_augSub 1 rfl v_counts_of_counts (de_var 3 rfl v_counts_of_b) de_int ip_add)))) (dss_one (ds_ret (de_callTy call_tupleF k_tuple (by exact g_counts_of_tuple) (T.b_tuple) (by decide +kernel) (da_cons (de_var 1 rfl v_counts_of_counts) da_nil))))))
set_option maxHeartbeats 4000000 in
theorem ok_beside {f : Addr} {fd : FuncData} (F : Fun K "beside" "beside" s_beside f fd) (T : Bt K mg)  : FnD P w K mg base 1 f fd ["web", "place"] c_beside := by
  refine FnG.impD (fnD_of (k := 0) (body := b_beside) F sc_beside fun cdv A outer s H E hr hg W tk po => ?_) h_beside
  exact (dss_cons (ds_set 2 sc_beside.nd rfl (.inl rfl) (de_lst da_nil)) (dss_cons (ds_for po rfl (di_seq (de_ix (de_var 0 rfl v_beside_web) de_int)) (dg_pair (i := 3) (j := 4) rfl sc_beside.nd rfl (.inl rfl) rfl (.inl rfl)) (dss_one (ds_if (dt_c (c_eq hr) (de_var 3 rfl v_beside_a) (de_var 1 rfl v_beside_place)) (dss_one (ds_append 2 rfl v_beside_found (da_cons (de_var 4 rfl v_beside_b) da_nil))) (dss_one (ds_if (dt_c (c_eq hr) (de_var 4 rfl v_beside_b) (de_var 1 rfl v_beside_place)) (dss_one (ds_append 2 rfl v_beside_found (da_cons (de_var 3 rfl v_beside_a) da_nil))) dss_nil))))) (dss_one (ds_ret (de_callTy call_tupleF k_tuple (by exact g_beside_tuple) (T.b_tuple) (by decide +kernel) (da_cons (de_callB call_sortA k_srt (by exact g_beside_sorted) (T.b_sorted) (by decide +kernel) (da_cons (de_var 2 rfl v_beside_found) da_nil)) da_nil))))))
set_option maxHeartbeats 4000000 in
theorem ok_all_tied {f : Addr} {fd : FuncData} (F : Fun K "all_tied" "all_tied" s_all_tied f fd) (T : Bt K mg)  : FnD P w K mg base 1 f fd ["many"] c_all_tied := by
  refine FnG.impD (fnD_of (k := 0) (body := b_all_tied) F sc_all_tied fun cdv A outer s H E hr hg W tk po => ?_) h_all_tied
  exact (dss_cons (ds_set 1 sc_all_tied.nd rfl (.inl rfl) (de_lst da_nil)) (dss_cons (ds_for po rfl (di_range1 (by exact g_all_tied_range) (T.b_range) (de_var 0 rfl v_all_tied_many)) (dg_name (i := 2) sc_all_tied.nd rfl (.inr rfl)) (dss_one (ds_extend 1 rfl v_all_tied_ties (de_lc [("b", 3)] rfl sc_all_tied.nd (di_range2 (by exact g_all_tied_range) (T.b_range) (de_add (de_var 2 rfl v_all_tied_a) de_int) (de_var 0 rfl v_all_tied_many)) (blkOk_by (N := N_all_tied) (sc := defScope s_all_tied) (own := [("b", 3)]) (by decide +kernel)) (fun _ _ _ _ _ => (dg_name (i := 3) sc_all_tied.nd rfl (.inl rfl))) (fun _ _ _ _ _ => dts_nil) (fun _ _ _ _ _ => (de_tup (da_cons (de_var 2 rfl (by exact .inr (.inl rfl))) (da_cons (de_var 3 rfl (by exact .inl rfl)) da_nil)))))))) (dss_one (ds_ret (de_tup (da_cons (de_var 0 rfl v_all_tied_many) (da_cons (de_callTy call_tupleF k_tuple (by exact g_all_tied_tuple) (T.b_tuple) (by decide +kernel) (da_cons (de_var 1 rfl v_all_tied_ties) da_nil)) da_nil)))))))
theorem ok_told_ring {f : Addr} {fd : FuncData} (F : Fun K "told_ring" "told_ring" s_told_ring f fd) (T : Bt K mg) : FnD P w K mg base 1 f fd ["ring"] c_told_ring := fnD_never
set_option maxHeartbeats 4000000 in
theorem ok_have_ring {f : Addr} {fd : FuncData} (F : Fun K "have_ring" "have_ring" s_have_ring f fd) (T : Bt K mg)  : FnD P w K mg base 1 f fd ["web", "ties"] c_have_ring := by
  refine FnG.impD (fnD_of (k := 0) (body := b_have_ring) F sc_have_ring fun cdv A outer s H E hr hg W tk po => ?_) h_have_ring
  exact (dss_cons (ds_set 2 sc_have_ring.nd rfl (.inl rfl) (de_listRg rfl (by exact g_have_ring_list) (T.b_list) (dr_1 (by exact g_have_ring_range) (T.b_range) (de_ix (de_var 0 rfl v_have_ring_web) de_int)))) (dss_cons (ds_for po rfl (di_seq (de_var 1 rfl v_have_ring_ties)) (dg_pair (i := 3) (j := 4) rfl sc_have_ring.nd rfl (.inl rfl) rfl (.inl rfl)) (dss_cons (ds_set 5 sc_have_ring.nd rfl (.inr rfl) (de_ix (de_var 2 rfl v_have_ring_labels) (de_var 3 rfl v_have_ring_a))) (dss_cons (ds_set 6 sc_have_ring.nd rfl (.inr rfl) (de_ix (de_var 2 rfl v_have_ring_labels) (de_var 4 rfl v_have_ring_b))) (dss_cons (ds_if (dt_c (c_eq hr) (de_var 5 rfl v_have_ring_one) (de_var 6 rfl v_have_ring_other)) (dss_one (ds_ret de_bl)) dss_nil) (dss_one (ds_setLc 2 [("label", 7)] rfl sc_have_ring.nd rfl rfl (sw_true rfl rfl rfl (by decide +kernel)) (di_seq (de_var 2 rfl v_have_ring_labels)) (blkOk_by (N := N_have_ring) (sc := defScope s_have_ring) (own := [("label", 7)]) (by decide +kernel)) (fun _ _ _ _ _ => (dg_name (i := 7) sc_have_ring.nd rfl (.inl rfl))) (fun _ _ _ _ _ => dts_nil) (fun _ _ _ _ _ => (de_ifExp (dt_c (c_eq hr) (de_var 7 rfl (by exact .inl rfl)) (de_var 6 rfl (by exact .inr (.inl rfl)))) (de_var 5 rfl (by exact .inr (.inl rfl))) (de_var 7 rfl (by exact .inl rfl)))))))))) (dss_one (ds_ret de_bl))))
theorem ok_at_place {f : Addr} {fd : FuncData} (F : Fun K "at_place" "at_place" s_at_place f fd) (T : Bt K mg) : FnD P w K mg base 1 f fd ["ties", "place"] c_at_place := fnD_never
set_option maxHeartbeats 4000000 in
theorem ok_lots_of {f : Addr} {fd : FuncData} (F : Fun K "lots_of" "lots_of" s_lots_of f fd) (T : Bt K mg)  : FnD P w K mg base 1 f fd ["many"] c_lots_of := by
  refine FnG.impD (fnD_of (k := 0) (body := b_lots_of) F sc_lots_of fun cdv A outer s H E hr hg W tk po => ?_) h_lots_of
  exact (dss_cons (ds_set 1 sc_lots_of.nd rfl (.inl rfl) (de_lst da_nil)) (dss_cons (ds_for po rfl (di_range2 (by exact g_lots_of_range) (T.b_range) de_int (de_shl de_int (de_var 0 rfl v_lots_of_many))) (dg_name (i := 2) sc_lots_of.nd rfl (.inr rfl)) (dss_cons (ds_set 3 sc_lots_of.nd rfl (.inl rfl) (de_callTy call_tupleF k_tuple (by exact g_lots_of_tuple) (T.b_tuple) (by decide +kernel) (da_cons (de_lc [("place", 4)] rfl sc_lots_of.nd (di_range1 (by exact g_lots_of_range) (T.b_range) (de_var 0 rfl v_lots_of_many)) (blkOk_by (N := N_lots_of) (sc := defScope s_lots_of) (own := [("place", 4)]) (by decide +kernel)) (fun _ _ _ _ _ => (dg_name (i := 4) sc_lots_of.nd rfl (.inl rfl))) (fun _ _ _ _ _ => (dts_one (dt_c (c_eq hr) (de_band (de_shr (de_var 2 rfl (by exact .inr (.inl rfl))) (de_var 4 rfl (by exact .inl rfl))) de_int) de_int))) (fun _ _ _ _ _ => (de_var 4 rfl (by exact .inl rfl)))) da_nil))) (dss_one (ds_if (dt_c c_lt (de_mul de_int (de_callB call_lenA k_len (by exact g_lots_of_len) (T.b_len) PySem.boot_len (da_cons (de_var 3 rfl v_lots_of_lot) da_nil))) (de_var 0 rfl v_lots_of_many)) (dss_one (ds_append 1 rfl v_lots_of_found (da_cons (de_var 3 rfl v_lots_of_lot) da_nil))) dss_nil)))) (dss_one (ds_retV 1 rfl v_lots_of_found))))
set_option maxHeartbeats 4000000 in
theorem ok_with_put {f : Addr} {fd : FuncData} (F : Fun K "with_put" "with_put" s_with_put f fd) (T : Bt K mg)  : FnD P w K mg base 1 f fd ["web", "put"] c_with_put := by
  refine FnG.impD (fnD_of (k := 0) (body := b_with_put) F sc_with_put fun cdv A outer s H E hr hg W tk po => ?_) h_with_put
  exact (dss_one (ds_ret (de_tup (da_cons (de_ix (de_var 0 rfl v_with_put_web) de_int) (da_cons (de_callTy call_tupleF k_tuple (by exact g_with_put_tuple) (T.b_tuple) (by decide +kernel) (da_cons (de_callB call_sortA k_srt (by exact g_with_put_sorted) (T.b_sorted) (by decide +kernel) (da_cons (de_add (de_ix (de_var 0 rfl v_with_put_web) de_int) (de_tup (da_cons (de_var 1 rfl v_with_put_put) da_nil))) da_nil)) da_nil)) da_nil)))))
theorem ok_from_put {f : Addr} {fd : FuncData} (F : Fun K "from_put" "from_put" s_from_put f fd) (T : Bt K mg) : FnD P w K mg base 1 f fd ["ring", "put"] c_from_put := fnD_never
theorem ok_held_beside {f : Addr} {fd : FuncData} (F : Fun K "held_beside" "held_beside" s_held_beside f fd) (T : Bt K mg) : FnD P w K mg base 1 f fd ["held", "place", "row"] c_held_beside := fnD_never
set_option maxHeartbeats 4000000 in
theorem ok_l_cell_at {f : Addr} {fd : FuncData} (F : Fun K "_law_cell_at" "_law_cell_at" s_l_cell_at f fd) (T : Bt K mg)  : FnD P w K mg base 1 f fd ["_law_script", "_law_k"] c_l_cell_at := by
  refine FnG.impD (fnD_of (k := 0) (body := b_l_cell_at) F sc_l_cell_at fun cdv A outer s H E hr hg W tk po => ?_) h_l_cell_at
  exact (dss_cons (ds_if (dt_c c_lt (de_var 1 rfl v_l_cell_at_l_k) (de_callB call_lenA k_len (by exact g_l_cell_at_len) (T.b_len) PySem.boot_len (da_cons (de_var 0 rfl v_l_cell_at_l_script) da_nil))) (dss_one (ds_ret (de_ix (de_var 0 rfl v_l_cell_at_l_script) (de_var 1 rfl v_l_cell_at_l_k)))) dss_nil) (dss_one (ds_ret de_int)))
set_option maxHeartbeats 4000000 in
theorem ok_l_stream {f : Addr} {fd : FuncData} (F : Fun K "_law_stream" "_law_stream" s_l_stream f fd) (T : Bt K mg)  : FnD P w K mg base 1 f fd ["_law_cell", "_law_many"] c_l_stream := by
  refine FnG.impD (fnD_of (k := 0) (body := b_l_stream) F sc_l_stream fun cdv A outer s H E hr hg W tk po => ?_) h_l_stream
  exact (dss_cons (ds_set 2 sc_l_stream.nd rfl (.inl rfl) (de_lst da_nil)) (dss_cons (ds_if (dt_c (c_geA hr) (de_var 0 rfl v_l_stream_l_cell) (de_pow de_int de_int)) (dss_cons (ds_for po rfl (di_range1 (by exact g_l_stream_range) (T.b_range) (de_var 1 rfl v_l_stream_l_many)) (dg_name (i := 3) sc_l_stream.nd rfl (.inl rfl)) (dss_cons (ds_append 2 rfl v_l_stream_l_found (da_cons (de_mod (de_var 0 rfl v_l_stream_l_cell) de_int) da_nil)) (dss_one (ds_set 0 sc_l_stream.nd rfl (.inl rfl) (de_div (de_var 0 rfl v_l_stream_l_cell) de_int))))) (dss_one (ds_ret (de_revL (de_var 2 rfl v_l_stream_l_found))))) dss_nil) (dss_cons (ds_set 4 sc_l_stream.nd rfl (.inl rfl) (de_add (de_mod (de_var 0 rfl v_l_stream_l_cell) de_int) de_int)) (dss_cons (ds_set 5 sc_l_stream.nd rfl (.inl rfl) (de_add (de_mod (de_var 0 rfl v_l_stream_l_cell) de_int) de_int)) (dss_cons (ds_for po rfl (di_range1 (by exact g_l_stream_range) (T.b_range) (de_var 1 rfl v_l_stream_l_many)) (dg_name (i := 3) sc_l_stream.nd rfl (.inl rfl)) (dss_cons (ds_set 4 sc_l_stream.nd rfl (.inl rfl) (de_mod (de_add (de_add (de_mul (de_var 4 rfl v_l_stream_l_number) de_int) (de_mul (de_var 3 rfl v_l_stream_l_k) (de_var 3 rfl v_l_stream_l_k))) de_int) de_int)) (dss_cons (ds_set 5 sc_l_stream.nd rfl (.inl rfl) (de_mod (de_add (de_mul (de_var 5 rfl v_l_stream_l_other) de_int) (de_mod (de_var 4 rfl v_l_stream_l_number) de_int)) de_int)) (dss_one (ds_append 2 rfl v_l_stream_l_found (da_cons (de_div (de_add (de_var 4 rfl v_l_stream_l_number) (de_mul de_int (de_var 5 rfl v_l_stream_l_other))) de_int) da_nil)))))) (dss_one (ds_retV 2 rfl v_l_stream_l_found)))))))
theorem dp_ints {K : PySem.W.Frag} {H : Hp} : ∀ ns : List Int, DpAll K H (ns.map V.int) (ns.map PyData.int)
  | [] => .nil
  | n :: ns => .cons (.int n) (dp_ints ns)
set_option maxHeartbeats 4000000 in
theorem ok_l_next {f : Addr} {fd : FuncData} (F : Fun K "_law_next" "_law_next" s_l_next f fd) (T : Bt K mg) : FnD P w K mg base 1 f fd ["_law_xs", "_law_many"] c_l_next := by
  refine next2_of rfl F sc_l_next rfl fun cdv A outer s H E hr => ⟨_, pss_cons (ps_if (pt_cmpR (op_eqD hr.units) (pv 0) (pe_lst pa_nil) (nomark _))
      (pss_one (ps_ret pe_int)) pss_nil) (pss_one (ps_ret (pe_op op_mod (pe_bm0 PySem.F.plainAttrs_list PySem.F.slot_list_pop PySem.F.type_list_pop mt_pop (pv 0)) (pv 1)))), ?_⟩
  intro a ns m T' H2 e m0 q0 q1
  refine ⟨.ref a, rfl, Nat.zero_le _, fun p np => ?_⟩
  have hpa : a ≠ p := fun z => by subst z; rw [e] at np; cases np
  have ea : upd H2 p (.lst []) a = some (.lst (ns.map V.int)) := by rw [upd_ne hpa]; exact e
  refine ⟨.list (ns.map PyData.int), .list [], .lst (.of ea) (dp_ints ns), .lst (.of upd_same) .nil, ?_⟩
  refine ⟨shpA_ints ns, shpA_ints [], ?_⟩
  rw [eqv_nil]
  by_cases hn : ns = []
  · rw [decide_eq_true hn]
    exact ⟨true, rfl, iteT (q0 hn p np)⟩
  · rw [decide_eq_false hn]
    obtain ⟨n, hl⟩ : ∃ n, ns.getLast? = some n := ⟨_, List.getLast?_eq_some_getLast hn⟩
    refine ⟨false, rfl, iteF ?_⟩
    refine ⟨.ref a, rfl, .inl ⟨rfl, _, .of ea⟩, a, _, .int n, rfl, rfl, ea, ?_, ?_⟩
    · rw [List.length_map, List.getElem?_map, ← List.getLast?_eq_getElem?, hl]; rfl
    · refine ⟨.int m, rfl, n, m, rfl, rfl, m0, ?_⟩
      rw [← List.map_dropLast]
      exact q1 n hl p np
set_option maxHeartbeats 4000000 in
theorem ok_l_at {f : Addr} {fd : FuncData} (F : Fun K "_law_at" "_law_at" s_l_at f fd) (T : Bt K mg)  : FnD P w K mg base 1 f fd ["_law_ties", "_law_place"] c_l_at := by
  refine FnG.impD (fnD_of (k := 0) (body := b_l_at) F sc_l_at fun cdv A outer s H E hr hg W tk po => ?_) h_l_at
  exact (dss_one (ds_ret (de_lc [("_law_tie", 2)] rfl sc_l_at.nd (di_seq (de_var 0 rfl v_l_at_l_ties)) (blkOk_by (N := N_l_at) (sc := defScope s_l_at) (own := [("_law_tie", 2)]) (by decide +kernel)) (fun _ _ _ _ _ => (dg_name (i := 2) sc_l_at.nd rfl (.inl rfl))) (fun _ _ _ _ _ => (dts_one (dt_c (c_in hr) (de_var 1 rfl (by exact .inr (.inl rfl))) (de_var 2 rfl (by exact .inl rfl))))) (fun _ _ _ _ _ => (de_var 2 rfl (by exact .inl rfl))))))
set_option maxHeartbeats 4000000 in
theorem ok_l_ring_or_five {f : Addr} {fd : FuncData} (F : Fun K "_law_ring_or_five" "_law_ring_or_five" s_l_ring_or_five f fd) (T : Bt K mg)  : FnD P w K mg base 1 f fd ["_law_many"] c_l_ring_or_five := by
  refine FnG.impD (fnD_of (k := 0) (body := b_l_ring_or_five) F sc_l_ring_or_five fun cdv A outer s H E hr hg W tk po => ?_) h_l_ring_or_five
  exact (dss_cons (ds_set 1 sc_l_ring_or_five.nd rfl (.inl rfl) (de_lst da_nil)) (dss_cons (ds_for po rfl (di_range1 (by exact g_l_ring_or_five_range) (T.b_range) (de_var 0 rfl v_l_ring_or_five_l_many)) (dg_name (i := 2) sc_l_ring_or_five.nd rfl (.inr rfl)) (dss_one (ds_extend 1 rfl v_l_ring_or_five_l_ties (de_lc [("_law_b", 4)] rfl sc_l_ring_or_five.nd (di_range2 (by exact g_l_ring_or_five_range) (T.b_range) (de_add (de_var 2 rfl v_l_ring_or_five_l_a) de_int) (de_var 0 rfl v_l_ring_or_five_l_many)) (blkOk_by (N := N_l_ring_or_five) (sc := defScope s_l_ring_or_five) (own := [("_law_b", 4)]) (by decide +kernel)) (fun _ _ _ _ _ => (dg_name (i := 4) sc_l_ring_or_five.nd rfl (.inl rfl))) (fun _ _ _ _ _ => dts_nil) (fun _ _ _ _ _ => (de_tup (da_cons (de_var 2 rfl (by exact .inr (.inl rfl))) (da_cons (de_var 4 rfl (by exact .inl rfl)) da_nil)))))))) (dss_cons (ds_set 3 sc_l_ring_or_five.nd rfl (.inl rfl) (de_lst (da_cons (de_tup (da_cons (de_tup (da_cons (de_var 0 rfl v_l_ring_or_five_l_many) (da_cons (de_callTy call_tupleF k_tuple (by exact g_l_ring_or_five_tuple) (T.b_tuple) (by decide +kernel) (da_cons (de_var 1 rfl v_l_ring_or_five_l_ties) da_nil)) da_nil))) (da_cons (de_tup (da_cons (de_tup (da_cons de_int (da_cons de_int da_nil))) (da_cons (de_tup (da_cons de_int (da_cons de_int da_nil))) (da_cons (de_tup (da_cons de_int (da_cons de_int da_nil))) (da_cons (de_tup (da_cons de_int (da_cons de_int da_nil))) da_nil))))) da_nil))) da_nil))) (dss_cons (ds_if (dt_c c_gt (de_var 0 rfl v_l_ring_or_five_l_many) de_int) (dss_one (ds_append 3 rfl v_l_ring_or_five_l_found (da_cons (de_tup (da_cons (de_tup (da_cons (de_var 0 rfl v_l_ring_or_five_l_many) (da_cons (de_callTy call_tupleF k_tuple (by exact g_l_ring_or_five_tuple) (T.b_tuple) (by decide +kernel) (da_cons (de_var 1 rfl v_l_ring_or_five_l_ties) da_nil)) da_nil))) (da_cons (de_tup (da_cons (de_tup (da_cons de_int (da_cons de_int da_nil))) (da_cons (de_tup (da_cons de_int (da_cons de_int da_nil))) (da_cons (de_tup (da_cons de_int (da_cons de_int da_nil))) (da_cons (de_tup (da_cons de_int (da_cons de_int da_nil))) (da_cons (de_tup (da_cons de_int (da_cons de_int da_nil))) da_nil)))))) da_nil))) da_nil))) dss_nil) (dss_one (ds_retV 3 rfl v_l_ring_or_five_l_found))))))
theorem ok_is_tied {f : Addr} {fd : FuncData} (F : Fun K "is_tied" "is_tied" s_is_tied f fd) (T : Bt K mg) : FnD P w K mg base 2 f fd ["web", "a", "b"] c_is_tied := fnD_never
set_option maxHeartbeats 4000000 in
theorem ok_are_places {f : Addr} {fd : FuncData} (F : Fun K "are_places" "are_places" s_are_places f fd) (T : Bt K mg) (D_is_int : DefOk P w K mg base "is_int" 1 ["thing", "least", "most"] c_is_int) : FnD P w K mg base 2 f fd ["web", "thing"] c_are_places := by
  refine FnG.impD (fnD_of (k := 1) (body := b_are_places) F sc_are_places fun cdv A outer s H E hr hg W tk po => ?_) h_are_places
  exact (dss_cons (ds_if (dt_not (dt_val (de_isI (T := "tuple") (by decide) (by exact g_are_places_isinstance) (T.b_isinstance) (by exact g_are_places_tuple) (T.b_tuple) (by decide +kernel) (de_var 1 rfl v_are_places_thing)))) (dss_one (ds_ret de_bl)) dss_nil) (dss_cons (ds_for po rfl (di_range1 (by exact g_are_places_range) (T.b_range) (de_callB call_lenA k_len (by exact g_are_places_len) (T.b_len) PySem.boot_len (da_cons (de_var 1 rfl v_are_places_thing) da_nil))) (dg_name (i := 2) sc_are_places.nd rfl (.inl rfl)) (dss_one (ds_if (dt_w (dw_or (dt_not (dt_val (de_callD D_is_int (hr.mono (by decide)) hg (by exact g_are_places_is_int) tk rfl (da_cons (de_ix (de_var 1 rfl v_are_places_thing) (de_var 2 rfl v_are_places_k)) (da_cons de_int (da_cons (de_sub (de_ix (de_var 0 rfl v_are_places_web) de_int) de_int) da_nil))) rfl))) (dw_or1 (dt_c (c_in hr) (de_ix (de_var 1 rfl v_are_places_thing) (de_var 2 rfl v_are_places_k)) (de_sl (de_var 1 rfl v_are_places_thing) do_none (do_some (de_var 2 rfl v_are_places_k))))))) (dss_one (ds_ret de_bl)) dss_nil))) (dss_one (ds_ret de_bl))))
theorem ok_ring_ties {f : Addr} {fd : FuncData} (F : Fun K "ring_ties" "ring_ties" s_ring_ties f fd) (T : Bt K mg) : FnD P w K mg base 2 f fd ["ring"] c_ring_ties := fnD_never
set_option maxHeartbeats 4000000 in
theorem ok_is_tie {f : Addr} {fd : FuncData} (F : Fun K "is_tie" "is_tie" s_is_tie f fd) (T : Bt K mg) (D_is_int : DefOk P w K mg base "is_int" 1 ["thing", "least", "most"] c_is_int) : FnD P w K mg base 2 f fd ["web", "thing"] c_is_tie := by
  refine FnG.impD (fnD_of (k := 1) (body := b_is_tie) F sc_is_tie fun cdv A outer s H E hr hg W tk po => ?_) h_is_tie
  exact (dss_cons (ds_if (dt_w (dw_or (dt_not (dt_val (de_isI (T := "tuple") (by decide) (by exact g_is_tie_isinstance) (T.b_isinstance) (by exact g_is_tie_tuple) (T.b_tuple) (by decide +kernel) (de_var 1 rfl v_is_tie_thing)))) (dw_or1 (dt_c (c_ne hr) (de_callB call_lenA k_len (by exact g_is_tie_len) (T.b_len) PySem.boot_len (da_cons (de_var 1 rfl v_is_tie_thing) da_nil)) de_int)))) (dss_one (ds_ret de_bl)) dss_nil) (dss_one (ds_ret (de_and (de_callD D_is_int (hr.mono (by decide)) hg (by exact g_is_tie_is_int) tk rfl (da_cons (de_ix (de_var 1 rfl v_is_tie_thing) de_int) (da_cons de_int (da_cons (de_sub (de_ix (de_var 0 rfl v_is_tie_web) de_int) de_int) da_nil))) rfl) (de_and (de_callD D_is_int (hr.mono (by decide)) hg (by exact g_is_tie_is_int) tk rfl (da_cons (de_ix (de_var 1 rfl v_is_tie_thing) de_int) (da_cons de_int (da_cons (de_sub (de_ix (de_var 0 rfl v_is_tie_web) de_int) de_int) da_nil))) rfl) (de_one (de_c (c_in hr) (de_var 1 rfl v_is_tie_thing) (de_ix (de_var 0 rfl v_is_tie_web) de_int))))))))
set_option maxHeartbeats 4000000 in
theorem ok_piece_of {f : Addr} {fd : FuncData} (F : Fun K "piece_of" "piece_of" s_piece_of f fd) (T : Bt K mg) (D_beside : DefOk P w K mg base "beside" 1 ["web", "place"] c_beside) : FnD P w K mg base 2 f fd ["web", "left", "start"] c_piece_of := by
  refine FnG.impD (fnD_of (k := 1) (body := b_piece_of) F sc_piece_of fun cdv A outer s H E hr hg W tk po => ?_) h_piece_of
  exact (dss_cons (ds_set 3 sc_piece_of.nd rfl (.inl rfl) (de_lst (da_cons (de_var 2 rfl v_piece_of_start) da_nil))) (dss_cons (ds_set 4 sc_piece_of.nd rfl (.inl rfl) de_int) (dss_cons (ds_while po (dt_c c_lt (de_var 4 rfl v_piece_of_at) (de_callB call_lenA k_len (by exact g_piece_of_len) (T.b_len) PySem.boot_len (da_cons (de_var 3 rfl v_piece_of_found) da_nil))) (dss_cons (ds_for po rfl (di_seq (de_callD D_beside (hr.mono (by decide)) hg (by exact g_piece_of_beside) tk rfl (da_cons (de_var 0 rfl v_piece_of_web) (da_cons (de_ix (de_var 3 rfl v_piece_of_found) (de_var 4 rfl v_piece_of_at)) da_nil)) rfl)) (dg_name (i := 5) sc_piece_of.nd rfl (.inl rfl)) (dss_one (ds_if (dt_w (dw_and (dt_c (c_in hr) (de_var 5 rfl v_piece_of_place) (de_var 1 rfl v_piece_of_left)) (dw_and1 (dt_c (c_notIn hr) (de_var 5 rfl v_piece_of_place) (de_var 3 rfl v_piece_of_found))))) (dss_one (ds_append 3 rfl v_piece_of_found (da_cons (de_var 5 rfl v_piece_of_place) da_nil))) dss_nil))) (dss_one (ds_aug 4 sc_piece_of.nd rfl (.inl rfl) de_int ip_add)))) (dss_one (ds_ret (de_callTy call_tupleF k_tuple (by exact g_piece_of_tuple) (T.b_tuple) (by decide +kernel) (da_cons (de_callB call_sortA k_srt (by exact g_piece_of_sorted) (T.b_sorted) (by decide +kernel) (da_cons (de_var 3 rfl v_piece_of_found) da_nil)) da_nil)))))))
theorem ok_open_ties {f : Addr} {fd : FuncData} (F : Fun K "open_ties" "open_ties" s_open_ties f fd) (T : Bt K mg) : FnD P w K mg base 2 f fd ["reading"] c_open_ties := fnD_never
theorem ok_taken_round {f : Addr} {fd : FuncData} (F : Fun K "taken_round" "taken_round" s_taken_round f fd) (T : Bt K mg) : FnD P w K mg base 2 f fd ["reading", "place"] c_taken_round := fnD_never
theorem ok_place_paper {f : Addr} {fd : FuncData} (F : Fun K "place_paper" "place_paper" s_place_paper f fd) (T : Bt K mg) : FnD P w K mg base 2 f fd ["reading"] c_place_paper := fnD_never
theorem ok_is_put {f : Addr} {fd : FuncData} (F : Fun K "is_put" "is_put" s_is_put f fd) (T : Bt K mg) : FnD P w K mg base 2 f fd ["web", "more", "thing"] c_is_put := fnD_never
set_option maxHeartbeats 4000000 in
theorem ok_put_ahead {f : Addr} {fd : FuncData} (F : Fun K "put_ahead" "put_ahead" s_put_ahead f fd) (T : Bt K mg) (D_counts_of : DefOk P w K mg base "counts_of" 1 ["web"] c_counts_of) : FnD P w K mg base 2 f fd ["web", "more"] c_put_ahead := by
  refine FnG.impD (fnD_of (k := 1) (body := b_put_ahead) F sc_put_ahead fun cdv A outer s H E hr hg W tk po => ?_) h_put_ahead
  exact (dss_cons (ds_set 2 sc_put_ahead.nd rfl (.inl rfl) (de_callD D_counts_of (hr.mono (by decide)) hg (by exact g_put_ahead_counts_of) tk rfl (da_cons (de_var 0 rfl v_put_ahead_web) da_nil) rfl)) (dss_cons (ds_for po rfl (di_range1 (by exact g_put_ahead_range) (T.b_range) (de_ix (de_var 0 rfl v_put_ahead_web) de_int)) (dg_name (i := 3) sc_put_ahead.nd rfl (.inl rfl)) (dss_one (ds_for po rfl (di_range2 (by exact g_put_ahead_range) (T.b_range) (de_add (de_var 3 rfl v_put_ahead_a) de_int) (de_ix (de_var 0 rfl v_put_ahead_web) de_int)) (dg_name (i := 4) sc_put_ahead.nd rfl (.inl rfl)) (dss_one (ds_if (dt_w (dw_and (dt_c (c_geA hr) (de_add (de_ix (de_var 2 rfl v_put_ahead_counts) (de_var 3 rfl v_put_ahead_a)) (de_ix (de_var 2 rfl v_put_ahead_counts) (de_var 4 rfl v_put_ahead_b))) (de_add (de_ix (de_var 0 rfl v_put_ahead_web) de_int) (de_var 1 rfl v_put_ahead_more))) (dw_and1 (dt_c (c_notIn hr) (de_tup (da_cons (de_var 3 rfl v_put_ahead_a) (da_cons (de_var 4 rfl v_put_ahead_b) da_nil))) (de_ix (de_var 0 rfl v_put_ahead_web) de_int))))) (dss_one (ds_ret (de_tup (da_cons (de_var 3 rfl v_put_ahead_a) (da_cons (de_var 4 rfl v_put_ahead_b) da_nil))))) dss_nil))))) (dss_one (ds_ret de_non))))
theorem ok_web_with {f : Addr} {fd : FuncData} (F : Fun K "web_with" "web_with" s_web_with f fd) (T : Bt K mg) : FnD P w K mg base 2 f fd ["web", "puts"] c_web_with := fnD_never
theorem ok_turned {f : Addr} {fd : FuncData} (F : Fun K "turned" "turned" s_turned f fd) (T : Bt K mg) : FnD P w K mg base 2 f fd ["web", "held", "row"] c_turned := fnD_never
theorem ok_easy_ring {f : Addr} {fd : FuncData} (F : Fun K "easy_ring" "easy_ring" s_easy_ring f fd) (T : Bt K mg) : FnD P w K mg base 2 f fd ["many", "held"] c_easy_ring := fnD_never
set_option maxHeartbeats 4000000 in
theorem ok_l_web {f : Addr} {fd : FuncData} (F : Fun K "_law_web" "_law_web" s_l_web f fd) (T : Bt K mg) (D_l_next : DefOk P w K mg base "_law_next" 1 ["_law_xs", "_law_many"] c_l_next) : FnD P w K mg base 2 f fd ["_law_xs", "_law_least", "_law_most"] c_l_web := by
  refine FnG.impD (fnD_of (k := 1) (body := b_l_web) F sc_l_web fun cdv A outer s H E hr hg W tk po => ?_) h_l_web
  exact (dss_cons (ds_set 3 sc_l_web.nd rfl (.inl rfl) (de_add (de_var 1 rfl v_l_web_l_least) (de_callD D_l_next (hr.mono (by decide)) hg (by exact g_l_web_l_next) tk rfl (da_cons (de_var 0 rfl v_l_web_l_xs) (da_cons (de_add (de_sub (de_var 2 rfl v_l_web_l_most) (de_var 1 rfl v_l_web_l_least)) de_int) da_nil)) rfl))) (dss_cons (ds_set 4 sc_l_web.nd rfl (.inl rfl) (de_add de_int (de_callD D_l_next (hr.mono (by decide)) hg (by exact g_l_web_l_next) tk rfl (da_cons (de_var 0 rfl v_l_web_l_xs) (da_cons de_int da_nil)) rfl))) (dss_cons (ds_set 5 sc_l_web.nd rfl (.inl rfl) (de_lst da_nil)) (dss_cons (ds_for po rfl (di_range1 (by exact g_l_web_range) (T.b_range) (de_var 3 rfl v_l_web_l_many)) (dg_name (i := 6) sc_l_web.nd rfl (.inl rfl)) (dss_one (ds_for po rfl (di_range2 (by exact g_l_web_range) (T.b_range) (de_add (de_var 6 rfl v_l_web_l_a) de_int) (de_var 3 rfl v_l_web_l_many)) (dg_name (i := 7) sc_l_web.nd rfl (.inl rfl)) (dss_one (ds_if (dt_c c_lt (de_callD D_l_next (hr.mono (by decide)) hg (by exact g_l_web_l_next) tk rfl (da_cons (de_var 0 rfl v_l_web_l_xs) (da_cons de_int da_nil)) rfl) (de_var 4 rfl v_l_web_l_share)) (dss_one (ds_append 5 rfl v_l_web_l_ties (da_cons (de_tup (da_cons (de_var 6 rfl v_l_web_l_a) (da_cons (de_var 7 rfl v_l_web_l_b) da_nil))) da_nil))) dss_nil))))) (dss_one (ds_ret (de_tup (da_cons (de_var 3 rfl v_l_web_l_many) (da_cons (de_callTy call_tupleF k_tuple (by exact g_l_web_tuple) (T.b_tuple) (by decide +kernel) (da_cons (de_var 5 rfl v_l_web_l_ties) da_nil)) da_nil)))))))))
set_option maxHeartbeats 4000000 in
theorem ok_l_poor {f : Addr} {fd : FuncData} (F : Fun K "_law_poor" "_law_poor" s_l_poor f fd) (T : Bt K mg) (D_l_next : DefOk P w K mg base "_law_next" 1 ["_law_xs", "_law_many"] c_l_next) : FnD P w K mg base 2 f fd ["_law_xs"] c_l_poor := by
  refine FnG.impD (fnD_of (k := 1) (body := b_l_poor) F sc_l_poor fun cdv A outer s H E hr hg W tk po => ?_) h_l_poor
  exact (dss_cons (ds_set 1 sc_l_poor.nd rfl (.inl rfl) (de_add de_int (de_callD D_l_next (hr.mono (by decide)) hg (by exact g_l_poor_l_next) tk rfl (da_cons (de_var 0 rfl v_l_poor_l_xs) (da_cons de_int da_nil)) rfl))) (dss_cons (ds_set 2 sc_l_poor.nd rfl (.inl rfl) (de_lst (da_cons (de_tup (da_cons de_int (da_cons de_int da_nil))) da_nil))) (dss_cons (ds_for po rfl (di_range2 (by exact g_l_poor_range) (T.b_range) de_int (de_var 1 rfl v_l_poor_l_many)) (dg_name (i := 3) sc_l_poor.nd rfl (.inl rfl)) (dss_one (ds_append 2 rfl v_l_poor_l_ties (da_cons (de_tup (da_cons (de_add de_int (de_callD D_l_next (hr.mono (by decide)) hg (by exact g_l_poor_l_next) tk rfl (da_cons (de_var 0 rfl v_l_poor_l_xs) (da_cons (de_sub (de_var 3 rfl v_l_poor_l_b) de_int) da_nil)) rfl)) (da_cons (de_var 3 rfl v_l_poor_l_b) da_nil))) da_nil)))) (dss_one (ds_ret (de_tup (da_cons (de_var 1 rfl v_l_poor_l_many) (da_cons (de_callTy call_tupleF k_tuple (by exact g_l_poor_tuple) (T.b_tuple) (by decide +kernel) (da_cons (de_callB call_sortA k_srt (by exact g_l_poor_sorted) (T.b_sorted) (by decide +kernel) (da_cons (de_var 2 rfl v_l_poor_l_ties) da_nil)) da_nil)) da_nil))))))))
set_option maxHeartbeats 4000000 in
theorem ok_l_wrong_held {f : Addr} {fd : FuncData} (F : Fun K "_law_wrong_held" "_law_wrong_held" s_l_wrong_held f fd) (T : Bt K mg) (D_l_at : DefOk P w K mg base "_law_at" 1 ["_law_ties", "_law_place"] c_l_at) : FnD P w K mg base 2 f fd ["_law_web_here"] c_l_wrong_held := by
  refine FnG.impD (fnD_of (k := 1) (body := b_l_wrong_held) F sc_l_wrong_held fun cdv A outer s H E hr hg W tk po => ?_) h_l_wrong_held
  exact (dss_cons (ds_set 1 sc_l_wrong_held.nd rfl (.inl rfl) (de_lst (da_cons de_non (da_cons de_int (da_cons de_bl (da_cons de_str (da_cons (de_frz (de_lst da_nil)) (da_cons de_dict0 (da_cons (de_frz (de_lst (da_cons (de_tup (da_cons de_int (da_cons de_int da_nil))) da_nil))) (da_cons (de_tup (da_cons de_non da_nil)) (da_cons (de_tup (da_cons (de_tup (da_cons de_int da_nil)) da_nil)) (da_cons (de_tup (da_cons (de_tup (da_cons de_int (da_cons de_int (da_cons de_int da_nil)))) da_nil)) (da_cons (de_tup (da_cons (de_tup (da_cons (de_neg de_int) (da_cons de_int da_nil))) da_nil)) (da_cons (de_tup (da_cons (de_tup (da_cons de_int (da_cons de_int da_nil))) da_nil)) (da_cons (de_tup (da_cons (de_frz (de_lst (da_cons de_int (da_cons de_int da_nil)))) da_nil)) da_nil))))))))))))))) (dss_cons (ds_append 1 rfl v_l_wrong_held_l_found (da_cons (de_tup (da_cons (de_tup (da_cons de_int (da_cons de_int da_nil))) da_nil)) da_nil)) (dss_cons (ds_extend 1 rfl v_l_wrong_held_l_found (de_lst (da_cons (de_tup (da_cons (de_tup (da_cons de_int (da_cons (de_ix (de_var 0 rfl v_l_wrong_held_l_web_here) de_int) da_nil))) da_nil)) (da_cons (de_tup (da_cons (de_tup (da_cons de_bl (da_cons de_bl da_nil))) da_nil)) (da_cons de_str (da_cons (de_tup (da_cons de_str (da_cons de_str da_nil))) (da_cons (de_tup (da_cons (de_tup (da_cons de_int (da_cons de_int da_nil))) (da_cons (de_tup (da_cons de_int (da_cons de_int da_nil))) da_nil))) (da_cons (de_tup (da_cons (de_tup da_nil) (da_cons (de_tup da_nil) da_nil))) (da_cons (de_dict1 de_int de_int) (da_cons (de_frz (de_lst (da_cons de_non da_nil))) da_nil)))))))))) (dss_cons (ds_for po rfl (di_range1 (by exact g_l_wrong_held_range) (T.b_range) (de_ix (de_var 0 rfl v_l_wrong_held_l_web_here) de_int)) (dg_name (i := 2) sc_l_wrong_held.nd rfl (.inl rfl)) (dss_one (ds_if (dt_c c_gt (de_callB call_lenA k_len (by exact g_l_wrong_held_len) (T.b_len) PySem.boot_len (da_cons (de_callD D_l_at (hr.mono (by decide)) hg (by exact g_l_wrong_held_l_at) tk rfl (da_cons (de_ix (de_var 0 rfl v_l_wrong_held_l_web_here) de_int) (da_cons (de_var 2 rfl v_l_wrong_held_l_place) da_nil)) rfl) da_nil)) de_int) (dss_one (ds_append 1 rfl v_l_wrong_held_l_found (da_cons (de_callTy call_tupleF k_tuple (by exact g_l_wrong_held_tuple) (T.b_tuple) (by decide +kernel) (da_cons (de_sl (de_callD D_l_at (hr.mono (by decide)) hg (by exact g_l_wrong_held_l_at) tk rfl (da_cons (de_ix (de_var 0 rfl v_l_wrong_held_l_web_here) de_int) (da_cons (de_var 2 rfl v_l_wrong_held_l_place) da_nil)) rfl) do_none (do_some de_int)) da_nil)) da_nil))) dss_nil))) (dss_cons (ds_for po rfl (di_seq (de_ix (de_var 0 rfl v_l_wrong_held_l_web_here) de_int)) (dg_pair (i := 3) (j := 4) rfl sc_l_wrong_held.nd rfl (.inl rfl) rfl (.inl rfl)) (dss_one (ds_extend 1 rfl v_l_wrong_held_l_found (de_lst (da_cons (de_tup (da_cons (de_tup (da_cons (de_var 4 rfl v_l_wrong_held_l_b) (da_cons (de_var 3 rfl v_l_wrong_held_l_a) da_nil))) da_nil)) (da_cons (de_tup (da_cons (de_tup (da_cons (de_var 3 rfl v_l_wrong_held_l_a) (da_cons (de_var 4 rfl v_l_wrong_held_l_b) da_nil))) (da_cons (de_tup (da_cons (de_var 3 rfl v_l_wrong_held_l_a) (da_cons (de_var 4 rfl v_l_wrong_held_l_b) da_nil))) da_nil))) (da_cons (de_frz (de_lst (da_cons (de_tup (da_cons (de_var 3 rfl v_l_wrong_held_l_a) (da_cons (de_var 4 rfl v_l_wrong_held_l_b) da_nil))) da_nil))) (da_cons (de_tup (da_cons (de_tup (da_cons (de_var 3 rfl v_l_wrong_held_l_a) (da_cons (de_var 4 rfl v_l_wrong_held_l_b) da_nil))) (da_cons de_non da_nil))) da_nil)))))))) (dss_one (ds_retV 1 rfl v_l_wrong_held_l_found)))))))
theorem ok_is_way {f : Addr} {fd : FuncData} (F : Fun K "is_way" "is_way" s_is_way f fd) (T : Bt K mg) : FnD P w K mg base 3 f fd ["web", "thing"] c_is_way := fnD_never
set_option maxHeartbeats 4000000 in
theorem ok_is_held {f : Addr} {fd : FuncData} (F : Fun K "is_held" "is_held" s_is_held f fd) (T : Bt K mg) (D_is_tie : DefOk P w K mg base "is_tie" 2 ["web", "thing"] c_is_tie) (D_have_ring : DefOk P w K mg base "have_ring" 1 ["web", "ties"] c_have_ring) : FnD P w K mg base 3 f fd ["web", "thing"] c_is_held := by
  obtain ⟨t_MOST_HELD, c_MOST_HELD⟩ := T.c_MOST_HELD
  refine FnG.impD (fnD_of (k := 2) (body := b_is_held) F sc_is_held fun cdv A outer s H E hr hg W tk po => ?_) h_is_held
  exact (dss_cons (ds_if (dt_w (dw_or (dt_not (dt_val (de_isI (T := "tuple") (by decide) (by exact g_is_held_isinstance) (T.b_isinstance) (by exact g_is_held_tuple) (T.b_tuple) (by decide +kernel) (de_var 1 rfl v_is_held_thing)))) (dw_or1 (dt_c c_gt (de_callB call_lenA k_len (by exact g_is_held_len) (T.b_len) PySem.boot_len (da_cons (de_var 1 rfl v_is_held_thing) da_nil)) (de_globI (by exact g_is_held_MOST_HELD) c_MOST_HELD))))) (dss_one (ds_ret de_bl)) dss_nil) (dss_cons (ds_set 2 sc_is_held.nd rfl (.inl rfl) (de_mul (de_lst (da_cons de_int da_nil)) (de_ix (de_var 0 rfl v_is_held_web) de_int))) (dss_cons (ds_for po rfl (di_range1 (by exact g_is_held_range) (T.b_range) (de_callB call_lenA k_len (by exact g_is_held_len) (T.b_len) PySem.boot_len (da_cons (de_var 1 rfl v_is_held_thing) da_nil))) (dg_name (i := 3) sc_is_held.nd rfl (.inl rfl)) (dss_cons (ds_if (dt_w (dw_or (dt_not (dt_val (de_callD D_is_tie (hr.mono (by decide)) hg (by exact g_is_held_is_tie) tk rfl (da_cons (de_var 0 rfl v_is_held_web) (da_cons (de_ix (de_var 1 rfl v_is_held_thing) (de_var 3 rfl v_is_held_k)) da_nil)) rfl))) (dw_or1 (dt_w (dw_and (dt_c c_gt (de_var 3 rfl v_is_held_k) de_int) (dw_and1 (dt_c (c_geA hr) (de_ix (de_var 1 rfl v_is_held_thing) (de_sub (de_var 3 rfl v_is_held_k) de_int)) (de_ix (de_var 1 rfl v_is_held_thing) (de_var 3 rfl v_is_held_k))))))))) (dss_one (ds_ret de_bl)) dss_nil) (dss_cons (ds_augSub 2 rfl v_is_held_counts (de_ix (de_ix (de_var 1 rfl v_is_held_thing) (de_var 3 rfl v_is_held_k)) de_int) de_int ip_add) (dss_one (ds_augSub 2 rfl v_is_held_counts (de_ix (de_ix (de_var 1 rfl v_is_held_thing) (de_var 3 rfl v_is_held_k)) de_int) de_int ip_add))))) (dss_one (ds_ret (de_and (de_c c_lt (de_callB (call_maxA rfl (hu65 hr)) k_maxA (by exact g_is_held_max) (T.b_max) (by decide +kernel) (da_cons (de_var 2 rfl v_is_held_counts) da_nil)) de_int) (de_one (de_not (de_callD D_have_ring (hr.mono (by decide)) hg (by exact g_is_held_have_ring) tk rfl (da_cons (de_var 0 rfl v_is_held_web) (da_cons (de_var 1 rfl v_is_held_thing) da_nil)) rfl)))))))))
set_option maxHeartbeats 4000000 in
theorem ok_pieces {f : Addr} {fd : FuncData} (F : Fun K "pieces" "pieces" s_pieces f fd) (T : Bt K mg) (D_piece_of : DefOk P w K mg base "piece_of" 2 ["web", "left", "start"] c_piece_of) : FnD P w K mg base 3 f fd ["web", "lot"] c_pieces := by
  refine FnG.impD (fnD_of (k := 2) (body := b_pieces) F sc_pieces fun cdv A outer s H E hr hg W tk po => ?_) h_pieces
  exact (dss_cons (ds_setLc 2 [("place", 4)] rfl sc_pieces.nd rfl rfl (sw_true rfl rfl rfl (by decide +kernel)) (di_range1 (by exact g_pieces_range) (T.b_range) (de_ix (de_var 0 rfl v_pieces_web) de_int)) (blkOk_by (N := N_pieces) (sc := defScope s_pieces) (own := [("place", 4)]) (by decide +kernel)) (fun _ _ _ _ _ => (dg_name (i := 4) sc_pieces.nd rfl (.inl rfl))) (fun _ _ _ _ _ => (dts_one (dt_c (c_notIn hr) (de_var 4 rfl (by exact .inl rfl)) (de_var 1 rfl (by exact .inr (.inl rfl)))))) (fun _ _ _ _ _ => (de_var 4 rfl (by exact .inl rfl)))) (dss_cons (ds_set 3 sc_pieces.nd rfl (.inl rfl) (de_lst da_nil)) (dss_freeze 2 (dss_cons (ds_for po rfl (di_seq (de_var 2 rfl v_pieces_left)) (dg_name (i := 4) sc_pieces.nd rfl (.inr rfl)) (dss_one (ds_if (dt_c (c_eq hr) (de_lc [("piece", 5)] rfl sc_pieces.nd (di_seq (de_var 3 rfl v_pieces_found)) (blkOk_by (N := N_pieces) (sc := defScope s_pieces) (own := [("piece", 5)]) (by decide +kernel)) (fun _ _ _ _ _ => (dg_name (i := 5) sc_pieces.nd rfl (.inl rfl))) (fun _ _ _ _ _ => (dts_one (dt_c (c_in hr) (de_var 4 rfl (by exact .inr (.inl rfl))) (de_var 5 rfl (by exact .inl rfl))))) (fun _ _ _ _ _ => (de_var 5 rfl (by exact .inl rfl)))) (de_lst da_nil)) (dss_freeze 2 (dss_one (ds_append 3 rfl v_pieces_found (da_cons (de_callD D_piece_of (hr.mono (by decide)) hg (by exact g_pieces_piece_of) tk rfl (da_cons (de_var 0 rfl v_pieces_web) (da_cons (de_var 2 rfl v_pieces_left) (da_cons (de_var 4 rfl v_pieces_place) da_nil))) rfl) da_nil)))) dss_nil))) (dss_one (ds_ret (de_callTy call_tupleF k_tuple (by exact g_pieces_tuple) (T.b_tuple) (by decide +kernel) (da_cons (de_var 3 rfl v_pieces_found) da_nil))))))))
theorem ok_rounds_of {f : Addr} {fd : FuncData} (F : Fun K "rounds_of" "rounds_of" s_rounds_of f fd) (T : Bt K mg) : FnD P w K mg base 3 f fd ["reading"] c_rounds_of := fnD_never
theorem ok_tie_at {f : Addr} {fd : FuncData} (F : Fun K "tie_at" "tie_at" s_tie_at f fd) (T : Bt K mg) : FnD P w K mg base 3 f fd ["reading", "place"] c_tie_at := fnD_never
theorem ok_are_puts {f : Addr} {fd : FuncData} (F : Fun K "are_puts" "are_puts" s_are_puts f fd) (T : Bt K mg) : FnD P w K mg base 3 f fd ["web", "more", "thing"] c_are_puts := fnD_never
set_option maxHeartbeats 4000000 in
theorem ok_closed {f : Addr} {fd : FuncData} (F : Fun K "closed" "closed" s_closed f fd) (T : Bt K mg) (D_put_ahead : DefOk P w K mg base "put_ahead" 2 ["web", "more"] c_put_ahead) (D_with_put : DefOk P w K mg base "with_put" 1 ["web", "put"] c_with_put) : FnD P w K mg base 3 f fd ["web", "more"] c_closed := by
  refine FnG.impD (fnD_of (k := 2) (body := b_closed) F sc_closed fun cdv A outer s H E hr hg W tk po => ?_) h_closed
  exact (dss_cons (ds_set 2 sc_closed.nd rfl (.inl rfl) (de_lst da_nil)) (dss_cons (ds_set 3 sc_closed.nd rfl (.inl rfl) (de_callD D_put_ahead (hr.mono (by decide)) hg (by exact g_closed_put_ahead) tk rfl (da_cons (de_var 0 rfl v_closed_web) (da_cons (de_var 1 rfl v_closed_more) da_nil)) rfl)) (dss_cons (ds_while po (dt_c c_isNot (de_var 3 rfl v_closed_put) de_non) (dss_cons (ds_append 2 rfl v_closed_puts (da_cons (de_var 3 rfl v_closed_put) da_nil)) (dss_cons (ds_set 0 sc_closed.nd rfl (.inl rfl) (de_callD D_with_put (hr.mono (by decide)) hg (by exact g_closed_with_put) tk rfl (da_cons (de_var 0 rfl v_closed_web) (da_cons (de_var 3 rfl v_closed_put) da_nil)) rfl)) (dss_one (ds_set 3 sc_closed.nd rfl (.inl rfl) (de_callD D_put_ahead (hr.mono (by decide)) hg (by exact g_closed_put_ahead) tk rfl (da_cons (de_var 0 rfl v_closed_web) (da_cons (de_var 1 rfl v_closed_more) da_nil)) rfl)))))) (dss_one (ds_ret (de_tup (da_cons (de_var 0 rfl v_closed_web) (da_cons (de_callTy call_tupleF k_tuple (by exact g_closed_tuple) (T.b_tuple) (by decide +kernel) (da_cons (de_var 2 rfl v_closed_puts) da_nil)) da_nil))))))))
theorem ok_over {f : Addr} {fd : FuncData} (F : Fun K "over" "over" s_over f fd) (T : Bt K mg) : FnD P w K mg base 3 f fd ["web", "held", "put", "ring"] c_over := fnD_never
theorem ok_is_ring {f : Addr} {fd : FuncData} (F : Fun K "is_ring" "is_ring" s_is_ring f fd) (T : Bt K mg) : FnD P w K mg base 4 f fd ["web", "thing"] c_is_ring := fnD_never
set_option maxHeartbeats 4000000 in
theorem ok_is_bar {f : Addr} {fd : FuncData} (F : Fun K "is_bar" "is_bar" s_is_bar f fd) (T : Bt K mg) (D_are_places : DefOk P w K mg base "are_places" 2 ["web", "thing"] c_are_places) (D_pieces : DefOk P w K mg base "pieces" 3 ["web", "lot"] c_pieces) : FnD P w K mg base 4 f fd ["web", "thing"] c_is_bar := by
  refine FnG.impD (fnD_of (k := 3) (body := b_is_bar) F sc_is_bar fun cdv A outer s H E hr hg W tk po => ?_) h_is_bar
  exact (dss_cons (ds_if (dt_w (dw_or (dt_not (dt_val (de_callD D_are_places (hr.mono (by decide)) hg (by exact g_is_bar_are_places) tk rfl (da_cons (de_var 0 rfl v_is_bar_web) (da_cons (de_var 1 rfl v_is_bar_thing) da_nil)) rfl))) (dw_or (dt_c (c_eq hr) (de_callB call_lenA k_len (by exact g_is_bar_len) (T.b_len) PySem.boot_len (da_cons (de_var 1 rfl v_is_bar_thing) da_nil)) de_int) (dw_or1 (dt_c (c_ne hr) (de_var 1 rfl v_is_bar_thing) (de_callTy call_tupleF k_tuple (by exact g_is_bar_tuple) (T.b_tuple) (by decide +kernel) (da_cons (de_callB call_sortA k_srt (by exact g_is_bar_sorted) (T.b_sorted) (by decide +kernel) (da_cons (de_var 1 rfl v_is_bar_thing) da_nil)) da_nil))))))) (dss_one (ds_ret de_bl)) dss_nil) (dss_one (ds_ret (de_c c_gt (de_callB call_lenA k_len (by exact g_is_bar_len) (T.b_len) PySem.boot_len (da_cons (de_callD D_pieces (hr.mono (by decide)) hg (by exact g_is_bar_pieces) tk rfl (da_cons (de_var 0 rfl v_is_bar_web) (da_cons (de_var 1 rfl v_is_bar_thing) da_nil)) rfl) da_nil)) (de_callB call_lenA k_len (by exact g_is_bar_len) (T.b_len) PySem.boot_len (da_cons (de_var 1 rfl v_is_bar_thing) da_nil))))))
theorem ok_next_tie {f : Addr} {fd : FuncData} (F : Fun K "next_tie" "next_tie" s_next_tie f fd) (T : Bt K mg) : FnD P w K mg base 4 f fd ["reading"] c_next_tie := fnD_never
theorem ok_is_whole_ring {f : Addr} {fd : FuncData} (F : Fun K "is_whole_ring" "is_whole_ring" s_is_whole_ring f fd) (T : Bt K mg) : FnD P w K mg base 5 f fd ["web", "held", "thing"] c_is_whole_ring := fnD_never
theorem ok_led_back {f : Addr} {fd : FuncData} (F : Fun K "led_back" "led_back" s_led_back f fd) (T : Bt K mg) : FnD P w K mg base 6 f fd ["web", "held", "puts", "ring"] c_led_back := fnD_never
theorem ok_looked_at {f : Addr} {fd : FuncData} (F : Fun K "looked_at" "looked_at" s_looked_at f fd) (T : Bt K mg) : FnD P w K mg base 45 f fd ["reading"] c_looked_at := fnD_never
set_option maxHeartbeats 4000000 in
theorem ok_by_cases {f : Addr} {fd : FuncData} (F : Fun K "by_cases" "by_cases" s_by_cases f fd) (T : Bt K mg) (D_is_held : DefOk P w K mg base "is_held" 3 ["web", "thing"] c_is_held) (D_lots_of : DefOk P w K mg base "lots_of" 1 ["many"] c_lots_of) (D_is_bar : DefOk P w K mg base "is_bar" 4 ["web", "thing"] c_is_bar) (D_looked_at : DefOk P w K mg base "looked_at" 45 ["reading"] c_looked_at) (I_TooGreat : ∃ C, InitC P w K mg base "TooGreat" ["most"] C) : FnD P w K mg base 46 f fd ["web", "held"] c_by_cases := by
  obtain ⟨t_MOST_PLACES, c_MOST_PLACES⟩ := T.c_MOST_PLACES
  obtain ⟨CI_TooGreat, I_TooGreat⟩ := I_TooGreat
  refine FnG.impD (fnD_of (k := 45) (body := b_by_cases) F sc_by_cases fun cdv A outer s H E hr hg W tk po => ?_) h_by_cases
  exact (dss_cons (ds_if (dt_not (dt_val (de_callD D_is_held (hr.mono (by decide)) hg (by exact g_by_cases_is_held) tk rfl (da_cons (de_var 0 rfl v_by_cases_web) (da_cons (de_var 1 rfl v_by_cases_held) da_nil)) rfl))) (dss_one (ds_raise rfl tk rfl (by exact g_by_cases_NoHeld) T.x_NoHeld)) dss_nil) (dss_cons (ds_if (dt_c c_gt (de_ix (de_var 0 rfl v_by_cases_web) de_int) (de_globI (by exact g_by_cases_MOST_PLACES) c_MOST_PLACES)) (dss_one (ds_raiseF rfl tk rfl I_TooGreat (hr.mono (by decide)) hg (by exact g_by_cases_TooGreat) (da_cons (de_globI (by exact g_by_cases_MOST_PLACES) c_MOST_PLACES) da_nil))) dss_nil) (dss_cons (ds_for po rfl (di_seq (de_callD D_lots_of (hr.mono (by decide)) hg (by exact g_by_cases_lots_of) tk rfl (da_cons (de_ix (de_var 0 rfl v_by_cases_web) de_int) da_nil) rfl)) (dg_name (i := 2) sc_by_cases.nd rfl (.inl rfl)) (dss_one (ds_if (dt_val (de_callD D_is_bar (hr.mono (by decide)) hg (by exact g_by_cases_is_bar) tk rfl (da_cons (de_var 0 rfl v_by_cases_web) (da_cons (de_var 2 rfl v_by_cases_lot) da_nil)) rfl)) (dss_one (ds_ret (de_tup (da_cons de_str (da_cons (de_tup (da_cons de_str (da_cons (de_var 2 rfl v_by_cases_lot) da_nil))) da_nil))))) dss_nil))) (dss_one ds_never))))
set_option maxHeartbeats 4000000 in
theorem ok_ask {f : Addr} {fd : FuncData} (F : Fun K "ask" "ask" s_ask f fd) (T : Bt K mg) (D_is_held : DefOk P w K mg base "is_held" 3 ["web", "thing"] c_is_held) (D_closed : DefOk P w K mg base "closed" 3 ["web", "more"] c_closed) (D_all_tied : DefOk P w K mg base "all_tied" 1 ["many"] c_all_tied) (D_led_back : DefOk P w K mg base "led_back" 6 ["web", "held", "puts", "ring"] c_led_back) (D_easy_ring : DefOk P w K mg base "easy_ring" 2 ["many", "held"] c_easy_ring) (D_by_cases : DefOk P w K mg base "by_cases" 46 ["web", "held"] c_by_cases) : FnD P w K mg base 47 f fd ["web", "held"] c_ask := by
  refine FnG.impD (fnD_of (k := 46) (body := b_ask) F sc_ask fun cdv A outer s H E hr hg W tk po => ?_) h_ask
  exact (dss_cons (ds_if (dt_not (dt_val (de_callD D_is_held (hr.mono (by decide)) hg (by exact g_ask_is_held) tk rfl (da_cons (de_var 0 rfl v_ask_web) (da_cons (de_var 1 rfl v_ask_held) da_nil)) rfl))) (dss_one (ds_raise rfl tk rfl (by exact g_ask_NoHeld) T.x_NoHeld)) dss_nil) (dss_cons (ds_asg (de_callD D_closed (hr.mono (by decide)) hg (by exact g_ask_closed) tk rfl (da_cons (de_var 0 rfl v_ask_web) (da_cons (de_callB call_lenA k_len (by exact g_ask_len) (T.b_len) PySem.boot_len (da_cons (de_var 1 rfl v_ask_held) da_nil)) da_nil)) rfl) (dg_pair (i := 2) (j := 3) rfl sc_ask.nd rfl (.inl rfl) rfl (.inl rfl))) (dss_cons (ds_if (dt_c (c_eq hr) (de_var 2 rfl v_ask_found) (de_callD D_all_tied (hr.mono (by decide)) hg (by exact g_ask_all_tied) tk rfl (da_cons (de_ix (de_var 0 rfl v_ask_web) de_int) da_nil) rfl)) (dss_one (ds_ret (de_tup (da_cons de_str (da_cons (de_ix (de_callD D_led_back (hr.mono (by decide)) hg (by exact g_ask_led_back) tk rfl (da_cons (de_var 0 rfl v_ask_web) (da_cons (de_var 1 rfl v_ask_held) (da_cons (de_var 3 rfl v_ask_puts) (da_cons (de_callD D_easy_ring (hr.mono (by decide)) hg (by exact g_ask_easy_ring) tk rfl (da_cons (de_ix (de_var 0 rfl v_ask_web) de_int) (da_cons (de_var 1 rfl v_ask_held) da_nil)) rfl) da_nil)))) rfl) (de_neg de_int)) da_nil))))) dss_nil) (dss_one (ds_ret (de_callD D_by_cases (hr.mono (by decide)) hg (by exact g_ask_by_cases) tk rfl (da_cons (de_var 0 rfl v_ask_web) (da_cons (de_var 1 rfl v_ask_held) da_nil)) rfl))))))
set_option maxHeartbeats 4000000 in
theorem ok_l_no_held {f : Addr} {fd : FuncData} (F : Fun K "_law_no_held" "_law_no_held" s_l_no_held f fd) (T : Bt K mg) (D_ask : DefOk P w K mg base "ask" 47 ["web", "held"] c_ask) (D_by_cases : DefOk P w K mg base "by_cases" 46 ["web", "held"] c_by_cases) : FnD P w K mg base 48 f fd ["_law_web_here", "_law_thing", "_law_by_closing"] c_l_no_held := by
  obtain ⟨C_RingsError, cg_RingsError, ct_RingsError⟩ := T.y_RingsError
  obtain ⟨C_TooGreat, cg_TooGreat, ct_TooGreat⟩ := T.y_TooGreat
  obtain ⟨C_NoHeld, cg_NoHeld, ct_NoHeld⟩ := T.y_NoHeld
  refine FnG.impD (fnD_of (k := 47) (body := b_l_no_held) F sc_l_no_held fun cdv A outer s H E hr hg W tk po => ?_) h_l_no_held
  exact (dss_cons (ds_try rfl rfl sc_l_no_held.nd tk rfl (fun W pn xe tk po => (dss_one (ds_if (dt_val (de_var 2 rfl v_l_no_held_l_by_closing)) (dss_one (ds_expr (de_callD D_ask (hr.mono (by decide)) hg (by exact g_l_no_held_ask) tk rfl (da_cons (de_var 0 rfl v_l_no_held_l_web_here) (da_cons (de_var 1 rfl v_l_no_held_l_thing) da_nil)) rfl))) (dss_one (ds_expr (de_callD D_by_cases (hr.mono (by decide)) hg (by exact g_l_no_held_by_cases) tk rfl (da_cons (de_var 0 rfl v_l_no_held_l_web_here) (da_cons (de_var 1 rfl v_l_no_held_l_thing) da_nil)) rfl)))))) (.named (i := 3) ⟨(by exact g_l_no_held_NoHeld), by decide, .inl cg_NoHeld⟩ ct_NoHeld rfl rfl (fun er ob pn hE => have hh := roomM (v := some (.ref er.a)) hr; (dss_one (ds_ret (de_and (de_isErrF (i := 3) (v := .ref C_RingsError) hE rfl v_l_no_held_error (by exact g_l_no_held_isinstance) (T.b_isinstance) ⟨(by exact g_l_no_held_RingsError), by decide, .inl cg_RingsError⟩ rfl ct_RingsError) (de_and (de_isErrF (i := 3) (v := .ty "ValueError") hE rfl v_l_no_held_error (by exact g_l_no_held_isinstance) (T.b_isinstance) ⟨(by exact g_l_no_held_ValueError), by decide, .inr ⟨T.y_ValueError.1, by decide +kernel, by decide⟩⟩ rfl (T.y_ValueError.2)) (de_one (de_not (de_isErrF (i := 3) (v := .ref C_TooGreat) hE rfl v_l_no_held_error (by exact g_l_no_held_isinstance) (T.b_isinstance) ⟨(by exact g_l_no_held_TooGreat), by decide, .inl cg_TooGreat⟩ rfl ct_TooGreat)))))))) .nil)) (dss_one (ds_ret de_bl)))
set_option maxHeartbeats 4000000 in
theorem ok_l_too_great {f : Addr} {fd : FuncData} (F : Fun K "_law_too_great" "_law_too_great" s_l_too_great f fd) (T : Bt K mg) (D_ask : DefOk P w K mg base "ask" 47 ["web", "held"] c_ask) (D_by_cases : DefOk P w K mg base "by_cases" 46 ["web", "held"] c_by_cases) : FnD P w K mg base 48 f fd ["_law_web_here", "_law_held", "_law_by_closing"] c_l_too_great := by
  obtain ⟨C_NoText, cg_NoText, ct_NoText⟩ := T.y_NoText
  obtain ⟨C_NoRow, cg_NoRow, ct_NoRow⟩ := T.y_NoRow
  obtain ⟨C_NoRing, cg_NoRing, ct_NoRing⟩ := T.y_NoRing
  obtain ⟨C_NoPut, cg_NoPut, ct_NoPut⟩ := T.y_NoPut
  obtain ⟨C_NoNumber, cg_NoNumber, ct_NoNumber⟩ := T.y_NoNumber
  obtain ⟨C_NoHeld, cg_NoHeld, ct_NoHeld⟩ := T.y_NoHeld
  obtain ⟨C_TooFew, cg_TooFew, ct_TooFew⟩ := T.y_TooFew
  obtain ⟨C_NothingBack, cg_NothingBack, ct_NothingBack⟩ := T.y_NothingBack
  obtain ⟨C_NotRich, cg_NotRich, ct_NotRich⟩ := T.y_NotRich
  obtain ⟨C_NoWeb, cg_NoWeb, ct_NoWeb⟩ := T.y_NoWeb
  obtain ⟨C_NoWay, cg_NoWay, ct_NoWay⟩ := T.y_NoWay
  obtain ⟨C_NoTie, cg_NoTie, ct_NoTie⟩ := T.y_NoTie
  obtain ⟨C_RingsError, cg_RingsError, ct_RingsError⟩ := T.y_RingsError
  obtain ⟨C_TooGreat, cg_TooGreat, ct_TooGreat⟩ := T.y_TooGreat
  obtain ⟨D_TooGreat, gf_TooGreat, xf_TooGreat, n_TooGreat_most⟩ := T.f_TooGreat
  refine FnG.impD (fnD_of (k := 47) (body := b_l_too_great) F sc_l_too_great fun cdv A outer s H E hr hg W tk po => ?_) h_l_too_great
  exact (dss_cons (ds_try rfl rfl sc_l_too_great.nd tk rfl (fun W pn xe tk po => (dss_one (ds_if (dt_val (de_var 2 rfl v_l_too_great_l_by_closing)) (dss_one (ds_expr (de_callD D_ask (hr.mono (by decide)) hg (by exact g_l_too_great_ask) tk rfl (da_cons (de_var 0 rfl v_l_too_great_l_web_here) (da_cons (de_var 1 rfl v_l_too_great_l_held) da_nil)) rfl))) (dss_one (ds_expr (de_callD D_by_cases (hr.mono (by decide)) hg (by exact g_l_too_great_by_cases) tk rfl (da_cons (de_var 0 rfl v_l_too_great_l_web_here) (da_cons (de_var 1 rfl v_l_too_great_l_held) da_nil)) rfl)))))) (.named (i := 3) ⟨(by exact g_l_too_great_TooGreat), by decide, .inl cg_TooGreat⟩ ct_TooGreat rfl rfl (fun er ob pn hE => have hh := roomM (v := some (.ref er.a)) hr; (dss_cons (ds_if (dt_val (de_isErrTF (i := 3) hE rfl v_l_too_great_error (by exact g_l_too_great_isinstance) (T.b_isinstance) (.cons (v := .ref C_NoHeld) ⟨(by exact g_l_too_great_NoHeld), by decide, .inl cg_NoHeld⟩ rfl ct_NoHeld (.cons (v := .ref C_NoNumber) ⟨(by exact g_l_too_great_NoNumber), by decide, .inl cg_NoNumber⟩ rfl ct_NoNumber (.cons (v := .ref C_NoPut) ⟨(by exact g_l_too_great_NoPut), by decide, .inl cg_NoPut⟩ rfl ct_NoPut (.cons (v := .ref C_NoRing) ⟨(by exact g_l_too_great_NoRing), by decide, .inl cg_NoRing⟩ rfl ct_NoRing (.cons (v := .ref C_NoRow) ⟨(by exact g_l_too_great_NoRow), by decide, .inl cg_NoRow⟩ rfl ct_NoRow (.cons (v := .ref C_NoText) ⟨(by exact g_l_too_great_NoText), by decide, .inl cg_NoText⟩ rfl ct_NoText .nil)))))))) (dss_one (ds_ret de_bl)) dss_nil) (dss_cons (ds_if (dt_val (de_isErrTF (i := 3) hE rfl v_l_too_great_error (by exact g_l_too_great_isinstance) (T.b_isinstance) (.cons (v := .ref C_NoTie) ⟨(by exact g_l_too_great_NoTie), by decide, .inl cg_NoTie⟩ rfl ct_NoTie (.cons (v := .ref C_NoWay) ⟨(by exact g_l_too_great_NoWay), by decide, .inl cg_NoWay⟩ rfl ct_NoWay (.cons (v := .ref C_NoWeb) ⟨(by exact g_l_too_great_NoWeb), by decide, .inl cg_NoWeb⟩ rfl ct_NoWeb (.cons (v := .ref C_NotRich) ⟨(by exact g_l_too_great_NotRich), by decide, .inl cg_NotRich⟩ rfl ct_NotRich (.cons (v := .ref C_NothingBack) ⟨(by exact g_l_too_great_NothingBack), by decide, .inl cg_NothingBack⟩ rfl ct_NothingBack (.cons (v := .ref C_TooFew) ⟨(by exact g_l_too_great_TooFew), by decide, .inl cg_TooFew⟩ rfl ct_TooFew .nil)))))))) (dss_one (ds_ret de_bl)) dss_nil) (dss_one (ds_ret (de_and (de_isErrF (i := 3) (v := .ref C_RingsError) hE rfl v_l_too_great_error (by exact g_l_too_great_isinstance) (T.b_isinstance) ⟨(by exact g_l_too_great_RingsError), by decide, .inl cg_RingsError⟩ rfl ct_RingsError) (de_and (de_isErrF (i := 3) (v := .ty "ValueError") hE rfl v_l_too_great_error (by exact g_l_too_great_isinstance) (T.b_isinstance) ⟨(by exact g_l_too_great_ValueError), by decide, .inr ⟨T.y_ValueError.1, by decide +kernel, by decide⟩⟩ rfl (T.y_ValueError.2)) (de_one (de_c (c_eqH hh) (de_fld hE rfl v_l_too_great_error gf_TooGreat xf_TooGreat n_TooGreat_most) de_int))))))))) .nil)) (dss_one (ds_ret de_bl)))
set_option maxHeartbeats 4000000 in
theorem ok_law {f : Addr} {fd : FuncData} (F : Fun K "law" "law" s_law f fd) (T : Bt K mg) (D_l_ring_or_five : DefOk P w K mg base "_law_ring_or_five" 1 ["_law_many"] c_l_ring_or_five) (D_l_no_held : DefOk P w K mg base "_law_no_held" 48 ["_law_web_here", "_law_thing", "_law_by_closing"] c_l_no_held) (D_l_stream : DefOk P w K mg base "_law_stream" 1 ["_law_cell", "_law_many"] c_l_stream) (D_l_cell_at : DefOk P w K mg base "_law_cell_at" 1 ["_law_script", "_law_k"] c_l_cell_at) (D_l_web : DefOk P w K mg base "_law_web" 2 ["_law_xs", "_law_least", "_law_most"] c_l_web) (D_l_poor : DefOk P w K mg base "_law_poor" 2 ["_law_xs"] c_l_poor) (D_l_wrong_held : DefOk P w K mg base "_law_wrong_held" 2 ["_law_web_here"] c_l_wrong_held) (D_l_next : DefOk P w K mg base "_law_next" 1 ["_law_xs", "_law_many"] c_l_next) (D_l_too_great : DefOk P w K mg base "_law_too_great" 48 ["_law_web_here", "_law_held", "_law_by_closing"] c_l_too_great) (D_by_cases : DefOk P w K mg base "by_cases" 46 ["web", "held"] c_by_cases) : FnD P w K mg base 49 f fd ["_law_script"] c_law := by
  refine FnG.impD (fnD_of (k := 48) (body := b_law) F sc_law fun cdv A outer s H E hr hg W tk po => ?_) h_law
  exact (dss_cons (ds_for po rfl (di_range2 (by exact g_law_range) (T.b_range) de_int de_int) (dg_name (i := 1) sc_law.nd rfl (.inl rfl)) (dss_one (ds_for po rfl (di_seq (de_callD D_l_ring_or_five (hr.mono (by decide)) hg (by exact g_law_l_ring_or_five) tk rfl (da_cons (de_var 1 rfl v_law_l_many) da_nil) rfl)) (dg_pair (i := 2) (j := 3) rfl sc_law.nd rfl (.inl rfl) rfl (.inl rfl)) (dss_one (ds_if (dt_w (dw_or (dt_not (dt_val (de_callD D_l_no_held (hr.mono (by decide)) hg (by exact g_law_l_no_held) tk rfl (da_cons (de_var 2 rfl v_law_l_web_here) (da_cons (de_var 3 rfl v_law_l_thing) (da_cons de_bl da_nil))) rfl))) (dw_or1 (dt_not (dt_val (de_callD D_l_no_held (hr.mono (by decide)) hg (by exact g_law_l_no_held) tk rfl (da_cons (de_var 2 rfl v_law_l_web_here) (da_cons (de_var 3 rfl v_law_l_thing) (da_cons de_bl da_nil))) rfl)))))) (dss_one (ds_ret de_bl)) dss_nil))))) (dss_cons (ds_for po rfl (di_range1 (by exact g_law_range) (T.b_range) de_int) (dg_name (i := 4) sc_law.nd rfl (.inl rfl)) (dss_cons (ds_set 5 sc_law.nd rfl (.inr rfl) (de_callD D_l_stream (hr.mono (by decide)) hg (by exact g_law_l_stream) tk rfl (da_cons (de_add (de_callD D_l_cell_at (hr.mono (by decide)) hg (by exact g_law_l_cell_at) tk rfl (da_cons (de_var 0 rfl v_law_l_script) (da_cons (de_var 4 rfl v_law_l_k) da_nil)) rfl) (de_var 4 rfl v_law_l_k)) (da_cons de_int da_nil)) rfl)) (dss_dice kapN 5 (dss_cons (ds_set 2 sc_law.nd rfl (.inl rfl) (de_callD D_l_web (hr.mono (by decide)) hg (by exact g_law_l_web) tk rfl (da_cons (de_var 5 rfl v_law_l_xs) (da_cons de_int (da_cons de_int da_nil))) rfl)) (dss_cons (ds_set 6 sc_law.nd rfl (.inl rfl) (de_callD D_l_poor (hr.mono (by decide)) hg (by exact g_law_l_poor) tk rfl (da_cons (de_var 5 rfl v_law_l_xs) da_nil) rfl)) (dss_cons (ds_for po rfl (di_seq (de_lst (da_cons (de_var 2 rfl v_law_l_web_here) (da_cons (de_var 6 rfl v_law_l_poor_here) da_nil)))) (dg_name (i := 7) sc_law.nd rfl (.inl rfl)) (dss_cons (ds_set 8 sc_law.nd rfl (.inr rfl) (de_callD D_l_wrong_held (hr.mono (by decide)) hg (by exact g_law_l_wrong_held) tk rfl (da_cons (de_var 7 rfl v_law_l_one) da_nil) rfl)) (dss_one (ds_for po rfl (di_seq (de_add (de_sl (de_var 8 rfl v_law_l_wrong) do_none (do_some de_int)) (de_lc [("_law_turn", 10)] rfl sc_law.nd (di_range1 (by exact g_law_range) (T.b_range) de_int) (blkOk_by (N := N_law) (sc := defScope s_law) (own := [("_law_turn", 10)]) (by decide +kernel)) (fun _ _ _ _ _ => (dg_name (i := 10) sc_law.nd rfl (.inl rfl))) (fun _ _ _ _ _ => dts_nil) (fun _ _ _ _ _ => (de_ix (de_var 8 rfl (by exact .inr (.inl rfl))) (de_callD D_l_next (hr.mono (by decide)) hg (by rfl) takesN rfl (da_cons (de_var 5 rfl (by exact .inr (.inl rfl))) (da_cons (de_callB call_lenA k_len (by rfl) (T.b_len) PySem.boot_len (da_cons (de_var 8 rfl (by exact .inr (.inl rfl))) da_nil)) da_nil)) rfl)))))) (dg_name (i := 3) sc_law.nd rfl (.inl rfl)) (dss_one (ds_if (dt_w (dw_or (dt_not (dt_val (de_callD D_l_no_held (hr.mono (by decide)) hg (by exact g_law_l_no_held) tk rfl (da_cons (de_var 7 rfl v_law_l_one) (da_cons (de_var 3 rfl v_law_l_thing) (da_cons de_bl da_nil))) rfl))) (dw_or1 (dt_not (dt_val (de_callD D_l_no_held (hr.mono (by decide)) hg (by exact g_law_l_no_held) tk rfl (da_cons (de_var 7 rfl v_law_l_one) (da_cons (de_var 3 rfl v_law_l_thing) (da_cons de_bl da_nil))) rfl)))))) (dss_one (ds_ret de_bl)) dss_nil)))))) (dss_cons (ds_for po rfl (di_seq (de_lst (da_cons (de_tup da_nil) (da_cons (de_tup (da_cons (de_ix (de_ix (de_var 6 rfl v_law_l_poor_here) de_int) (de_callD D_l_next (hr.mono (by decide)) hg (by exact g_law_l_next) tk rfl (da_cons (de_var 5 rfl v_law_l_xs) (da_cons (de_callB call_lenA k_len (by exact g_law_len) (T.b_len) PySem.boot_len (da_cons (de_ix (de_var 6 rfl v_law_l_poor_here) de_int) da_nil)) da_nil)) rfl)) da_nil)) da_nil)))) (dg_name (i := 9) sc_law.nd rfl (.inl rfl)) (dss_one (ds_if (dt_w (dw_or (dt_not (dt_val (de_callD D_l_too_great (hr.mono (by decide)) hg (by exact g_law_l_too_great) tk rfl (da_cons (de_var 6 rfl v_law_l_poor_here) (da_cons (de_var 9 rfl v_law_l_held) (da_cons de_bl da_nil))) rfl))) (dw_or1 (dt_not (dt_val (de_callD D_l_too_great (hr.mono (by decide)) hg (by exact g_law_l_too_great) tk rfl (da_cons (de_var 6 rfl v_law_l_poor_here) (da_cons (de_var 9 rfl v_law_l_held) (da_cons de_bl da_nil))) rfl)))))) (dss_one (ds_ret de_bl)) dss_nil))) (dss_one (ds_if (dt_c (c_ne hr) (de_ix (de_callD D_by_cases (hr.mono (by decide)) hg (by exact g_law_by_cases) tk rfl (da_cons (de_tup (da_cons de_int (da_cons (de_callTy call_tupleF k_tuple (by exact g_law_tuple) (T.b_tuple) (by decide +kernel) (da_cons (de_callB call_sortA k_srt (by exact g_law_sorted) (T.b_sorted) (by decide +kernel) (da_cons (de_lc [("_law_place", 11)] rfl sc_law.nd (di_range2 (by exact g_law_range) (T.b_range) de_int de_int) (blkOk_by (N := N_law) (sc := defScope s_law) (own := [("_law_place", 11)]) (by decide +kernel)) (fun _ _ _ _ _ => (dg_name (i := 11) sc_law.nd rfl (.inl rfl))) (fun _ _ _ _ _ => dts_nil) (fun _ _ _ _ _ => (de_tup (da_cons de_int (da_cons (de_var 11 rfl (by exact .inl rfl)) da_nil))))) da_nil)) da_nil)) da_nil))) (da_cons (de_tup da_nil) da_nil)) rfl) de_int) de_str) (dss_one (ds_ret de_bl)) dss_nil))))))))) (dss_one (ds_ret de_bl))))
end
theorem all_mk {l : PySem.W.OpenLaw} {w : World} {K : PySem.W.Frag} {h : Heap} {mg : Str → Option Value} {fa : Addr} (X : K.In h) (G : h.Ns mainGlobals mg) (hfa : mg "law" = some (.ref fa))
    {od0 an0 : Option Addr} {sl0 : Array (Option Value)} {oc0 kV0 dc0 pm0 cd0 ct0 : Value} {f0 : Addr}
    (a0 : PySem.W.nsIn K mainGlobals "is_int" = some (some (.ref f0)))
    (l0 : K.lookup f0 = some ⟨oc0, od0, .func (PySem.W.fnOf "is_int" "is_int" (defArgs s_is_int) (defBody s_is_int) (defScope s_is_int) .none kV0 dc0 pm0 an0 cd0 ct0), sl0⟩) (q0 : PySem.W.codeIn K cd0 "is_int" = true) (k0 : PySem.W.keepIn K (.ref f0) = true)
    {od1 an1 : Option Addr} {sl1 : Array (Option Value)} {oc1 kV1 dc1 pm1 cd1 ct1 : Value} {f1 : Addr}
    (a1 : PySem.W.nsIn K mainGlobals "in_order" = some (some (.ref f1)))
    (l1 : K.lookup f1 = some ⟨oc1, od1, .func (PySem.W.fnOf "in_order" "in_order" (defArgs s_in_order) (defBody s_in_order) (defScope s_in_order) .none kV1 dc1 pm1 an1 cd1 ct1), sl1⟩) (q1 : PySem.W.codeIn K cd1 "in_order" = true) (k1 : PySem.W.keepIn K (.ref f1) = true)
    {od2 an2 : Option Addr} {sl2 : Array (Option Value)} {oc2 kV2 dc2 pm2 cd2 ct2 : Value} {f2 : Addr}
    (a2 : PySem.W.nsIn K mainGlobals "counts_of" = some (some (.ref f2)))
    (l2 : K.lookup f2 = some ⟨oc2, od2, .func (PySem.W.fnOf "counts_of" "counts_of" (defArgs s_counts_of) (defBody s_counts_of) (defScope s_counts_of) .none kV2 dc2 pm2 an2 cd2 ct2), sl2⟩) (q2 : PySem.W.codeIn K cd2 "counts_of" = true) (k2 : PySem.W.keepIn K (.ref f2) = true)
    {od3 an3 : Option Addr} {sl3 : Array (Option Value)} {oc3 kV3 dc3 pm3 cd3 ct3 : Value} {f3 : Addr}
    (a3 : PySem.W.nsIn K mainGlobals "beside" = some (some (.ref f3)))
    (l3 : K.lookup f3 = some ⟨oc3, od3, .func (PySem.W.fnOf "beside" "beside" (defArgs s_beside) (defBody s_beside) (defScope s_beside) .none kV3 dc3 pm3 an3 cd3 ct3), sl3⟩) (q3 : PySem.W.codeIn K cd3 "beside" = true) (k3 : PySem.W.keepIn K (.ref f3) = true)
    {od4 an4 : Option Addr} {sl4 : Array (Option Value)} {oc4 kV4 dc4 pm4 cd4 ct4 : Value} {f4 : Addr}
    (a4 : PySem.W.nsIn K mainGlobals "all_tied" = some (some (.ref f4)))
    (l4 : K.lookup f4 = some ⟨oc4, od4, .func (PySem.W.fnOf "all_tied" "all_tied" (defArgs s_all_tied) (defBody s_all_tied) (defScope s_all_tied) .none kV4 dc4 pm4 an4 cd4 ct4), sl4⟩) (q4 : PySem.W.codeIn K cd4 "all_tied" = true) (k4 : PySem.W.keepIn K (.ref f4) = true)
    {od5 an5 : Option Addr} {sl5 : Array (Option Value)} {oc5 kV5 dc5 pm5 cd5 ct5 : Value} {f5 : Addr}
    (a5 : PySem.W.nsIn K mainGlobals "told_ring" = some (some (.ref f5)))
    (l5 : K.lookup f5 = some ⟨oc5, od5, .func (PySem.W.fnOf "told_ring" "told_ring" (defArgs s_told_ring) (defBody s_told_ring) (defScope s_told_ring) .none kV5 dc5 pm5 an5 cd5 ct5), sl5⟩) (q5 : PySem.W.codeIn K cd5 "told_ring" = true) (k5 : PySem.W.keepIn K (.ref f5) = true)
    {od6 an6 : Option Addr} {sl6 : Array (Option Value)} {oc6 kV6 dc6 pm6 cd6 ct6 : Value} {f6 : Addr}
    (a6 : PySem.W.nsIn K mainGlobals "have_ring" = some (some (.ref f6)))
    (l6 : K.lookup f6 = some ⟨oc6, od6, .func (PySem.W.fnOf "have_ring" "have_ring" (defArgs s_have_ring) (defBody s_have_ring) (defScope s_have_ring) .none kV6 dc6 pm6 an6 cd6 ct6), sl6⟩) (q6 : PySem.W.codeIn K cd6 "have_ring" = true) (k6 : PySem.W.keepIn K (.ref f6) = true)
    {od7 an7 : Option Addr} {sl7 : Array (Option Value)} {oc7 kV7 dc7 pm7 cd7 ct7 : Value} {f7 : Addr}
    (a7 : PySem.W.nsIn K mainGlobals "at_place" = some (some (.ref f7)))
    (l7 : K.lookup f7 = some ⟨oc7, od7, .func (PySem.W.fnOf "at_place" "at_place" (defArgs s_at_place) (defBody s_at_place) (defScope s_at_place) .none kV7 dc7 pm7 an7 cd7 ct7), sl7⟩) (q7 : PySem.W.codeIn K cd7 "at_place" = true) (k7 : PySem.W.keepIn K (.ref f7) = true)
    {od8 an8 : Option Addr} {sl8 : Array (Option Value)} {oc8 kV8 dc8 pm8 cd8 ct8 : Value} {f8 : Addr}
    (a8 : PySem.W.nsIn K mainGlobals "lots_of" = some (some (.ref f8)))
    (l8 : K.lookup f8 = some ⟨oc8, od8, .func (PySem.W.fnOf "lots_of" "lots_of" (defArgs s_lots_of) (defBody s_lots_of) (defScope s_lots_of) .none kV8 dc8 pm8 an8 cd8 ct8), sl8⟩) (q8 : PySem.W.codeIn K cd8 "lots_of" = true) (k8 : PySem.W.keepIn K (.ref f8) = true)
    {od9 an9 : Option Addr} {sl9 : Array (Option Value)} {oc9 kV9 dc9 pm9 cd9 ct9 : Value} {f9 : Addr}
    (a9 : PySem.W.nsIn K mainGlobals "with_put" = some (some (.ref f9)))
    (l9 : K.lookup f9 = some ⟨oc9, od9, .func (PySem.W.fnOf "with_put" "with_put" (defArgs s_with_put) (defBody s_with_put) (defScope s_with_put) .none kV9 dc9 pm9 an9 cd9 ct9), sl9⟩) (q9 : PySem.W.codeIn K cd9 "with_put" = true) (k9 : PySem.W.keepIn K (.ref f9) = true)
    {od10 an10 : Option Addr} {sl10 : Array (Option Value)} {oc10 kV10 dc10 pm10 cd10 ct10 : Value} {f10 : Addr}
    (a10 : PySem.W.nsIn K mainGlobals "from_put" = some (some (.ref f10)))
    (l10 : K.lookup f10 = some ⟨oc10, od10, .func (PySem.W.fnOf "from_put" "from_put" (defArgs s_from_put) (defBody s_from_put) (defScope s_from_put) .none kV10 dc10 pm10 an10 cd10 ct10), sl10⟩) (q10 : PySem.W.codeIn K cd10 "from_put" = true) (k10 : PySem.W.keepIn K (.ref f10) = true)
    {od11 an11 : Option Addr} {sl11 : Array (Option Value)} {oc11 kV11 dc11 pm11 cd11 ct11 : Value} {f11 : Addr}
    (a11 : PySem.W.nsIn K mainGlobals "held_beside" = some (some (.ref f11)))
    (l11 : K.lookup f11 = some ⟨oc11, od11, .func (PySem.W.fnOf "held_beside" "held_beside" (defArgs s_held_beside) (defBody s_held_beside) (defScope s_held_beside) .none kV11 dc11 pm11 an11 cd11 ct11), sl11⟩) (q11 : PySem.W.codeIn K cd11 "held_beside" = true) (k11 : PySem.W.keepIn K (.ref f11) = true)
    {od12 an12 : Option Addr} {sl12 : Array (Option Value)} {oc12 kV12 dc12 pm12 cd12 ct12 : Value} {f12 : Addr}
    (a12 : PySem.W.nsIn K mainGlobals "_law_cell_at" = some (some (.ref f12)))
    (l12 : K.lookup f12 = some ⟨oc12, od12, .func (PySem.W.fnOf "_law_cell_at" "_law_cell_at" (defArgs s_l_cell_at) (defBody s_l_cell_at) (defScope s_l_cell_at) .none kV12 dc12 pm12 an12 cd12 ct12), sl12⟩) (q12 : PySem.W.codeIn K cd12 "_law_cell_at" = true) (k12 : PySem.W.keepIn K (.ref f12) = true)
    {od13 an13 : Option Addr} {sl13 : Array (Option Value)} {oc13 kV13 dc13 pm13 cd13 ct13 : Value} {f13 : Addr}
    (a13 : PySem.W.nsIn K mainGlobals "_law_stream" = some (some (.ref f13)))
    (l13 : K.lookup f13 = some ⟨oc13, od13, .func (PySem.W.fnOf "_law_stream" "_law_stream" (defArgs s_l_stream) (defBody s_l_stream) (defScope s_l_stream) .none kV13 dc13 pm13 an13 cd13 ct13), sl13⟩) (q13 : PySem.W.codeIn K cd13 "_law_stream" = true) (k13 : PySem.W.keepIn K (.ref f13) = true)
    {od14 an14 : Option Addr} {sl14 : Array (Option Value)} {oc14 kV14 dc14 pm14 cd14 ct14 : Value} {f14 : Addr}
    (a14 : PySem.W.nsIn K mainGlobals "_law_next" = some (some (.ref f14)))
    (l14 : K.lookup f14 = some ⟨oc14, od14, .func (PySem.W.fnOf "_law_next" "_law_next" (defArgs s_l_next) (defBody s_l_next) (defScope s_l_next) .none kV14 dc14 pm14 an14 cd14 ct14), sl14⟩) (q14 : PySem.W.codeIn K cd14 "_law_next" = true) (k14 : PySem.W.keepIn K (.ref f14) = true)
    {od15 an15 : Option Addr} {sl15 : Array (Option Value)} {oc15 kV15 dc15 pm15 cd15 ct15 : Value} {f15 : Addr}
    (a15 : PySem.W.nsIn K mainGlobals "_law_at" = some (some (.ref f15)))
    (l15 : K.lookup f15 = some ⟨oc15, od15, .func (PySem.W.fnOf "_law_at" "_law_at" (defArgs s_l_at) (defBody s_l_at) (defScope s_l_at) .none kV15 dc15 pm15 an15 cd15 ct15), sl15⟩) (q15 : PySem.W.codeIn K cd15 "_law_at" = true) (k15 : PySem.W.keepIn K (.ref f15) = true)
    {od16 an16 : Option Addr} {sl16 : Array (Option Value)} {oc16 kV16 dc16 pm16 cd16 ct16 : Value} {f16 : Addr}
    (a16 : PySem.W.nsIn K mainGlobals "_law_ring_or_five" = some (some (.ref f16)))
    (l16 : K.lookup f16 = some ⟨oc16, od16, .func (PySem.W.fnOf "_law_ring_or_five" "_law_ring_or_five" (defArgs s_l_ring_or_five) (defBody s_l_ring_or_five) (defScope s_l_ring_or_five) .none kV16 dc16 pm16 an16 cd16 ct16), sl16⟩) (q16 : PySem.W.codeIn K cd16 "_law_ring_or_five" = true) (k16 : PySem.W.keepIn K (.ref f16) = true)
    {od17 an17 : Option Addr} {sl17 : Array (Option Value)} {oc17 kV17 dc17 pm17 cd17 ct17 : Value} {f17 : Addr}
    (a17 : PySem.W.nsIn K mainGlobals "is_tied" = some (some (.ref f17)))
    (l17 : K.lookup f17 = some ⟨oc17, od17, .func (PySem.W.fnOf "is_tied" "is_tied" (defArgs s_is_tied) (defBody s_is_tied) (defScope s_is_tied) .none kV17 dc17 pm17 an17 cd17 ct17), sl17⟩) (q17 : PySem.W.codeIn K cd17 "is_tied" = true) (k17 : PySem.W.keepIn K (.ref f17) = true)
    {od18 an18 : Option Addr} {sl18 : Array (Option Value)} {oc18 kV18 dc18 pm18 cd18 ct18 : Value} {f18 : Addr}
    (a18 : PySem.W.nsIn K mainGlobals "are_places" = some (some (.ref f18)))
    (l18 : K.lookup f18 = some ⟨oc18, od18, .func (PySem.W.fnOf "are_places" "are_places" (defArgs s_are_places) (defBody s_are_places) (defScope s_are_places) .none kV18 dc18 pm18 an18 cd18 ct18), sl18⟩) (q18 : PySem.W.codeIn K cd18 "are_places" = true) (k18 : PySem.W.keepIn K (.ref f18) = true)
    {od19 an19 : Option Addr} {sl19 : Array (Option Value)} {oc19 kV19 dc19 pm19 cd19 ct19 : Value} {f19 : Addr}
    (a19 : PySem.W.nsIn K mainGlobals "ring_ties" = some (some (.ref f19)))
    (l19 : K.lookup f19 = some ⟨oc19, od19, .func (PySem.W.fnOf "ring_ties" "ring_ties" (defArgs s_ring_ties) (defBody s_ring_ties) (defScope s_ring_ties) .none kV19 dc19 pm19 an19 cd19 ct19), sl19⟩) (q19 : PySem.W.codeIn K cd19 "ring_ties" = true) (k19 : PySem.W.keepIn K (.ref f19) = true)
    {od20 an20 : Option Addr} {sl20 : Array (Option Value)} {oc20 kV20 dc20 pm20 cd20 ct20 : Value} {f20 : Addr}
    (a20 : PySem.W.nsIn K mainGlobals "is_tie" = some (some (.ref f20)))
    (l20 : K.lookup f20 = some ⟨oc20, od20, .func (PySem.W.fnOf "is_tie" "is_tie" (defArgs s_is_tie) (defBody s_is_tie) (defScope s_is_tie) .none kV20 dc20 pm20 an20 cd20 ct20), sl20⟩) (q20 : PySem.W.codeIn K cd20 "is_tie" = true) (k20 : PySem.W.keepIn K (.ref f20) = true)
    {od21 an21 : Option Addr} {sl21 : Array (Option Value)} {oc21 kV21 dc21 pm21 cd21 ct21 : Value} {f21 : Addr}
    (a21 : PySem.W.nsIn K mainGlobals "piece_of" = some (some (.ref f21)))
    (l21 : K.lookup f21 = some ⟨oc21, od21, .func (PySem.W.fnOf "piece_of" "piece_of" (defArgs s_piece_of) (defBody s_piece_of) (defScope s_piece_of) .none kV21 dc21 pm21 an21 cd21 ct21), sl21⟩) (q21 : PySem.W.codeIn K cd21 "piece_of" = true) (k21 : PySem.W.keepIn K (.ref f21) = true)
    {od22 an22 : Option Addr} {sl22 : Array (Option Value)} {oc22 kV22 dc22 pm22 cd22 ct22 : Value} {f22 : Addr}
    (a22 : PySem.W.nsIn K mainGlobals "open_ties" = some (some (.ref f22)))
    (l22 : K.lookup f22 = some ⟨oc22, od22, .func (PySem.W.fnOf "open_ties" "open_ties" (defArgs s_open_ties) (defBody s_open_ties) (defScope s_open_ties) .none kV22 dc22 pm22 an22 cd22 ct22), sl22⟩) (q22 : PySem.W.codeIn K cd22 "open_ties" = true) (k22 : PySem.W.keepIn K (.ref f22) = true)
    {od23 an23 : Option Addr} {sl23 : Array (Option Value)} {oc23 kV23 dc23 pm23 cd23 ct23 : Value} {f23 : Addr}
    (a23 : PySem.W.nsIn K mainGlobals "taken_round" = some (some (.ref f23)))
    (l23 : K.lookup f23 = some ⟨oc23, od23, .func (PySem.W.fnOf "taken_round" "taken_round" (defArgs s_taken_round) (defBody s_taken_round) (defScope s_taken_round) .none kV23 dc23 pm23 an23 cd23 ct23), sl23⟩) (q23 : PySem.W.codeIn K cd23 "taken_round" = true) (k23 : PySem.W.keepIn K (.ref f23) = true)
    {od24 an24 : Option Addr} {sl24 : Array (Option Value)} {oc24 kV24 dc24 pm24 cd24 ct24 : Value} {f24 : Addr}
    (a24 : PySem.W.nsIn K mainGlobals "place_paper" = some (some (.ref f24)))
    (l24 : K.lookup f24 = some ⟨oc24, od24, .func (PySem.W.fnOf "place_paper" "place_paper" (defArgs s_place_paper) (defBody s_place_paper) (defScope s_place_paper) .none kV24 dc24 pm24 an24 cd24 ct24), sl24⟩) (q24 : PySem.W.codeIn K cd24 "place_paper" = true) (k24 : PySem.W.keepIn K (.ref f24) = true)
    {od25 an25 : Option Addr} {sl25 : Array (Option Value)} {oc25 kV25 dc25 pm25 cd25 ct25 : Value} {f25 : Addr}
    (a25 : PySem.W.nsIn K mainGlobals "is_put" = some (some (.ref f25)))
    (l25 : K.lookup f25 = some ⟨oc25, od25, .func (PySem.W.fnOf "is_put" "is_put" (defArgs s_is_put) (defBody s_is_put) (defScope s_is_put) .none kV25 dc25 pm25 an25 cd25 ct25), sl25⟩) (q25 : PySem.W.codeIn K cd25 "is_put" = true) (k25 : PySem.W.keepIn K (.ref f25) = true)
    {od26 an26 : Option Addr} {sl26 : Array (Option Value)} {oc26 kV26 dc26 pm26 cd26 ct26 : Value} {f26 : Addr}
    (a26 : PySem.W.nsIn K mainGlobals "put_ahead" = some (some (.ref f26)))
    (l26 : K.lookup f26 = some ⟨oc26, od26, .func (PySem.W.fnOf "put_ahead" "put_ahead" (defArgs s_put_ahead) (defBody s_put_ahead) (defScope s_put_ahead) .none kV26 dc26 pm26 an26 cd26 ct26), sl26⟩) (q26 : PySem.W.codeIn K cd26 "put_ahead" = true) (k26 : PySem.W.keepIn K (.ref f26) = true)
    {od27 an27 : Option Addr} {sl27 : Array (Option Value)} {oc27 kV27 dc27 pm27 cd27 ct27 : Value} {f27 : Addr}
    (a27 : PySem.W.nsIn K mainGlobals "web_with" = some (some (.ref f27)))
    (l27 : K.lookup f27 = some ⟨oc27, od27, .func (PySem.W.fnOf "web_with" "web_with" (defArgs s_web_with) (defBody s_web_with) (defScope s_web_with) .none kV27 dc27 pm27 an27 cd27 ct27), sl27⟩) (q27 : PySem.W.codeIn K cd27 "web_with" = true) (k27 : PySem.W.keepIn K (.ref f27) = true)
    {od28 an28 : Option Addr} {sl28 : Array (Option Value)} {oc28 kV28 dc28 pm28 cd28 ct28 : Value} {f28 : Addr}
    (a28 : PySem.W.nsIn K mainGlobals "turned" = some (some (.ref f28)))
    (l28 : K.lookup f28 = some ⟨oc28, od28, .func (PySem.W.fnOf "turned" "turned" (defArgs s_turned) (defBody s_turned) (defScope s_turned) .none kV28 dc28 pm28 an28 cd28 ct28), sl28⟩) (q28 : PySem.W.codeIn K cd28 "turned" = true) (k28 : PySem.W.keepIn K (.ref f28) = true)
    {od29 an29 : Option Addr} {sl29 : Array (Option Value)} {oc29 kV29 dc29 pm29 cd29 ct29 : Value} {f29 : Addr}
    (a29 : PySem.W.nsIn K mainGlobals "easy_ring" = some (some (.ref f29)))
    (l29 : K.lookup f29 = some ⟨oc29, od29, .func (PySem.W.fnOf "easy_ring" "easy_ring" (defArgs s_easy_ring) (defBody s_easy_ring) (defScope s_easy_ring) .none kV29 dc29 pm29 an29 cd29 ct29), sl29⟩) (q29 : PySem.W.codeIn K cd29 "easy_ring" = true) (k29 : PySem.W.keepIn K (.ref f29) = true)
    {od30 an30 : Option Addr} {sl30 : Array (Option Value)} {oc30 kV30 dc30 pm30 cd30 ct30 : Value} {f30 : Addr}
    (a30 : PySem.W.nsIn K mainGlobals "_law_web" = some (some (.ref f30)))
    (l30 : K.lookup f30 = some ⟨oc30, od30, .func (PySem.W.fnOf "_law_web" "_law_web" (defArgs s_l_web) (defBody s_l_web) (defScope s_l_web) .none kV30 dc30 pm30 an30 cd30 ct30), sl30⟩) (q30 : PySem.W.codeIn K cd30 "_law_web" = true) (k30 : PySem.W.keepIn K (.ref f30) = true)
    {od31 an31 : Option Addr} {sl31 : Array (Option Value)} {oc31 kV31 dc31 pm31 cd31 ct31 : Value} {f31 : Addr}
    (a31 : PySem.W.nsIn K mainGlobals "_law_poor" = some (some (.ref f31)))
    (l31 : K.lookup f31 = some ⟨oc31, od31, .func (PySem.W.fnOf "_law_poor" "_law_poor" (defArgs s_l_poor) (defBody s_l_poor) (defScope s_l_poor) .none kV31 dc31 pm31 an31 cd31 ct31), sl31⟩) (q31 : PySem.W.codeIn K cd31 "_law_poor" = true) (k31 : PySem.W.keepIn K (.ref f31) = true)
    {od32 an32 : Option Addr} {sl32 : Array (Option Value)} {oc32 kV32 dc32 pm32 cd32 ct32 : Value} {f32 : Addr}
    (a32 : PySem.W.nsIn K mainGlobals "_law_wrong_held" = some (some (.ref f32)))
    (l32 : K.lookup f32 = some ⟨oc32, od32, .func (PySem.W.fnOf "_law_wrong_held" "_law_wrong_held" (defArgs s_l_wrong_held) (defBody s_l_wrong_held) (defScope s_l_wrong_held) .none kV32 dc32 pm32 an32 cd32 ct32), sl32⟩) (q32 : PySem.W.codeIn K cd32 "_law_wrong_held" = true) (k32 : PySem.W.keepIn K (.ref f32) = true)
    {od33 an33 : Option Addr} {sl33 : Array (Option Value)} {oc33 kV33 dc33 pm33 cd33 ct33 : Value} {f33 : Addr}
    (a33 : PySem.W.nsIn K mainGlobals "is_way" = some (some (.ref f33)))
    (l33 : K.lookup f33 = some ⟨oc33, od33, .func (PySem.W.fnOf "is_way" "is_way" (defArgs s_is_way) (defBody s_is_way) (defScope s_is_way) .none kV33 dc33 pm33 an33 cd33 ct33), sl33⟩) (q33 : PySem.W.codeIn K cd33 "is_way" = true) (k33 : PySem.W.keepIn K (.ref f33) = true)
    {od34 an34 : Option Addr} {sl34 : Array (Option Value)} {oc34 kV34 dc34 pm34 cd34 ct34 : Value} {f34 : Addr}
    (a34 : PySem.W.nsIn K mainGlobals "is_held" = some (some (.ref f34)))
    (l34 : K.lookup f34 = some ⟨oc34, od34, .func (PySem.W.fnOf "is_held" "is_held" (defArgs s_is_held) (defBody s_is_held) (defScope s_is_held) .none kV34 dc34 pm34 an34 cd34 ct34), sl34⟩) (q34 : PySem.W.codeIn K cd34 "is_held" = true) (k34 : PySem.W.keepIn K (.ref f34) = true)
    {od35 an35 : Option Addr} {sl35 : Array (Option Value)} {oc35 kV35 dc35 pm35 cd35 ct35 : Value} {f35 : Addr}
    (a35 : PySem.W.nsIn K mainGlobals "pieces" = some (some (.ref f35)))
    (l35 : K.lookup f35 = some ⟨oc35, od35, .func (PySem.W.fnOf "pieces" "pieces" (defArgs s_pieces) (defBody s_pieces) (defScope s_pieces) .none kV35 dc35 pm35 an35 cd35 ct35), sl35⟩) (q35 : PySem.W.codeIn K cd35 "pieces" = true) (k35 : PySem.W.keepIn K (.ref f35) = true)
    {od36 an36 : Option Addr} {sl36 : Array (Option Value)} {oc36 kV36 dc36 pm36 cd36 ct36 : Value} {f36 : Addr}
    (a36 : PySem.W.nsIn K mainGlobals "rounds_of" = some (some (.ref f36)))
    (l36 : K.lookup f36 = some ⟨oc36, od36, .func (PySem.W.fnOf "rounds_of" "rounds_of" (defArgs s_rounds_of) (defBody s_rounds_of) (defScope s_rounds_of) .none kV36 dc36 pm36 an36 cd36 ct36), sl36⟩) (q36 : PySem.W.codeIn K cd36 "rounds_of" = true) (k36 : PySem.W.keepIn K (.ref f36) = true)
    {od37 an37 : Option Addr} {sl37 : Array (Option Value)} {oc37 kV37 dc37 pm37 cd37 ct37 : Value} {f37 : Addr}
    (a37 : PySem.W.nsIn K mainGlobals "tie_at" = some (some (.ref f37)))
    (l37 : K.lookup f37 = some ⟨oc37, od37, .func (PySem.W.fnOf "tie_at" "tie_at" (defArgs s_tie_at) (defBody s_tie_at) (defScope s_tie_at) .none kV37 dc37 pm37 an37 cd37 ct37), sl37⟩) (q37 : PySem.W.codeIn K cd37 "tie_at" = true) (k37 : PySem.W.keepIn K (.ref f37) = true)
    {od38 an38 : Option Addr} {sl38 : Array (Option Value)} {oc38 kV38 dc38 pm38 cd38 ct38 : Value} {f38 : Addr}
    (a38 : PySem.W.nsIn K mainGlobals "are_puts" = some (some (.ref f38)))
    (l38 : K.lookup f38 = some ⟨oc38, od38, .func (PySem.W.fnOf "are_puts" "are_puts" (defArgs s_are_puts) (defBody s_are_puts) (defScope s_are_puts) .none kV38 dc38 pm38 an38 cd38 ct38), sl38⟩) (q38 : PySem.W.codeIn K cd38 "are_puts" = true) (k38 : PySem.W.keepIn K (.ref f38) = true)
    {od39 an39 : Option Addr} {sl39 : Array (Option Value)} {oc39 kV39 dc39 pm39 cd39 ct39 : Value} {f39 : Addr}
    (a39 : PySem.W.nsIn K mainGlobals "closed" = some (some (.ref f39)))
    (l39 : K.lookup f39 = some ⟨oc39, od39, .func (PySem.W.fnOf "closed" "closed" (defArgs s_closed) (defBody s_closed) (defScope s_closed) .none kV39 dc39 pm39 an39 cd39 ct39), sl39⟩) (q39 : PySem.W.codeIn K cd39 "closed" = true) (k39 : PySem.W.keepIn K (.ref f39) = true)
    {od40 an40 : Option Addr} {sl40 : Array (Option Value)} {oc40 kV40 dc40 pm40 cd40 ct40 : Value} {f40 : Addr}
    (a40 : PySem.W.nsIn K mainGlobals "over" = some (some (.ref f40)))
    (l40 : K.lookup f40 = some ⟨oc40, od40, .func (PySem.W.fnOf "over" "over" (defArgs s_over) (defBody s_over) (defScope s_over) .none kV40 dc40 pm40 an40 cd40 ct40), sl40⟩) (q40 : PySem.W.codeIn K cd40 "over" = true) (k40 : PySem.W.keepIn K (.ref f40) = true)
    {od41 an41 : Option Addr} {sl41 : Array (Option Value)} {oc41 kV41 dc41 pm41 cd41 ct41 : Value} {f41 : Addr}
    (a41 : PySem.W.nsIn K mainGlobals "is_ring" = some (some (.ref f41)))
    (l41 : K.lookup f41 = some ⟨oc41, od41, .func (PySem.W.fnOf "is_ring" "is_ring" (defArgs s_is_ring) (defBody s_is_ring) (defScope s_is_ring) .none kV41 dc41 pm41 an41 cd41 ct41), sl41⟩) (q41 : PySem.W.codeIn K cd41 "is_ring" = true) (k41 : PySem.W.keepIn K (.ref f41) = true)
    {od42 an42 : Option Addr} {sl42 : Array (Option Value)} {oc42 kV42 dc42 pm42 cd42 ct42 : Value} {f42 : Addr}
    (a42 : PySem.W.nsIn K mainGlobals "is_bar" = some (some (.ref f42)))
    (l42 : K.lookup f42 = some ⟨oc42, od42, .func (PySem.W.fnOf "is_bar" "is_bar" (defArgs s_is_bar) (defBody s_is_bar) (defScope s_is_bar) .none kV42 dc42 pm42 an42 cd42 ct42), sl42⟩) (q42 : PySem.W.codeIn K cd42 "is_bar" = true) (k42 : PySem.W.keepIn K (.ref f42) = true)
    {od43 an43 : Option Addr} {sl43 : Array (Option Value)} {oc43 kV43 dc43 pm43 cd43 ct43 : Value} {f43 : Addr}
    (a43 : PySem.W.nsIn K mainGlobals "next_tie" = some (some (.ref f43)))
    (l43 : K.lookup f43 = some ⟨oc43, od43, .func (PySem.W.fnOf "next_tie" "next_tie" (defArgs s_next_tie) (defBody s_next_tie) (defScope s_next_tie) .none kV43 dc43 pm43 an43 cd43 ct43), sl43⟩) (q43 : PySem.W.codeIn K cd43 "next_tie" = true) (k43 : PySem.W.keepIn K (.ref f43) = true)
    {od44 an44 : Option Addr} {sl44 : Array (Option Value)} {oc44 kV44 dc44 pm44 cd44 ct44 : Value} {f44 : Addr}
    (a44 : PySem.W.nsIn K mainGlobals "is_whole_ring" = some (some (.ref f44)))
    (l44 : K.lookup f44 = some ⟨oc44, od44, .func (PySem.W.fnOf "is_whole_ring" "is_whole_ring" (defArgs s_is_whole_ring) (defBody s_is_whole_ring) (defScope s_is_whole_ring) .none kV44 dc44 pm44 an44 cd44 ct44), sl44⟩) (q44 : PySem.W.codeIn K cd44 "is_whole_ring" = true) (k44 : PySem.W.keepIn K (.ref f44) = true)
    {od45 an45 : Option Addr} {sl45 : Array (Option Value)} {oc45 kV45 dc45 pm45 cd45 ct45 : Value} {f45 : Addr}
    (a45 : PySem.W.nsIn K mainGlobals "led_back" = some (some (.ref f45)))
    (l45 : K.lookup f45 = some ⟨oc45, od45, .func (PySem.W.fnOf "led_back" "led_back" (defArgs s_led_back) (defBody s_led_back) (defScope s_led_back) .none kV45 dc45 pm45 an45 cd45 ct45), sl45⟩) (q45 : PySem.W.codeIn K cd45 "led_back" = true) (k45 : PySem.W.keepIn K (.ref f45) = true)
    {od46 an46 : Option Addr} {sl46 : Array (Option Value)} {oc46 kV46 dc46 pm46 cd46 ct46 : Value} {f46 : Addr}
    (a46 : PySem.W.nsIn K mainGlobals "looked_at" = some (some (.ref f46)))
    (l46 : K.lookup f46 = some ⟨oc46, od46, .func (PySem.W.fnOf "looked_at" "looked_at" (defArgs s_looked_at) (defBody s_looked_at) (defScope s_looked_at) .none kV46 dc46 pm46 an46 cd46 ct46), sl46⟩) (q46 : PySem.W.codeIn K cd46 "looked_at" = true) (k46 : PySem.W.keepIn K (.ref f46) = true)
    {od47 an47 : Option Addr} {sl47 : Array (Option Value)} {oc47 kV47 dc47 pm47 cd47 ct47 : Value} {f47 : Addr}
    (a47 : PySem.W.nsIn K mainGlobals "by_cases" = some (some (.ref f47)))
    (l47 : K.lookup f47 = some ⟨oc47, od47, .func (PySem.W.fnOf "by_cases" "by_cases" (defArgs s_by_cases) (defBody s_by_cases) (defScope s_by_cases) .none kV47 dc47 pm47 an47 cd47 ct47), sl47⟩) (q47 : PySem.W.codeIn K cd47 "by_cases" = true) (k47 : PySem.W.keepIn K (.ref f47) = true)
    {od48 an48 : Option Addr} {sl48 : Array (Option Value)} {oc48 kV48 dc48 pm48 cd48 ct48 : Value} {f48 : Addr}
    (a48 : PySem.W.nsIn K mainGlobals "ask" = some (some (.ref f48)))
    (l48 : K.lookup f48 = some ⟨oc48, od48, .func (PySem.W.fnOf "ask" "ask" (defArgs s_ask) (defBody s_ask) (defScope s_ask) .none kV48 dc48 pm48 an48 cd48 ct48), sl48⟩) (q48 : PySem.W.codeIn K cd48 "ask" = true) (k48 : PySem.W.keepIn K (.ref f48) = true)
    {od49 an49 : Option Addr} {sl49 : Array (Option Value)} {oc49 kV49 dc49 pm49 cd49 ct49 : Value} {f49 : Addr}
    (a49 : PySem.W.nsIn K mainGlobals "_law_no_held" = some (some (.ref f49)))
    (l49 : K.lookup f49 = some ⟨oc49, od49, .func (PySem.W.fnOf "_law_no_held" "_law_no_held" (defArgs s_l_no_held) (defBody s_l_no_held) (defScope s_l_no_held) .none kV49 dc49 pm49 an49 cd49 ct49), sl49⟩) (q49 : PySem.W.codeIn K cd49 "_law_no_held" = true) (k49 : PySem.W.keepIn K (.ref f49) = true)
    {od50 an50 : Option Addr} {sl50 : Array (Option Value)} {oc50 kV50 dc50 pm50 cd50 ct50 : Value} {f50 : Addr}
    (a50 : PySem.W.nsIn K mainGlobals "_law_too_great" = some (some (.ref f50)))
    (l50 : K.lookup f50 = some ⟨oc50, od50, .func (PySem.W.fnOf "_law_too_great" "_law_too_great" (defArgs s_l_too_great) (defBody s_l_too_great) (defScope s_l_too_great) .none kV50 dc50 pm50 an50 cd50 ct50), sl50⟩) (q50 : PySem.W.codeIn K cd50 "_law_too_great" = true) (k50 : PySem.W.keepIn K (.ref f50) = true)
    {od51 an51 : Option Addr} {sl51 : Array (Option Value)} {oc51 kV51 dc51 pm51 cd51 ct51 : Value} {f51 : Addr}
    (a51 : PySem.W.nsIn K mainGlobals "law" = some (some (.ref f51)))
    (l51 : K.lookup f51 = some ⟨oc51, od51, .func (PySem.W.fnOf "law" "law" (defArgs s_law) (defBody s_law) (defScope s_law) .none kV51 dc51 pm51 an51 cd51 ct51), sl51⟩) (q51 : PySem.W.codeIn K cd51 "law" = true) (k51 : PySem.W.keepIn K (.ref f51) = true)
    (z0 : PySem.W.nsIn K mainGlobals "isinstance" = some none)
    (z1 : PySem.W.nsIn K mainGlobals "int" = some none)
    (z2 : PySem.W.nsIn K mainGlobals "bool" = some none)
    (z3 : PySem.W.nsIn K mainGlobals "range" = some none)
    (z4 : PySem.W.nsIn K mainGlobals "tuple" = some none)
    (z5 : PySem.W.nsIn K mainGlobals "sorted" = some none)
    (z6 : PySem.W.nsIn K mainGlobals "list" = some none)
    (z7 : PySem.W.nsIn K mainGlobals "len" = some none)
    (z8 : PySem.W.nsIn K mainGlobals "max" = some none)
    {t0 : Tok} (y0 : PySem.W.nsIn K mainGlobals "MOST_HELD" = some (some (.int 4 t0)))
    {t1 : Tok} (y1 : PySem.W.nsIn K mainGlobals "MOST_PLACES" = some (some (.int 8 t1)))
    {C0 : Addr} (xg0 : PySem.W.nsIn K mainGlobals "NoHeld" = some (some (.ref C0))) (xe0 : PySem.W.excIn K C0 bmVE "ValueError.__new__" = true) (xk0 : PySem.W.keepIn K (.ref C0) = true) (xb0 : PySem.W.subIn K (.ref C0) (.type "BaseException") = some true) (xt0 : PySem.W.typeIn K (.ref C0) = some (.type "type"))
    {C1 : Addr} (xg1 : PySem.W.nsIn K mainGlobals "NoPut" = some (some (.ref C1))) (xe1 : PySem.W.excIn K C1 bmVE "ValueError.__new__" = true) (xk1 : PySem.W.keepIn K (.ref C1) = true) (xb1 : PySem.W.subIn K (.ref C1) (.type "BaseException") = some true) (xt1 : PySem.W.typeIn K (.ref C1) = some (.type "type"))
    {C2 : Addr} (xg2 : PySem.W.nsIn K mainGlobals "NoRing" = some (some (.ref C2))) (xe2 : PySem.W.excIn K C2 bmVE "ValueError.__new__" = true) (xk2 : PySem.W.keepIn K (.ref C2) = true) (xb2 : PySem.W.subIn K (.ref C2) (.type "BaseException") = some true) (xt2 : PySem.W.typeIn K (.ref C2) = some (.type "type"))
    {CI0 gI0 : Addr} {ocI0 kVI0 dcI0 pmI0 cdI0 ctI0 : Value} {odI0 anI0 : Option Addr} {slI0 : Array (Option Value)} (ig0 : PySem.W.nsIn K mainGlobals "TooGreat" = some (some (.ref CI0)))
    (il0 : PySem.W.excInitIn K CI0 bmVE "ValueError.__new__" = true)
    (ied0 : PySem.W.hasDictIn K CI0 = true)
    (is0 : PySem.W.findIn K (.ref CI0) "__setattr__" = some (some (.builtin "object.__setattr__")))
    (ib0 : PySem.W.subIn K (.ref CI0) (.type "BaseException") = some true)
    (it0 : PySem.W.typeIn K (.ref CI0) = some (.type "type"))
    (ik0 : PySem.W.keepIn K (.ref CI0) = true)
    (ii0 : PySem.W.findIn K (.ref CI0) "__init__" = some (some (.ref gI0)))
    (ij0 : PySem.W.typeIn K (.ref gI0) = some (.type "function"))
    (im0 : K.lookup gI0 = some ⟨ocI0, odI0, .func (PySem.W.fnOf "__init__" "TooGreat.__init__" (defArgs s_init_TooGreat) (defBody s_init_TooGreat) (defScope s_init_TooGreat) .none kVI0 dcI0 pmI0 anI0 cdI0 ctI0), slI0⟩)
    (iq0 : PySem.W.codeIn K cdI0 "TooGreat.__init__" = true)
    (ip0 : PySem.W.keepIn K (.ref gI0) = true)
    (if0_most : PySem.W.findIn K (.ref CI0) "most" = some none)
    (ieg0 : PySem.W.findIn K (.ref CI0) "__getattribute__" = some (some (.builtin "BaseException.__getattribute__")))
    (iek0 : PySem.W.findIn K (.ref CI0) "__getattr__" = some none)
    (iea0 : PySem.W.findIn K (.ref CI0) "__class__" = some (some (.builtin "object.__class__")))
    (iem0 : PySem.W.mroIn K CI0 (.type "object") = some true)
    {Y0 : Addr} (yg0 : PySem.W.nsIn K mainGlobals "RingsError" = some (some (.ref Y0)))
    (yb0 : PySem.W.subIn K (.ref Y0) (.type "BaseException") = some true)
    (yt0 : PySem.W.typeIn K (.ref Y0) = some (.type "type"))
    (yd0 : PySem.W.hasDictIn K Y0 = true)
    (vg : PySem.W.nsIn K mainGlobals "ValueError" = some none)
    (vb : PySem.W.subIn K (.type "ValueError") (.type "BaseException") = some true)
    (vs0 : PySem.W.subIn K (.ref C0) (.type "ValueError") = some true)
    (vs1 : PySem.W.subIn K (.ref C1) (.type "ValueError") = some true)
    (vs2 : PySem.W.subIn K (.ref C2) (.type "ValueError") = some true)
    (vsi0 : PySem.W.subIn K (.ref CI0) (.type "ValueError") = some true)
    {Y4 : Addr} (yg4 : PySem.W.nsIn K mainGlobals "NoText" = some (some (.ref Y4)))
    (yb4 : PySem.W.subIn K (.ref Y4) (.type "BaseException") = some true)
    (yt4 : PySem.W.typeIn K (.ref Y4) = some (.type "type"))
    (yd4 : PySem.W.hasDictIn K Y4 = true)
    {Y5 : Addr} (yg5 : PySem.W.nsIn K mainGlobals "NoRow" = some (some (.ref Y5)))
    (yb5 : PySem.W.subIn K (.ref Y5) (.type "BaseException") = some true)
    (yt5 : PySem.W.typeIn K (.ref Y5) = some (.type "type"))
    (yd5 : PySem.W.hasDictIn K Y5 = true)
    {Y8 : Addr} (yg8 : PySem.W.nsIn K mainGlobals "NoNumber" = some (some (.ref Y8)))
    (yb8 : PySem.W.subIn K (.ref Y8) (.type "BaseException") = some true)
    (yt8 : PySem.W.typeIn K (.ref Y8) = some (.type "type"))
    (yd8 : PySem.W.hasDictIn K Y8 = true)
    {Y9 : Addr} (yg9 : PySem.W.nsIn K mainGlobals "TooFew" = some (some (.ref Y9)))
    (yb9 : PySem.W.subIn K (.ref Y9) (.type "BaseException") = some true)
    (yt9 : PySem.W.typeIn K (.ref Y9) = some (.type "type"))
    (yd9 : PySem.W.hasDictIn K Y9 = true)
    {Y10 : Addr} (yg10 : PySem.W.nsIn K mainGlobals "NothingBack" = some (some (.ref Y10)))
    (yb10 : PySem.W.subIn K (.ref Y10) (.type "BaseException") = some true)
    (yt10 : PySem.W.typeIn K (.ref Y10) = some (.type "type"))
    (yd10 : PySem.W.hasDictIn K Y10 = true)
    {Y11 : Addr} (yg11 : PySem.W.nsIn K mainGlobals "NotRich" = some (some (.ref Y11)))
    (yb11 : PySem.W.subIn K (.ref Y11) (.type "BaseException") = some true)
    (yt11 : PySem.W.typeIn K (.ref Y11) = some (.type "type"))
    (yd11 : PySem.W.hasDictIn K Y11 = true)
    {Y12 : Addr} (yg12 : PySem.W.nsIn K mainGlobals "NoWeb" = some (some (.ref Y12)))
    (yb12 : PySem.W.subIn K (.ref Y12) (.type "BaseException") = some true)
    (yt12 : PySem.W.typeIn K (.ref Y12) = some (.type "type"))
    (yd12 : PySem.W.hasDictIn K Y12 = true)
    {Y13 : Addr} (yg13 : PySem.W.nsIn K mainGlobals "NoWay" = some (some (.ref Y13)))
    (yb13 : PySem.W.subIn K (.ref Y13) (.type "BaseException") = some true)
    (yt13 : PySem.W.typeIn K (.ref Y13) = some (.type "type"))
    (yd13 : PySem.W.hasDictIn K Y13 = true)
    {Y14 : Addr} (yg14 : PySem.W.nsIn K mainGlobals "NoTie" = some (some (.ref Y14)))
    (yb14 : PySem.W.subIn K (.ref Y14) (.type "BaseException") = some true)
    (yt14 : PySem.W.typeIn K (.ref Y14) = some (.type "type"))
    (yd14 : PySem.W.hasDictIn K Y14 = true)
    (eg0 : PySem.W.findIn K (.ref C0) "__getattribute__" = some (some (.builtin "BaseException.__getattribute__")))
    (ek0 : PySem.W.findIn K (.ref C0) "__getattr__" = some none)
    (ed0 : PySem.W.hasDictIn K C0 = true)
    (ea0 : PySem.W.findIn K (.ref C0) "__class__" = some (some (.builtin "object.__class__")))
    (em0 : PySem.W.mroIn K C0 (.type "object") = some true)
    (eg1 : PySem.W.findIn K (.ref C1) "__getattribute__" = some (some (.builtin "BaseException.__getattribute__")))
    (ek1 : PySem.W.findIn K (.ref C1) "__getattr__" = some none)
    (ed1 : PySem.W.hasDictIn K C1 = true)
    (ea1 : PySem.W.findIn K (.ref C1) "__class__" = some (some (.builtin "object.__class__")))
    (em1 : PySem.W.mroIn K C1 (.type "object") = some true)
    (eg2 : PySem.W.findIn K (.ref C2) "__getattribute__" = some (some (.builtin "BaseException.__getattribute__")))
    (ek2 : PySem.W.findIn K (.ref C2) "__getattr__" = some none)
    (ed2 : PySem.W.hasDictIn K C2 = true)
    (ea2 : PySem.W.findIn K (.ref C2) "__class__" = some (some (.builtin "object.__class__")))
    (em2 : PySem.W.mroIn K C2 (.type "object") = some true)
    (en : PySem.W.specialIn K (.builtin "object.__class__") "__get__" = some (some (.builtin "getset_descriptor.__get__")))
    (et : PySem.W.takesIn K (.builtin "object.__class__") = some true)
    (psi0_0 : PySem.W.subIn K (.ref CI0) (.ref Y0) = some true)
    (pni0_0 : (CI0 == Y0) = false)
    (ps2_0 : PySem.W.subIn K (.ref C2) (.ref Y0) = some true)
    (pn2_0 : (C2 == Y0) = false)
    (ps1_0 : PySem.W.subIn K (.ref C1) (.ref Y0) = some true)
    (pn1_0 : (C1 == Y0) = false)
    (ps0_0 : PySem.W.subIn K (.ref C0) (.ref Y0) = some true)
    (pn0_0 : (C0 == Y0) = false)
    (esi0 : PySem.W.subIn K (.ref CI0) (.ref CI0) = some true)
    (ps2_2 : PySem.W.subIn K (.ref C2) (.ref CI0) = some false)
    (pn2_2 : (C2 == CI0) = false)
    (ps1_2 : PySem.W.subIn K (.ref C1) (.ref CI0) = some false)
    (pn1_2 : (C1 == CI0) = false)
    (ps0_2 : PySem.W.subIn K (.ref C0) (.ref CI0) = some false)
    (pn0_2 : (C0 == CI0) = false)
    (psi0_3 : PySem.W.subIn K (.ref CI0) (.ref C0) = some false)
    (pni0_3 : (CI0 == C0) = false)
    (ps2_3 : PySem.W.subIn K (.ref C2) (.ref C0) = some false)
    (pn2_3 : (C2 == C0) = false)
    (ps1_3 : PySem.W.subIn K (.ref C1) (.ref C0) = some false)
    (pn1_3 : (C1 == C0) = false)
    (es0 : PySem.W.subIn K (.ref C0) (.ref C0) = some true)
    (psi0_4 : PySem.W.subIn K (.ref CI0) (.ref Y4) = some false)
    (pni0_4 : (CI0 == Y4) = false)
    (ps2_4 : PySem.W.subIn K (.ref C2) (.ref Y4) = some false)
    (pn2_4 : (C2 == Y4) = false)
    (ps1_4 : PySem.W.subIn K (.ref C1) (.ref Y4) = some false)
    (pn1_4 : (C1 == Y4) = false)
    (ps0_4 : PySem.W.subIn K (.ref C0) (.ref Y4) = some false)
    (pn0_4 : (C0 == Y4) = false)
    (psi0_5 : PySem.W.subIn K (.ref CI0) (.ref Y5) = some false)
    (pni0_5 : (CI0 == Y5) = false)
    (ps2_5 : PySem.W.subIn K (.ref C2) (.ref Y5) = some false)
    (pn2_5 : (C2 == Y5) = false)
    (ps1_5 : PySem.W.subIn K (.ref C1) (.ref Y5) = some false)
    (pn1_5 : (C1 == Y5) = false)
    (ps0_5 : PySem.W.subIn K (.ref C0) (.ref Y5) = some false)
    (pn0_5 : (C0 == Y5) = false)
    (psi0_6 : PySem.W.subIn K (.ref CI0) (.ref C2) = some false)
    (pni0_6 : (CI0 == C2) = false)
    (es2 : PySem.W.subIn K (.ref C2) (.ref C2) = some true)
    (ps1_6 : PySem.W.subIn K (.ref C1) (.ref C2) = some false)
    (pn1_6 : (C1 == C2) = false)
    (ps0_6 : PySem.W.subIn K (.ref C0) (.ref C2) = some false)
    (pn0_6 : (C0 == C2) = false)
    (psi0_7 : PySem.W.subIn K (.ref CI0) (.ref C1) = some false)
    (pni0_7 : (CI0 == C1) = false)
    (ps2_7 : PySem.W.subIn K (.ref C2) (.ref C1) = some false)
    (pn2_7 : (C2 == C1) = false)
    (es1 : PySem.W.subIn K (.ref C1) (.ref C1) = some true)
    (ps0_7 : PySem.W.subIn K (.ref C0) (.ref C1) = some false)
    (pn0_7 : (C0 == C1) = false)
    (psi0_8 : PySem.W.subIn K (.ref CI0) (.ref Y8) = some false)
    (pni0_8 : (CI0 == Y8) = false)
    (ps2_8 : PySem.W.subIn K (.ref C2) (.ref Y8) = some false)
    (pn2_8 : (C2 == Y8) = false)
    (ps1_8 : PySem.W.subIn K (.ref C1) (.ref Y8) = some false)
    (pn1_8 : (C1 == Y8) = false)
    (ps0_8 : PySem.W.subIn K (.ref C0) (.ref Y8) = some false)
    (pn0_8 : (C0 == Y8) = false)
    (psi0_9 : PySem.W.subIn K (.ref CI0) (.ref Y9) = some false)
    (pni0_9 : (CI0 == Y9) = false)
    (ps2_9 : PySem.W.subIn K (.ref C2) (.ref Y9) = some false)
    (pn2_9 : (C2 == Y9) = false)
    (ps1_9 : PySem.W.subIn K (.ref C1) (.ref Y9) = some false)
    (pn1_9 : (C1 == Y9) = false)
    (ps0_9 : PySem.W.subIn K (.ref C0) (.ref Y9) = some false)
    (pn0_9 : (C0 == Y9) = false)
    (psi0_10 : PySem.W.subIn K (.ref CI0) (.ref Y10) = some false)
    (pni0_10 : (CI0 == Y10) = false)
    (ps2_10 : PySem.W.subIn K (.ref C2) (.ref Y10) = some false)
    (pn2_10 : (C2 == Y10) = false)
    (ps1_10 : PySem.W.subIn K (.ref C1) (.ref Y10) = some false)
    (pn1_10 : (C1 == Y10) = false)
    (ps0_10 : PySem.W.subIn K (.ref C0) (.ref Y10) = some false)
    (pn0_10 : (C0 == Y10) = false)
    (psi0_11 : PySem.W.subIn K (.ref CI0) (.ref Y11) = some false)
    (pni0_11 : (CI0 == Y11) = false)
    (ps2_11 : PySem.W.subIn K (.ref C2) (.ref Y11) = some false)
    (pn2_11 : (C2 == Y11) = false)
    (ps1_11 : PySem.W.subIn K (.ref C1) (.ref Y11) = some false)
    (pn1_11 : (C1 == Y11) = false)
    (ps0_11 : PySem.W.subIn K (.ref C0) (.ref Y11) = some false)
    (pn0_11 : (C0 == Y11) = false)
    (psi0_12 : PySem.W.subIn K (.ref CI0) (.ref Y12) = some false)
    (pni0_12 : (CI0 == Y12) = false)
    (ps2_12 : PySem.W.subIn K (.ref C2) (.ref Y12) = some false)
    (pn2_12 : (C2 == Y12) = false)
    (ps1_12 : PySem.W.subIn K (.ref C1) (.ref Y12) = some false)
    (pn1_12 : (C1 == Y12) = false)
    (ps0_12 : PySem.W.subIn K (.ref C0) (.ref Y12) = some false)
    (pn0_12 : (C0 == Y12) = false)
    (psi0_13 : PySem.W.subIn K (.ref CI0) (.ref Y13) = some false)
    (pni0_13 : (CI0 == Y13) = false)
    (ps2_13 : PySem.W.subIn K (.ref C2) (.ref Y13) = some false)
    (pn2_13 : (C2 == Y13) = false)
    (ps1_13 : PySem.W.subIn K (.ref C1) (.ref Y13) = some false)
    (pn1_13 : (C1 == Y13) = false)
    (ps0_13 : PySem.W.subIn K (.ref C0) (.ref Y13) = some false)
    (pn0_13 : (C0 == Y13) = false)
    (psi0_14 : PySem.W.subIn K (.ref CI0) (.ref Y14) = some false)
    (pni0_14 : (CI0 == Y14) = false)
    (ps2_14 : PySem.W.subIn K (.ref C2) (.ref Y14) = some false)
    (pn2_14 : (C2 == Y14) = false)
    (ps1_14 : PySem.W.subIn K (.ref C1) (.ref Y14) = some false)
    (pn1_14 : (C1 == Y14) = false)
    (ps0_14 : PySem.W.subIn K (.ref C0) (.ref Y14) = some false)
    (pn0_14 : (C0 == Y14) = false) :
    ∃ fd : FuncData, (∀ (s : Shared) (v : Value), BindsTo s fd ⟨[v], []⟩ [("_law_script", v)]) ∧ ∀ base : Heap, K.In base → base.Ns mainGlobals mg → FnD l.prog w K mg base 49 fa fd ["_law_script"] c_law := by
  have e := hfa.symm.trans (PySem.W.mg_of X G a51)
  cases e
  have E0 : ExcC K C0 := ⟨eg0, ek0, xb0, ed0, ea0, en, et, em0⟩
  have E1 : ExcC K C1 := ⟨eg1, ek1, xb1, ed1, ea1, en, et, em1⟩
  have E2 : ExcC K C2 := ⟨eg2, ek2, xb2, ed2, ea2, en, et, em2⟩
  have EI0 : ExcC K CI0 := ⟨ieg0, iek0, ib0, ied0, iea0, en, et, iem0⟩
  have T : Bt K mg := ⟨PySem.W.mg_none_of X G z0, PySem.W.mg_none_of X G z1, PySem.W.mg_none_of X G z2, PySem.W.mg_none_of X G z3, PySem.W.mg_none_of X G z4, PySem.W.mg_none_of X G z5, PySem.W.mg_none_of X G z6, PySem.W.mg_none_of X G z7, PySem.W.mg_none_of X G z8, ⟨_, PySem.W.mg_of X G y0⟩, ⟨_, PySem.W.mg_of X G y1⟩, ⟨_, PySem.W.mg_of X G xg0, ⟨xe0, xk0, xb0, xt0⟩⟩, ⟨_, PySem.W.mg_of X G xg1, ⟨xe1, xk1, xb1, xt1⟩⟩, ⟨_, PySem.W.mg_of X G xg2, ⟨xe2, xk2, xb2, xt2⟩⟩, ⟨_, PySem.W.mg_of X G ig0, EI0, if0_most⟩, ⟨_, PySem.W.mg_of X G yg0, (errT_cons (err_own (PySem.W.mg_of X G xg0) E0 yb0 yd0 yt0 pn0_0 ps0_0) (errT_cons (err_own (PySem.W.mg_of X G xg1) E1 yb0 yd0 yt0 pn1_0 ps1_0) (errT_cons (err_own (PySem.W.mg_of X G xg2) E2 yb0 yd0 yt0 pn2_0 ps2_0) (errT_cons (err_own (PySem.W.mg_of X G ig0) EI0 yb0 yd0 yt0 pni0_0 psi0_0) errT_nil))))⟩, ⟨PySem.W.mg_none_of X G vg, (errT_cons (err_val (PySem.W.mg_of X G xg0) E0 vb vs0) (errT_cons (err_val (PySem.W.mg_of X G xg1) E1 vb vs1) (errT_cons (err_val (PySem.W.mg_of X G xg2) E2 vb vs2) (errT_cons (err_val (PySem.W.mg_of X G ig0) EI0 vb vsi0) errT_nil))))⟩, ⟨_, PySem.W.mg_of X G ig0, (errT_cons (err_own (PySem.W.mg_of X G xg0) E0 ib0 ied0 it0 pn0_2 ps0_2) (errT_cons (err_own (PySem.W.mg_of X G xg1) E1 ib0 ied0 it0 pn1_2 ps1_2) (errT_cons (err_own (PySem.W.mg_of X G xg2) E2 ib0 ied0 it0 pn2_2 ps2_2) (errT_cons (err_self (PySem.W.mg_of X G ig0) EI0 it0 esi0) errT_nil))))⟩, ⟨_, PySem.W.mg_of X G xg0, (errT_cons (err_self (PySem.W.mg_of X G xg0) E0 xt0 es0) (errT_cons (err_own (PySem.W.mg_of X G xg1) E1 xb0 ed0 xt0 pn1_3 ps1_3) (errT_cons (err_own (PySem.W.mg_of X G xg2) E2 xb0 ed0 xt0 pn2_3 ps2_3) (errT_cons (err_own (PySem.W.mg_of X G ig0) EI0 xb0 ed0 xt0 pni0_3 psi0_3) errT_nil))))⟩, ⟨_, PySem.W.mg_of X G yg4, (errT_cons (err_own (PySem.W.mg_of X G xg0) E0 yb4 yd4 yt4 pn0_4 ps0_4) (errT_cons (err_own (PySem.W.mg_of X G xg1) E1 yb4 yd4 yt4 pn1_4 ps1_4) (errT_cons (err_own (PySem.W.mg_of X G xg2) E2 yb4 yd4 yt4 pn2_4 ps2_4) (errT_cons (err_own (PySem.W.mg_of X G ig0) EI0 yb4 yd4 yt4 pni0_4 psi0_4) errT_nil))))⟩, ⟨_, PySem.W.mg_of X G yg5, (errT_cons (err_own (PySem.W.mg_of X G xg0) E0 yb5 yd5 yt5 pn0_5 ps0_5) (errT_cons (err_own (PySem.W.mg_of X G xg1) E1 yb5 yd5 yt5 pn1_5 ps1_5) (errT_cons (err_own (PySem.W.mg_of X G xg2) E2 yb5 yd5 yt5 pn2_5 ps2_5) (errT_cons (err_own (PySem.W.mg_of X G ig0) EI0 yb5 yd5 yt5 pni0_5 psi0_5) errT_nil))))⟩, ⟨_, PySem.W.mg_of X G xg2, (errT_cons (err_own (PySem.W.mg_of X G xg0) E0 xb2 ed2 xt2 pn0_6 ps0_6) (errT_cons (err_own (PySem.W.mg_of X G xg1) E1 xb2 ed2 xt2 pn1_6 ps1_6) (errT_cons (err_self (PySem.W.mg_of X G xg2) E2 xt2 es2) (errT_cons (err_own (PySem.W.mg_of X G ig0) EI0 xb2 ed2 xt2 pni0_6 psi0_6) errT_nil))))⟩, ⟨_, PySem.W.mg_of X G xg1, (errT_cons (err_own (PySem.W.mg_of X G xg0) E0 xb1 ed1 xt1 pn0_7 ps0_7) (errT_cons (err_self (PySem.W.mg_of X G xg1) E1 xt1 es1) (errT_cons (err_own (PySem.W.mg_of X G xg2) E2 xb1 ed1 xt1 pn2_7 ps2_7) (errT_cons (err_own (PySem.W.mg_of X G ig0) EI0 xb1 ed1 xt1 pni0_7 psi0_7) errT_nil))))⟩, ⟨_, PySem.W.mg_of X G yg8, (errT_cons (err_own (PySem.W.mg_of X G xg0) E0 yb8 yd8 yt8 pn0_8 ps0_8) (errT_cons (err_own (PySem.W.mg_of X G xg1) E1 yb8 yd8 yt8 pn1_8 ps1_8) (errT_cons (err_own (PySem.W.mg_of X G xg2) E2 yb8 yd8 yt8 pn2_8 ps2_8) (errT_cons (err_own (PySem.W.mg_of X G ig0) EI0 yb8 yd8 yt8 pni0_8 psi0_8) errT_nil))))⟩, ⟨_, PySem.W.mg_of X G yg9, (errT_cons (err_own (PySem.W.mg_of X G xg0) E0 yb9 yd9 yt9 pn0_9 ps0_9) (errT_cons (err_own (PySem.W.mg_of X G xg1) E1 yb9 yd9 yt9 pn1_9 ps1_9) (errT_cons (err_own (PySem.W.mg_of X G xg2) E2 yb9 yd9 yt9 pn2_9 ps2_9) (errT_cons (err_own (PySem.W.mg_of X G ig0) EI0 yb9 yd9 yt9 pni0_9 psi0_9) errT_nil))))⟩, ⟨_, PySem.W.mg_of X G yg10, (errT_cons (err_own (PySem.W.mg_of X G xg0) E0 yb10 yd10 yt10 pn0_10 ps0_10) (errT_cons (err_own (PySem.W.mg_of X G xg1) E1 yb10 yd10 yt10 pn1_10 ps1_10) (errT_cons (err_own (PySem.W.mg_of X G xg2) E2 yb10 yd10 yt10 pn2_10 ps2_10) (errT_cons (err_own (PySem.W.mg_of X G ig0) EI0 yb10 yd10 yt10 pni0_10 psi0_10) errT_nil))))⟩, ⟨_, PySem.W.mg_of X G yg11, (errT_cons (err_own (PySem.W.mg_of X G xg0) E0 yb11 yd11 yt11 pn0_11 ps0_11) (errT_cons (err_own (PySem.W.mg_of X G xg1) E1 yb11 yd11 yt11 pn1_11 ps1_11) (errT_cons (err_own (PySem.W.mg_of X G xg2) E2 yb11 yd11 yt11 pn2_11 ps2_11) (errT_cons (err_own (PySem.W.mg_of X G ig0) EI0 yb11 yd11 yt11 pni0_11 psi0_11) errT_nil))))⟩, ⟨_, PySem.W.mg_of X G yg12, (errT_cons (err_own (PySem.W.mg_of X G xg0) E0 yb12 yd12 yt12 pn0_12 ps0_12) (errT_cons (err_own (PySem.W.mg_of X G xg1) E1 yb12 yd12 yt12 pn1_12 ps1_12) (errT_cons (err_own (PySem.W.mg_of X G xg2) E2 yb12 yd12 yt12 pn2_12 ps2_12) (errT_cons (err_own (PySem.W.mg_of X G ig0) EI0 yb12 yd12 yt12 pni0_12 psi0_12) errT_nil))))⟩, ⟨_, PySem.W.mg_of X G yg13, (errT_cons (err_own (PySem.W.mg_of X G xg0) E0 yb13 yd13 yt13 pn0_13 ps0_13) (errT_cons (err_own (PySem.W.mg_of X G xg1) E1 yb13 yd13 yt13 pn1_13 ps1_13) (errT_cons (err_own (PySem.W.mg_of X G xg2) E2 yb13 yd13 yt13 pn2_13 ps2_13) (errT_cons (err_own (PySem.W.mg_of X G ig0) EI0 yb13 yd13 yt13 pni0_13 psi0_13) errT_nil))))⟩, ⟨_, PySem.W.mg_of X G yg14, (errT_cons (err_own (PySem.W.mg_of X G xg0) E0 yb14 yd14 yt14 pn0_14 ps0_14) (errT_cons (err_own (PySem.W.mg_of X G xg1) E1 yb14 yd14 yt14 pn1_14 ps1_14) (errT_cons (err_own (PySem.W.mg_of X G xg2) E2 yb14 yd14 yt14 pn2_14 ps2_14) (errT_cons (err_own (PySem.W.mg_of X G ig0) EI0 yb14 yd14 yt14 pni0_14 psi0_14) errT_nil))))⟩⟩
  refine ⟨PySem.W.fnOf "law" "law" (defArgs s_law) (defBody s_law) (defScope s_law) .none kV51 dc51 pm51 an51 cd51 ct51, fun s v => .of_eq rfl, fun base _ _ => ?_⟩
  have FI0 := fun_mk (st := s_init_TooGreat) im0 iq0 ip0
  have BI0 := FI0.binds (ps := ["self", "most"]) fun _ _ _ _ _ _ us hl => match us, hl with | [_, _], _ => rfl
  have I_TooGreat : ∃ C, InitC l.prog w K mg base "TooGreat" ["most"] C := ⟨CI0, PySem.W.mg_of X G ig0, ⟨oex_cls il0 ied0, is0, ib0, it0, ik0⟩, (fun n hn => by simp only [List.mem_cons, List.not_mem_nil, or_false] at hn; rcases hn with rfl; exact if0_most), gI0, _, _, ii0, ij0, ok_init_TooGreat FI0, BI0⟩
  have F0 := fun_mk (st := s_is_int) l0 q0 k0
  have B0 := F0.binds (ps := ["thing", "least", "most"]) fun _ _ _ _ _ _ us hl => match us, hl with | [_, _, _], _ => rfl
  have G0 : FnD l.prog w K mg base 1 f0 _ _ c_is_int := ok_is_int F0 T 
  have D_is_int : DefOk l.prog w K mg base "is_int" 1 ["thing", "least", "most"] c_is_int := ⟨_, _, G0, PySem.W.mg_of X G a0, F0.kp, B0⟩
  have F1 := fun_mk (st := s_in_order) l1 q1 k1
  have B1 := F1.binds (ps := ["a", "b"]) fun _ _ _ _ _ _ us hl => match us, hl with | [_, _], _ => rfl
  have G1 : FnD l.prog w K mg base 1 f1 _ _ c_in_order := ok_in_order F1 T 
  have D_in_order : DefOk l.prog w K mg base "in_order" 1 ["a", "b"] c_in_order := ⟨_, _, G1, PySem.W.mg_of X G a1, F1.kp, B1⟩
  have F2 := fun_mk (st := s_counts_of) l2 q2 k2
  have B2 := F2.binds (ps := ["web"]) fun _ _ _ _ _ _ us hl => match us, hl with | [_], _ => rfl
  have G2 : FnD l.prog w K mg base 1 f2 _ _ c_counts_of := ok_counts_of F2 T 
  have D_counts_of : DefOk l.prog w K mg base "counts_of" 1 ["web"] c_counts_of := ⟨_, _, G2, PySem.W.mg_of X G a2, F2.kp, B2⟩
  have F3 := fun_mk (st := s_beside) l3 q3 k3
  have B3 := F3.binds (ps := ["web", "place"]) fun _ _ _ _ _ _ us hl => match us, hl with | [_, _], _ => rfl
  have G3 : FnD l.prog w K mg base 1 f3 _ _ c_beside := ok_beside F3 T 
  have D_beside : DefOk l.prog w K mg base "beside" 1 ["web", "place"] c_beside := ⟨_, _, G3, PySem.W.mg_of X G a3, F3.kp, B3⟩
  have F4 := fun_mk (st := s_all_tied) l4 q4 k4
  have B4 := F4.binds (ps := ["many"]) fun _ _ _ _ _ _ us hl => match us, hl with | [_], _ => rfl
  have G4 : FnD l.prog w K mg base 1 f4 _ _ c_all_tied := ok_all_tied F4 T 
  have D_all_tied : DefOk l.prog w K mg base "all_tied" 1 ["many"] c_all_tied := ⟨_, _, G4, PySem.W.mg_of X G a4, F4.kp, B4⟩
  have F5 := fun_mk (st := s_told_ring) l5 q5 k5
  have B5 := F5.binds (ps := ["ring"]) fun _ _ _ _ _ _ us hl => match us, hl with | [_], _ => rfl
  have G5 : FnD l.prog w K mg base 1 f5 _ _ c_told_ring := ok_told_ring F5 T 
  have D_told_ring : DefOk l.prog w K mg base "told_ring" 1 ["ring"] c_told_ring := ⟨_, _, G5, PySem.W.mg_of X G a5, F5.kp, B5⟩
  have F6 := fun_mk (st := s_have_ring) l6 q6 k6
  have B6 := F6.binds (ps := ["web", "ties"]) fun _ _ _ _ _ _ us hl => match us, hl with | [_, _], _ => rfl
  have G6 : FnD l.prog w K mg base 1 f6 _ _ c_have_ring := ok_have_ring F6 T 
  have D_have_ring : DefOk l.prog w K mg base "have_ring" 1 ["web", "ties"] c_have_ring := ⟨_, _, G6, PySem.W.mg_of X G a6, F6.kp, B6⟩
  have F7 := fun_mk (st := s_at_place) l7 q7 k7
  have B7 := F7.binds (ps := ["ties", "place"]) fun _ _ _ _ _ _ us hl => match us, hl with | [_, _], _ => rfl
  have G7 : FnD l.prog w K mg base 1 f7 _ _ c_at_place := ok_at_place F7 T 
  have D_at_place : DefOk l.prog w K mg base "at_place" 1 ["ties", "place"] c_at_place := ⟨_, _, G7, PySem.W.mg_of X G a7, F7.kp, B7⟩
  have F8 := fun_mk (st := s_lots_of) l8 q8 k8
  have B8 := F8.binds (ps := ["many"]) fun _ _ _ _ _ _ us hl => match us, hl with | [_], _ => rfl
  have G8 : FnD l.prog w K mg base 1 f8 _ _ c_lots_of := ok_lots_of F8 T 
  have D_lots_of : DefOk l.prog w K mg base "lots_of" 1 ["many"] c_lots_of := ⟨_, _, G8, PySem.W.mg_of X G a8, F8.kp, B8⟩
  have F9 := fun_mk (st := s_with_put) l9 q9 k9
  have B9 := F9.binds (ps := ["web", "put"]) fun _ _ _ _ _ _ us hl => match us, hl with | [_, _], _ => rfl
  have G9 : FnD l.prog w K mg base 1 f9 _ _ c_with_put := ok_with_put F9 T 
  have D_with_put : DefOk l.prog w K mg base "with_put" 1 ["web", "put"] c_with_put := ⟨_, _, G9, PySem.W.mg_of X G a9, F9.kp, B9⟩
  have F10 := fun_mk (st := s_from_put) l10 q10 k10
  have B10 := F10.binds (ps := ["ring", "put"]) fun _ _ _ _ _ _ us hl => match us, hl with | [_, _], _ => rfl
  have G10 : FnD l.prog w K mg base 1 f10 _ _ c_from_put := ok_from_put F10 T 
  have D_from_put : DefOk l.prog w K mg base "from_put" 1 ["ring", "put"] c_from_put := ⟨_, _, G10, PySem.W.mg_of X G a10, F10.kp, B10⟩
  have F11 := fun_mk (st := s_held_beside) l11 q11 k11
  have B11 := F11.binds (ps := ["held", "place", "row"]) fun _ _ _ _ _ _ us hl => match us, hl with | [_, _, _], _ => rfl
  have G11 : FnD l.prog w K mg base 1 f11 _ _ c_held_beside := ok_held_beside F11 T 
  have D_held_beside : DefOk l.prog w K mg base "held_beside" 1 ["held", "place", "row"] c_held_beside := ⟨_, _, G11, PySem.W.mg_of X G a11, F11.kp, B11⟩
  have F12 := fun_mk (st := s_l_cell_at) l12 q12 k12
  have B12 := F12.binds (ps := ["_law_script", "_law_k"]) fun _ _ _ _ _ _ us hl => match us, hl with | [_, _], _ => rfl
  have G12 : FnD l.prog w K mg base 1 f12 _ _ c_l_cell_at := ok_l_cell_at F12 T 
  have D_l_cell_at : DefOk l.prog w K mg base "_law_cell_at" 1 ["_law_script", "_law_k"] c_l_cell_at := ⟨_, _, G12, PySem.W.mg_of X G a12, F12.kp, B12⟩
  have F13 := fun_mk (st := s_l_stream) l13 q13 k13
  have B13 := F13.binds (ps := ["_law_cell", "_law_many"]) fun _ _ _ _ _ _ us hl => match us, hl with | [_, _], _ => rfl
  have G13 : FnD l.prog w K mg base 1 f13 _ _ c_l_stream := ok_l_stream F13 T 
  have D_l_stream : DefOk l.prog w K mg base "_law_stream" 1 ["_law_cell", "_law_many"] c_l_stream := ⟨_, _, G13, PySem.W.mg_of X G a13, F13.kp, B13⟩
  have F14 := fun_mk (st := s_l_next) l14 q14 k14
  have B14 := F14.binds (ps := ["_law_xs", "_law_many"]) fun _ _ _ _ _ _ us hl => match us, hl with | [_, _], _ => rfl
  have G14 : FnD l.prog w K mg base 1 f14 _ _ c_l_next := ok_l_next F14 T 
  have D_l_next : DefOk l.prog w K mg base "_law_next" 1 ["_law_xs", "_law_many"] c_l_next := ⟨_, _, G14, PySem.W.mg_of X G a14, F14.kp, B14⟩
  have F15 := fun_mk (st := s_l_at) l15 q15 k15
  have B15 := F15.binds (ps := ["_law_ties", "_law_place"]) fun _ _ _ _ _ _ us hl => match us, hl with | [_, _], _ => rfl
  have G15 : FnD l.prog w K mg base 1 f15 _ _ c_l_at := ok_l_at F15 T 
  have D_l_at : DefOk l.prog w K mg base "_law_at" 1 ["_law_ties", "_law_place"] c_l_at := ⟨_, _, G15, PySem.W.mg_of X G a15, F15.kp, B15⟩
  have F16 := fun_mk (st := s_l_ring_or_five) l16 q16 k16
  have B16 := F16.binds (ps := ["_law_many"]) fun _ _ _ _ _ _ us hl => match us, hl with | [_], _ => rfl
  have G16 : FnD l.prog w K mg base 1 f16 _ _ c_l_ring_or_five := ok_l_ring_or_five F16 T 
  have D_l_ring_or_five : DefOk l.prog w K mg base "_law_ring_or_five" 1 ["_law_many"] c_l_ring_or_five := ⟨_, _, G16, PySem.W.mg_of X G a16, F16.kp, B16⟩
  have F17 := fun_mk (st := s_is_tied) l17 q17 k17
  have B17 := F17.binds (ps := ["web", "a", "b"]) fun _ _ _ _ _ _ us hl => match us, hl with | [_, _, _], _ => rfl
  have G17 : FnD l.prog w K mg base 2 f17 _ _ c_is_tied := ok_is_tied F17 T 
  have D_is_tied : DefOk l.prog w K mg base "is_tied" 2 ["web", "a", "b"] c_is_tied := ⟨_, _, G17, PySem.W.mg_of X G a17, F17.kp, B17⟩
  have F18 := fun_mk (st := s_are_places) l18 q18 k18
  have B18 := F18.binds (ps := ["web", "thing"]) fun _ _ _ _ _ _ us hl => match us, hl with | [_, _], _ => rfl
  have G18 : FnD l.prog w K mg base 2 f18 _ _ c_are_places := ok_are_places F18 T D_is_int
  have D_are_places : DefOk l.prog w K mg base "are_places" 2 ["web", "thing"] c_are_places := ⟨_, _, G18, PySem.W.mg_of X G a18, F18.kp, B18⟩
  have F19 := fun_mk (st := s_ring_ties) l19 q19 k19
  have B19 := F19.binds (ps := ["ring"]) fun _ _ _ _ _ _ us hl => match us, hl with | [_], _ => rfl
  have G19 : FnD l.prog w K mg base 2 f19 _ _ c_ring_ties := ok_ring_ties F19 T 
  have D_ring_ties : DefOk l.prog w K mg base "ring_ties" 2 ["ring"] c_ring_ties := ⟨_, _, G19, PySem.W.mg_of X G a19, F19.kp, B19⟩
  have F20 := fun_mk (st := s_is_tie) l20 q20 k20
  have B20 := F20.binds (ps := ["web", "thing"]) fun _ _ _ _ _ _ us hl => match us, hl with | [_, _], _ => rfl
  have G20 : FnD l.prog w K mg base 2 f20 _ _ c_is_tie := ok_is_tie F20 T D_is_int
  have D_is_tie : DefOk l.prog w K mg base "is_tie" 2 ["web", "thing"] c_is_tie := ⟨_, _, G20, PySem.W.mg_of X G a20, F20.kp, B20⟩
  have F21 := fun_mk (st := s_piece_of) l21 q21 k21
  have B21 := F21.binds (ps := ["web", "left", "start"]) fun _ _ _ _ _ _ us hl => match us, hl with | [_, _, _], _ => rfl
  have G21 : FnD l.prog w K mg base 2 f21 _ _ c_piece_of := ok_piece_of F21 T D_beside
  have D_piece_of : DefOk l.prog w K mg base "piece_of" 2 ["web", "left", "start"] c_piece_of := ⟨_, _, G21, PySem.W.mg_of X G a21, F21.kp, B21⟩
  have F22 := fun_mk (st := s_open_ties) l22 q22 k22
  have B22 := F22.binds (ps := ["reading"]) fun _ _ _ _ _ _ us hl => match us, hl with | [_], _ => rfl
  have G22 : FnD l.prog w K mg base 2 f22 _ _ c_open_ties := ok_open_ties F22 T 
  have D_open_ties : DefOk l.prog w K mg base "open_ties" 2 ["reading"] c_open_ties := ⟨_, _, G22, PySem.W.mg_of X G a22, F22.kp, B22⟩
  have F23 := fun_mk (st := s_taken_round) l23 q23 k23
  have B23 := F23.binds (ps := ["reading", "place"]) fun _ _ _ _ _ _ us hl => match us, hl with | [_, _], _ => rfl
  have G23 : FnD l.prog w K mg base 2 f23 _ _ c_taken_round := ok_taken_round F23 T 
  have D_taken_round : DefOk l.prog w K mg base "taken_round" 2 ["reading", "place"] c_taken_round := ⟨_, _, G23, PySem.W.mg_of X G a23, F23.kp, B23⟩
  have F24 := fun_mk (st := s_place_paper) l24 q24 k24
  have B24 := F24.binds (ps := ["reading"]) fun _ _ _ _ _ _ us hl => match us, hl with | [_], _ => rfl
  have G24 : FnD l.prog w K mg base 2 f24 _ _ c_place_paper := ok_place_paper F24 T 
  have D_place_paper : DefOk l.prog w K mg base "place_paper" 2 ["reading"] c_place_paper := ⟨_, _, G24, PySem.W.mg_of X G a24, F24.kp, B24⟩
  have F25 := fun_mk (st := s_is_put) l25 q25 k25
  have B25 := F25.binds (ps := ["web", "more", "thing"]) fun _ _ _ _ _ _ us hl => match us, hl with | [_, _, _], _ => rfl
  have G25 : FnD l.prog w K mg base 2 f25 _ _ c_is_put := ok_is_put F25 T 
  have D_is_put : DefOk l.prog w K mg base "is_put" 2 ["web", "more", "thing"] c_is_put := ⟨_, _, G25, PySem.W.mg_of X G a25, F25.kp, B25⟩
  have F26 := fun_mk (st := s_put_ahead) l26 q26 k26
  have B26 := F26.binds (ps := ["web", "more"]) fun _ _ _ _ _ _ us hl => match us, hl with | [_, _], _ => rfl
  have G26 : FnD l.prog w K mg base 2 f26 _ _ c_put_ahead := ok_put_ahead F26 T D_counts_of
  have D_put_ahead : DefOk l.prog w K mg base "put_ahead" 2 ["web", "more"] c_put_ahead := ⟨_, _, G26, PySem.W.mg_of X G a26, F26.kp, B26⟩
  have F27 := fun_mk (st := s_web_with) l27 q27 k27
  have B27 := F27.binds (ps := ["web", "puts"]) fun _ _ _ _ _ _ us hl => match us, hl with | [_, _], _ => rfl
  have G27 : FnD l.prog w K mg base 2 f27 _ _ c_web_with := ok_web_with F27 T 
  have D_web_with : DefOk l.prog w K mg base "web_with" 2 ["web", "puts"] c_web_with := ⟨_, _, G27, PySem.W.mg_of X G a27, F27.kp, B27⟩
  have F28 := fun_mk (st := s_turned) l28 q28 k28
  have B28 := F28.binds (ps := ["web", "held", "row"]) fun _ _ _ _ _ _ us hl => match us, hl with | [_, _, _], _ => rfl
  have G28 : FnD l.prog w K mg base 2 f28 _ _ c_turned := ok_turned F28 T 
  have D_turned : DefOk l.prog w K mg base "turned" 2 ["web", "held", "row"] c_turned := ⟨_, _, G28, PySem.W.mg_of X G a28, F28.kp, B28⟩
  have F29 := fun_mk (st := s_easy_ring) l29 q29 k29
  have B29 := F29.binds (ps := ["many", "held"]) fun _ _ _ _ _ _ us hl => match us, hl with | [_, _], _ => rfl
  have G29 : FnD l.prog w K mg base 2 f29 _ _ c_easy_ring := ok_easy_ring F29 T 
  have D_easy_ring : DefOk l.prog w K mg base "easy_ring" 2 ["many", "held"] c_easy_ring := ⟨_, _, G29, PySem.W.mg_of X G a29, F29.kp, B29⟩
  have F30 := fun_mk (st := s_l_web) l30 q30 k30
  have B30 := F30.binds (ps := ["_law_xs", "_law_least", "_law_most"]) fun _ _ _ _ _ _ us hl => match us, hl with | [_, _, _], _ => rfl
  have G30 : FnD l.prog w K mg base 2 f30 _ _ c_l_web := ok_l_web F30 T D_l_next
  have D_l_web : DefOk l.prog w K mg base "_law_web" 2 ["_law_xs", "_law_least", "_law_most"] c_l_web := ⟨_, _, G30, PySem.W.mg_of X G a30, F30.kp, B30⟩
  have F31 := fun_mk (st := s_l_poor) l31 q31 k31
  have B31 := F31.binds (ps := ["_law_xs"]) fun _ _ _ _ _ _ us hl => match us, hl with | [_], _ => rfl
  have G31 : FnD l.prog w K mg base 2 f31 _ _ c_l_poor := ok_l_poor F31 T D_l_next
  have D_l_poor : DefOk l.prog w K mg base "_law_poor" 2 ["_law_xs"] c_l_poor := ⟨_, _, G31, PySem.W.mg_of X G a31, F31.kp, B31⟩
  have F32 := fun_mk (st := s_l_wrong_held) l32 q32 k32
  have B32 := F32.binds (ps := ["_law_web_here"]) fun _ _ _ _ _ _ us hl => match us, hl with | [_], _ => rfl
  have G32 : FnD l.prog w K mg base 2 f32 _ _ c_l_wrong_held := ok_l_wrong_held F32 T D_l_at
  have D_l_wrong_held : DefOk l.prog w K mg base "_law_wrong_held" 2 ["_law_web_here"] c_l_wrong_held := ⟨_, _, G32, PySem.W.mg_of X G a32, F32.kp, B32⟩
  have F33 := fun_mk (st := s_is_way) l33 q33 k33
  have B33 := F33.binds (ps := ["web", "thing"]) fun _ _ _ _ _ _ us hl => match us, hl with | [_, _], _ => rfl
  have G33 : FnD l.prog w K mg base 3 f33 _ _ c_is_way := ok_is_way F33 T 
  have D_is_way : DefOk l.prog w K mg base "is_way" 3 ["web", "thing"] c_is_way := ⟨_, _, G33, PySem.W.mg_of X G a33, F33.kp, B33⟩
  have F34 := fun_mk (st := s_is_held) l34 q34 k34
  have B34 := F34.binds (ps := ["web", "thing"]) fun _ _ _ _ _ _ us hl => match us, hl with | [_, _], _ => rfl
  have G34 : FnD l.prog w K mg base 3 f34 _ _ c_is_held := ok_is_held F34 T D_is_tie D_have_ring
  have D_is_held : DefOk l.prog w K mg base "is_held" 3 ["web", "thing"] c_is_held := ⟨_, _, G34, PySem.W.mg_of X G a34, F34.kp, B34⟩
  have F35 := fun_mk (st := s_pieces) l35 q35 k35
  have B35 := F35.binds (ps := ["web", "lot"]) fun _ _ _ _ _ _ us hl => match us, hl with | [_, _], _ => rfl
  have G35 : FnD l.prog w K mg base 3 f35 _ _ c_pieces := ok_pieces F35 T D_piece_of
  have D_pieces : DefOk l.prog w K mg base "pieces" 3 ["web", "lot"] c_pieces := ⟨_, _, G35, PySem.W.mg_of X G a35, F35.kp, B35⟩
  have F36 := fun_mk (st := s_rounds_of) l36 q36 k36
  have B36 := F36.binds (ps := ["reading"]) fun _ _ _ _ _ _ us hl => match us, hl with | [_], _ => rfl
  have G36 : FnD l.prog w K mg base 3 f36 _ _ c_rounds_of := ok_rounds_of F36 T 
  have D_rounds_of : DefOk l.prog w K mg base "rounds_of" 3 ["reading"] c_rounds_of := ⟨_, _, G36, PySem.W.mg_of X G a36, F36.kp, B36⟩
  have F37 := fun_mk (st := s_tie_at) l37 q37 k37
  have B37 := F37.binds (ps := ["reading", "place"]) fun _ _ _ _ _ _ us hl => match us, hl with | [_, _], _ => rfl
  have G37 : FnD l.prog w K mg base 3 f37 _ _ c_tie_at := ok_tie_at F37 T 
  have D_tie_at : DefOk l.prog w K mg base "tie_at" 3 ["reading", "place"] c_tie_at := ⟨_, _, G37, PySem.W.mg_of X G a37, F37.kp, B37⟩
  have F38 := fun_mk (st := s_are_puts) l38 q38 k38
  have B38 := F38.binds (ps := ["web", "more", "thing"]) fun _ _ _ _ _ _ us hl => match us, hl with | [_, _, _], _ => rfl
  have G38 : FnD l.prog w K mg base 3 f38 _ _ c_are_puts := ok_are_puts F38 T 
  have D_are_puts : DefOk l.prog w K mg base "are_puts" 3 ["web", "more", "thing"] c_are_puts := ⟨_, _, G38, PySem.W.mg_of X G a38, F38.kp, B38⟩
  have F39 := fun_mk (st := s_closed) l39 q39 k39
  have B39 := F39.binds (ps := ["web", "more"]) fun _ _ _ _ _ _ us hl => match us, hl with | [_, _], _ => rfl
  have G39 : FnD l.prog w K mg base 3 f39 _ _ c_closed := ok_closed F39 T D_put_ahead D_with_put
  have D_closed : DefOk l.prog w K mg base "closed" 3 ["web", "more"] c_closed := ⟨_, _, G39, PySem.W.mg_of X G a39, F39.kp, B39⟩
  have F40 := fun_mk (st := s_over) l40 q40 k40
  have B40 := F40.binds (ps := ["web", "held", "put", "ring"]) fun _ _ _ _ _ _ us hl => match us, hl with | [_, _, _, _], _ => rfl
  have G40 : FnD l.prog w K mg base 3 f40 _ _ c_over := ok_over F40 T 
  have D_over : DefOk l.prog w K mg base "over" 3 ["web", "held", "put", "ring"] c_over := ⟨_, _, G40, PySem.W.mg_of X G a40, F40.kp, B40⟩
  have F41 := fun_mk (st := s_is_ring) l41 q41 k41
  have B41 := F41.binds (ps := ["web", "thing"]) fun _ _ _ _ _ _ us hl => match us, hl with | [_, _], _ => rfl
  have G41 : FnD l.prog w K mg base 4 f41 _ _ c_is_ring := ok_is_ring F41 T 
  have D_is_ring : DefOk l.prog w K mg base "is_ring" 4 ["web", "thing"] c_is_ring := ⟨_, _, G41, PySem.W.mg_of X G a41, F41.kp, B41⟩
  have F42 := fun_mk (st := s_is_bar) l42 q42 k42
  have B42 := F42.binds (ps := ["web", "thing"]) fun _ _ _ _ _ _ us hl => match us, hl with | [_, _], _ => rfl
  have G42 : FnD l.prog w K mg base 4 f42 _ _ c_is_bar := ok_is_bar F42 T D_are_places D_pieces
  have D_is_bar : DefOk l.prog w K mg base "is_bar" 4 ["web", "thing"] c_is_bar := ⟨_, _, G42, PySem.W.mg_of X G a42, F42.kp, B42⟩
  have F43 := fun_mk (st := s_next_tie) l43 q43 k43
  have B43 := F43.binds (ps := ["reading"]) fun _ _ _ _ _ _ us hl => match us, hl with | [_], _ => rfl
  have G43 : FnD l.prog w K mg base 4 f43 _ _ c_next_tie := ok_next_tie F43 T 
  have D_next_tie : DefOk l.prog w K mg base "next_tie" 4 ["reading"] c_next_tie := ⟨_, _, G43, PySem.W.mg_of X G a43, F43.kp, B43⟩
  have F44 := fun_mk (st := s_is_whole_ring) l44 q44 k44
  have B44 := F44.binds (ps := ["web", "held", "thing"]) fun _ _ _ _ _ _ us hl => match us, hl with | [_, _, _], _ => rfl
  have G44 : FnD l.prog w K mg base 5 f44 _ _ c_is_whole_ring := ok_is_whole_ring F44 T 
  have D_is_whole_ring : DefOk l.prog w K mg base "is_whole_ring" 5 ["web", "held", "thing"] c_is_whole_ring := ⟨_, _, G44, PySem.W.mg_of X G a44, F44.kp, B44⟩
  have F45 := fun_mk (st := s_led_back) l45 q45 k45
  have B45 := F45.binds (ps := ["web", "held", "puts", "ring"]) fun _ _ _ _ _ _ us hl => match us, hl with | [_, _, _, _], _ => rfl
  have G45 : FnD l.prog w K mg base 6 f45 _ _ c_led_back := ok_led_back F45 T 
  have D_led_back : DefOk l.prog w K mg base "led_back" 6 ["web", "held", "puts", "ring"] c_led_back := ⟨_, _, G45, PySem.W.mg_of X G a45, F45.kp, B45⟩
  have F46 := fun_mk (st := s_looked_at) l46 q46 k46
  have B46 := F46.binds (ps := ["reading"]) fun _ _ _ _ _ _ us hl => match us, hl with | [_], _ => rfl
  have G46 : FnD l.prog w K mg base 45 f46 _ _ c_looked_at := ok_looked_at F46 T 
  have D_looked_at : DefOk l.prog w K mg base "looked_at" 45 ["reading"] c_looked_at := ⟨_, _, G46, PySem.W.mg_of X G a46, F46.kp, B46⟩
  have F47 := fun_mk (st := s_by_cases) l47 q47 k47
  have B47 := F47.binds (ps := ["web", "held"]) fun _ _ _ _ _ _ us hl => match us, hl with | [_, _], _ => rfl
  have G47 : FnD l.prog w K mg base 46 f47 _ _ c_by_cases := ok_by_cases F47 T D_is_held D_lots_of D_is_bar D_looked_at I_TooGreat
  have D_by_cases : DefOk l.prog w K mg base "by_cases" 46 ["web", "held"] c_by_cases := ⟨_, _, G47, PySem.W.mg_of X G a47, F47.kp, B47⟩
  have F48 := fun_mk (st := s_ask) l48 q48 k48
  have B48 := F48.binds (ps := ["web", "held"]) fun _ _ _ _ _ _ us hl => match us, hl with | [_, _], _ => rfl
  have G48 : FnD l.prog w K mg base 47 f48 _ _ c_ask := ok_ask F48 T D_is_held D_closed D_all_tied D_led_back D_easy_ring D_by_cases
  have D_ask : DefOk l.prog w K mg base "ask" 47 ["web", "held"] c_ask := ⟨_, _, G48, PySem.W.mg_of X G a48, F48.kp, B48⟩
  have F49 := fun_mk (st := s_l_no_held) l49 q49 k49
  have B49 := F49.binds (ps := ["_law_web_here", "_law_thing", "_law_by_closing"]) fun _ _ _ _ _ _ us hl => match us, hl with | [_, _, _], _ => rfl
  have G49 : FnD l.prog w K mg base 48 f49 _ _ c_l_no_held := ok_l_no_held F49 T D_ask D_by_cases
  have D_l_no_held : DefOk l.prog w K mg base "_law_no_held" 48 ["_law_web_here", "_law_thing", "_law_by_closing"] c_l_no_held := ⟨_, _, G49, PySem.W.mg_of X G a49, F49.kp, B49⟩
  have F50 := fun_mk (st := s_l_too_great) l50 q50 k50
  have B50 := F50.binds (ps := ["_law_web_here", "_law_held", "_law_by_closing"]) fun _ _ _ _ _ _ us hl => match us, hl with | [_, _, _], _ => rfl
  have G50 : FnD l.prog w K mg base 48 f50 _ _ c_l_too_great := ok_l_too_great F50 T D_ask D_by_cases
  have D_l_too_great : DefOk l.prog w K mg base "_law_too_great" 48 ["_law_web_here", "_law_held", "_law_by_closing"] c_l_too_great := ⟨_, _, G50, PySem.W.mg_of X G a50, F50.kp, B50⟩
  have F51 := fun_mk (st := s_law) l51 q51 k51
  have G51 : FnD l.prog w K mg base 49 fa _ _ c_law := ok_law F51 T D_l_ring_or_five D_l_no_held D_l_stream D_l_cell_at D_l_web D_l_poor D_l_wrong_held D_l_next D_l_too_great D_by_cases
  exact G51
end LW
open PySem PySem.W PyProof.Rows
set_option maxHeartbeats 0 in
theorem PySem.Challenge.cw_closedrings_k37_refused_asking_holds : PySem.Challenge.rw_closedrings_k37_refused_asking.Holds := by
  w_on; o_law; k_head; (case hw => w_witness2)
  k_fill
  refine Cr.walk_law (l := PySem.Challenge.rw_closedrings_k37_refused_asking) (n := 63) (k := 49) (x := "_law_script") (S := LW.c_law) rfl (by decide) rfl ⟨rfl, by decide, by decide⟩ (fun w h Y => PySem.W.kIn_of Y) ?F LW.law_true
  case F =>
    intro w mg fa h KX G hmg
    refine' LW.all_mk KX G hmg ?a0 ?l0 ?q0 ?k0 ?a1 ?l1 ?q1 ?k1 ?a2 ?l2 ?q2 ?k2 ?a3 ?l3 ?q3 ?k3 ?a4 ?l4 ?q4 ?k4 ?a5 ?l5 ?q5 ?k5 ?a6 ?l6 ?q6 ?k6 ?a7 ?l7 ?q7 ?k7 ?a8 ?l8 ?q8 ?k8 ?a9 ?l9 ?q9 ?k9 ?a10 ?l10 ?q10 ?k10 ?a11 ?l11 ?q11 ?k11 ?a12 ?l12 ?q12 ?k12 ?a13 ?l13 ?q13 ?k13 ?a14 ?l14 ?q14 ?k14 ?a15 ?l15 ?q15 ?k15 ?a16 ?l16 ?q16 ?k16 ?a17 ?l17 ?q17 ?k17 ?a18 ?l18 ?q18 ?k18 ?a19 ?l19 ?q19 ?k19 ?a20 ?l20 ?q20 ?k20 ?a21 ?l21 ?q21 ?k21 ?a22 ?l22 ?q22 ?k22 ?a23 ?l23 ?q23 ?k23 ?a24 ?l24 ?q24 ?k24 ?a25 ?l25 ?q25 ?k25 ?a26 ?l26 ?q26 ?k26 ?a27 ?l27 ?q27 ?k27 ?a28 ?l28 ?q28 ?k28 ?a29 ?l29 ?q29 ?k29 ?a30 ?l30 ?q30 ?k30 ?a31 ?l31 ?q31 ?k31 ?a32 ?l32 ?q32 ?k32 ?a33 ?l33 ?q33 ?k33 ?a34 ?l34 ?q34 ?k34 ?a35 ?l35 ?q35 ?k35 ?a36 ?l36 ?q36 ?k36 ?a37 ?l37 ?q37 ?k37 ?a38 ?l38 ?q38 ?k38 ?a39 ?l39 ?q39 ?k39 ?a40 ?l40 ?q40 ?k40 ?a41 ?l41 ?q41 ?k41 ?a42 ?l42 ?q42 ?k42 ?a43 ?l43 ?q43 ?k43 ?a44 ?l44 ?q44 ?k44 ?a45 ?l45 ?q45 ?k45 ?a46 ?l46 ?q46 ?k46 ?a47 ?l47 ?q47 ?k47 ?a48 ?l48 ?q48 ?k48 ?a49 ?l49 ?q49 ?k49 ?a50 ?l50 ?q50 ?k50 ?a51 ?l51 ?q51 ?k51 ?z0 ?z1 ?z2 ?z3 ?z4 ?z5 ?z6 ?z7 ?z8 ?y0 ?y1 ?xg0 ?xe0 ?xk0 ?xb0 ?xt0 ?xg1 ?xe1 ?xk1 ?xb1 ?xt1 ?xg2 ?xe2 ?xk2 ?xb2 ?xt2 ?ig0 ?il0 ?ied0 ?is0 ?ib0 ?it0 ?ik0 ?ii0 ?ij0 ?im0 ?iq0 ?ip0 ?if0_most ?ieg0 ?iek0 ?iea0 ?iem0 ?yg0 ?yb0 ?yt0 ?yd0 ?vg ?vb ?vs0 ?vs1 ?vs2 ?vsi0 ?yg4 ?yb4 ?yt4 ?yd4 ?yg5 ?yb5 ?yt5 ?yd5 ?yg8 ?yb8 ?yt8 ?yd8 ?yg9 ?yb9 ?yt9 ?yd9 ?yg10 ?yb10 ?yt10 ?yd10 ?yg11 ?yb11 ?yt11 ?yd11 ?yg12 ?yb12 ?yt12 ?yd12 ?yg13 ?yb13 ?yt13 ?yd13 ?yg14 ?yb14 ?yt14 ?yd14 ?eg0 ?ek0 ?ed0 ?ea0 ?em0 ?eg1 ?ek1 ?ed1 ?ea1 ?em1 ?eg2 ?ek2 ?ed2 ?ea2 ?em2 ?en ?et ?psi0_0 ?pni0_0 ?ps2_0 ?pn2_0 ?ps1_0 ?pn1_0 ?ps0_0 ?pn0_0 ?esi0 ?ps2_2 ?pn2_2 ?ps1_2 ?pn1_2 ?ps0_2 ?pn0_2 ?psi0_3 ?pni0_3 ?ps2_3 ?pn2_3 ?ps1_3 ?pn1_3 ?es0 ?psi0_4 ?pni0_4 ?ps2_4 ?pn2_4 ?ps1_4 ?pn1_4 ?ps0_4 ?pn0_4 ?psi0_5 ?pni0_5 ?ps2_5 ?pn2_5 ?ps1_5 ?pn1_5 ?ps0_5 ?pn0_5 ?psi0_6 ?pni0_6 ?es2 ?ps1_6 ?pn1_6 ?ps0_6 ?pn0_6 ?psi0_7 ?pni0_7 ?ps2_7 ?pn2_7 ?es1 ?ps0_7 ?pn0_7 ?psi0_8 ?pni0_8 ?ps2_8 ?pn2_8 ?ps1_8 ?pn1_8 ?ps0_8 ?pn0_8 ?psi0_9 ?pni0_9 ?ps2_9 ?pn2_9 ?ps1_9 ?pn1_9 ?ps0_9 ?pn0_9 ?psi0_10 ?pni0_10 ?ps2_10 ?pn2_10 ?ps1_10 ?pn1_10 ?ps0_10 ?pn0_10 ?psi0_11 ?pni0_11 ?ps2_11 ?pn2_11 ?ps1_11 ?pn1_11 ?ps0_11 ?pn0_11 ?psi0_12 ?pni0_12 ?ps2_12 ?pn2_12 ?ps1_12 ?pn1_12 ?ps0_12 ?pn0_12 ?psi0_13 ?pni0_13 ?ps2_13 ?pn2_13 ?ps1_13 ?pn1_13 ?ps0_13 ?pn0_13 ?psi0_14 ?pni0_14 ?ps2_14 ?pn2_14 ?ps1_14 ?pn1_14 ?ps0_14 ?pn0_14
    (case a0 => k_is); (case l0 => k_is); (case q0 => k_is); (case k0 => k_is); (case a1 => k_is); (case l1 => k_is); (case q1 => k_is); (case k1 => k_is); (case a2 => k_is); (case l2 => k_is); (case q2 => k_is); (case k2 => k_is); (case a3 => k_is); (case l3 => k_is); (case q3 => k_is); (case k3 => k_is); (case a4 => k_is); (case l4 => k_is); (case q4 => k_is); (case k4 => k_is); (case a5 => k_is); (case l5 => k_is); (case q5 => k_is); (case k5 => k_is); (case a6 => k_is); (case l6 => k_is); (case q6 => k_is); (case k6 => k_is); (case a7 => k_is); (case l7 => k_is); (case q7 => k_is); (case k7 => k_is); (case a8 => k_is); (case l8 => k_is); (case q8 => k_is); (case k8 => k_is); (case a9 => k_is); (case l9 => k_is); (case q9 => k_is); (case k9 => k_is); (case a10 => k_is); (case l10 => k_is); (case q10 => k_is); (case k10 => k_is); (case a11 => k_is); (case l11 => k_is); (case q11 => k_is); (case k11 => k_is); (case a12 => k_is); (case l12 => k_is); (case q12 => k_is); (case k12 => k_is); (case a13 => k_is); (case l13 => k_is); (case q13 => k_is); (case k13 => k_is); (case a14 => k_is); (case l14 => k_is); (case q14 => k_is); (case k14 => k_is); (case a15 => k_is); (case l15 => k_is); (case q15 => k_is); (case k15 => k_is); (case a16 => k_is); (case l16 => k_is); (case q16 => k_is); (case k16 => k_is); (case a17 => k_is); (case l17 => k_is); (case q17 => k_is); (case k17 => k_is); (case a18 => k_is); (case l18 => k_is); (case q18 => k_is); (case k18 => k_is); (case a19 => k_is); (case l19 => k_is); (case q19 => k_is); (case k19 => k_is); (case a20 => k_is); (case l20 => k_is); (case q20 => k_is); (case k20 => k_is); (case a21 => k_is); (case l21 => k_is); (case q21 => k_is); (case k21 => k_is); (case a22 => k_is); (case l22 => k_is); (case q22 => k_is); (case k22 => k_is); (case a23 => k_is); (case l23 => k_is); (case q23 => k_is); (case k23 => k_is); (case a24 => k_is); (case l24 => k_is); (case q24 => k_is); (case k24 => k_is); (case a25 => k_is); (case l25 => k_is); (case q25 => k_is); (case k25 => k_is); (case a26 => k_is); (case l26 => k_is); (case q26 => k_is); (case k26 => k_is); (case a27 => k_is); (case l27 => k_is); (case q27 => k_is); (case k27 => k_is); (case a28 => k_is); (case l28 => k_is); (case q28 => k_is); (case k28 => k_is); (case a29 => k_is); (case l29 => k_is); (case q29 => k_is); (case k29 => k_is); (case a30 => k_is); (case l30 => k_is); (case q30 => k_is); (case k30 => k_is); (case a31 => k_is); (case l31 => k_is); (case q31 => k_is); (case k31 => k_is); (case a32 => k_is); (case l32 => k_is); (case q32 => k_is); (case k32 => k_is); (case a33 => k_is); (case l33 => k_is); (case q33 => k_is); (case k33 => k_is); (case a34 => k_is); (case l34 => k_is); (case q34 => k_is); (case k34 => k_is); (case a35 => k_is); (case l35 => k_is); (case q35 => k_is); (case k35 => k_is); (case a36 => k_is); (case l36 => k_is); (case q36 => k_is); (case k36 => k_is); (case a37 => k_is); (case l37 => k_is); (case q37 => k_is); (case k37 => k_is); (case a38 => k_is); (case l38 => k_is); (case q38 => k_is); (case k38 => k_is); (case a39 => k_is); (case l39 => k_is); (case q39 => k_is); (case k39 => k_is); (case a40 => k_is); (case l40 => k_is); (case q40 => k_is); (case k40 => k_is); (case a41 => k_is); (case l41 => k_is); (case q41 => k_is); (case k41 => k_is); (case a42 => k_is); (case l42 => k_is); (case q42 => k_is); (case k42 => k_is); (case a43 => k_is); (case l43 => k_is); (case q43 => k_is); (case k43 => k_is); (case a44 => k_is); (case l44 => k_is); (case q44 => k_is); (case k44 => k_is); (case a45 => k_is); (case l45 => k_is); (case q45 => k_is); (case k45 => k_is); (case a46 => k_is); (case l46 => k_is); (case q46 => k_is); (case k46 => k_is); (case a47 => k_is); (case l47 => k_is); (case q47 => k_is); (case k47 => k_is); (case a48 => k_is); (case l48 => k_is); (case q48 => k_is); (case k48 => k_is); (case a49 => k_is); (case l49 => k_is); (case q49 => k_is); (case k49 => k_is); (case a50 => k_is); (case l50 => k_is); (case q50 => k_is); (case k50 => k_is); (case a51 => k_is); (case l51 => k_is); (case q51 => k_is); (case k51 => k_is); (case z0 => k_is); (case z1 => k_is); (case z2 => k_is); (case z3 => k_is); (case z4 => k_is); (case z5 => k_is); (case z6 => k_is); (case z7 => k_is); (case z8 => k_is); (case y0 => k_is); (case y1 => k_is); (case xg0 => k_is); (case xe0 => first | k_exc | k_is); (case xk0 => k_is); (case xb0 => k_is); (case xt0 => k_is); (case xg1 => k_is); (case xe1 => first | k_exc | k_is); (case xk1 => k_is); (case xb1 => k_is); (case xt1 => k_is); (case xg2 => k_is); (case xe2 => first | k_exc | k_is); (case xk2 => k_is); (case xb2 => k_is); (case xt2 => k_is); (case ig0 => k_is); (case il0 => first | k_exc | kx_is | k_is); (case ied0 => k_is); (case is0 => k_is); (case ib0 => k_is); (case it0 => k_is); (case ik0 => k_is); (case ii0 => k_is); (case ij0 => k_is); (case im0 => k_is); (case iq0 => k_is); (case ip0 => k_is); (case if0_most => k_is); (case ieg0 => k_is); (case iek0 => k_is); (case iea0 => k_is); (case iem0 => k_is); (case yg0 => k_is); (case yb0 => k_is); (case yt0 => k_is); (case yd0 => k_is); (case vg => k_is); (case vb => k_is); (case vs0 => k_is); (case vs1 => k_is); (case vs2 => k_is); (case vsi0 => k_is); (case yg4 => k_is); (case yb4 => k_is); (case yt4 => k_is); (case yd4 => k_is); (case yg5 => k_is); (case yb5 => k_is); (case yt5 => k_is); (case yd5 => k_is); (case yg8 => k_is); (case yb8 => k_is); (case yt8 => k_is); (case yd8 => k_is); (case yg9 => k_is); (case yb9 => k_is); (case yt9 => k_is); (case yd9 => k_is); (case yg10 => k_is); (case yb10 => k_is); (case yt10 => k_is); (case yd10 => k_is); (case yg11 => k_is); (case yb11 => k_is); (case yt11 => k_is); (case yd11 => k_is); (case yg12 => k_is); (case yb12 => k_is); (case yt12 => k_is); (case yd12 => k_is); (case yg13 => k_is); (case yb13 => k_is); (case yt13 => k_is); (case yd13 => k_is); (case yg14 => k_is); (case yb14 => k_is); (case yt14 => k_is); (case yd14 => k_is); (case eg0 => k_is); (case ek0 => k_is); (case ed0 => k_is); (case ea0 => k_is); (case em0 => k_is); (case eg1 => k_is); (case ek1 => k_is); (case ed1 => k_is); (case ea1 => k_is); (case em1 => k_is); (case eg2 => k_is); (case ek2 => k_is); (case ed2 => k_is); (case ea2 => k_is); (case em2 => k_is); (case en => k_is); (case et => k_is); (case psi0_0 => k_is); (case pni0_0 => rfl); (case ps2_0 => k_is); (case pn2_0 => rfl); (case ps1_0 => k_is); (case pn1_0 => rfl); (case ps0_0 => k_is); (case pn0_0 => rfl); (case esi0 => k_is); (case ps2_2 => k_is); (case pn2_2 => rfl); (case ps1_2 => k_is); (case pn1_2 => rfl); (case ps0_2 => k_is); (case pn0_2 => rfl); (case psi0_3 => k_is); (case pni0_3 => rfl); (case ps2_3 => k_is); (case pn2_3 => rfl); (case ps1_3 => k_is); (case pn1_3 => rfl); (case es0 => k_is); (case psi0_4 => k_is); (case pni0_4 => rfl); (case ps2_4 => k_is); (case pn2_4 => rfl); (case ps1_4 => k_is); (case pn1_4 => rfl); (case ps0_4 => k_is); (case pn0_4 => rfl); (case psi0_5 => k_is); (case pni0_5 => rfl); (case ps2_5 => k_is); (case pn2_5 => rfl); (case ps1_5 => k_is); (case pn1_5 => rfl); (case ps0_5 => k_is); (case pn0_5 => rfl); (case psi0_6 => k_is); (case pni0_6 => rfl); (case es2 => k_is); (case ps1_6 => k_is); (case pn1_6 => rfl); (case ps0_6 => k_is); (case pn0_6 => rfl); (case psi0_7 => k_is); (case pni0_7 => rfl); (case ps2_7 => k_is); (case pn2_7 => rfl); (case es1 => k_is); (case ps0_7 => k_is); (case pn0_7 => rfl); (case psi0_8 => k_is); (case pni0_8 => rfl); (case ps2_8 => k_is); (case pn2_8 => rfl); (case ps1_8 => k_is); (case pn1_8 => rfl); (case ps0_8 => k_is); (case pn0_8 => rfl); (case psi0_9 => k_is); (case pni0_9 => rfl); (case ps2_9 => k_is); (case pn2_9 => rfl); (case ps1_9 => k_is); (case pn1_9 => rfl); (case ps0_9 => k_is); (case pn0_9 => rfl); (case psi0_10 => k_is); (case pni0_10 => rfl); (case ps2_10 => k_is); (case pn2_10 => rfl); (case ps1_10 => k_is); (case pn1_10 => rfl); (case ps0_10 => k_is); (case pn0_10 => rfl); (case psi0_11 => k_is); (case pni0_11 => rfl); (case ps2_11 => k_is); (case pn2_11 => rfl); (case ps1_11 => k_is); (case pn1_11 => rfl); (case ps0_11 => k_is); (case pn0_11 => rfl); (case psi0_12 => k_is); (case pni0_12 => rfl); (case ps2_12 => k_is); (case pn2_12 => rfl); (case ps1_12 => k_is); (case pn1_12 => rfl); (case ps0_12 => k_is); (case pn0_12 => rfl); (case psi0_13 => k_is); (case pni0_13 => rfl); (case ps2_13 => k_is); (case pn2_13 => rfl); (case ps1_13 => k_is); (case pn1_13 => rfl); (case ps0_13 => k_is); (case pn0_13 => rfl); (case psi0_14 => k_is); (case pni0_14 => rfl); (case ps2_14 => k_is); (case pn2_14 => rfl); (case ps1_14 => k_is); (case pn1_14 => rfl); (case ps0_14 => k_is); (case pn0_14 => rfl)
