import PyProof.Rows.All
import Wide.All
import OpenK.AllK
import Wide.FinOn
import HandS.ForMost
import HandS.ForExc
import HandS.CallSlots
import HandS.Wide
import HandS.TupAny
import HandS.Conv
import HandS.Zip
import HandS.IsInst
import KE.LtData
import PyProof.Rows.SetFrom
import HandS.Deep
import KE.DataCmp
import HandS.Rev
import HandS.TupSets
import KE.SortData
import KE.DataMinMax
import HandS.RevTup
import KE.SortKeyHeap
import HandS.SortKw
import HandS.WordsExc
import HandS.DictTup
import HandS.RevRange
import HandS.EndBits
import HandS.ExcOwn
import HandS.ExcIs
import KE.GoesEnum
import KE.GoesZip
import HandS.FStr
import HandS.Defaults
import PySem.Challenge.RW_manycounts_k87_whole_products
set_option Elab.async false
set_option linter.all false
set_option maxRecDepth 100000
set_option maxHeartbeats 4000000
/-! the value layer, 1: data, their standing in the heap, growth of the heap -/
namespace VL
open PySem PySem.Spec PyProof.Rows L2

abbrev D := PyData

/-! ### how data stand in the heap -/
def keyB : D → Bool
  | .int _ => true
  | .str _ => true
  | _ => false
/-- what may be a key of a dict -/
def pairD : List D → Bool
  | [a, b] => keyB a && keyB b
  | _ => false
/-- a tuple of the module -/
def KTup (K : PySem.W.Frag) (a : Addr) (xs : List V) : Prop :=
  ∃ (o : Obj) (its : Array Value) (n : Nat), K.lookup a = some o ∧ o.cls = .type "tuple" ∧ o.data = .seq its n ∧ its.size ≤ sizeLine ∧ Vals xs its.toList
/-- a tuple: a tracked one, or one of the module that is no key -/
def TpA (K : PySem.W.Frag) (H : Hp) (a : Addr) (xs : List V) (ds : List D) : Prop := H a = some (.tup xs) ∨ (pairD ds = false ∧ KTup K a xs)
theorem TpA.seq {K : PySem.W.Frag} {H : Hp} {a : Addr} {xs : List V} {ds : List D} (h : TpA K H a xs ds) : SqT K H a xs := by
  rcases h with h | h
  · exact .inl (.inl h)
  · exact .inr h.2
theorem TpA.of {K : PySem.W.Frag} {H : Hp} {a : Addr} {xs : List V} {ds : List D} (h : H a = some (.tup xs)) : TpA K H a xs ds := .inl h
theorem TpA.mono {K : PySem.W.Frag} {H H' : Hp} {a : Addr} {xs : List V} {ds : List D} (e : Same H H') (h : TpA K H a xs ds) : TpA K H' a xs ds := h.imp (e _ _) id
theorem TpA.key {K : PySem.W.Frag} {H : Hp} {a : Addr} {xs : List V} {ds : List D} (h : TpA K H a xs ds) (hp : pairD ds = true) : H a = some (.tup xs) := by
  rcases h with h | h
  · exact h
  · rw [hp] at h; cases h.1
mutual
inductive Rp (K : PySem.W.Frag) (H : Hp) : V → D → Prop
  | non : Rp K H .non .none
  | bl (b : Bool) : Rp K H (.bl b) (.bool b)
  | int (i : Int) : Rp K H (.int i) (.int i)
  | str (x : Str) : Rp K H (.str x) (.str x)
  | lst {a : Addr} {xs : List V} {ds : List D} : SqL K H a xs → RpL K H xs ds → Rp K H (.ref a) (.list ds)
  | tup {a : Addr} {xs : List V} {ds : List D} : TpA K H a xs ds → RpL K H xs ds → Rp K H (.ref a) (.tuple ds)
  | dct {a : Addr} : H a = some (.dK []) → Rp K H (.ref a) (.dict [])
inductive RpL (K : PySem.W.Frag) (H : Hp) : List V → List D → Prop
  | nil : RpL K H [] []
  | cons {v : V} {vs : List V} {d : D} {ds : List D} : Rp K H v d → RpL K H vs ds → RpL K H (v :: vs) (d :: ds)
end

theorem seqT {K : PySem.W.Frag} {H H' : Hp} {a : Addr} {xs : List V} (e : Same H H') (h : SqT K H a xs) : SqT K H' a xs := by
  rcases h with (h | ⟨o, h⟩) | h
  · exact .inl (.inl (e _ _ h))
  · exact .inl (.inr ⟨o, e _ _ h⟩)
  · exact .inr h

section
variable {K : PySem.W.Frag} {H H' : Hp}
mutual
theorem Rp.mono (e : Same H H') : ∀ {v : V} {d : D}, Rp K H v d → Rp K H' v d
  | _, _, .non => .non
  | _, _, .bl b => .bl b
  | _, _, .int i => .int i
  | _, _, .str x => .str x
  | _, _, .lst h1 h2 => .lst (e.seq h1) (RpL.mono e h2)
  | _, _, .tup h1 h2 => .tup (h1.mono e) (RpL.mono e h2)
  | _, _, .dct h => .dct (e _ _ h)
theorem RpL.mono (e : Same H H') : ∀ {vs : List V} {ds : List D}, RpL K H vs ds → RpL K H' vs ds
  | _, _, .nil => .nil
  | _, _, .cons h1 h2 => .cons (Rp.mono e h1) (RpL.mono e h2)
end
theorem RpL.length : ∀ {vs : List V} {ds : List D}, RpL K H vs ds → vs.length = ds.length
  | _, _, .nil => rfl
  | _, _, .cons _ h => by simp [RpL.length h]
theorem RpL.get : ∀ {vs : List V} {ds : List D} {i : Nat} {d : D}, RpL K H vs ds → ds[i]? = some d → ∃ v, vs[i]? = some v ∧ Rp K H v d
  | _, _, _, _, .nil, e => by simp at e
  | _, _, 0, _, .cons h _, e => by simp at e; subst e; exact ⟨_, rfl, h⟩
  | _, _, i + 1, d, .cons _ t, e => by
    obtain ⟨v, h1, h2⟩ := RpL.get (i := i) (d := d) t (by simpa using e)
    exact ⟨v, by simpa using h1, h2⟩
theorem RpL.get' : ∀ {vs : List V} {ds : List D} {i : Nat} {v : V}, RpL K H vs ds → vs[i]? = some v → ∃ d, ds[i]? = some d ∧ Rp K H v d
  | _, _, _, _, .nil, e => by simp at e
  | _, _, 0, _, .cons h _, e => by simp at e; subst e; exact ⟨_, rfl, h⟩
  | _, _, i + 1, v, .cons _ t, e => by
    obtain ⟨d, h1, h2⟩ := RpL.get' (i := i) (v := v) t (by simpa using e)
    exact ⟨d, by simpa using h1, h2⟩
theorem RpL.append : ∀ {vs ws : List V} {ds es : List D}, RpL K H vs ds → RpL K H ws es → RpL K H (vs ++ ws) (ds ++ es)
  | _, _, _, _, .nil, h => h
  | _, _, _, _, .cons h1 h2, h => .cons h1 (RpL.append h2 h)
theorem RpL.take : ∀ {vs : List V} {ds : List D} (n : Nat), RpL K H vs ds → RpL K H (vs.take n) (ds.take n)
  | _, _, 0, _ => .nil
  | _, _, _ + 1, .nil => .nil
  | _, _, n + 1, .cons r t => .cons r (RpL.take n t)
theorem RpL.drop : ∀ {vs : List V} {ds : List D} (n : Nat), RpL K H vs ds → RpL K H (vs.drop n) (ds.drop n)
  | _, _, 0, r => r
  | _, _, _ + 1, .nil => .nil
  | _, _, n + 1, .cons _ t => RpL.drop n t
theorem RpL.set {v : V} {d : D} (h : Rp K H v d) : ∀ {vs : List V} {ds : List D} (i : Nat), RpL K H vs ds → RpL K H (vs.set i v) (ds.set i d)
  | _, _, _, .nil => .nil
  | _, _, 0, .cons _ t => .cons h t
  | _, _, i + 1, .cons q t => .cons q (RpL.set h i t)
theorem RpL.reverse : ∀ {vs : List V} {ds : List D}, RpL K H vs ds → RpL K H vs.reverse ds.reverse
  | _, _, .nil => .nil
  | _, _, .cons h t => by
    rw [List.reverse_cons, List.reverse_cons]
    exact (RpL.reverse t).append (.cons h .nil)
/-- ints -/
theorem RpL.ints : ∀ {vs : List V} {ns : List Int}, RpL K H vs (ns.map PyData.int) → vs = ns.map V.int
  | _, [], h => by cases h; rfl
  | _, n :: ns, h => by
    cases h with
    | cons h1 h2 => cases h1; rw [RpL.ints h2]; rfl
theorem RpL.ofInts : ∀ {ns : List Int}, RpL K H (ns.map V.int) (ns.map PyData.int)
  | [] => .nil
  | n :: _ => .cons (.int n) RpL.ofInts
/-- texts -/
theorem RpL.strs : ∀ {vs : List V} {ns : List Str}, RpL K H vs (ns.map PyData.str) → vs = ns.map V.str
  | _, [], h => by cases h; rfl
  | _, n :: ns, h => by
    cases h with
    | cons h1 h2 => cases h1; rw [RpL.strs h2]; rfl
theorem RpL.ofStrs : ∀ {ns : List Str}, RpL K H (ns.map V.str) (ns.map PyData.str)
  | [] => .nil
  | n :: _ => .cons (.str n) RpL.ofStrs
/-- permuted together -/
theorem RpL.perm : ∀ {vs ws : List V}, vs.Perm ws → ∀ {ds : List D}, RpL K H vs ds → ∃ es, RpL K H ws es ∧ ds.Perm es := by
  intro vs ws p
  induction p with
  | nil => intro ds h; exact ⟨ds, h, .refl _⟩
  | cons x _ ih =>
    intro ds h
    cases h with
    | cons h1 h2 =>
      obtain ⟨es, h3, p⟩ := ih h2
      exact ⟨_, .cons h1 h3, p.cons _⟩
  | swap x y l =>
    intro ds h
    cases h with
    | cons h1 h2 =>
      cases h2 with
      | cons h3 h4 => exact ⟨_, .cons h3 (.cons h1 h4), .swap ..⟩
  | trans _ _ ih1 ih2 =>
    intro ds h
    obtain ⟨es, h1, p1⟩ := ih1 h
    obtain ⟨fs, h2, p2⟩ := ih2 h1
    exact ⟨fs, h2, p1.trans p2⟩
end

/-! ### data without dicts, to a depth -/
/-- at most n deep, and no dict in it -/
def sh : Nat → D → Bool
  | _, .none | _, .bool _ | _, .int _ => true
  | _, .str s => PyData.strOk s
  | n + 1, .list xs => xs.all (sh n)
  | n + 1, .tuple xs => xs.all (sh n)
  | 0, .list _ => false
  | 0, .tuple _ => false
  | _, .dict _ => false
theorem sh_mono : ∀ {n m : Nat} {d : D}, n ≤ m → sh n d = true → sh m d = true := by
  intro n
  induction n with
  | zero =>
    intro m d _ h
    cases d <;> cases m <;> first | rfl | (simpa [sh] using h) | (simp [sh] at h)
  | succ n ih =>
    intro m d hm h
    obtain ⟨m, rfl⟩ : ∃ k, m = k + 1 := ⟨m - 1, by omega⟩
    cases d with
    | list xs =>
      rw [sh, List.all_eq_true] at h ⊢
      exact fun x hx => ih (by omega) (h x hx)
    | tuple xs =>
      rw [sh, List.all_eq_true] at h ⊢
      exact fun x hx => ih (by omega) (h x hx)
    | dict kvs => simp [sh] at h
    | str s => simpa [sh] using h
    | _ => rfl
section
variable {K : PySem.W.Frag} {H : Hp}
mutual
theorem Rp.dp : ∀ (n : Nat) {v : V} {d : D}, Rp K H v d → sh n d = true → Dp K H v d
  | _, _, _, .non, _ => .non
  | _, _, _, .bl b, _ => .bl b
  | _, _, _, .int i, _ => .int i
  | _, _, _, .str x, _ => .str x
  | n, _, _, .lst h1 h2, h => by
    cases n with
    | zero => simp [sh] at h
    | succ n => exact .lst h1 (RpL.dp n h2 (by rw [sh] at h; exact h))
  | n, _, _, .tup h1 h2, h => by
    cases n with
    | zero => simp [sh] at h
    | succ n => exact .tup h1.seq (RpL.dp n h2 (by rw [sh] at h; exact h))
  | n, _, _, .dct _, h => by cases n <;> simp [sh] at h
theorem RpL.dp : ∀ (n : Nat) {vs : List V} {ds : List D}, RpL K H vs ds → ds.all (sh n) = true → DpAll K H vs ds
  | _, _, _, .nil, _ => .nil
  | n, _, _, .cons h1 h2, h => by
    rw [List.all_cons, Bool.and_eq_true] at h
    exact .cons (Rp.dp n h1 h.1) (RpL.dp n h2 h.2)
end
end
theorem canLayAll_of : ∀ {xs : List D}, (∀ x ∈ xs, x.canLay0 = true) → PyData.canLayAll0 xs = true
  | [], _ => by simp [PyData.canLayAll0]
  | x :: xs, h => by
    rw [PyData.canLayAll0, h x List.mem_cons_self, canLayAll_of fun y hy => h y (List.mem_cons_of_mem _ hy)]; rfl
theorem depthAll_of {n : Nat} : ∀ {xs : List D}, (∀ x ∈ xs, x.depth ≤ n) → PyData.depthAll xs ≤ n
  | [], _ => by simp [PyData.depthAll]
  | x :: xs, h => by
    rw [PyData.depthAll]
    exact Nat.max_le.mpr ⟨h x List.mem_cons_self, depthAll_of fun y hy => h y (List.mem_cons_of_mem _ hy)⟩
theorem sh_lay : ∀ {n : Nat} {d : D}, sh n d = true → d.canLay0 = true ∧ d.depth ≤ n := by
  intro n
  induction n with
  | zero =>
    intro d h
    cases d with
    | list xs => simp [sh] at h
    | tuple xs => simp [sh] at h
    | dict kvs => simp [sh] at h
    | str s => exact ⟨by simpa [PyData.canLay0, sh] using h, by simp [PyData.depth]⟩
    | _ => exact ⟨by simp [PyData.canLay0], by simp [PyData.depth]⟩
  | succ n ih =>
    intro d h
    cases d with
    | list xs =>
      rw [sh, List.all_eq_true] at h
      refine ⟨?_, ?_⟩
      · rw [PyData.canLay0]; exact canLayAll_of fun x hx => (ih (h x hx)).1
      · rw [PyData.depth]; exact Nat.succ_le_succ (depthAll_of fun x hx => (ih (h x hx)).2)
    | tuple xs =>
      rw [sh, List.all_eq_true] at h
      refine ⟨?_, ?_⟩
      · rw [PyData.canLay0]; exact canLayAll_of fun x hx => (ih (h x hx)).1
      · rw [PyData.depth]; exact Nat.succ_le_succ (depthAll_of fun x hx => (ih (h x hx)).2)
    | dict kvs => simp [sh] at h
    | str s => exact ⟨by simpa [PyData.canLay0, sh] using h, by simp [PyData.depth]⟩
    | _ => exact ⟨by simp [PyData.canLay0], by simp [PyData.depth]⟩
theorem shaped_of {d : D} (h : sh 64 d = true) : SeqAt.shaped d = true := by
  obtain ⟨h1, h2⟩ := sh_lay h
  unfold SeqAt.shaped
  rw [h1, decide_eq_true h2]; rfl
/-- no list, no dict in it -/
def nl : Nat → D → Bool
  | _, .none | _, .bool _ | _, .int _ | _, .str _ => true
  | n + 1, .tuple xs => xs.all (nl n)
  | 0, .tuple _ => false
  | _, .list _ => false
  | _, .dict _ => false

/-! ### growth -/
/-- no tuple is left out of F -/
def NT (F H : Hp) : Prop := ∀ b xs, F b = none → ¬ Rd H b (.tup xs)
/-- F: the part of the heap that is frozen -/
structure Ok (F H : Hp) : Prop where
  sm : Same F H
  nt : NT F H
structure Grow (F H F' H' : Hp) : Prop where
  f : Same F F'
  h : Same H H'
  ok : Ok F' H'
  n : ∀ b, F b = none → H b ≠ none → F' b = none
theorem Ok.refl (H : Hp) : Ok H H := ⟨Same.refl H, fun b xs e r => by
  rcases r with r | ⟨o, r⟩ <;> (rw [e] at r; cases r)⟩
theorem Grow.refl {F H : Hp} (o : Ok F H) : Grow F H F H := ⟨Same.refl F, Same.refl H, o, fun _ e _ => e⟩
theorem same_ne {H H' : Hp} {b : Addr} (e : Same H H') (h : H b ≠ none) : H' b ≠ none := by
  cases q : H b with
  | none => exact absurd q h
  | some o => rw [e b o q]; simp
theorem Grow.trans {F H F1 H1 F2 H2 : Hp} (a : Grow F H F1 H1) (b : Grow F1 H1 F2 H2) : Grow F H F2 H2 :=
  ⟨a.f.trans b.f, a.h.trans b.h, b.ok, fun c e h => b.n c (a.n c e h) (same_ne a.h h)⟩
theorem same_upd {H : Hp} {p : Addr} {o : HO} (h : H p = none) : Same H (upd H p o) := fun b x e => by
  rw [upd_ne (ne_of_none e h)]
  exact e
/-- a new frozen object -/
theorem Grow.new {F H : Hp} {p : Addr} {o : HO} (k : Ok F H) (h : H p = none) : Grow F H (upd F p o) (upd H p o) := by
  have hF : F p = none := k.sm.free h
  refine ⟨same_upd hF, same_upd h, ⟨fun b x e => ?_, fun b xs e r => ?_⟩, fun b e hb => ?_⟩
  · by_cases q : b = p
    · subst q; rw [upd_same] at e ⊢; exact e
    · rw [upd_ne q] at e ⊢; exact k.sm b x e
  · by_cases q : b = p
    · subst q; rw [upd_same] at e; cases e
    · rw [upd_ne q] at e
      refine k.nt b xs e ?_
      rcases r with r | ⟨ob, r⟩
      · rw [upd_ne q] at r; exact .inl r
      · rw [upd_ne q] at r; exact .inr ⟨ob, r⟩
  · rw [upd_ne (fun q => hb (by rw [q]; exact h))]; exact e
/-- a new object of one's own -/
def NoT : HO → Prop := fun o => ∀ xs, o ≠ .tup xs ∧ ∀ ob, o ≠ .frz ob (.tup xs)
theorem Grow.own {F H : Hp} {p : Addr} {o : HO} (k : Ok F H) (h : H p = none) (t : NoT o) : Grow F H F (upd H p o) := by
  refine ⟨Same.refl F, same_upd h, ⟨k.sm.trans (same_upd h), fun b xs e r => ?_⟩, fun b e hb => e⟩
  by_cases q : b = p
  · subst q
    rcases r with r | ⟨ob, r⟩
    · rw [upd_same] at r; exact (t xs).1 (Option.some.inj r)
    · rw [upd_same] at r; exact (t xs).2 ob (Option.some.inj r)
  · refine k.nt b xs e ?_
    rcases r with r | ⟨ob, r⟩
    · rw [upd_ne q] at r; exact .inl r
    · rw [upd_ne q] at r; exact .inr ⟨ob, r⟩
theorem noT_lst {xs : List V} : NoT (.lst xs) := fun _ => ⟨fun h => HO.noConfusion h, fun _ h => HO.noConfusion h⟩
theorem noT_dT {ks : List (List Key × V)} : NoT (.dT ks) := fun _ => ⟨fun h => HO.noConfusion h, fun _ h => HO.noConfusion h⟩
theorem noT_dK {ks : List (Key × V)} : NoT (.dK ks) := fun _ => ⟨fun h => HO.noConfusion h, fun _ h => HO.noConfusion h⟩
theorem noT_dL {od : Obj} {ks : List (List Key × V)} : NoT (.frz od (.dT ks)) := fun _ => ⟨fun h => HO.noConfusion h, fun _ h => by cases h⟩
/-- an object of one's own is frozen -/
theorem Ok.freeze {F H : Hp} {p : Addr} {o : HO} (k : Ok F H) (hF : F p = none) (hH : H p = some o) : Ok (upd F p o) H := by
  refine ⟨fun b x e => ?_, fun b xs e r => ?_⟩
  · by_cases q : b = p
    · subst q; rw [upd_same] at e; rw [hH]; exact e
    · rw [upd_ne q] at e; exact k.sm b x e
  · by_cases q : b = p
    · subst q; rw [upd_same] at e; cases e
    · rw [upd_ne q] at e; exact k.nt b xs e r
/-- an object of one's own is changed -/
theorem Ok.write {F H : Hp} {p : Addr} {o : HO} (k : Ok F H) (hF : F p = none) (t : NoT o) : Ok F (upd H p o) := by
  refine ⟨fun b x e => ?_, fun b xs e r => ?_⟩
  · rw [upd_ne (ne_of_none e hF)]; exact k.sm b x e
  · by_cases q : b = p
    · subst q
      rcases r with r | ⟨ob, r⟩
      · rw [upd_same] at r; exact (t xs).1 (Option.some.inj r)
      · rw [upd_same] at r; exact (t xs).2 ob (Option.some.inj r)
    · refine k.nt b xs e ?_
      rcases r with r | ⟨ob, r⟩
      · rw [upd_ne q] at r; exact .inl r
      · rw [upd_ne q] at r; exact .inr ⟨ob, r⟩
/-- behind a call that took all of H as frozen: what was one's own is one's own again -/
noncomputable def cut (F H H' : Hp) : Hp := fun b => if F b = none ∧ H b ≠ none then none else H' b
theorem cut_grow {F H H' : Hp} (k : Ok F H) (h : Same H H') : Grow F H (cut F H H') H' := by
  refine ⟨fun b o e => ?_, h, ⟨fun b o e => ?_, fun b xs e r => ?_⟩, fun b e hb => ?_⟩
  · unfold cut
    rw [if_neg (fun q => by rw [e] at q; cases q.1)]
    exact h b o (k.sm b o e)
  · unfold cut at e
    split at e
    · cases e
    · exact e
  · unfold cut at e
    split at e
    · rename_i q
      obtain ⟨q1, q2⟩ := q
      cases z : H b with
      | none => exact q2 z
      | some u =>
        have z' := h b u z
        refine k.nt b xs q1 ?_
        rcases r with r | ⟨ob, r⟩
        · rw [z'] at r; exact .inl (by rw [z]; exact r)
        · rw [z'] at r; exact .inr ⟨ob, by rw [z]; exact r⟩
    · rcases r with r | ⟨ob, r⟩ <;> (rw [e] at r; cases r)
  · unfold cut
    rw [if_pos ⟨e, hb⟩]
section
variable {K : PySem.W.Frag}
theorem tu_of {F H : Hp} {a : Addr} {xs : List V} (k : Ok F H) (h : H a = some (.tup xs)) : F a = some (.tup xs) := by
  cases q : F a with
  | none => exact absurd (.inl h) (k.nt a xs q)
  | some o =>
    have z := k.sm a o q
    rw [h] at z
    rw [Option.some.inj z]
theorem seqT_of {F H : Hp} {a : Addr} {xs : List V} (k : Ok F H) (h : SqT K H a xs) : SqT K F a xs := by
  rcases h with h | h
  · refine .inl ?_
    cases q : F a with
    | none => exact absurd h (k.nt a xs q)
    | some o =>
      have z := k.sm a o q
      rcases h with h | ⟨ob, h⟩
      · rw [z] at h; exact .inl (by rw [q]; exact h)
      · rw [z] at h; exact .inr ⟨ob, by rw [q]; exact h⟩
  · exact .inr h
mutual
/-- what holds no list is frozen -/
theorem Rp.frozen {F H : Hp} (k : Ok F H) : ∀ (n : Nat) {v : V} {d : D}, Rp K H v d → nl n d = true → Rp K F v d
  | _, _, _, .non, _ => .non
  | _, _, _, .bl b, _ => .bl b
  | _, _, _, .int i, _ => .int i
  | _, _, _, .str x, _ => .str x
  | n, _, _, .lst h1 h2, h => by cases n <;> simp [nl] at h
  | n, _, _, .tup h1 h2, h => by
    cases n with
    | zero => simp [nl] at h
    | succ n => exact .tup (h1.imp (tu_of k) id) (RpL.frozen k n h2 (by rw [nl] at h; exact h))
  | n, _, _, .dct _, h => by cases n <;> simp [nl] at h
theorem RpL.frozen {F H : Hp} (k : Ok F H) : ∀ (n : Nat) {vs : List V} {ds : List D}, RpL K H vs ds → ds.all (nl n) = true → RpL K F vs ds
  | _, _, _, .nil, _ => .nil
  | n, _, _, .cons h1 h2, h => by
    rw [List.all_cons, Bool.and_eq_true] at h
    exact .cons (Rp.frozen k n h1 h.1) (RpL.frozen k n h2 h.2)
end
end
end VL
/-! the value layer, 2: the small syntax and its evaluator over data -/
namespace VL
open PySem PySem.Spec PyProof.Rows L2

/-! ### results -/
inductive Rs (α : Type) where
  | ok (a : α)
  | ex (c : Nat) (p : Option D)
  | no
def Rs.bind {α β : Type} : Rs α → (α → Rs β) → Rs β
  | .ok a, f => f a
  | .ex c p, _ => .ex c p
  | .no, _ => .no
def Rs.of {α : Type} : Option α → Rs α
  | some a => .ok a
  | none => .no
/-- what a name holds -/
inductive Slot where
  /-- nothing that is known -/
  | un
  /-- a frozen datum -/
  | fz (d : D)
  /-- a list of one's own -/
  | ow (ds : List D)
  /-- a dict of one's own, its keys tuples; its keys ints and texts -/
  | dt (kvs : List (List Key × D)) | dk (kvs : List (Key × D))
  /-- a dict of one's own that is walked -/
  | dl (kvs : List (List Key × D))
  /-- a caught exception -/
  | xn (c : Nat) (p : Option D)
abbrev SEnv := List Slot
/-- what an expression gives: a frozen datum, a new list, the list of a slot -/
inductive R where
  | fz (d : D) | nw (ds : List D) | bw (i : Nat) (ds : List D)
def R.d : R → D
  | .fz d => d
  | .nw ds => .list ds
  | .bw _ ds => .list ds
/-- what a function or a builtin gives -/
inductive PR where
  | v (d : D) | l (ds : List D)
def PR.r : PR → R
  | .v d => .fz d
  | .l ds => .nw ds
def PR.d : PR → D
  | .v d => d
  | .l ds => .list ds

/-! ### syntax -/
inductive Pri where
  | len | min1 | max1 | min2 | max2 | sum | tuple | list | sorted | any | all | int | str | abs | lenset | lrng | trng | lrev
inductive Mth where
  | index | count | split | join | partition | startswith | replace3 | replace2 | find
inductive Ty where
  | int | bool | str | tuple | list | listtuple
mutual
inductive PX where
  | var (i : Nat)
  | int (i : Int) | bool (b : Bool) | none | str (s : Str)
  | glob (g : Nat)
  | bin (op : Operator) (a b : PX)
  | neg (a : PX)
  | cmp (op : CmpOp) (a b : PX)
  | chain (op op' : CmpOp) (a b c : PX)
  | and (a b : PX) | or (a b : PX) | not (a : PX)
  | ife (c a b : PX)
  | idx (a i : PX)
  | slc (a : PX) (lo hi : PXs)
  | tup (as : PXs) | lst (as : PXs)
  | call (f : Nat) (as : PXs)
  | pri (p : Pri) (as : PXs)
  | mth (m : Mth) (o : PX) (as : PXs)
  | isi (a : PX) (t : Ty)
  | isxs (i : Nat) (cs : List Nat)     -- .. against several
  | isx (i : Nat) (c : Nat)            -- isinstance of a caught exception
  | isv (i : Nat)                      -- .. against ValueError
  | xat (i : Nat) (f : Str)            -- its field
  | lcm (elt : PX) (tg : List Nat) (one : Bool) (it : PX) (cond : PXs) (scope : Scope)
  | lcd (elt : PX) (tg : List Nat) (one : Bool) (i : Nat) (cond : PXs) (scope : Scope)
  | srtsz (a : PX)                     -- sorted(a, key=f), f told in kfs
  | edict                              -- {} as a thing
  | maxd (a : PX) (d : Int)            -- max(a, default=d)
  | dlst (i : Nat)                     -- list(d)
  | fs4 (s : Str) (a : PX) (t : Str) (b : PX) -- f"s{a}t{b}"
  | lci (elt : PX) (tg : List Nat) (i : Nat) (cond : PXs) (scope : Scope) -- over d.items()
  | dsub (i : Nat) (k : PX) | dget (i : Nat) (k d : PX) | din (neg : Bool) (k : PX) (i : Nat) | dsrt (i : Nat) | dlen (i : Nat)
  -- what is walked only
  | rng (as : PXs) | enum (a : PX) | zip (a b : PX) | rev (a : PX) | revrng (a : PX) | ditems (i : Nat) | dkeys (i : Nat)
inductive PXs where
  | nil | cons (a : PX) (as : PXs)
end
inductive Mt where
  | append | extend | insert | remove | reverse | clear | pop0 | popat
mutual
inductive XS where
  | asg (i : Nat) (e : PX)
  | newT (i : Nat) | newK (i : Nat)
  | unp (is : List Nat) (e : PX)
  | par (i j : Nat) (a b : PX)
  | sto (i : Nat) (k e : PX) | dsto (i : Nat) (k e : PX)
  | aug (i : Nat) (op : Operator) (e : PX)
  | augS (i : Nat) (k : PX) (op : Operator) (e : PX)
  | mut (m : Mt) (i : Nat) (as : PXs)
  | pops (j i : Nat) (as : PXs)        -- name j = x.pop(..)
  | ret (e : PX) | ret0
  | iff (c : PX) (a b : XB)
  | for (tg : List Nat) (one : Bool) (it : PX) (body : XB) (kill : List Nat)
  | whl (c : PX) (body : XB) (fuel : Nat) (kill : List Nat)
  | raise (c : Nat) (m : PXs)
  | try (body : XB) (c : Nat) (i : Nat) (named : Bool) (suite : XB)
  | bk | ct | pass | doc
  | exp (e : PX)
  | frz (i : Nat) | kill (is : List Nat)
  | nope                               -- the proof never comes to it
inductive XB where
  | nil | cons (s : XS) (t : XB)
end

/-! ### what builtins do -/
def LIM : Nat := 16000000
def mulOk (i j : Int) : Bool := decide (i.natAbs.log2 + j.natAbs.log2 < 100000000)
def binI (op : Operator) (i j : Int) : Option Int :=
  match op with
  | .Add => some (i + j)
  | .Sub => some (i - j)
  | .Mult => if mulOk i j = true then some (i * j) else none
  | .FloorDiv => if 0 < j then (if j < 2 ^ 250 then some (i / j) else none) else if j ≠ 0 ∧ j.natAbs < 1073741824 then some (i.fdiv j) else none
  | .Mod => if 0 < j then some (i % j) else none
  | .Pow => if 0 ≤ j ∧ j ≤ 1000 ∧ i.natAbs < 2 ^ 64 then some (i ^ j.toNat) else none
  | .LShift => if 0 ≤ j ∧ j ≤ 1000 ∧ i.natAbs < 2 ^ 64 then some (i * 2 ^ j.toNat) else none
  | .RShift => if 0 ≤ j then some (i / 2 ^ j.toNat) else none
  | .BitAnd => some (Builtin.bitAnd i j)
  | .BitOr => some (Builtin.bitOr i j)
  | .BitXor => some (Builtin.bitXor i j)
  | _ => none
def binD (op : Operator) (a b : D) : Option PR :=
  match a, b with
  | .int i, .int j => (binI op i j).map fun k => .v (.int k)
  | .str x, .str y => match op with
    | .Add => if x.length + y.length ≤ LIM then some (.v (.str (x ++ y))) else none
    | _ => none
  | .list xs, .list ys => match op with
    | .Add => if xs.length + ys.length ≤ LIM then some (.l (xs ++ ys)) else none
    | _ => none
  | .tuple xs, .tuple ys => match op with
    | .Add => if xs.length + ys.length ≤ LIM then some (.v (.tuple (xs ++ ys))) else none
    | _ => none
  | .list xs, .int k => match op with
    | .Mult => if 0 ≤ k ∧ k ≤ 1000000 ∧ xs.length * k.toNat ≤ LIM then some (.l (List.replicate k.toNat xs).flatten) else none
    | _ => none
  | _, _ => none
def isNone : D → Bool
  | .none => true
  | _ => false
def ltD (a b : D) : Option Bool :=
  match a, b with
  | .int i, .int j => some (decide (i < j))
  | _, _ => if PySem.W.alike a b = true ∧ isNone a = false ∧ sh 30 a = true ∧ sh 30 b = true then some (PySem.W.dataLt a b) else none
def eqD (a b : D) : Option Bool := if sh 30 a = true ∧ sh 30 b = true then some (PyData.eqv a b) else none
/-- what is walked -/
def itemsOf : D → Option (List D)
  | .list xs => some xs
  | .tuple xs => some xs
  | _ => none
def inD (x y : D) : Option Bool :=
  match y with
  | .list ys => if sh 30 x = true ∧ ys.all (sh 30) = true then some (ys.any fun z => PyData.eqv z x) else none
  | .tuple ys => if sh 30 x = true ∧ ys.all (sh 30) = true then some (ys.any fun z => PyData.eqv z x) else none
  | .str z => match x with
    | .str y => match y.cps.toList with
      | [c] => some (decide (c ∈ z.cps.toList))
      | _ => none
    | _ => none
  | _ => none
def cmpD (op : CmpOp) (a b : D) : Option Bool :=
  match op with
  | .Eq => eqD a b
  | .NotEq => (eqD a b).map (!·)
  | .Lt => ltD a b
  | .LtE => (ltD b a).map (!·)
  | .Gt => ltD b a
  | .GtE => (ltD a b).map (!·)
  | .In => inD a b
  | .NotIn => (inD a b).map (!·)
  | .Is => if isNone b = true then some (isNone a) else none
  | .IsNot => if isNone b = true then some (!isNone a) else none
def isiD (d : D) (t : Ty) : Bool :=
  match t, d with
  | .int, .int _ => true | .int, .bool _ => true
  | .bool, .bool _ => true
  | .str, .str _ => true
  | .tuple, .tuple _ => true
  | .list, .list _ => true
  | .listtuple, .list _ => true | .listtuple, .tuple _ => true
  | _, _ => false
def idxD (a i : D) : Option D :=
  match a, i with
  | .list xs, .int k => atI xs k
  | .tuple xs, .int k => atI xs k
  | .str z, .int k => if z.length ≤ LIM then (atI z.cps.toList k).map fun c => .str ⟨#[c]⟩ else none
  | _, _ => none
def cutL {α : Type} (xs : List α) (lo hi : Option Int) : List α := (xs.drop (HT.sIx xs.length 0 lo)).take (HT.sIx xs.length xs.length hi - HT.sIx xs.length 0 lo)
def partI : List D → Option (Option Int)
  | [] => some none
  | [.int i] => some (some i)
  | _ => none
def slcD (a : D) (lo hi : Option Int) : Option PR :=
  match a with
  | .list xs => some (.l (cutL xs lo hi))
  | .tuple xs => some (.v (.tuple (cutL xs lo hi)))
  | .str z => if z.length ≤ LIM then some (.v (.str (cutS z lo hi))) else none
  | _ => none
def toInt : D → Option Int
  | .int i => some i
  | _ => none
def toBool : D → Option Bool
  | .bool b => some b
  | _ => none
def toStr : D → Option Str
  | .str b => some b
  | _ => none
def rngL (lo hi : Int) : List D := (List.range (hi - lo).toNat).map fun (i : Nat) => PyData.int (lo + i)
/-- insertion into a sorted list, behind equal ones -/
def insD (lt : D → D → Bool) (x : D) : List D → List D
  | [] => [x]
  | y :: ys => if lt x y = true then x :: y :: ys else y :: insD lt x ys
def sortD (lt : D → D → Bool) : List D → List D := List.foldl (fun acc x => insD lt x acc) []
def alikeAllP (xs : List D) : Bool := xs.all fun x => (xs.all fun y => PySem.W.alike x y) && !isNone x && sh 30 x
/-- may be sorted: all tuples with an item, or none a tuple -/
def oneNil : List D → Bool
  | [.tuple []] => true
  | _ => false
def srtOk (xs : List D) : Bool := alikeAllP xs && (((xs.all fun | .tuple (_ :: _) => true | _ => false) || (xs.all fun | .tuple _ => false | _ => true)) || oneNil xs)
/-- sorted by size, then by itself -/
def dInt : D → Bool
  | .int _ => true
  | _ => false
def isTI : D → Bool
  | .tuple ds => ds.all dInt
  | _ => false
def szKey : D → D
  | .tuple ds => .tuple [.int ds.length, .tuple ds]
  | d => d
def szLt (a b : D) : Bool := PySem.W.dataLt (szKey a) (szKey b)
/-- the largest (smallest) int -/
def maxI : List Int → Option Int
  | [] => none
  | x :: xs => some (xs.foldl max x)
def minI : List Int → Option Int
  | [] => none
  | x :: xs => some (xs.foldl min x)
def allOpt {α β : Type} (f : α → Option β) : List α → Option (List β)
  | [] => some []
  | x :: xs => match f x, allOpt f xs with
    | some y, some ys => some (y :: ys)
    | _, _ => none
def dedupI (ns : List Int) : List Int := ns.foldl PyProof.Rows.step_dedup []
def asList : D → Option (List D)
  | .list xs => some xs
  | _ => none
def priD (p : Pri) (as : List D) : Option PR :=
  match p, as with
  | .len, [.list xs] => some (.v (.int xs.length))
  | .len, [.tuple xs] => some (.v (.int xs.length))
  | .len, [.str z] => if z.length ≤ LIM then some (.v (.int z.length)) else none
  | .min2, [.int i, .int j] => some (.v (.int (if j < i then j else i)))
  | .max2, [.int i, .int j] => some (.v (.int (if j > i then j else i)))
  | .min1, [x] => do let xs ← itemsOf x; let ns ← allOpt toInt xs; let m ← minI ns; if ns.length ≤ 60 then some (.v (.int m)) else none
  | .max1, [x] => do let xs ← itemsOf x; let ns ← allOpt toInt xs; let m ← maxI ns; if ns.length ≤ 60 then some (.v (.int m)) else none
  | .sum, [x] => do let xs ← asList x; let ns ← allOpt toInt xs; some (.v (.int ns.sum))
  | .tuple, [x] => do let xs ← itemsOf x; some (.v (.tuple xs))
  | .list, [x] => do let xs ← itemsOf x; some (.l xs)
  | .lrev, [x] => do let xs ← asList x; some (.l xs.reverse)
  | .sorted, [x] => do let xs ← itemsOf x; if srtOk xs = true then some (.l (sortD PySem.W.dataLt xs)) else none
  | .any, [x] => do let xs ← asList x; let bs ← allOpt toBool xs; some (.v (.bool (bs.any id)))
  | .all, [x] => do let xs ← asList x; let bs ← allOpt toBool xs; some (.v (.bool (bs.all id)))
  | .int, [.int i] => some (.v (.int i))
  | .int, [.bool b] => some (.v (.int (if b = true then 1 else 0)))
  | .int, [.str z] => if z.length ≤ 640 then (PySem.intText? z).map fun i => .v (.int i) else none
  | .str, [.int i] => if i.natAbs.log2 < 1900 then some (.v (.str (toString i : String))) else none
  | .abs, [.int i] => some (.v (.int (if i < 0 then -i else i)))
  | .lenset, [x] => do let xs ← asList x; let ns ← allOpt toInt xs; if ns.length < 60 then some (.v (.int (dedupI ns).length)) else none
  | .lrng, [.int n] => if n ≤ LIM ∧ -1000000 ≤ n then some (.l (rngL 0 n)) else none
  | .lrng, [.int m, .int n] => if n ≤ LIM ∧ -1000000 ≤ n ∧ -1000000 ≤ m ∧ m ≤ LIM ∧ n - m ≤ LIM then some (.l (rngL m n)) else none
  | .trng, [.int n] => if n ≤ LIM ∧ -1000000 ≤ n then some (.v (.tuple (rngL 0 n))) else none
  | _, _ => none
def firstIx (x : D) : List D → Option Nat
  | [] => none
  | y :: ys => if PyData.eqv y x = true then some 0 else (firstIx x ys).map (· + 1)
def mthD (m : Mth) (o : D) (as : List D) : Option PR :=
  match m, o, as with
  | .index, .list xs, [x] => if sh 30 x = true ∧ xs.all (sh 30) = true then (firstIx x xs).map fun (i : Nat) => PR.v (.int i) else none
  | .count, .list xs, [.int k] => (allOpt toInt xs).map fun ns => .v (.int (ns.count k : Nat))
  | .split, .str a, [.str b] => if b.length ≠ 0 ∧ a.length + 2 ≤ LIM then some (.l ((Txt.split a b).map .str)) else none
  | .partition, .str a, [.str b] => if b.length ≠ 0 ∧ a.length ≤ LIM then some (.v (.tuple [.str (Txt.partition a b).1, .str (Txt.partition a b).2.1, .str (Txt.partition a b).2.2])) else none
  | .startswith, .str a, [.str b] => some (.v (.bool (Txt.startswith a b)))
  | .find, .str a, [.str b] => some (.v (.int (Txt.find a b)))
  | .join, .str a, [x] => do
    let xs ← itemsOf x
    let ys ← allOpt toStr xs
    if (ys.map (·.length)).sum + ys.length * a.length ≤ LIM then some (.v (.str (Txt.join a ys))) else none
  | _, _, _ => none

/-- what stands in an f-string -/
def fmtD : D → Option Str
  | .str y => some y
  | .int i => if i.natAbs.log2 < 1900 then some (toString i : String) else none
  | _ => none
def fs4D (s t : Str) (a b : D) : Option D :=
  match fmtD a, fmtD b with
  | some x, some y => if s.length + x.length + t.length + y.length ≤ LIM then some (.str ((((Str.empty ++ s) ++ x) ++ t) ++ y)) else none
  | _, _ => none

/-! ### dicts -/
def keyK : D → Option Key
  | .int i => some (.inl i)
  | .str s => some (.inr s)
  | _ => none
def keyT : D → Option (List Key)
  | .tuple ds => if pairD ds = true then allOpt keyK ds else none
  | _ => none
def lookA {κ : Type} [DecidableEq κ] (k : κ) : List (κ × D) → Option D
  | [] => none
  | (c, v) :: r => if c = k then some v else lookA k r
def putA {κ : Type} [DecidableEq κ] (k : κ) (v : D) (kvs : List (κ × D)) : List (κ × D) :=
  if (kvs.any fun kv => decide (kv.1 = k)) = true then kvs.map (fun kv => if kv.1 = k then (kv.1, v) else kv) else kvs ++ [(k, v)]
def kD : Key → D
  | .inl i => .int i
  | .inr s => .str s
def keysD {α : Type} (ks : List (List Key × α)) : List D := ks.map fun p => .tuple (p.1.map kD)
def itemsT (ks : List (List Key × D)) : List D := ks.map fun p => .tuple [.tuple (p.1.map kD), p.2]
def kvsOf : Slot → Option (List (List Key × D))
  | .dt kvs => some kvs
  | .dl kvs => some kvs
  | _ => none
def slotKeys : Slot → Option (List D)
  | .dt kvs => some (kvs.map fun p => .tuple (p.1.map kD))
  | .dk kvs => some (kvs.map fun p => kD p.1)
  | _ => none
def slotItems : Slot → Option (List D)
  | .dt kvs => some (kvs.map fun p => .tuple [.tuple (p.1.map kD), p.2])
  | .dk kvs => some (kvs.map fun p => .tuple [kD p.1, p.2])
  | _ => none

/-! ### the evaluator -/
/-- a class of the number c' is one of the number c; number 0 is the root of all -/
def isaB (c' c : Nat) : Bool := c' == c || c == 0
/-- what stands outside: the functions, the constants of the module -/
structure Tb where
  fn : Nat → List D → Rs PR
  gl : List D
def slotR (i : Nat) : Slot → Rs R
  | .fz d => .ok (.fz d)
  | .ow ds => .ok (.bw i ds)
  | _ => .no
/-- an argument that is kept: no list of a slot -/
def keepR : R → Option D
  | .fz d => some d
  | .nw ds => some (.list ds)
  | .bw _ _ => none
def keepAll : List R → Option (List D) := allOpt keepR
def R.isBw : R → Bool
  | .bw _ _ => true
  | _ => false
/-- what a call gives back where lists of slots were lent -/
def lent (bw : Bool) : PR → Rs R
  | .v d => if bw = false ∨ nl 30 d = true then .ok (.fz d) else .no
  | .l ds => if bw = false ∨ ds.all (nl 30) = true then .ok (.nw ds) else .no
def lentR (bw : Bool) : Rs PR → Rs R
  | .ok r => lent bw r
  | .ex c p => if bw = true then .no else .ex c p
  | .no => .no
def setAll : List Nat → List D → SEnv → Option SEnv
  | [], [], env => some env
  | i :: is, d :: ds, env => setAll is ds (env.set i (.fz d))
  | _, _, _ => none
/-- a target takes an item -/
def takes (tg : List Nat) (one : Bool) (d : D) (env : SEnv) : Option SEnv :=
  match one, tg, d with
  | true, [i], d => some (env.set i (.fz d))
  | false, is, .tuple ds => setAll is ds env
  | _, _, _ => none
def killS (is : List Nat) (env : SEnv) : SEnv := is.foldl (fun e i => e.set i .un) env
def enumL : Nat → List D → List D
  | _, [] => []
  | n, d :: ds => .tuple [.int n, d] :: enumL (n + 1) ds
def zipL : List D → List D → List D
  | a :: as, b :: bs => .tuple [a, b] :: zipL as bs
  | _, _ => []
def zipD (a b : D) : Option (List D) :=
  match itemsOf a, itemsOf b with
  | some xs, some ys => some (zipL xs ys)
  | _, _ => none
def strL (z : Str) : List D := z.cps.toList.map fun c => .str ⟨#[c]⟩
def rngStep (a b c : Int) : Option (List D) :=
  if c ≠ 0 ∧ c.natAbs < 1073741824 ∧ Builtin.Range.small a b c = true then
    some ((List.range (Builtin.Range.rangeSize a b c).toNat).map fun (i : Nat) => PyData.int (a + i * c))
  else none
def rngD : List D → Option (List D)
  | [.int n] => if n ≤ LIM ∧ -1000000 ≤ n then some (rngL 0 n) else none
  | [.int m, .int n] => if n ≤ LIM ∧ -1000000 ≤ n ∧ -1000000 ≤ m ∧ m ≤ LIM then some (rngL m n) else none
  | [.int a, .int b, .int c] => rngStep a b c
  | _ => none
def walkD : D → Option (List D)
  | .list xs => some xs
  | .tuple xs => some xs
  | .str z => some (strL z)
  | _ => none
/-- the turns of a comprehension -/
def lcLoop (tk : D → Option SEnv) (test : SEnv → Rs Bool) (elt : SEnv → Rs R) : List D → Rs (List D)
  | [] => .ok []
  | d :: ds => match tk d with
    | none => .no
    | some env => match test env with
      | .ok true => match elt env with
        | .ok r => match keepR r with
          | some x => match lcLoop tk test elt ds with
            | .ok xs => .ok (x :: xs)
            | _ => .no
          | none => .no
        | _ => .no
      | .ok false => lcLoop tk test elt ds
      | _ => .no
mutual
def ev (tb : Tb) : PX → SEnv → Rs R
  | .var i => fun env => match env[i]? with
    | some s => slotR i s
    | none => .no
  | .int i => fun _ => .ok (.fz (.int i))
  | .bool b => fun _ => .ok (.fz (.bool b))
  | .none => fun _ => .ok (.fz .none)
  | .str s => fun _ => .ok (.fz (.str s))
  | .glob g => fun _ => match tb.gl[g]? with
    | some d => .ok (.fz d)
    | none => .no
  | .bin op a b => fun env => (ev tb a env).bind fun x => (ev tb b env).bind fun y => match binD op x.d y.d with
    | some r => .ok r.r
    | none => .no
  | .neg a => fun env => (ev tb a env).bind fun x => match x.d with
    | .int i => .ok (.fz (.int (-i)))
    | _ => .no
  | .cmp op a b => fun env => (ev tb a env).bind fun x => (ev tb b env).bind fun y => match cmpD op x.d y.d with
    | some k => .ok (.fz (.bool k))
    | none => .no
  | .chain op op' a b c => fun env => (ev tb a env).bind fun x => (ev tb b env).bind fun y => match cmpD op x.d y.d with
    | some true => (ev tb c env).bind fun z => match cmpD op' y.d z.d with
      | some k => .ok (.fz (.bool k))
      | none => .no
    | some false => .ok (.fz (.bool false))
    | none => .no
  | .and a b => fun env => (ev tb a env).bind fun x => match x.d with
    | .bool true => ev tb b env
    | .bool false => .ok (.fz (.bool false))
    | _ => .no
  | .or a b => fun env => (ev tb a env).bind fun x => match x.d with
    | .bool true => .ok (.fz (.bool true))
    | .bool false => ev tb b env
    | _ => .no
  | .not a => fun env => (ev tb a env).bind fun x => match x.d with
    | .bool k => .ok (.fz (.bool (!k)))
    | _ => .no
  | .ife c a b => fun env => (ev tb c env).bind fun x => match x.d with
    | .bool true => ev tb a env
    | .bool false => ev tb b env
    | _ => .no
  | .idx a i => fun env => (ev tb a env).bind fun x => (ev tb i env).bind fun y => match idxD x.d y.d with
    | some d => .ok (.fz d)
    | none => .no
  | .slc a lo hi => fun env => (ev tb a env).bind fun x => (evs tb lo env).bind fun l => match partI (l.map R.d) with
    | some lo => (evs tb hi env).bind fun h => match partI (h.map R.d) with
      | some hi => match slcD x.d lo hi with
        | some r => .ok r.r
        | none => .no
      | none => .no
    | none => .no
  | .tup as => fun env => (evs tb as env).bind fun xs => match keepAll xs with
    | some ds => .ok (.fz (.tuple ds))
    | none => .no
  | .lst as => fun env => (evs tb as env).bind fun xs => match keepAll xs with
    | some ds => .ok (.nw ds)
    | none => .no
  | .call f as => fun env => (evs tb as env).bind fun xs => lentR (xs.any R.isBw) (tb.fn f (xs.map R.d))
  | .pri p as => fun env => (evs tb as env).bind fun xs => match priD p (xs.map R.d) with
    | some r => .ok r.r
    | none => .no
  | .mth m o as => fun env => (ev tb o env).bind fun x => match evs tb as env with
    | .ok xs => match mthD m x.d (xs.map R.d) with
      | some r => .ok r.r
      | none => .no
    | _ => .no
  | .isi a t => fun env => (ev tb a env).bind fun x => .ok (.fz (.bool (isiD x.d t)))
  | .isx i c => fun env => match env[i]? with
    | some (.xn c' _) => .ok (.fz (.bool (isaB c' c)))
    | _ => .no
  | .isxs i cs => fun env => match env[i]? with
    | some (.xn c' _) => .ok (.fz (.bool (cs.any (isaB c'))))
    | _ => .no
  | .isv i => fun env => match env[i]? with
    | some (.xn _ _) => .ok (.fz (.bool true))
    | _ => .no
  | .xat i _ => fun env => match env[i]? with
    | some (.xn _ (some d)) => .ok (.fz d)
    | _ => .no
  | .lcm elt tg one it cond _ => fun env => (evI tb it env).bind fun ds => if LIM ≤ ds.length then .no else
    (lcLoop (fun d => takes tg one d (killS tg env)) (fun e => (evs tb cond e).bind fun
        | [] => .ok true
        | [x] => Rs.of (toBool x.d)
        | _ => .no) (fun e => ev tb elt e) ds).bind fun xs => .ok (.nw xs)
  | .dsub i k => fun env => match (env[i]?).bind kvsOf with
    | some kvs => (ev tb k env).bind fun x => match (keyT x.d).bind fun c => lookA c kvs with
      | some v => .ok (.fz v)
      | none => .no
    | none => .no
  | .dget i k d => fun env => match (env[i]?).bind kvsOf with
    | some kvs => (ev tb k env).bind fun x => (ev tb d env).bind fun y => match keepR y, keyT x.d with
      | some y, some c => .ok (.fz ((lookA c kvs).getD y))
      | _, _ => .no
    | none => .no
  | .din neg k i => fun env => match (env[i]?).bind kvsOf with
    | some kvs => (ev tb k env).bind fun x => match keyT x.d with
      | some c => .ok (.fz (.bool (neg ^^ (lookA c kvs).isSome)))
      | none => .no
    | none => .no
  | .dsrt i => fun env => match env[i]? with
    | some (.dt kvs) => if srtOk (keysD kvs) = true then .ok (.nw (sortD PySem.W.dataLt (keysD kvs))) else .no
    | _ => .no
  | .lcd elt tg one i cond _ => fun env => match env[i]? with
    | some (.dt kvs) => if LIM ≤ (keysD kvs).length then .no else
      (lcLoop (fun d => takes tg one d (killS tg (env.set i (.dl kvs)))) (fun e => (evs tb cond e).bind fun
        | [] => .ok true
        | [x] => Rs.of (toBool x.d)
        | _ => .no) (fun e => ev tb elt e) (keysD kvs)).bind fun xs => .ok (.nw xs)
    | _ => .no
  | .dlen i => fun env => match env[i]? with
    | some s => match slotKeys s with
      | some ks => .ok (.fz (.int ks.length))
      | none => .no
    | none => .no
  | .edict => fun _ => .ok (.fz (.dict []))
  | .maxd a d => fun env => (ev tb a env).bind fun x => match asList x.d with
    | some xs => (match allOpt toInt xs with
      | some ns => .ok (.fz (.int ((maxI ns).getD d)))
      | none => .no)
    | none => .no
  | .dlst i => fun env => match env[i]? with
    | some (.dt kvs) => .ok (.nw (keysD kvs))
    | _ => .no
  | .lci elt tg i cond _ => fun env => match env[i]? with
    | some (.dt kvs) => if LIM ≤ (itemsT kvs).length then .no else
      (lcLoop (fun d => takes tg false d (killS tg (env.set i (.dl kvs)))) (fun e => (evs tb cond e).bind fun
        | [] => .ok true
        | [x] => Rs.of (toBool x.d)
        | _ => .no) (fun e => ev tb elt e) (itemsT kvs)).bind fun xs => .ok (.nw xs)
    | _ => .no
  | .fs4 s a t b => fun env => (ev tb a env).bind fun x => match ev tb b env with
    | .ok y => match fs4D s t x.d y.d with
      | some d => .ok (.fz d)
      | none => .no
    | _ => .no
  | .srtsz a => fun env => (ev tb a env).bind fun x => match asList x.d with
    | some xs => if xs.all isTI = true then .ok (.nw (sortD szLt xs)) else .no
    | none => .no
  | _ => fun _ => .no
def evs (tb : Tb) : PXs → SEnv → Rs (List R)
  | .nil => fun _ => .ok []
  | .cons a as => fun env => (ev tb a env).bind fun x => (evs tb as env).bind fun xs => .ok (x :: xs)
def evI (tb : Tb) : PX → SEnv → Rs (List D)
  | .rng as => fun env => (evs tb as env).bind fun xs => Rs.of (rngD (xs.map R.d))
  | .enum a => fun env => (ev tb a env).bind fun x => match itemsOf x.d with
    | some ds => .ok (enumL 0 ds)
    | none => .no
  | .zip a b => fun env => (ev tb a env).bind fun x => (ev tb b env).bind fun y => Rs.of (zipD x.d y.d)
  | .rev a => fun env => (ev tb a env).bind fun x => match itemsOf x.d with
    | some ds => .ok ds.reverse
    | none => .no
  | .revrng a => fun env => (ev tb a env).bind fun x => match x.d with
    | .int n => if n ≤ LIM ∧ -1000000 ≤ n then .ok ((List.range n.toNat).map fun (i : Nat) => PyData.int (0 + ((n.toNat : Nat) : Int) - 1 + i * (-1))) else .no
    | _ => .no
  | p => fun env => (ev tb p env).bind fun x => Rs.of (walkD x.d)
end

/-! ### statements -/
inductive Out where
  | nx (env : SEnv) | rt (r : PR) | bk (env : SEnv) | ct (env : SEnv) | ex (c : Nat) (p : Option D) (env : SEnv) | no
def retR : R → Option PR
  | .fz d => some (.v d)
  | .nw ds => some (.l ds)
  | .bw _ ds => some (.l ds)
def toSlot : R → Option Slot
  | .fz d => some (.fz d)
  | .nw ds => some (.ow ds)
  | .bw _ _ => none
def Rs.then {α : Type} (r : Rs α) (env : SEnv) (f : α → Out) : Out :=
  match r with
  | .ok a => f a
  | .ex c p => .ex c p env
  | .no => .no
def onOpt {α : Type} (o : Option α) (f : α → Out) : Out :=
  match o with
  | some a => f a
  | none => .no
/-- the slot of the list that is walked is frozen -/
def frz1 (i : Nat) (env : SEnv) : SEnv :=
  match env[i]? with
  | some (.ow ds) => env.set i (.fz (.list ds))
  | _ => env
/-- slots whose own list may be what comes -/
def bwOf : PX → List Nat
  | .var i => [i]
  | .and _ b => bwOf b
  | .or _ b => bwOf b
  | .ife _ a b => bwOf a ++ bwOf b
  | .enum a => bwOf a
  | .zip a b => bwOf a ++ bwOf b
  | .rev a => bwOf a
  | _ => []
def frzAll : List Nat → SEnv → SEnv
  | [], env => env
  | i :: is, env => frzAll is (frz1 i env)
def frzIt (it : PX) (env : SEnv) : SEnv := frzAll (bwOf it) env
def forLoop (tk : D → SEnv → Option SEnv) (body : SEnv → Out) (kill : SEnv → SEnv) : List D → SEnv → Out
  | [], env => .nx (kill env)
  | d :: ds, env => match tk d (kill env) with
    | none => .no
    | some e => match body e with
      | .nx e => forLoop tk body kill ds e
      | .ct e => forLoop tk body kill ds e
      | .bk e => .nx (kill e)
      | o => o
def whlLoop (c : SEnv → Rs Bool) (body : SEnv → Out) (kill : SEnv → SEnv) : Nat → SEnv → Out
  | 0, _ => .no
  | n + 1, env => match c (kill env) with
    | .ok true => match body (kill env) with
      | .nx e => whlLoop c body kill n e
      | .ct e => whlLoop c body kill n e
      | .bk e => .nx (kill e)
      | o => o
    | .ok false => .nx (kill env)
    | .ex c p => .ex c p (kill env)
    | .no => .no
/-- caught exceptions are forgotten -/
def unx (env : SEnv) : SEnv := env.map fun
  | .xn _ _ => .un
  | s => s
def mutL (m : Mt) (xs : List D) (as : List D) : Option (List D) :=
  match m, as with
  | .append, [x] => if xs.length < LIM then some (xs ++ [x]) else none
  | .insert, [.int i, x] => if 0 ≤ i ∧ i < 1000000000 ∧ xs.length < LIM then some (xs.take i.toNat ++ x :: xs.drop i.toNat) else none
  | .reverse, [] => some xs.reverse
  | .clear, [] => some []
  | _, _ => none
def mutR (m : Mt) (xs : List D) (rs : List R) : Option (List D) :=
  match m, rs with
  | .extend, [.nw ys] => if xs.length + ys.length ≤ LIM then some (xs ++ ys) else none
  | m, rs => (keepAll rs).bind (mutL m xs)
/-- x.pop(), x.pop(k): the item, what is left -/
def popL (xs : List D) (as : List D) : Option (D × List D) :=
  match as with
  | [] => match xs[xs.length - 1]? with
    | some y => some (y, xs.dropLast)
    | none => none
  | [.int k] => match ixN xs.length k with
    | some j => match xs[j]? with
      | some y => some (y, xs.eraseIdx j)
      | none => none
    | none => none
  | _ => none
mutual
def evS (tb : Tb) : XS → SEnv → Out
  | .asg i e => fun env => (ev tb e env).then env fun r => onOpt (toSlot r) fun s => .nx (env.set i s)
  | .newT i => fun env => .nx (env.set i (.dt []))
  | .newK i => fun env => .nx (env.set i (.dk []))
  | .unp is e => fun env => (ev tb e env).then env fun r => match keepR r with
    | some (.tuple ds) => onOpt (setAll is ds env) .nx
    | _ => .no
  | .par i j a b => fun env => (ev tb a env).then env fun x => (ev tb b env).then env fun y => onOpt (keepR x) fun d => onOpt (keepR y) fun e => .nx ((env.set i (.fz d)).set j (.fz e))
  | .sto i k e => fun env => match env[i]? with
    | some (.ow ds) => (ev tb e env).then env fun y => (ev tb k env).then env fun x => onOpt (keepR y) fun v => match x.d with
      | .int n => onOpt (ixN ds.length n) fun j => .nx (env.set i (.ow (ds.set j v)))
      | _ => .no
    | _ => .no
  | .dsto i k e => fun env => (ev tb e env).then env fun y => match env[i]? with
    | some (.dt kvs) => (ev tb k env).then env fun x => onOpt (keepR y) fun v => onOpt (keyT x.d) fun c => if kvs.length < LIM then .nx (env.set i (.dt (putA c v kvs))) else .no
    | _ => .no
  | .aug i op e => fun env => match env[i]? with
    | some (.fz (.int n)) => (ev tb e env).then env fun y => match y.d with
      | .int m => match op with
        | .Add => .nx (env.set i (.fz (.int (n + m))))
        | .Sub => .nx (env.set i (.fz (.int (n - m))))
        | _ => .no
      | _ => .no
    | _ => .no
  | .augS i k op e => fun env => match env[i]? with
    | some (.ow ds) => (ev tb k env).then env fun x => match x.d with
      | .int n => onOpt (ixN ds.length n) fun j => match ds[j]? with
        | some (.int l) => (ev tb e env).then env fun y => match y.d with
          | .int m => match op with
            | .Add => .nx (env.set i (.ow (ds.set j (.int (l + m)))))
            | .Sub => .nx (env.set i (.ow (ds.set j (.int (l - m)))))
            | _ => .no
          | _ => .no
        | _ => .no
      | _ => .no
    | _ => .no
  | .mut m i as => fun env => match env[i]? with
    | some (.ow ds) => (evs tb as env).then env fun xs => onOpt (mutR m ds xs) fun ds' => .nx (env.set i (.ow ds'))
    | _ => .no
  | .pops j i as => fun env => match env[i]? with
    | some (.ow ds) => (evs tb as env).then env fun xs => onOpt (popL ds (xs.map R.d)) fun p => .nx ((env.set i (.ow p.2)).set j (.fz p.1))
    | _ => .no
  | .ret e => fun env => (ev tb e env).then env fun r => onOpt (retR r) .rt
  | .ret0 => fun _ => .rt (.v .none)
  | .iff c a b => fun env => (ev tb c env).then env fun x => match x.d with
    | .bool true => evB tb a env
    | .bool false => evB tb b env
    | _ => .no
  | .for tg one it body kill => fun env => (evI tb it (frzIt it env)).then (frzIt it env) fun ds => forLoop (takes tg one) (evB tb body) (killS kill) ds (frzIt it env)
  | .whl c body fuel kill => fun env => whlLoop (fun e => (ev tb c e).bind fun x => Rs.of (toBool x.d)) (evB tb body) (killS kill) fuel env
  | .raise c m => fun env => (evs tb m env).then env fun xs => match xs with
    | [] => .ex c none env
    | [.fz (.str _)] => .ex c none env
    | [.fz (.int i)] => .ex c (some (.int i)) env
    | _ => .no
  | .try body c i named suite => fun env => match evB tb body env with
    | .ex c' p e => if isaB c' c = true then (match evB tb suite (e.set i (.xn c' p)) with
      | .nx e' => .nx (unx (e'.set i .un))
      | .rt r => .rt r
      | _ => .no) else .ex c' p e
    | .nx e => .nx e
    | .rt r => .rt r
    | _ => .no
  | .bk => fun env => .bk env
  | .ct => fun env => .ct env
  | .pass => fun env => .nx env
  | .doc => fun env => .nx env
  | .exp e => fun env => (ev tb e env).then env fun _ => .nx env
  | .frz i => fun env => .nx (frz1 i env)
  | .kill is => fun env => .nx (killS is env)
  | .nope => fun _ => .no
def evB (tb : Tb) : XB → SEnv → Out
  | .nil => fun env => .nx env
  | .cons s t => fun env => match evS tb s env with
    | .nx e => evB tb t e
    | o => o
end
/-- a def: how many names it has, its body -/
structure Code where
  n : Nat
  body : XB
def start' (n : Nat) (ds : List D) : SEnv := ds.map Slot.fz ++ List.replicate (n - ds.length) Slot.un
def run (tb : Tb) (c : Code) (ds : List D) : Rs PR :=
  match evB tb c.body (start' c.n ds) with
  | .rt r => .ok r
  | .nx _ => .ok (.v .none)
  | .ex c p _ => .ex c p
  | _ => .no
end VL
/-! the value layer, 3: environments that hold, what a result is -/
namespace VL
open PySem PySem.Spec L2

/-! ### the weakest readings -/
section
variable {X : Cx}
def wE (X : Cx) (e : Expr) : TE := fun σ H Q => ∀ pins s, Inv X pins σ H s → wpAny (model X.prog X.w) X.A (eval e X.env) (EP X pins σ Q) X.xe s
def wT (X : Cx) (e : Expr) : TT := fun σ H Q => ∀ pins s, Inv X pins σ H s → wpAny (model X.prog X.w) X.A (isTrue e X.env (eval e X.env)) (TP X pins σ Q) X.xe s
def wA (X : Cx) (es : List Expr) : TA := fun σ H Q => ∀ pos pins s, Inv X pins σ H s → wpAny (model X.prog X.w) X.A (spliced (backTo pos (starEach es X.env))) (AP X pins σ Q) X.xe s
def wS (X : Cx) (st : Stmt) : TS := fun D σ H => ∀ pins s, Inv X pins σ H s → wpAny (model X.prog X.w) X.A (exec st X.env) (SP X pins D) X.xe s
def wSs (X : Cx) (st : List Stmt) : TS := fun D σ H => ∀ pins s, Inv X pins σ H s → wpAny (model X.prog X.w) X.A (execs st X.env) (SP X pins D) X.xe s
theorem peW (e : Expr) : PE X e (wE X e) := ⟨fun pins s _ _ _ I h => h pins s I⟩
theorem ptW (e : Expr) : PT X e (wT X e) := ⟨fun pins s _ _ _ I h => h pins s I⟩
theorem paW (es : List Expr) : PA X es (wA X es) := ⟨fun pos pins s _ _ _ I h => h pos pins s I⟩
theorem psW (st : Stmt) : PS X st (wS X st) := ⟨fun pins s _ _ _ I h => h pins s I⟩
theorem pssW (st : List Stmt) : PSs X st (wSs X st) := ⟨fun pins s _ _ _ I h => h pins s I⟩
theorem _root_.L2.PE.w {e : Expr} {t : TE} {σ : St} {H : Hp} {Q : VK} (h : PE X e t) (q : t σ H Q) : wE X e σ H Q := fun pins s I => h.run pins s σ H Q I q
theorem _root_.L2.PT.w {e : Expr} {t : TT} {σ : St} {H : Hp} {Q : Bool → Hp → Prop} (h : PT X e t) (q : t σ H Q) : wT X e σ H Q := fun pins s I => h.run pins s σ H Q I q
theorem _root_.L2.PA.w {e : List Expr} {t : TA} {σ : St} {H : Hp} {Q : List V → Hp → Prop} (h : PA X e t) (q : t σ H Q) : wA X e σ H Q := fun pos pins s I => h.run pos pins s σ H Q I q
theorem _root_.L2.PS.w {e : Stmt} {t : TS} {σ : St} {H : Hp} {D : Ends} (h : PS X e t) (q : t D σ H) : wS X e D σ H := fun pins s I => h.run pins s σ H D I q
theorem _root_.L2.PSs.w {e : List Stmt} {t : TS} {σ : St} {H : Hp} {D : Ends} (h : PSs X e t) (q : t D σ H) : wSs X e D σ H := fun pins s I => h.run pins s σ H D I q
/-- the facts of the state may be used -/
theorem wE.use {e : Expr} {σ : St} {H : Hp} {Q : VK} (h : ∀ pins s, Inv X pins σ H s → wE X e σ H Q) : wE X e σ H Q := fun pins s I => h pins s I pins s I
theorem wE.mono {e : Expr} {σ : St} {H : Hp} {Q Q' : VK} (h : wE X e σ H Q) (q : ∀ v H', Q v H' → Q' v H') : wE X e σ H Q' := fun pins s I =>
  thn (h pins s I) fun u s' ⟨v, H', I', r, z⟩ => ⟨v, H', I', r, q v H' z⟩
theorem wE.wish {e : Expr} {σ : St} {H : Hp} {Q : VK} (h : wE X.nox e σ H Q) : wE X e σ H Q := ((PE.mk fun pins s _ _ _ I (q : wE X.nox e _ _ _) => q pins s I) : PE X.nox e (wE X.nox e)).nox.w h
end

/-! ### slots that hold -/
def isOwn : Slot → Bool
  | .ow _ => true
  | .dt _ => true
  | .dk _ => true
  | .dl _ => true
  | _ => false
/-- the values of a dict -/
def RpA {κ : Type} (K : PySem.W.Frag) (F : Hp) : List (κ × V) → List (κ × D) → Prop := Paired fun p q => p.1 = q.1 ∧ Rp K F p.2 q.2
/-- how a caught exception lies -/
abbrev XRel := Nat → Option D → Hp → Value → Option Addr → Prop
structure Kx where
  K : PySem.W.Frag
  xa : Nat → Option D → Addr → Hp → Prop
  mono : ∀ c p b F F', xa c p b F → Same F F' → xa c p b F'
/-- the slot's value -/
def SlotOk (k : Kx) (F H0 H : Hp) (x : Option (Option V)) : Slot → Prop
  | .un => True
  | .fz d => ∃ v, x = some (some v) ∧ Rp k.K F v d
  | .ow ds => ∃ a xs, x = some (some (.ref a)) ∧ F a = none ∧ H0 a = none ∧ H a = some (.lst xs) ∧ RpL k.K F xs ds
  | .dt kvs => ∃ a ks, x = some (some (.ref a)) ∧ F a = none ∧ H0 a = none ∧ H a = some (.dT ks) ∧ RpA k.K F ks kvs
  | .dk kvs => ∃ a ks, x = some (some (.ref a)) ∧ F a = none ∧ H0 a = none ∧ H a = some (.dK ks) ∧ RpA k.K F ks kvs
  | .dl kvs => ∃ a ks od, x = some (some (.ref a)) ∧ F a = none ∧ H0 a = none ∧ H a = some (.frz od (.dT ks)) ∧ RpA k.K F ks kvs
  | .xn c p => ∃ b, x = some (some (.ref b)) ∧ k.xa c p b F
structure EnvOk (k : Kx) (F0 H0 : Hp) (env : SEnv) (σ : St) (F H : Hp) : Prop where
  len : env.length = σ.length
  sl : ∀ (i : Nat) (s : Slot), env[i]? = some s → SlotOk k F H0 H σ[i]? s
  dj : ∀ (i j : Nat) (si sj : Slot) (a : Addr), env[i]? = some si → env[j]? = some sj → isOwn si = true → isOwn sj = true → σ[i]? = some (some (.ref a)) → σ[j]? = some (some (.ref a)) → i = j
  ok : Ok F H
  f0 : Same F0 F
  h0 : Same H0 H
  nb : ∀ b, F0 b = none → H0 b ≠ none → F b = none
theorem RpA.mono {κ : Type} {K : PySem.W.Frag} {F F' : Hp} (e : Same F F') : ∀ {ks : List (κ × V)} {kvs : List (κ × D)}, RpA K F ks kvs → RpA K F' ks kvs := fun h => Paired.mapP h fun _ _ z => ⟨z.1, z.2.mono e⟩
theorem SlotOk.grow {k : Kx} {F H F' H' H0 : Hp} {x : Option (Option V)} {s : Slot} (h : SlotOk k F H0 H x s) (g : Grow F H F' H') : SlotOk k F' H0 H' x s := by
  cases s with
  | un => trivial
  | fz d => obtain ⟨v, e, r⟩ := h; exact ⟨v, e, r.mono g.f⟩
  | ow ds => obtain ⟨a, xs, e, f, h0, h, r⟩ := h; exact ⟨a, xs, e, g.n a f (by rw [h]; simp), h0, g.h a _ h, r.mono g.f⟩
  | dt kvs => obtain ⟨a, xs, e, f, h0, h, r⟩ := h; exact ⟨a, xs, e, g.n a f (by rw [h]; simp), h0, g.h a _ h, r.mono g.f⟩
  | dk kvs => obtain ⟨a, xs, e, f, h0, h, r⟩ := h; exact ⟨a, xs, e, g.n a f (by rw [h]; simp), h0, g.h a _ h, r.mono g.f⟩
  | dl kvs => obtain ⟨a, xs, od, e, f, h0, h, r⟩ := h; exact ⟨a, xs, od, e, g.n a f (by rw [h]; simp), h0, g.h a _ h, r.mono g.f⟩
  | xn c p => obtain ⟨b, e, r⟩ := h; exact ⟨b, e, k.mono _ _ _ _ _ r g.f⟩
section
variable {k : Kx} {F0 H0 F H F' H' : Hp} {env : SEnv} {σ : St}
theorem EnvOk.grow (E : EnvOk k F0 H0 env σ F H) (g : Grow F H F' H') : EnvOk k F0 H0 env σ F' H' :=
  ⟨E.len, fun i s e => (E.sl i s e).grow g, E.dj, g.ok, E.f0.trans g.f, E.h0.trans g.h, fun b e h => g.n b (E.nb b e h) (same_ne E.h0 h)⟩
/-- what a slot holds is not of one's own -/
def Free (k : Kx) (F : Hp) (v : V) (d : D) : Prop := Rp k.K F v d
theorem EnvOk.at (E : EnvOk k F0 H0 env σ F H) {i : Nat} {s : Slot} (h : env[i]? = some s) (h2 : isOwn s = true) : ∃ a o, σ[i]? = some (some (.ref a)) ∧ F a = none ∧ H0 a = none ∧ H a = some o ∧ NoT o := by
  have q := E.sl i s h
  cases s with
  | ow ds => obtain ⟨a, xs, e, f, h0, h, r⟩ := q; exact ⟨a, _, e, f, h0, h, noT_lst⟩
  | dt ds => obtain ⟨a, xs, e, f, h0, h, r⟩ := q; exact ⟨a, _, e, f, h0, h, noT_dT⟩
  | dk ds => obtain ⟨a, xs, e, f, h0, h, r⟩ := q; exact ⟨a, _, e, f, h0, h, noT_dK⟩
  | dl ds => obtain ⟨a, xs, od, e, f, h0, h, r⟩ := q; exact ⟨a, _, e, f, h0, h, noT_dL⟩
  | _ => simp [isOwn] at h2
/-- a slot takes a frozen datum -/
theorem EnvOk.setFz (E : EnvOk k F0 H0 env σ F H) {v : V} {d : D} (r : Rp k.K F v d) (i : Nat) : EnvOk k F0 H0 (env.set i (.fz d)) (σ.set i (some v)) F H := by
  refine ⟨by simp [E.len], fun j s e => ?_, fun j k2 sj sk a e1 e2 o1 o2 s1 s2 => ?_, E.ok, E.f0, E.h0, E.nb⟩
  · by_cases q : i = j
    · subst q
      by_cases l : i < env.length
      · rw [List.getElem?_set_self l] at e
        cases e
        exact ⟨v, by rw [List.getElem?_set_self (by rw [← E.len]; exact l)], r⟩
      · rw [List.getElem?_eq_none (by simpa using l)] at e; cases e
    · rw [List.getElem?_set_ne q] at e
      rw [List.getElem?_set_ne q]
      exact E.sl j s e
  · have nj : i ≠ j := fun q => by
      subst q
      by_cases l : i < env.length
      · rw [List.getElem?_set_self l] at e1; cases e1; simp [isOwn] at o1
      · rw [List.getElem?_eq_none (by simpa using l)] at e1; cases e1
    have nk : i ≠ k2 := fun q => by
      subst q
      by_cases l : i < env.length
      · rw [List.getElem?_set_self l] at e2; cases e2; simp [isOwn] at o2
      · rw [List.getElem?_eq_none (by simpa using l)] at e2; cases e2
    rw [List.getElem?_set_ne nj] at e1 s1
    rw [List.getElem?_set_ne nk] at e2 s2
    exact E.dj j k2 sj sk a e1 e2 o1 o2 s1 s2
/-- a slot is forgotten -/
theorem EnvOk.setUn (E : EnvOk k F0 H0 env σ F H) (i : Nat) : EnvOk k F0 H0 (env.set i .un) σ F H := by
  refine ⟨by simp [E.len], fun j s e => ?_, fun j k2 sj sk a e1 e2 o1 o2 s1 s2 => ?_, E.ok, E.f0, E.h0, E.nb⟩
  · by_cases q : i = j
    · subst q
      by_cases l : i < env.length
      · rw [List.getElem?_set_self l] at e
        cases e
        trivial
      · rw [List.getElem?_eq_none (by simpa using l)] at e; cases e
    · rw [List.getElem?_set_ne q] at e
      exact E.sl j s e
  · have nj : i ≠ j := fun q => by
      subst q
      by_cases l : i < env.length
      · rw [List.getElem?_set_self l] at e1; cases e1; simp [isOwn] at o1
      · rw [List.getElem?_eq_none (by simpa using l)] at e1; cases e1
    have nk : i ≠ k2 := fun q => by
      subst q
      by_cases l : i < env.length
      · rw [List.getElem?_set_self l] at e2; cases e2; simp [isOwn] at o2
      · rw [List.getElem?_eq_none (by simpa using l)] at e2; cases e2
    rw [List.getElem?_set_ne nj] at e1
    rw [List.getElem?_set_ne nk] at e2
    exact E.dj j k2 sj sk a e1 e2 o1 o2 s1 s2
theorem EnvOk.killS (E : EnvOk k F0 H0 env σ F H) : ∀ (is : List Nat), EnvOk k F0 H0 (killS is env) σ F H := fun is => by
  unfold VL.killS
  induction is generalizing env with
  | nil => exact E
  | cons i is ih => exact ih (E.setUn i)
/-- a slot takes a new object of one's own: a stands in no other slot -/
theorem EnvOk.setOwn (E : EnvOk k F0 H0 env σ F H) {a : Addr} {s : Slot} (i : Nat) (so : SlotOk k F H0 H (some (some (.ref a))) s) (nw : ∀ (j : Nat) (sj : Slot), j ≠ i → env[j]? = some sj → isOwn sj = true → σ[j]? ≠ some (some (.ref a))) :
    EnvOk k F0 H0 (env.set i s) (σ.set i (some (.ref a))) F H := by
  refine ⟨by simp [E.len], fun j s' e => ?_, fun j k2 sj sk b e1 e2 o1 o2 s1 s2 => ?_, E.ok, E.f0, E.h0, E.nb⟩
  · by_cases q : i = j
    · subst q
      by_cases l : i < env.length
      · rw [List.getElem?_set_self l] at e
        cases e
        rw [List.getElem?_set_self (by rw [← E.len]; exact l)]
        exact so
      · rw [List.getElem?_eq_none (by simpa using l)] at e; cases e
    · rw [List.getElem?_set_ne q] at e
      rw [List.getElem?_set_ne q]
      exact E.sl j s' e
  · by_cases qj : i = j
    · by_cases qk : i = k2
      · rw [← qj, ← qk]
      · subst qj
        have l : i < σ.length := by
          rcases Nat.lt_or_ge i σ.length with h | h
          · exact h
          · rw [List.getElem?_eq_none (by simpa using h)] at s1; cases s1
        rw [List.getElem?_set_self l] at s1
        cases s1
        rw [List.getElem?_set_ne qk] at e2 s2
        exact absurd s2 (nw k2 sk (Ne.symm qk) e2 o2)
    · by_cases qk : i = k2
      · subst qk
        have l : i < σ.length := by
          rcases Nat.lt_or_ge i σ.length with h | h
          · exact h
          · rw [List.getElem?_eq_none (by simpa using h)] at s2; cases s2
        rw [List.getElem?_set_self l] at s2
        cases s2
        rw [List.getElem?_set_ne qj] at e1 s1
        exact absurd s1 (nw j sj (Ne.symm qj) e1 o1)
      · rw [List.getElem?_set_ne qj] at e1 s1
        rw [List.getElem?_set_ne qk] at e2 s2
        exact E.dj j k2 sj sk b e1 e2 o1 o2 s1 s2
/-- the list of a slot is changed -/
theorem EnvOk.write (E : EnvOk k F0 H0 env σ F H) {a : Addr} {o : HO} {s s' : Slot} {i : Nat} (hi : env[i]? = some s) (os : isOwn s = true) (ha : σ[i]? = some (some (.ref a))) (nt : NoT o) (so : SlotOk k F H0 (upd H a o) (some (some (.ref a))) s') :
    EnvOk k F0 H0 (env.set i s') σ F (upd H a o) := by
  obtain ⟨a', o', e, f, h0, h, _⟩ := E.at hi os
  have ea : a' = a := by rw [ha] at e; cases e; rfl
  subst ea
  have l : i < env.length := (List.getElem?_eq_some_iff.mp hi).1
  refine ⟨by simp [E.len], fun j sj e1 => ?_, fun j k2 sj sk b e1 e2 o1 o2 s1 s2 => ?_, E.ok.write f nt, E.f0, fun b x e1 => ?_, E.nb⟩
  · by_cases q : i = j
    · subst q
      rw [List.getElem?_set_self l] at e1
      cases e1
      rw [ha]
      exact so
    · rw [List.getElem?_set_ne q] at e1
      have z := E.sl j sj e1
      have ne : ∀ b, isOwn sj = true → σ[j]? = some (some (.ref b)) → b ≠ a' := fun b oj sb x => by
        subst x
        exact q (E.dj i j s sj b hi e1 os oj ha sb)
      cases sj with
      | un => trivial
      | fz d => exact z
      | ow ds => obtain ⟨c, xs, x1, x2, x3, x4, x5⟩ := z; exact ⟨c, xs, x1, x2, x3, by rw [upd_ne (ne c rfl x1)]; exact x4, x5⟩
      | dt ds => obtain ⟨c, xs, x1, x2, x3, x4, x5⟩ := z; exact ⟨c, xs, x1, x2, x3, by rw [upd_ne (ne c rfl x1)]; exact x4, x5⟩
      | dk ds => obtain ⟨c, xs, x1, x2, x3, x4, x5⟩ := z; exact ⟨c, xs, x1, x2, x3, by rw [upd_ne (ne c rfl x1)]; exact x4, x5⟩
      | dl ds => obtain ⟨c, xs, od, x1, x2, x3, x4, x5⟩ := z; exact ⟨c, xs, od, x1, x2, x3, by rw [upd_ne (ne c rfl x1)]; exact x4, x5⟩
      | xn c p => exact z
  · by_cases qj : i = j
    · by_cases qk : i = k2
      · rw [← qj, ← qk]
      · subst qj
        rw [List.getElem?_set_ne qk] at e2
        exact E.dj i k2 s sk b hi e2 os o2 s1 s2
    · by_cases qk : i = k2
      · subst qk
        rw [List.getElem?_set_ne qj] at e1
        exact E.dj j i sj s b e1 hi o1 os s1 s2
      · rw [List.getElem?_set_ne qj] at e1
        rw [List.getElem?_set_ne qk] at e2
        exact E.dj j k2 sj sk b e1 e2 o1 o2 s1 s2
  · rw [upd_ne (fun q => by subst q; rw [h0] at e1; cases e1)]
    exact E.h0 b x e1
end

/-! ### what a result is -/
def RR (K : PySem.W.Frag) (σ : St) (env : SEnv) (H F' H' : Hp) : R → V → Prop
  | .fz d, v => Rp K F' v d
  | .nw ds, v => ∃ a xs, v = .ref a ∧ F' a = none ∧ H a = none ∧ H' a = some (.lst xs) ∧ RpL K F' xs ds
  | .bw i ds, v => ∃ a xs, v = .ref a ∧ σ[i]? = some (some (.ref a)) ∧ env[i]? = some (.ow ds) ∧ F' a = none ∧ H' a = some (.lst xs) ∧ RpL K F' xs ds
/-- what may be read -/
def RA (K : PySem.W.Frag) (F H : Hp) (v : V) (d : D) : Prop := Rp K F v d ∨ ∃ a xs ds, d = .list ds ∧ v = .ref a ∧ H a = some (.lst xs) ∧ RpL K F xs ds
section
variable {K : PySem.W.Frag} {F0 H0 F H F' H' F'' H'' : Hp} {env : SEnv} {σ : St} {r : R} {v : V}
theorem RR.grow (h : RR K σ env H F' H' r v) (g : Grow F' H' F'' H'') : RR K σ env H F'' H'' r v := by
  cases r with
  | fz d => exact h.mono g.f
  | nw ds => obtain ⟨a, xs, e, f, h0, h, r⟩ := h; exact ⟨a, xs, e, g.n a f (by rw [h]; simp), h0, g.h a _ h, r.mono g.f⟩
  | bw i ds => obtain ⟨a, xs, e, s, z, f, h, r⟩ := h; exact ⟨a, xs, e, s, z, g.n a f (by rw [h]; simp), g.h a _ h, r.mono g.f⟩
theorem RR.back {H1 : Hp} (h : RR K σ env H1 F' H' r v) (e : Same H H1) : RR K σ env H F' H' r v := by
  cases r with
  | fz d => exact h
  | nw ds => obtain ⟨a, xs, q, f, h0, h, r⟩ := h; exact ⟨a, xs, q, f, e.free h0, h, r⟩
  | bw i ds => exact h
theorem RR.ra (h : RR K σ env H F' H' r v) : RA K F' H' v r.d := by
  cases r with
  | fz d => exact .inl h
  | nw ds => obtain ⟨a, xs, e, f, h0, h, r⟩ := h; exact .inr ⟨a, xs, ds, rfl, e, h, r⟩
  | bw i ds => obtain ⟨a, xs, e, s, z, f, h, r⟩ := h; exact .inr ⟨a, xs, ds, rfl, e, h, r⟩
theorem RA.rp {d : D} (k : Ok F H) (h : RA K F H v d) : Rp K H v d := by
  rcases h with h | ⟨a, xs, ds, rfl, rfl, h, r⟩
  · exact h.mono k.sm
  · exact .lst (.of h) (r.mono k.sm)
theorem RA.grow {d : D} (h : RA K F H v d) (g : Grow F H F' H') : RA K F' H' v d := by
  rcases h with h | ⟨a, xs, ds, rfl, rfl, h, r⟩
  · exact .inl (h.mono g.f)
  · exact .inr ⟨a, xs, ds, rfl, rfl, g.h a _ h, r.mono g.f⟩
theorem RA.int {i : Int} (h : RA K F H v (.int i)) : v = .int i := by
  rcases h with h | ⟨a, xs, ds, e, _⟩
  · cases h; rfl
  · cases e
theorem RA.bool {i : Bool} (h : RA K F H v (.bool i)) : v = .bl i := by
  rcases h with h | ⟨a, xs, ds, e, _⟩
  · cases h; rfl
  · cases e
theorem RA.str {i : Str} (h : RA K F H v (.str i)) : v = .str i := by
  rcases h with h | ⟨a, xs, ds, e, _⟩
  · cases h; rfl
  · cases e
theorem RA.none (h : RA K F H v .none) : v = .non := by
  rcases h with h | ⟨a, xs, ds, e, _⟩
  · cases h; rfl
  · cases e
theorem RA.list {ds : List D} (k : Ok F H) (h : RA K F H v (.list ds)) : ∃ a xs, v = .ref a ∧ SqL K H a xs ∧ RpL K F xs ds := by
  rcases h with h | ⟨a, xs, ds', e, rfl, h, r⟩
  · cases h with
    | lst h1 h2 => exact ⟨_, _, rfl, k.sm.seq h1, h2⟩
  · cases e; exact ⟨a, xs, rfl, .of h, r⟩
theorem RA.tuple {ds : List D} (k : Ok F H) (h : RA K F H v (.tuple ds)) : ∃ a xs, v = .ref a ∧ SqT K H a xs ∧ RpL K F xs ds := by
  rcases h with h | ⟨a, xs, ds', e, _⟩
  · cases h with
    | tup h1 h2 => exact ⟨_, _, rfl, (h1.mono k.sm).seq, h2⟩
  · cases e
theorem RA.tupleF {ds : List D} (k : Ok F H) (h : RA K F H v (.tuple ds)) : ∃ a xs, v = .ref a ∧ TpA K F a xs ds ∧ SqT K H a xs ∧ RpL K F xs ds := by
  rcases h with h | ⟨a, xs, ds', e, _⟩
  · cases h with
    | tup h1 h2 => exact ⟨_, _, rfl, h1, (h1.mono k.sm).seq, h2⟩
  · cases e
/-- a new list is frozen -/
theorem freeze1 {a : Addr} {o : HO} (k : Ok F H) (h : H a = some o) : ∃ F2, Ok F2 H ∧ Same F F2 ∧ F2 a = some o ∧ ∀ b, b ≠ a → F2 b = F b := by
  cases q : F a with
  | none => exact ⟨upd F a o, k.freeze q h, same_upd q, upd_same, fun b hb => upd_ne hb⟩
  | some u =>
    have z := k.sm a u q
    rw [h] at z
    cases z
    exact ⟨F, k, Same.refl F, q, fun _ _ => rfl⟩
theorem Grow.freeze {a : Addr} {o : HO} (g : Grow F H F' H') (h0 : H a = none) (h : H' a = some o) : ∃ F2, Grow F H F2 H' ∧ Same F' F2 ∧ F2 a = some o := by
  obtain ⟨F2, k, s, e, n⟩ := freeze1 g.ok h
  refine ⟨F2, ⟨g.f.trans s, g.h, k, fun b e1 e2 => ?_⟩, s, e⟩
  rw [n b fun q => e2 (by rw [q]; exact h0)]
  exact g.n b e1 e2
/-- what is kept is frozen -/
theorem RR.keep {d : D} (h : RR K σ env H F' H' r v) (g : Grow F H F' H') (k : keepR r = some d) : ∃ F2, Grow F H F2 H' ∧ Same F' F2 ∧ Rp K F2 v d := by
  cases r with
  | fz d' => cases k; exact ⟨F', g, Same.refl _, h⟩
  | nw ds =>
    cases k
    obtain ⟨a, xs, rfl, f, h0, h, r⟩ := h
    obtain ⟨F2, g2, s, e⟩ := g.freeze h0 h
    exact ⟨F2, g2, s, .lst (.of e) (r.mono s)⟩
  | bw i ds => cases k
/-- the list of a slot is frozen -/
theorem EnvOk.freeze {k : Kx} (E : EnvOk k F0 H0 env σ F H) {ds : List D} {i : Nat} (hi : env[i]? = some (.ow ds)) : ∃ F', Same F F' ∧ EnvOk k F0 H0 (env.set i (.fz (.list ds))) σ F' H := by
  obtain ⟨a, xs, e, f, h0, h, r⟩ := E.sl i _ hi
  obtain ⟨F2, ok2, s, e2, n⟩ := freeze1 E.ok h
  have l : i < env.length := (List.getElem?_eq_some_iff.mp hi).1
  refine ⟨F2, s, ⟨by simp [E.len], fun j sj e1 => ?_, fun j k' sj sk b e1 e2 o1 o2 s1 s2 => ?_, ok2, E.f0.trans s, E.h0, fun b x y => ?_⟩⟩
  · by_cases q : i = j
    · subst q
      rw [List.getElem?_set_self l] at e1
      cases e1
      exact ⟨.ref a, e, .lst (.of e2) (r.mono s)⟩
    · rw [List.getElem?_set_ne q] at e1
      have z := E.sl j sj e1
      have ne : ∀ b, isOwn sj = true → σ[j]? = some (some (.ref b)) → b ≠ a := fun b oj sb x => by
        subst x
        exact q (E.dj i j _ sj b hi e1 rfl oj e sb)
      cases sj with
      | un => trivial
      | fz d => obtain ⟨v, x1, x2⟩ := z; exact ⟨v, x1, x2.mono s⟩
      | ow ds => obtain ⟨c, xs, x1, x2, x3, x4, x5⟩ := z; exact ⟨c, xs, x1, by rw [n c (ne c rfl x1)]; exact x2, x3, x4, x5.mono s⟩
      | dt ds => obtain ⟨c, xs, x1, x2, x3, x4, x5⟩ := z; exact ⟨c, xs, x1, by rw [n c (ne c rfl x1)]; exact x2, x3, x4, x5.mono s⟩
      | dk ds => obtain ⟨c, xs, x1, x2, x3, x4, x5⟩ := z; exact ⟨c, xs, x1, by rw [n c (ne c rfl x1)]; exact x2, x3, x4, x5.mono s⟩
      | dl ds => obtain ⟨c, xs, od, x1, x2, x3, x4, x5⟩ := z; exact ⟨c, xs, od, x1, by rw [n c (ne c rfl x1)]; exact x2, x3, x4, x5.mono s⟩
      | xn c p => obtain ⟨b, x1, x2⟩ := z; exact ⟨b, x1, k.mono _ _ _ _ _ x2 s⟩
  · have nj : i ≠ j := fun q => by
      subst q
      rw [List.getElem?_set_self l] at e1; cases e1; simp [isOwn] at o1
    have nk : i ≠ k' := fun q => by
      subst q
      rw [List.getElem?_set_self l] at e2; cases e2; simp [isOwn] at o2
    rw [List.getElem?_set_ne nj] at e1
    rw [List.getElem?_set_ne nk] at e2
    exact E.dj j k' sj sk b e1 e2 o1 o2 s1 s2
  · rw [n b fun q => y (by rw [q]; exact h0)]
    exact E.nb b x y
end
end VL
/-! the value layer, 4: the builtins, by values -/
namespace VL
open PySem PySem.Spec L2
/-- * of two factors of together less than a hundred million bits -/
def CMulV (i j : Int) : Prop := i.natAbs.log2 + j.natAbs.log2 < 100000000
theorem CMulV.ok {i j : Int} (h : CMulV i j) : IntMulOk i j := by
  have b : ∀ x : Int, Builtin.Int.intBits x ≤ x.natAbs.log2 + 1 := fun x => by
    unfold Builtin.Int.intBits
    split <;> omega
  have h1 := b i
  have h2 := b j
  have h3 : i.natAbs.log2 + j.natAbs.log2 < 100000000 := h
  have e : bitsLine = 134217728 := by decide
  unfold IntMulOk
  intro z
  rw [Bool.and_eq_true] at z
  have z2 := z.2
  unfold Builtin.Int.intTooBig at z2
  have z3 := of_decide_eq_true z2
  rw [e] at z3
  omega
theorem op_mulV {X : Cx} : OpR X (binaryOp .Mult) (rI CMulV fun i j => .int (i * j)) := opI fun _ _ _ _ _ _ _ hc q => PySem.P.mul_int q hc.ok
abbrev St := L2.St

/-- what a new result is -/
def PRok (K : PySem.W.Frag) (H F' H' : Hp) : PR → V → Prop
  | .v d, v => Rp K F' v d
  | .l ds, v => ∃ a xs, v = .ref a ∧ F' a = none ∧ H a = none ∧ H' a = some (.lst xs) ∧ RpL K F' xs ds
/-- what a rule's reading gets -/
def QP (K : PySem.W.Frag) (F H : Hp) (r : PR) (Q : VK) : Prop := ∀ F' H' v, Grow F H F' H' → PRok K H F' H' r v → Q v H'
theorem PRok.rr {K : PySem.W.Frag} {H F' H' : Hp} {r : PR} {v : V} {σ : St} {env : SEnv} (h : PRok K H F' H' r v) : RR K σ env H F' H' r.r v := by
  cases r with
  | v d => exact h
  | l ds => exact h
section
variable {K : PySem.W.Frag} {F H : Hp} {Q : VK}
theorem QP.int {i : Int} (k : Ok F H) (h : QP K F H (.v (.int i)) Q) : Q (.int i) H := h F H _ (Grow.refl k) (.int i)
theorem QP.bool {i : Bool} (k : Ok F H) (h : QP K F H (.v (.bool i)) Q) : Q (.bl i) H := h F H _ (Grow.refl k) (.bl i)
theorem QP.str {i : Str} (k : Ok F H) (h : QP K F H (.v (.str i)) Q) : Q (.str i) H := h F H _ (Grow.refl k) (.str i)
/-- a new list -/
theorem QP.lst {ds : List D} {xs : List V} {p : Addr} (k : Ok F H) (h : QP K F H (.l ds) Q) (hp : H p = none) (r : RpL K F xs ds) : Q (.ref p) (upd H p (.lst xs)) :=
  h F _ _ (Grow.own k hp noT_lst) ⟨p, xs, rfl, k.sm.free hp, hp, upd_same, r⟩
/-- a new tuple -/
theorem QP.tup {ds : List D} {xs : List V} {p : Addr} (k : Ok F H) (h : QP K F H (.v (.tuple ds)) Q) (hp : H p = none) (r : RpL K F xs ds) : Q (.ref p) (upd H p (.tup xs)) := by
  have g := Grow.new (o := .tup xs) k hp
  exact h _ _ _ g (.tup (.of upd_same) (r.mono g.f))
/-- what stands already -/
theorem QP.same {d : D} {v : V} (k : Ok F H) (h : QP K F H (.v d) Q) (r : Rp K F v d) : Q v H := h F H v (Grow.refl k) r
end

section
variable {X : Cx}
/-! ### list + list, whatever the lists are -/
def rCatL (K : PySem.W.Frag) : R2 := fun x y H Q => ∃ l b xs zs, x = .ref l ∧ y = .ref b ∧ SqL K H l xs ∧ SqL K H b zs ∧ xs.length + zs.length ≤ sizeLine ∧ ∀ p, H p = none → Q (.ref p) (upd H p (.lst (xs ++ zs)))
theorem op_catL : OpR X (binaryOp .Add) (rCatL X.K) := by
  intro pins s σ H x y v u Q I rx ry h
  obtain ⟨l, b, xs, zs, rfl, rfl, hH, hB, hz, q⟩ := h
  cases rx
  cases ry
  obtain ⟨its, r, ⟨⟨cls, dd, data, sl⟩, n, ho, hc, hdn, hd⟩, z1⟩ := I.list hH
  obtain ⟨its2, r2, ⟨⟨cls2, dd2, data2, sl2⟩, n2, ho2, hc2, hdn2, hd2⟩, z2⟩ := I.list hB
  simp only at hc hd hc2 hd2
  subst hc hd hc2 hd2
  have h1 := r.length
  have h2 := r2.length
  refine PySem.concat_meets ⟨_, ho, rfl⟩ ⟨_, ho2, rfl⟩ PySem.noFill_list_add PySem.seq_list_add PySem.F.slot_list_add PySem.F.entry_list_add (PySem.F.args_list_add_2 _ _) (PyProof.Rows.list_addW l b its.toArray its2.toArray n n2 dd dd2 sl sl2 (by rw [List.size_toArray, List.size_toArray]; omega)) ⟨ho, ho2, ?_⟩
  have ea : its.toArray ++ its2.toArray = (its ++ its2).toArray := by simp
  rw [ea]
  exact ⟨.ref _, _, I.lnew (t' := s.toks) (r.append r2) (by rw [List.length_append]; omega), rfl, q _ I.fresh⟩

/-! ### order of data -/
def rLtD (K : PySem.W.Frag) (f : D → D → Bool) : R2 := fun x y H Q => ∃ d e, Dp K H x d ∧ Dp K H y e ∧ PySem.W.alike d e = true ∧ d ≠ .none ∧ d.depth ≤ 30 ∧ Q (.bl (f d e)) H
theorem op_ltD (hu : X.A.units + 64 < cLine) : OpR X (compareOp .Lt) (rLtD X.K fun d e => PySem.W.dataLt d e) := by
  intro pins s σ H x y v u Q I rx ry h
  obtain ⟨d, e, hd, he, al, dn, de, q⟩ := h
  obtain ⟨as, r1⟩ := Dp.reads I d x v hd rx
  obtain ⟨bs, r2⟩ := Dp.reads I e y u he ry
  exact PySem.W.lt_data r1 r2 al dn (by omega) ⟨.bl _, H, I, rfl, q⟩
theorem op_gtD (hu : X.A.units + 64 < cLine) : OpR X (compareOp .Gt) (rLtD X.K fun d e => PySem.W.dataLt e d) := by
  intro pins s σ H x y v u Q I rx ry h
  obtain ⟨d, e, hd, he, al, dn, de, q⟩ := h
  obtain ⟨as, r1⟩ := Dp.reads I d x v hd rx
  obtain ⟨bs, r2⟩ := Dp.reads I e y u he ry
  exact PySem.W.gt_data r1 r2 al dn (by omega) ⟨.bl _, H, I, rfl, q⟩
theorem op_leD (hu : X.A.units + 64 < cLine) : OpR X (compareOp .LtE) (rLtD X.K fun d e => !PySem.W.dataLt e d) := by
  intro pins s σ H x y v u Q I rx ry h
  obtain ⟨d, e, hd, he, al, dn, de, q⟩ := h
  obtain ⟨as, r1⟩ := Dp.reads I d x v hd rx
  obtain ⟨bs, r2⟩ := Dp.reads I e y u he ry
  exact PySem.W.le_data r1 r2 al dn (by omega) ⟨.bl _, H, I, rfl, q⟩
theorem op_geD (hu : X.A.units + 64 < cLine) : OpR X (compareOp .GtE) (rLtD X.K fun d e => !PySem.W.dataLt d e) := by
  intro pins s σ H x y v u Q I rx ry h
  obtain ⟨d, e, hd, he, al, dn, de, q⟩ := h
  obtain ⟨as, r1⟩ := Dp.reads I d x v hd rx
  obtain ⟨bs, r2⟩ := Dp.reads I e y u he ry
  exact PySem.W.ge_data r1 r2 al dn (by omega) ⟨.bl _, H, I, rfl, q⟩
/-! ### in -/
def rInS (K : PySem.W.Frag) (neg : Bool) : R2 := fun x y H Q => ∃ d e ds, Dp K H x d ∧ Dp K H y e ∧ (e = .list ds ∨ e = .tuple ds) ∧ sh 31 d = true ∧ sh 31 e = true ∧ Q (.bl (neg ^^ ds.any fun z => PyData.eqv z d)) H
theorem sh_shaped {n : Nat} {d : D} (h : sh n d = true) (hn : n ≤ 64) : SeqAt.shaped d = true := shaped_of (sh_mono hn h)
theorem op_inS (hu : X.A.units + 65 < cLine) : OpR X (compareOp .In) (rInS X.K false) := by
  intro pins s σ H x y v u Q I rx ry h
  obtain ⟨d, e, ds, hd, he, ht, s1, s2, q⟩ := h
  obtain ⟨as, r1⟩ := Dp.reads I d x v hd rx
  obtain ⟨bs, r2⟩ := Dp.reads I e y u he ry
  have l1 := SeqAt.canLay_of_shaped (sh_shaped s1 (by decide))
  have l2 := SeqAt.canLay_of_shaped (sh_shaped s2 (by decide))
  rw [Bool.false_xor] at q
  rcases ht with rfl | rfl
  · exact SeqAt.in_list_reads r2 r1 (by rw [PyData.canLay0] at l2; exact l2) l1 (PyProof.Rows.room_in_shaped (sh_shaped s1 (by decide)) hu) ⟨.bl _, H, I, rfl, q⟩
  · exact SeqAt.in_tuple_reads r2 r1 (by rw [PyData.canLay0] at l2; exact l2) l1 (PyProof.Rows.room_in_shaped (sh_shaped s1 (by decide)) hu) ⟨.bl _, H, I, rfl, q⟩
theorem op_notInS (hu : X.A.units + 65 < cLine) : OpR X (compareOp .NotIn) (rInS X.K true) := by
  intro pins s σ H x y v u Q I rx ry h
  obtain ⟨d, e, ds, hd, he, ht, s1, s2, q⟩ := h
  obtain ⟨as, r1⟩ := Dp.reads I d x v hd rx
  obtain ⟨bs, r2⟩ := Dp.reads I e y u he ry
  have l1 := SeqAt.canLay_of_shaped (sh_shaped s1 (by decide))
  have l2 := SeqAt.canLay_of_shaped (sh_shaped s2 (by decide))
  rw [Bool.true_xor] at q
  rcases ht with rfl | rfl
  · exact SeqAt.notIn_list_reads r2 r1 (by rw [PyData.canLay0] at l2; exact l2) l1 (PyProof.Rows.room_in_shaped (sh_shaped s1 (by decide)) hu) ⟨.bl _, H, I, rfl, q⟩
  · exact SeqAt.notIn_tuple_reads r2 r1 (by rw [PyData.canLay0] at l2; exact l2) l1 (PyProof.Rows.room_in_shaped (sh_shaped s1 (by decide)) hu) ⟨.bl _, H, I, rfl, q⟩
end

/-! ### comparisons, operators -/
/-- a rule for an operation at these two data -/
def Rule2 (X : Cx) (f : Value → Value → Sem Value) (d e : D) (r : PR) : Prop :=
  ∃ ru : R2, OpR X f ru ∧ ∀ F H v w Q, Ok F H → RA X.K F H v d → RA X.K F H w e → QP X.K F H r Q → ru v w H Q
section
variable {X : Cx}
theorem sh_all {n : Nat} {xs : List D} (h : xs.all (sh n) = true) : sh (n + 1) (.list xs) = true ∧ sh (n + 1) (.tuple xs) = true := by
  rw [sh, sh]; exact ⟨h, h⟩
theorem sizes {n : Nat} (h : n ≤ LIM) : n ≤ sizeLine := by
  have := sizeLine_eq
  unfold LIM at h
  omega
theorem isNone_ne {d : D} (h : isNone d = false) : d ≠ .none := fun e => by subst e; cases h
theorem xor_f (b : Bool) : (false ^^ b) = b := Bool.false_xor b
theorem lt_rule (hu : X.A.units + 64 < cLine) {d e : D} {k : Bool} (h : ltD d e = some k) : Rule2 X (compareOp .Lt) d e (.v (.bool k)) ∧ Rule2 X (compareOp .Gt) e d (.v (.bool k)) ∧ Rule2 X (compareOp .GtE) d e (.v (.bool (!k))) ∧ Rule2 X (compareOp .LtE) e d (.v (.bool (!k))) := by
  unfold ltD at h
  split at h
  · rename_i i j
    have e : decide (i < j) = k := Option.some.inj h
    subst e
    refine ⟨⟨_, op_lt, fun F H v w Q ok r1 r2 q => ⟨i, j, r1.int, r2.int, q.bool ok⟩⟩, ⟨_, op_gt, fun F H v w Q ok r1 r2 q => ⟨j, i, r1.int, r2.int, q.bool ok⟩⟩, ⟨_, op_ge, fun F H v w Q ok r1 r2 q => ⟨i, j, r1.int, r2.int, ?_⟩⟩, ⟨_, op_le, fun F H v w Q ok r1 r2 q => ⟨j, i, r1.int, r2.int, ?_⟩⟩⟩
    · have := q.bool ok
      rw [← decide_not] at this
      have e : decide (¬ i < j) = decide (j ≤ i) := by congr 1; simp
      rw [e] at this
      exact this
    · have := q.bool ok
      rw [← decide_not] at this
      have e : decide (¬ i < j) = decide (j ≤ i) := by congr 1; simp
      rw [e] at this
      exact this
  · split at h
    · rename_i c
      obtain ⟨c1, c2, c3, c4⟩ := c
      have e : PySem.W.dataLt d e = k := Option.some.inj h
      subst e
      have hn := isNone_ne c2
      have al : PySem.W.alike e d = true := by rw [PySem.W.alike_comm]; exact c1
      have hn2 : e ≠ .none := PySem.W.ne_none_both c1 hn
      obtain ⟨l3, d3⟩ := sh_lay c3
      obtain ⟨l4, d4⟩ := sh_lay c4
      refine ⟨⟨_, op_ltD hu, fun F H v w Q ok r1 r2 q => ⟨d, e, (r1.rp ok).dp _ c3, (r2.rp ok).dp _ c4, c1, hn, d3, q.bool ok⟩⟩, ⟨_, op_gtD hu, fun F H v w Q ok r1 r2 q => ⟨e, d, (r1.rp ok).dp _ c4, (r2.rp ok).dp _ c3, al, hn2, d4, q.bool ok⟩⟩,
        ⟨_, op_geD hu, fun F H v w Q ok r1 r2 q => ⟨d, e, (r1.rp ok).dp _ c3, (r2.rp ok).dp _ c4, c1, hn, d3, q.bool ok⟩⟩, ⟨_, op_leD hu, fun F H v w Q ok r1 r2 q => ⟨e, d, (r1.rp ok).dp _ c4, (r2.rp ok).dp _ c3, al, hn2, d4, q.bool ok⟩⟩⟩
    · cases h
theorem map_some {α β : Type} {o : Option α} {f : α → β} {b : β} (h : o.map f = some b) : ∃ a, o = some a ∧ f a = b := by
  cases o with
  | none => cases h
  | some a => exact ⟨a, rfl, Option.some.inj h⟩
theorem in_rule (hu : X.A.units + 65 < cLine) {d e : D} {k : Bool} (h : inD d e = some k) : Rule2 X (compareOp .In) d e (.v (.bool k)) ∧ Rule2 X (compareOp .NotIn) d e (.v (.bool (!k))) := by
  unfold inD at h
  split at h
  · rename_i ys
    split at h
    · rename_i c
      obtain ⟨c1, c2⟩ := c
      have e := Option.some.inj h
      subst e
      have z := (sh_all c2).1
      refine ⟨⟨_, op_inS hu, fun F H v w Q ok r1 r2 q => ⟨d, _, ys, (r1.rp ok).dp _ c1, (r2.rp ok).dp _ z, .inl rfl, sh_mono (by decide) c1, z, ?_⟩⟩, ⟨_, op_notInS hu, fun F H v w Q ok r1 r2 q => ⟨d, _, ys, (r1.rp ok).dp _ c1, (r2.rp ok).dp _ z, .inl rfl, sh_mono (by decide) c1, z, ?_⟩⟩⟩
      · rw [Bool.false_xor]; exact q.bool ok
      · rw [Bool.true_xor]; exact q.bool ok
    · cases h
  · rename_i ys
    split at h
    · rename_i c
      obtain ⟨c1, c2⟩ := c
      have e := Option.some.inj h
      subst e
      have z := (sh_all c2).2
      refine ⟨⟨_, op_inS hu, fun F H v w Q ok r1 r2 q => ⟨d, _, ys, (r1.rp ok).dp _ c1, (r2.rp ok).dp _ z, .inr rfl, sh_mono (by decide) c1, z, ?_⟩⟩, ⟨_, op_notInS hu, fun F H v w Q ok r1 r2 q => ⟨d, _, ys, (r1.rp ok).dp _ c1, (r2.rp ok).dp _ z, .inr rfl, sh_mono (by decide) c1, z, ?_⟩⟩⟩
      · rw [Bool.false_xor]; exact q.bool ok
      · rw [Bool.true_xor]; exact q.bool ok
    · cases h
  · rename_i z
    split at h
    · rename_i y
      split at h
      · rename_i c hc
        have e := Option.some.inj h
        subst e
        have ey : y = ⟨#[c]⟩ := by
          obtain ⟨a⟩ := y
          have : a = #[c] := by
            apply Array.toList_inj.mp
            exact hc
          rw [this]
        subst ey
        exact ⟨⟨_, op_in_sign, fun F H v w Q ok r1 r2 q => ⟨c, z, r1.str, r2.str, q.bool ok⟩⟩, ⟨_, op_notIn_sign, fun F H v w Q ok r1 r2 q => ⟨c, z, r1.str, r2.str, q.bool ok⟩⟩⟩
      · cases h
    · cases h
  · cases h
theorem eq_rule (hu : X.A.units + 64 < cLine) {d e : D} {k : Bool} (h : eqD d e = some k) : Rule2 X (compareOp .Eq) d e (.v (.bool k)) ∧ Rule2 X (compareOp .NotEq) d e (.v (.bool (!k))) := by
  unfold eqD at h
  split at h
  · rename_i c
    obtain ⟨c1, c2⟩ := c
    have e := Option.some.inj h
    subst e
    exact ⟨⟨_, op_eqD hu, fun F H v w Q ok r1 r2 q => ⟨d, _, (r1.rp ok).dp _ c1, (r2.rp ok).dp _ c2, sh_shaped c1 (by decide), sh_shaped c2 (by decide), q.bool ok⟩⟩,
      ⟨_, op_neD hu, fun F H v w Q ok r1 r2 q => ⟨d, _, (r1.rp ok).dp _ c1, (r2.rp ok).dp _ c2, sh_shaped c1 (by decide), sh_shaped c2 (by decide), q.bool ok⟩⟩⟩
  · cases h
theorem isNone_val {F H : Hp} {v : V} {d : D} (ok : Ok F H) (r : RA X.K F H v d) : decide (v = .non) = isNone d := by
  cases r.rp ok <;> simp [isNone]
theorem cmp_rule (hu : X.A.units + 65 < cLine) {op : CmpOp} {d e : D} {k : Bool} (h : cmpD op d e = some k) : Rule2 X (compareOp op) d e (.v (.bool k)) := by
  cases op with
  | Eq => exact (eq_rule (by omega) h).1
  | NotEq => obtain ⟨k', h1, rfl⟩ := map_some h; exact (eq_rule (by omega) h1).2
  | Lt => exact (lt_rule (by omega) h).1
  | LtE => obtain ⟨k', h1, rfl⟩ := map_some h; exact (lt_rule (by omega) h1).2.2.2
  | Gt => exact (lt_rule (by omega) h).2.1
  | GtE => obtain ⟨k', h1, rfl⟩ := map_some h; exact (lt_rule (by omega) h1).2.2.1
  | In => exact (in_rule hu h).1
  | NotIn => obtain ⟨k', h1, rfl⟩ := map_some h; exact (in_rule hu h1).2
  | Is =>
    unfold cmpD at h
    simp only at h
    split at h
    · rename_i c
      have e := Option.some.inj h
      subst e
      refine ⟨_, op_isN, fun F H v w Q ok r1 r2 q => ⟨?_, ?_⟩⟩
      · have := isNone_val ok r2
        rw [c] at this
        exact of_decide_eq_true this
      · rw [isNone_val ok r1]; exact q.bool ok
    · cases h
  | IsNot =>
    unfold cmpD at h
    simp only at h
    split at h
    · rename_i c
      have e := Option.some.inj h
      subst e
      refine ⟨_, op_notN, fun F H v w Q ok r1 r2 q => ⟨?_, ?_⟩⟩
      · have := isNone_val ok r2
        rw [c] at this
        exact of_decide_eq_true this
      · rw [isNone_val ok r1]; exact q.bool ok
    · cases h
theorem log_small {i : Int} (h : i.natAbs < 2 ^ 64) : i.natAbs < 2 ^ 64 := h
theorem binI_rule {op : Operator} {i j k : Int} (h : binI op i j = some k) : Rule2 X (binaryOp op) (.int i) (.int j) (.v (.int k)) := by
  unfold binI at h
  cases op with
  | Add => cases h; exact ⟨_, op_add, fun F H v w Q ok r1 r2 q => ⟨i, j, r1.int, r2.int, q.int ok⟩⟩
  | Sub => cases h; exact ⟨_, op_sub, fun F H v w Q ok r1 r2 q => ⟨i, j, r1.int, r2.int, q.int ok⟩⟩
  | Mult =>
    simp only at h
    split at h
    · rename_i c
      cases h
      refine ⟨_, op_mulV, fun F H v w Q ok r1 r2 q => ⟨i, j, r1.int, r2.int, ?_, q.int ok⟩⟩
      have := of_decide_eq_true c
      unfold CMulV
      omega
    · cases h
  | FloorDiv =>
    simp only at h
    split at h
    · rename_i c
      split at h
      · rename_i c2
        cases h
        refine ⟨_, op_fdivW, fun F H v w Q ok r1 r2 q => ⟨i, j, r1.int, r2.int, wide_div (b := 250) c ?_ (by decide) (by decide), q.int ok⟩⟩
        have e : ((2 : Int) ^ 250) = ((2 ^ 250 : Nat) : Int) := by norm_cast
        rw [e] at c2
        omega
      · cases h
    · split at h
      · rename_i c2
        cases h
        exact ⟨_, op_fdivN, fun F H v w Q ok r1 r2 q => ⟨i, j, r1.int, r2.int, c2, q.int ok⟩⟩
      · cases h
  | Mod =>
    simp only at h
    split at h
    · rename_i c
      cases h
      exact ⟨_, op_mod, fun F H v w Q ok r1 r2 q => ⟨i, j, r1.int, r2.int, c, q.int ok⟩⟩
    · cases h
  | Pow =>
    simp only at h
    split at h
    · rename_i c
      obtain ⟨c1, c2, c3⟩ := c
      cases h
      exact ⟨_, op_pow, fun F H v w Q ok r1 r2 q => ⟨i, j, r1.int, r2.int, ⟨c1, by omega, c3⟩, q.int ok⟩⟩
    · cases h
  | LShift =>
    simp only at h
    split at h
    · rename_i c
      obtain ⟨c1, c2, c3⟩ := c
      cases h
      exact ⟨_, op_shl, fun F H v w Q ok r1 r2 q => ⟨i, j, r1.int, r2.int, ⟨c1, by omega, c3⟩, q.int ok⟩⟩
    · cases h
  | RShift =>
    simp only at h
    split at h
    · rename_i c
      cases h
      exact ⟨_, op_shr, fun F H v w Q ok r1 r2 q => ⟨i, j, r1.int, r2.int, c, q.int ok⟩⟩
    · cases h
  | BitAnd => cases h; exact ⟨_, op_and, fun F H v w Q ok r1 r2 q => ⟨i, j, r1.int, r2.int, q.int ok⟩⟩
  | BitOr => cases h; exact ⟨_, op_or, fun F H v w Q ok r1 r2 q => ⟨i, j, r1.int, r2.int, q.int ok⟩⟩
  | BitXor => cases h; exact ⟨_, op_xor, fun F H v w Q ok r1 r2 q => ⟨i, j, r1.int, r2.int, q.int ok⟩⟩
  | _ => cases h
end
end VL
/-! the value layer, 5a: sorted of data -/
namespace VL
open PySem PySem.Spec PyProof.Rows

/-! ### the items of a tuple, collected -/
section
variable {prog : Program} {w : World} {A : Around} {E : Value → Shared → Prop} {s : Shared}
theorem collect_tuple {l : Addr} {vs : List Value} {Q : List Value → Shared → Prop} (hl : s.heap.IsTuple l vs.toArray)
    (h : Q vs { s with heap := (s.heap.push (seqObj "list" #[] 0)).update s.heap.objs.size (Obj.mapSeq (· ++ vs.toArray)) }) (hsz : vs.length ≤ sizeLine) :
    wpAny (model prog w) A (collect (.ref l)) Q E s := by
  obtain ⟨o, ho, hc, n, hd⟩ := id hl
  unfold collect
  refine wpAny_bind (wpAny_runValue (codeAny_builtin entry_proto_collect' ?_))
  show wpAny _ _ (do again (.builtin "list.__iadd__" ⟨[← newList [], .ref l], []⟩)) _ _ s
  refine wpAny_bind (wpAny_newList (wpAny_pure ⟨Code.quiet_builtin _ (by decide +kernel), codeAny_builtin entry_list_iadd' ?_⟩))
  show wpAny _ _ (Builtin.List.listExtendWith (.ref s.heap.objs.size) (.ref l) (.ref s.heap.objs.size)) _ _ { s with heap := s.heap.push (seqObj "list" #[] 0) }
  unfold Builtin.List.listExtendWith
  have ho' : (s.heap.push (seqObj "list" #[] 0)).get? l = some o := Heap.get?_push_of_some _ ho
  refine wpAny_bind (wpAny_typeOf (T := "tuple") ⟨o, ho', hc⟩ ?_)
  have ht : (Value.type "tuple" == Value.type "tuple") = true := by rfl
  rw [if_pos (by rw [ht]; simp)]
  refine wpAny_bind (listItems_at ho' hd ?_)
  refine wpAny_bind (listItems_at (xs := #[]) (n := 0) (Heap.get?_push_size _ rfl) rfl ?_)
  rw [if_neg (by simp)]
  refine wpAny_bind (listUpdate_at (xs := #[]) (n := 0) (Heap.get?_push_size _ rfl) rfl ?_ (Nat.zero_le _) (by show (#[] ++ vs.toArray).size ≤ sizeLine + 1; simp only [Array.size_append, List.size_toArray, List.length_nil]; omega))
  refine wpAny_pure ?_
  show wpAny (model prog w) A (do
      let o ← load s.heap.objs.size
      match o.data with
      | .seq xs _ => pure xs.toList
      | _ => unsupported "internal:collect") Q E { s with heap := (s.heap.push (seqObj "list" #[] 0)).update s.heap.objs.size (Obj.mapSeq (· ++ vs.toArray)) }
  refine wpAny_bind (wpAny_load (get?_update_seq (Heap.get?_push_size _ rfl) _) ?_)
  show wpAny _ _ (pure ((#[] : Array Value) ++ vs.toArray).toList) Q E _
  rw [show ((#[] : Array Value) ++ vs.toArray).toList = vs by simp]
  exact wpAny_pure h
end
end VL
namespace VL
open PySem PySem.Spec PyProof.Rows PySem.W
section
variable {prog : Program} {w : World} {A : Around} {E : Value → Shared → Prop} {s : Shared} {κ : PyProof.Rows.KeyKind}
/-- sorted(t), by what collecting gives -/
theorem sorted_of_sortC {x : Value} {vs : List Value} {Q : Value → Shared → Prop} (hcol : ∀ (A : Around) (E : Value → Shared → Prop) (Q : List Value → Shared → Prop), Q vs { s with heap := (s.heap.push (seqObj "list" #[] 0)).update s.heap.objs.size (Obj.mapSeq (· ++ vs.toArray)) } → wpAny (model prog w) A (collect x) Q E s) (hL : vs.length ≤ sizeLine) (ha1 : argsOk "sorted" ⟨[x], []⟩) (ha2 : ∀ x, argsOk "list.sort" ⟨[.ref x], []⟩)
    (body : ∀ E' : Value → Shared → Prop, wpAny (model prog w) A.in1.in1 (Builtin.«list.sort» ⟨[.ref (s.heap.objs.size + 1)], []⟩) (fun f s' => f = .done (.ret .none) ∧ Q (.ref (s.heap.objs.size + 1)) s') E' { s with heap := copyHeap s.heap vs }) :
    wpAny (model prog w) A (call (.builtin "sorted") [x] []) Q E s := by
  refine call_function_entry_kw kind_sorted plain_sorted entry_sorted ha1 ?_
  unfold Builtin.«sorted»
  refine wpAny_bind (m := checkCount "sorted" 1 1 _) (wpAny_pure ?_)
  refine wpAny_bind (hcol _ _ _ ?_)
  refine wpAny_bind (wpAny_newList ?_ hL)
  have hsz : ((s.heap.push (seqObj "list" #[] 0)).update s.heap.objs.size (Obj.mapSeq (· ++ vs.toArray))).objs.size = s.heap.objs.size + 1 := by
    rw [Heap.size_update, size_push']
  show wpAny _ _ _ _ _ { s with heap := copyHeap s.heap vs }
  rw [hsz]
  refine wpAny_bind (wpAny_holding (wpAny_call_entry_kw slot_list_sort ⟨_, copyHeap_at s.heap vs, rfl⟩ entry_list_sort ?body (ha2 _)))
  case body =>
    show wpAny (model prog w) A.in1.in1 (Builtin.«list.sort» ⟨[.ref (s.heap.objs.size + 1)], []⟩) _ _ _
    refine wpAny_mono (body _) (fun f s' hf => ?_) fun _ _ e => e
    obtain ⟨rfl, hq⟩ := hf
    exact ⟨_, rfl, wpAny_pure ⟨_, rfl, hq⟩⟩
theorem sorted_valsC {x : Value} {vs : List Value} {Q : Value → Shared → Prop} (hcol : ∀ (A : Around) (E : Value → Shared → Prop) (Q : List Value → Shared → Prop), Q vs { s with heap := (s.heap.push (seqObj "list" #[] 0)).update s.heap.objs.size (Obj.mapSeq (· ++ vs.toArray)) } → wpAny (model prog w) A (collect x) Q E s) (ha1 : argsOk "sorted" ⟨[x], []⟩)
    (S : SortsAt prog w A.in1.in1 { s with heap := sortingHeap (copyHeap s.heap vs) (s.heap.objs.size + 1) vs } κ vs) (hL : vs.length ≤ sizeLine)
    (h : Q (.ref (s.heap.objs.size + 1)) { s with heap := sortedAll s.heap vs (sortVals κ false vs vs).toArray }) : wpAny (model prog w) A (call (.builtin "sorted") [x]) Q E s :=
  sorted_of_sortC hcol hL ha1 (fun _ => args_list_sort _) fun _ => list_sort_vals (s := { s with heap := copyHeap s.heap vs }) (copyHeap_at s.heap vs) S hL ⟨rfl, h⟩
end
section
variable {prog : Program} {w : World} {A : Around} {E : Value → Shared → Prop} {s : Shared} {vs : List Value} {ds : List PyData}
/-- one empty tuple is sorted -/
theorem SortsAt.nil1 {A : Around} {s : Shared} {vs : List Value} (e : EachIs (fun v d => ∃ as, Reads s.heap v d as) vs [.tuple []]) (hu : A.units + (PyData.tuple []).depth < cLine) : SortsAt prog w A s (dataKind s.heap [.tuple []]) vs := by
  have hal : AllAlike [PyData.tuple []] := fun d hd d' hd' => by
    rw [List.mem_singleton] at hd hd'
    subst hd hd'
    rfl
  refine ⟨fun v hv => ?_, tuples' false, fun E x y a b Q ha hb hq => ?_, fun h2 => ?_⟩
  · obtain ⟨d, hd, as, r⟩ := e.left v hv
    exact ⟨_, dataKind_some hal hd r⟩
  · obtain ⟨d, as, hd, ra, rfl⟩ := dataKind_inv ha
    obtain ⟨d', as', hd', rb, rfl⟩ := dataKind_inv hb
    rw [List.mem_singleton] at hd hd'
    subst hd hd'
    have hq' : Q (dataLt (.tuple []) (.tuple [])) s := hq
    rw [dataLt_tuple] at hq'
    cases ra with
    | @tuple l o xs n _ _ h1 h2 h3 h4 =>
      cases rb with
      | @tuple l' o' xs' n' _ _ k1 k2 k3 k4 =>
        have n1 : xs.size = ([] : List PyData).length := by simpa using SeqAt.ReadsAll.length _ _ _ h4
        have n2 : xs'.size = ([] : List PyData).length := by simpa using SeqAt.ReadsAll.length _ _ _ k4
        refine kat_lt h1 h3 k1 k3 (katLex_alike [] [] 0 _ _ _ _ h4 k4 rfl ?_ (fun hb _ x r t ex => nomatch ex) (by rw [n1, n2]) hq')
        have e0 : PyData.depthAll [] = 0 := by simp [PyData.depthAll]
        rw [e0]
        omega
  · have := e.length
    simp at this
    omega
theorem SortsAt.dataO {A : Around} {s : Shared} {vs : List Value} {ds : List PyData} (e : EachIs (fun v d => ∃ as, Reads s.heap v d as) vs ds) (hal : AllAlike ds) (hk : Sortable ds ∨ ds = [.tuple []]) (hu : ∀ d, d ∈ ds → A.units + d.depth < cLine) : SortsAt prog w A s (dataKind s.heap ds) vs := by
  rcases hk with hk | hk
  · exact SortsAt.data e hal hk hu
  · subst hk
    exact SortsAt.nil1 e (hu _ List.mem_cons_self)
theorem sorted_dataC {x : Value} {Q : Value → Shared → Prop} {R : Value → PyData → Prop} (hcol : ∀ (A : Around) (E : Value → Shared → Prop) (Q : List Value → Shared → Prop), Q vs { s with heap := (s.heap.push (seqObj "list" #[] 0)).update s.heap.objs.size (Obj.mapSeq (· ++ vs.toArray)) } → wpAny (model prog w) A (collect x) Q E s) (ha1 : argsOk "sorted" ⟨[x], []⟩)
    (e : EachIs R vs ds) (er : EachIs (fun v b => ∃ as, Reads s.heap v b as) vs ds) (hal : AllAlike ds) (hk : Sortable ds ∨ ds = [.tuple []]) (hL : ds.length ≤ sizeLine)
    (hu : ∀ b, b ∈ ds → A.units + 2 + b.depth < cLine) (h : ∀ out, out.length = ds.length → EachIs R out (ds.mergeSort (dataLe false fun d => d)) → Q (.ref (s.heap.objs.size + 1)) { s with heap := sortedAll s.heap vs (List.toArray out) }) :
    wpAny (model prog w) A (call (.builtin "sorted") [x]) Q E s := by
  have er' : EachIs (fun v b => ∃ as, Reads (sortingHeap (copyHeap s.heap vs) (s.heap.objs.size + 1) vs) v b as) vs ds := er.mono fun _ _ ⟨as, r⟩ => ⟨as, PyProof.Rows.Reads.keeps (fun _ _ => sorting_copy_old) r⟩
  have mp : ds.map (fun d => d) = ds := List.map_id' ds
  exact sorted_valsC hcol ha1 (SortsAt.dataO (s := { s with heap := sortingHeap (copyHeap s.heap vs) (s.heap.objs.size + 1) vs }) er' hal hk (by intro d hd; exact hu d hd)) (by rw [e.length]; exact hL)
    (h _ (by rw [sortVals_length false rfl]; exact e.length) (by
      have q := sortVals_data (enc := fun d : PyData => d) false e er' (by rw [mp]; exact hal)
      rw [mp] at q
      exact q))
end

/-! ### the sorted list is one -/
section
variable {le : D → D → Bool}
theorem insD_mem (lt : D → D → Bool) (x : D) : ∀ (l : List D) (z : D), z ∈ insD lt x l ↔ z = x ∨ z ∈ l
  | [], z => by simp [insD]
  | y :: ys, z => by
    unfold insD
    split
    · simp
    · rw [List.mem_cons, insD_mem lt x ys z, List.mem_cons]
      constructor
      · rintro (h | h | h)
        · exact .inr (.inl h)
        · exact .inl h
        · exact .inr (.inr h)
      · rintro (h | h | h)
        · exact .inr (.inl h)
        · exact .inl h
        · exact .inr (.inr h)
theorem insD_pair (h : TotalLe le) (x : D) : ∀ (l : List D), l.Pairwise (fun a b => le a b = true) → (insD (fun a b => !le b a) x l).Pairwise (fun a b => le a b = true)
  | [], _ => by simp [insD]
  | y :: ys, p => by
    obtain ⟨p1, p2⟩ := List.pairwise_cons.mp p
    unfold insD
    split
    · rename_i c
      have hxy : le x y = true := by
        rcases h.total x y with q | q
        · exact q
        · rw [q] at c; cases c
      refine List.pairwise_cons.mpr ⟨fun z hz => ?_, p⟩
      rcases List.mem_cons.mp hz with rfl | hz
      · exact hxy
      · exact h.trans _ _ _ hxy (p1 z hz)
    · rename_i c
      have hyx : le y x = true := by
        cases q : le y x with
        | true => rfl
        | false => rw [q] at c; exact absurd rfl c
      refine List.pairwise_cons.mpr ⟨fun z hz => ?_, insD_pair h x ys p2⟩
      rcases (insD_mem _ x ys z).mp hz with rfl | hz
      · exact hyx
      · exact p1 z hz
theorem insD_filter (h : TotalLe le) (x c : D) : ∀ (l : List D), l.Pairwise (fun a b => le a b = true) → (insD (fun a b => !le b a) x l).filter (sameRank le c) = l.filter (sameRank le c) ++ [x].filter (sameRank le c)
  | [], _ => by simp [insD]
  | y :: ys, p => by
    obtain ⟨p1, p2⟩ := List.pairwise_cons.mp p
    unfold insD
    split
    · rename_i cc
      cases q : sameRank le c x with
      | false => rw [List.filter_cons_of_neg (by rw [q]; decide), List.filter_cons_of_neg (l := []) (by rw [q]; decide)]; simp
      | true =>
        unfold sameRank at q
        rw [Bool.and_eq_true] at q
        have none : ∀ z ∈ y :: ys, ¬ sameRank le c z = true := fun z hz r => by
          unfold sameRank at r
          rw [Bool.and_eq_true] at r
          have h1 : le z x = true := h.trans _ _ _ r.2 q.1
          have h2 : le y x = true := by
            rcases List.mem_cons.mp hz with rfl | hz
            · exact h1
            · exact h.trans _ _ _ (p1 z hz) h1
          rw [h2] at cc
          cases cc
        rw [List.filter_cons, List.filter_eq_nil_iff.mpr none, List.nil_append, List.filter_cons]
        rfl
    · rw [List.filter_cons, insD_filter h x c ys p2]
      rw [show (y :: ys).filter (sameRank le c) = if sameRank le c y = true then y :: ys.filter (sameRank le c) else ys.filter (sameRank le c) from List.filter_cons]
      split <;> rfl
theorem sort_fold (h : TotalLe le) : ∀ (l acc : List D), acc.Pairwise (fun a b => le a b = true) →
    (l.foldl (fun acc x => insD (fun a b => !le b a) x acc) acc).Pairwise (fun a b => le a b = true) ∧ ∀ c, (l.foldl (fun acc x => insD (fun a b => !le b a) x acc) acc).filter (sameRank le c) = acc.filter (sameRank le c) ++ l.filter (sameRank le c)
  | [], acc, p => ⟨p, fun c => by simp⟩
  | x :: l, acc, p => by
    obtain ⟨h1, h2⟩ := sort_fold h l (insD (fun a b => !le b a) x acc) (insD_pair h x acc p)
    refine ⟨h1, fun c => ?_⟩
    rw [List.foldl_cons, h2 c, insD_filter h x c acc p, List.append_assoc, ← List.filter_append]
    rfl
theorem sortK_eq (l : List D) : l.mergeSort (dataLe false szKey) = sortD szLt l := by
  have T : TotalLe (dataLe false szKey) := sortLe_total _ _ _
  have e : (fun a b : PyData => !dataLe false szKey b a) = szLt := by
    funext a b
    rw [dataLe_eq]
    simp [szLt]
  obtain ⟨h1, h2⟩ := sort_fold T l [] List.Pairwise.nil
  rw [e] at h1 h2
  refine (sort_unique T h1 fun c => ?_).symm
  rw [h2 c]
  rfl
theorem sortD_eq (l : List D) : l.mergeSort (dataLe false fun d => d) = sortD dataLt l := by
  have T : TotalLe (dataLe false fun d : PyData => d) := sortLe_total _ _ _
  have e : (fun a b : PyData => !dataLe false (fun d => d) b a) = dataLt := by
    funext a b
    rw [dataLe_eq]
    simp
  obtain ⟨h1, h2⟩ := sort_fold T l [] List.Pairwise.nil
  rw [e] at h1 h2
  refine (sort_unique T h1 fun c => ?_).symm
  rw [h2 c]
  rfl
end
theorem sortD_perm (l : List D) : (sortD dataLt l).Perm l := by
  rw [← sortD_eq]
  exact List.mergeSort_perm _ _
end VL
/-! the value layer, 5: operators on data, items, slices, calls of builtins -/
namespace VL
open PySem PySem.Spec L2

section
variable {X : Cx}
theorem RA.lst1 {F H : Hp} {v : V} {ds : List D} (ok : Ok F H) (h : RA X.K F H v (.list ds)) : ∃ a xs, v = .ref a ∧ SqL X.K H a xs ∧ RpL X.K F xs ds := h.list ok
/-! ### list * int, whatever the list is -/
def rRepL (K : PySem.W.Frag) : R2 := fun x y H Q => ∃ l k xs, x = .ref l ∧ y = .int k ∧ SqL K H l xs ∧ 0 ≤ k ∧ k < 2 ^ 62 ∧ xs.length * k.toNat ≤ 16000000 ∧
  ∀ p, H p = none → Q (.ref p) (upd H p (.lst (List.replicate k.toNat xs).flatten))
theorem op_repL : OpR X (binaryOp .Mult) (rRepL X.K) := by
  intro pins s σ H x y v u Q I rx ry h
  obtain ⟨l, k, xs, rfl, rfl, hH, h1, h2, hz, q⟩ := h
  cases rx
  obtain ⟨t, rfl⟩ := ry
  obtain ⟨its, r, ⟨⟨cls, dd, data, sl⟩, n, ho, hc, hdn, hd⟩, z1⟩ := I.list hH
  simp only at hc hd
  subst hc hd
  have hl := r.length
  have hsz' : its.toArray.size * k.toNat ≤ 2 ^ 24 := by rw [List.size_toArray, ← hl]; omega
  refine PySem.wpAny_binaryOp_repeat_ref (T := "list") (U := "int") (by decide) ⟨_, ho, rfl⟩ (fun s' => PySem.typeIs_int s' k t) PySem.noFill_list_mul PySem.F.fills_int_mul PySem.F.slot_int_rmul PySem.repeat_list PySem.F.slot_int_index.lookup
    (PySem.call_meets PySem.F.slot_int_rmul (PySem.typeIs_int s k t) PySem.F.entry_int_rmul (PySem.F.args_int_rmul_2 _ _) (PySem.lm_int_rmul_list_any k t l its.toArray n dd sl)
      ⟨ho, rfl, ⟨_, ho, rfl⟩, PySem.call_meets PySem.F.slot_list_mul ⟨_, ho, rfl⟩ PySem.F.entry_list_mul (PySem.F.args_list_mul_2 _ _)
        (PySem.lm_list_mul_any l its.toArray n dd sl k t (by simp [Builtin.List.listFitsIndex]; omega) (by omega) (by simp [Builtin.List.listTooLong, sizeLine]; omega))
        ⟨ho, ?_⟩⟩)
  have hnew : List.foldl (fun x1 x2 => x1 ++ x2) #[] (List.replicate (if its.toArray.isEmpty = true then 0 else k.toNat) its.toArray) = (List.replicate k.toNat its).flatten.toArray := by
    have f0 : ∀ m : Nat, List.foldl (fun x1 x2 => x1 ++ x2) #[] (List.replicate m its.toArray) = (List.replicate m its).flatten.toArray := fun m => by
      have := foldl_rep its m []
      rw [List.nil_append] at this
      exact this
    rw [f0]
    cases its with
    | nil => simp
    | cons a r' => rw [if_neg (by simp)]
  rw [hnew]
  exact ⟨.ref _, _, I.lnew (t' := s.toks) (r.rep k.toNat) (by rw [PyProof.Rows.lm_len_rep_flat, Nat.mul_comm]; have := sizeLine_eq; omega), rfl, q _ I.fresh⟩
theorem RpL.rep {K : PySem.W.Frag} {F : Hp} {xs : List V} {ds : List D} (h : RpL K F xs ds) : ∀ n : Nat, RpL K F (List.replicate n xs).flatten (List.replicate n ds).flatten
  | 0 => .nil
  | n + 1 => by
    rw [List.replicate_succ, List.replicate_succ, List.flatten_cons, List.flatten_cons]
    exact h.append (RpL.rep h n)
theorem RpL.nil_of {K : PySem.W.Frag} {F : Hp} {xs : List V} (h : RpL K F xs []) : xs = [] := by cases h; rfl
theorem RpL.ne {K : PySem.W.Frag} {F : Hp} {xs : List V} {ds : List D} (h : RpL K F xs ds) : xs = [] ↔ ds = [] := by
  cases h <;> simp

theorem bin_rule {op : Operator} {d e : D} {r : PR} (h : binD op d e = some r) : Rule2 X (binaryOp op) d e r := by
  unfold binD at h
  split at h
  · rename_i i j
    obtain ⟨k, h1, rfl⟩ := map_some h
    exact binI_rule h1
  · rename_i x y
    split at h
    · split at h
      · rename_i c
        cases h
        exact ⟨_, op_add_str, fun F H v w Q ok r1 r2 q => ⟨x, y, r1.str, r2.str, sizes c, q.str ok⟩⟩
      · cases h
    · cases h
  · rename_i xs ys
    split at h
    · split at h
      · rename_i c
        cases h
        refine ⟨_, op_catL, fun F H v w Q ok r1 r2 q => ?_⟩
        obtain ⟨a, vs, rfl, h1, h2⟩ := r1.list ok
        obtain ⟨b, ws, rfl, h3, h4⟩ := r2.list ok
        exact ⟨a, b, vs, ws, rfl, rfl, h1, h3, by rw [h2.length, h4.length]; exact sizes c, fun p hp => q.lst ok hp (h2.append h4)⟩
      · cases h
    · cases h
  · rename_i xs ys
    split at h
    · split at h
      · rename_i c
        cases h
        refine ⟨_, op_catA, fun F H v w Q ok r1 r2 q => ?_⟩
        obtain ⟨a, vs, rfl, f1, h1, h2⟩ := r1.tupleF ok
        obtain ⟨b, ws, rfl, f3, h3, h4⟩ := r2.tupleF ok
        refine ⟨a, b, vs, ws, rfl, rfl, h1, h3, by rw [h2.length, h4.length]; exact sizes c, fun e1 => ?_, fun _ e2 => ?_, fun _ _ p hp => q.tup ok hp (h2.append h4)⟩
        · subst e1
          cases h2
          exact q.same ok (.tup f3 h4)
        · subst e2
          cases h4
          rw [List.append_nil] at q
          exact q.same ok (.tup f1 h2)
      · cases h
    · cases h
  · rename_i xs k
    split at h
    · split at h
      · rename_i c
        obtain ⟨c1, c2, c3⟩ := c
        cases h
        refine ⟨_, op_repL, fun F H v w Q ok r1 r2 q => ?_⟩
        obtain ⟨a, vs, rfl, h1, h2⟩ := r1.list ok
        refine ⟨a, k, vs, rfl, r2.int, h1, c1, by omega, by rw [h2.length]; exact c3, fun p hp => q.lst ok hp (h2.rep _)⟩
      · cases h
    · cases h
  · cases h

/-! ### items, slices -/
def RuleI (X : Cx) (d e : D) (r : PR) : Prop := ∃ ru : R2, IxR X ru ∧ ∀ F H v w Q, Ok F H → RA X.K F H v d → RA X.K F H w e → QP X.K F H r Q → ru v w H Q
theorem RpL.atI {K : PySem.W.Frag} {F : Hp} {xs : List V} {ds : List D} {k : Int} {d : D} (h : RpL K F xs ds) (e : L2.atI ds k = some d) : ∃ v, L2.atI xs k = some v ∧ Rp K F v d := by
  unfold L2.atI at e ⊢
  rw [h.length]
  cases q : ixN ds.length k with
  | none => rw [q] at e; cases e
  | some j =>
    rw [q] at e
    exact h.get e
theorem idx_rule {d e r : D} (h : idxD d e = some r) : RuleI X d e (.v r) := by
  unfold idxD at h
  split at h
  · rename_i xs k
    refine ⟨_, ix_list, fun F H v w Q ok r1 r2 q => ?_⟩
    obtain ⟨a, vs, rfl, h1, h2⟩ := r1.list ok
    obtain ⟨x, e1, e2⟩ := h2.atI h
    exact ⟨a, vs, k, x, rfl, r2.int, h1, e1, q.same ok e2⟩
  · rename_i xs k
    refine ⟨_, ix_tup, fun F H v w Q ok r1 r2 q => ?_⟩
    obtain ⟨a, vs, rfl, h1, h2⟩ := r1.tuple ok
    obtain ⟨x, e1, e2⟩ := h2.atI h
    exact ⟨a, vs, k, x, rfl, r2.int, h1, e1, q.same ok e2⟩
  · rename_i z k
    split at h
    · rename_i c
      obtain ⟨b, h1, rfl⟩ := map_some h
      exact ⟨_, ix_str, fun F H v w Q ok r1 r2 q => ⟨z, k, b, r1.str, r2.int, sizes c, h1, q.str ok⟩⟩
    · cases h
  · cases h
def RuleS (X : Cx) (d : D) (lo hi : Option Int) (r : PR) : Prop := ∃ ru : V → Option Int → Option Int → Hp → VK → Prop, SlR X ru ∧ ∀ F H v Q, Ok F H → RA X.K F H v d → QP X.K F H r Q → ru v lo hi H Q
theorem RpL.cut {K : PySem.W.Frag} {F : Hp} {xs : List V} {ds : List D} (h : RpL K F xs ds) (lo hi : Option Int) : RpL K F (cutV xs lo hi) (cutL ds lo hi) := by
  unfold cutV cutL
  rw [h.length]
  exact (h.drop _).take _
theorem cutL_whole {α : Type} (xs : List α) (lo hi : Option Int) (h : HT.sIx xs.length 0 lo = 0 ∧ HT.sIx xs.length xs.length hi = xs.length) : cutL xs lo hi = xs := by
  unfold cutL
  rw [h.1, h.2, List.drop_zero, Nat.sub_zero, List.take_length]
theorem slc_rule {d : D} {lo hi : Option Int} {r : PR} (h : slcD d lo hi = some r) : RuleS X d lo hi r := by
  unfold slcD at h
  split at h
  · rename_i xs
    cases h
    refine ⟨_, sl_list, fun F H v Q ok r1 q => ?_⟩
    obtain ⟨a, vs, rfl, h1, h2⟩ := r1.list ok
    exact ⟨a, vs, rfl, h1, fun p hp => q.lst ok hp (h2.cut lo hi)⟩
  · rename_i xs
    cases h
    refine ⟨_, sl_tupA, fun F H v Q ok r1 q => ?_⟩
    obtain ⟨a, vs, rfl, f1, h1, h2⟩ := r1.tupleF ok
    refine ⟨a, vs, rfl, h1, fun w => ?_, fun _ p hp => q.tup ok hp (h2.cut lo hi)⟩
    rw [h2.length] at w
    rw [cutL_whole xs lo hi w] at q
    exact q.same ok (.tup f1 h2)
  · rename_i z
    split at h
    · rename_i c
      cases h
      exact ⟨_, sl_str, fun F H v Q ok r1 q => ⟨z, r1.str, sizes c, q.str ok⟩⟩
    · cases h
  · cases h

/-! ### calls of builtins -/
abbrev RAs (K : PySem.W.Frag) (F H : Hp) : List V → List D → Prop := Paired (RA K F H)
def RuleC (X : Cx) (f : Value) (ds : List D) (r : PR) : Prop := ∃ ru : List V → Hp → VK → Prop, CallR X f ru ∧ ∀ F H vs Q, Ok F H → RAs X.K F H vs ds → QP X.K F H r Q → ru vs H Q
theorem RAs.one {K : PySem.W.Frag} {F H : Hp} {vs : List V} {d : D} (h : RAs K F H vs [d]) : ∃ v, vs = [v] ∧ RA K F H v d := by
  cases h with
  | cons h t => cases t; exact ⟨_, rfl, h⟩
theorem RAs.two {K : PySem.W.Frag} {F H : Hp} {vs : List V} {d e : D} (h : RAs K F H vs [d, e]) : ∃ v w, vs = [v, w] ∧ RA K F H v d ∧ RA K F H w e := by
  cases h with
  | cons h t =>
    obtain ⟨w, rfl, h2⟩ := RAs.one t
    exact ⟨_, _, rfl, h, h2⟩
/-- what may be walked -/
theorem items_atF {F H : Hp} {v : V} {d : D} {ds : List D} (ok : Ok F H) (h : itemsOf d = some ds) (r : RA X.K F H v d) : ∃ a xs, v = .ref a ∧ RpL X.K F xs ds ∧ ((d = .list ds ∧ SqL X.K H a xs) ∨ (d = .tuple ds ∧ TpA X.K F a xs ds ∧ SqT X.K H a xs)) := by
  unfold itemsOf at h
  split at h
  · cases h
    obtain ⟨a, vs, rfl, h1, h2⟩ := r.list ok
    exact ⟨a, vs, rfl, h2, .inl ⟨rfl, h1⟩⟩
  · cases h
    obtain ⟨a, vs, rfl, f1, h1, h2⟩ := r.tupleF ok
    exact ⟨a, vs, rfl, h2, .inr ⟨rfl, f1, h1⟩⟩
  · cases h
theorem items_at {F H : Hp} {v : V} {d : D} {ds : List D} (ok : Ok F H) (h : itemsOf d = some ds) (r : RA X.K F H v d) : ∃ a xs, v = .ref a ∧ RpL X.K F xs ds ∧ ((d = .list ds ∧ SqL X.K H a xs) ∨ (d = .tuple ds ∧ SqT X.K H a xs)) := by
  obtain ⟨a, xs, h1, h2, h3⟩ := items_atF ok h r
  exact ⟨a, xs, h1, h2, h3.imp_right fun z => ⟨z.1, z.2.2⟩⟩
theorem asList_at {d : D} {ds : List D} (h : asList d = some ds) : d = .list ds := by
  unfold asList at h
  split at h
  · cases h; rfl
  · cases h
theorem allOpt_map {α β : Type} {f : α → Option β} {g : β → α} (hf : ∀ a b, f a = some b → a = g b) : ∀ {xs : List α} {ys : List β}, allOpt f xs = some ys → xs = ys.map g
  | [], ys, h => by cases h; rfl
  | x :: xs, ys, h => by
    unfold allOpt at h
    cases e1 : f x with
    | none => rw [e1] at h; cases h
    | some y =>
      cases e2 : allOpt f xs with
      | none => rw [e1, e2] at h; cases h
      | some zs =>
        rw [e1, e2] at h
        cases h
        rw [List.map_cons, hf x y e1, allOpt_map hf e2]
theorem toInt_of (a : D) (b : Int) (h : toInt a = some b) : a = .int b := by
  unfold toInt at h
  split at h
  · cases h; rfl
  · cases h
theorem toBool_of (a : D) (b : Bool) (h : toBool a = some b) : a = .bool b := by
  unfold toBool at h
  split at h
  · cases h; rfl
  · cases h
theorem toStr_of (a : D) (b : Str) (h : toStr a = some b) : a = .str b := by
  unfold toStr at h
  split at h
  · cases h; rfl
  · cases h
theorem RpL.bls {K : PySem.W.Frag} {F : Hp} : ∀ {vs : List V} {bs : List Bool}, RpL K F vs (bs.map PyData.bool) → vs = bs.map V.bl
  | _, [], h => by cases h; rfl
  | _, n :: ns, h => by
    cases h with
    | cons h1 h2 => cases h1; rw [RpL.bls h2]; rfl

/-! ### min and max of a list or a tuple of ints -/
theorem depthAll_ints (ns : List Int) : PyData.depthAll (ns.map .int) = 0 := PySem.W.depth_ints ns
theorem alikeAll_ints (ns : List Int) : PySem.W.AlikeAll (ns.map .int) := by
  refine ⟨fun x hx y hy => ?_, fun x hx => ?_⟩
  · obtain ⟨a, _, rfl⟩ := List.mem_map.mp hx
    obtain ⟨b, _, rfl⟩ := List.mem_map.mp hy
    simp [PySem.W.alike]
  · obtain ⟨a, _, rfl⟩ := List.mem_map.mp hx
    intro e
    cases e
theorem reads_ints {h : Heap} : ∀ {ns : List Int} {us : List Value}, Vals (ns.map V.int) us → ∃ as, ReadsAll h us (ns.map .int) as
  | [], us, r => by
    cases r
    exact ⟨_, .nil⟩
  | n :: ns, us, r => by
    cases r with
    | cons r1 r2 =>
      obtain ⟨t, rfl⟩ := r1
      obtain ⟨as, h⟩ := reads_ints (h := h) r2
      exact ⟨_, .cons (.int n t) h⟩
def rMinI (K : PySem.W.Frag) (f : Int → Int → Int) : List V → Hp → VK → Prop := fun vs H Q => ∃ (a : Addr) (n : Int) (ns : List Int), vs = [.ref a] ∧ (SqL K H a ((n :: ns).map V.int) ∨ SqT K H a ((n :: ns).map V.int)) ∧ Q (.int (ns.foldl f n)) H
theorem reads_int {h : Heap} {v : Value} {i : Int} {as : List Addr} (r : Reads h v (.int i) as) : ∃ t, v = .int i t := by
  cases r
  exact ⟨_, rfl⟩
theorem cr_minI (hc : X.calm = true) (hu : X.A.units + 64 < cLine) : CallR X (.builtin "min") (rMinI X.K min) := by
  intro pins s σ H vs us Q I r h
  obtain ⟨a, n, ns, rfl, hs, q⟩ := h
  rw [Vals.ref1 r]
  rcases hs with hs | hs
  · obtain ⟨its, rv, hl, _⟩ := I.list hs
    obtain ⟨as, hr⟩ := reads_ints (h := s.heap) rv
    refine PySem.W.min_list_data (x := .int n) (xs := ns.map .int) (I.ok.hd hc) hl.isList hr (alikeAll_ints (n :: ns)) (by have := depthAll_ints (n :: ns); rw [List.map_cons] at this; omega) fun i v h' tk bs _ rd hk => ?_
    rw [PySem.W.minD_ints] at rd
    obtain ⟨t, rfl⟩ := reads_int rd
    exact ⟨.int _, H, I.kept hk, ⟨_, rfl⟩, q⟩
  · obtain ⟨its, rv, hl, _⟩ := I.tuple hs
    obtain ⟨as, hr⟩ := reads_ints (h := s.heap) rv
    refine PySem.W.min_tuple_data (x := .int n) (xs := ns.map .int) (I.ok.hd hc) (show s.heap.IsTuple a its.toArray from hl) hr (alikeAll_ints (n :: ns)) (by have := depthAll_ints (n :: ns); rw [List.map_cons] at this; omega) fun i v h' tk bs _ rd hk => ?_
    rw [PySem.W.minD_ints] at rd
    obtain ⟨t, rfl⟩ := reads_int rd
    exact ⟨.int _, H, I.kept hk, ⟨_, rfl⟩, q⟩
theorem cr_maxI (hc : X.calm = true) (hu : X.A.units + 64 < cLine) : CallR X (.builtin "max") (rMinI X.K max) := by
  intro pins s σ H vs us Q I r h
  obtain ⟨a, n, ns, rfl, hs, q⟩ := h
  rw [Vals.ref1 r]
  rcases hs with hs | hs
  · obtain ⟨its, rv, hl, _⟩ := I.list hs
    obtain ⟨as, hr⟩ := reads_ints (h := s.heap) rv
    refine PySem.W.max_list_data (x := .int n) (xs := ns.map .int) (I.ok.hd hc) hl.isList hr (alikeAll_ints (n :: ns)) (by have := depthAll_ints (n :: ns); rw [List.map_cons] at this; omega) fun i v h' tk bs _ rd hk => ?_
    rw [PySem.W.maxD_ints] at rd
    obtain ⟨t, rfl⟩ := reads_int rd
    exact ⟨.int _, H, I.kept hk, ⟨_, rfl⟩, q⟩
  · obtain ⟨its, rv, hl, _⟩ := I.tuple hs
    obtain ⟨as, hr⟩ := reads_ints (h := s.heap) rv
    refine PySem.W.max_tuple_data (x := .int n) (xs := ns.map .int) (I.ok.hd hc) (show s.heap.IsTuple a its.toArray from hl) hr (alikeAll_ints (n :: ns)) (by have := depthAll_ints (n :: ns); rw [List.map_cons] at this; omega) fun i v h' tk bs _ rd hk => ?_
    rw [PySem.W.maxD_ints] at rd
    obtain ⟨t, rfl⟩ := reads_int rd
    exact ⟨.int _, H, I.kept hk, ⟨_, rfl⟩, q⟩
end
end VL
/-! the value layer, 6: calls of builtins -/
namespace VL
open PySem PySem.Spec L2

section
variable {X : Cx}
/-! ### sorted -/
theorem alikeAllP_of {ds : List D} (h : alikeAllP ds = true) : PySem.W.AllAlike ds ∧ ∀ d ∈ ds, isNone d = false ∧ sh 30 d = true := by
  unfold alikeAllP at h
  rw [List.all_eq_true] at h
  refine ⟨fun d hd d' hd' => ?_, fun d hd => ?_⟩
  · have := h d hd
    rw [Bool.and_eq_true, Bool.and_eq_true, List.all_eq_true] at this
    exact this.1.1 d' hd'
  · have := h d hd
    rw [Bool.and_eq_true, Bool.and_eq_true] at this
    exact ⟨by simpa using this.1.2, this.2⟩
theorem oneNil_of {ds : List D} (h : oneNil ds = true) : ds = [.tuple []] := by
  unfold oneNil at h
  split at h
  · rfl
  · cases h
theorem srtOk_of {ds : List D} (h : srtOk ds = true) : PySem.W.AllAlike ds ∧ (PySem.W.Sortable ds ∨ ds = [.tuple []]) ∧ ∀ d ∈ ds, sh 30 d = true := by
  unfold srtOk at h
  rw [Bool.and_eq_true] at h
  obtain ⟨h1, h2⟩ := h
  obtain ⟨a1, a2⟩ := alikeAllP_of h1
  refine ⟨a1, ?_, fun d hd => (a2 d hd).2⟩
  rcases Bool.or_eq_true_iff.mp h2 with h2 | h2
  rotate_left
  · exact .inr (oneNil_of h2)
  refine .inl ?_
  rcases Bool.or_eq_true_iff.mp h2 with h3 | h3
  · refine .inl fun d hd => ?_
    have := List.all_eq_true.mp h3 d hd
    cases d with
    | tuple xs =>
      cases xs with
      | nil => simp at this
      | cons x r => exact ⟨x, r, rfl⟩
    | _ => simp at this
  · refine .inr fun d hd => ⟨isNone_ne (a2 d hd).1, fun xs e => ?_⟩
    have := List.all_eq_true.mp h3 d hd
    subst e
    simp at this
theorem reads_each {h : Heap} : ∀ {us : List Value} {ds : List D} {as : List Addr}, ReadsAll h us ds as → PySem.W.EachIs (fun v d => ∃ as, Reads h v d as) us ds
  | _, _, _, .nil => .nil
  | _, _, _, .cons h1 h2 => .cons ⟨_, h1⟩ (reads_each h2)
/-- a value of V for a value and its datum -/
def Bk (K : PySem.W.Frag) (F : Hp) (u : Value) (d : D) : Prop := ∃ v, RelV v u ∧ Rp K F v d
theorem bk_each {K : PySem.W.Frag} {F : Hp} : ∀ {xs : List V} {ds : List D} {us : List Value}, RpL K F xs ds → Vals xs us → PySem.W.EachIs (Bk K F) us ds
  | _, _, _, .nil, .nil => .nil
  | _, _, _, .cons h1 h2, .cons r1 r2 => .cons ⟨_, r1, h1⟩ (bk_each h2 r2)
theorem each_bk {K : PySem.W.Frag} {F : Hp} : ∀ {us : List Value} {ds : List D}, PySem.W.EachIs (Bk K F) us ds → ∃ xs, RpL K F xs ds ∧ Vals xs us
  | _, _, .nil => ⟨[], .nil, .nil⟩
  | _, _, .cons ⟨v, r, d⟩ t => by
    obtain ⟨xs, h1, h2⟩ := each_bk t
    exact ⟨v :: xs, .cons d h1, .cons r h2⟩
def rSrt (K : PySem.W.Frag) : List V → Hp → VK → Prop := fun vs H Q => ∃ (F : Hp) (a : Addr) (xs : List V) (ds : List D), vs = [.ref a] ∧ (SqL K H a xs ∨ SqT K H a xs) ∧ RpL K F xs ds ∧ Same F H ∧ srtOk ds = true ∧
  ∀ ys p, RpL K F ys (sortD PySem.W.dataLt ds) → H p = none → Q (.ref p) (upd H p (.lst ys))
theorem sh_depth {n : Nat} {d : D} (h : sh n d = true) : d.depth ≤ n := (sh_lay h).2
theorem args_sorted1 (x : Value) : argsOk "sorted" ⟨[x], []⟩ := by unfold argsOk; kernel_rfl
theorem cr_srt (hu : X.A.units + 64 < cLine) : CallR X (.builtin "sorted") (rSrt X.K) := by
  intro pins s σ H vs us Q I r h
  obtain ⟨F, a, xs, ds, rfl, hs, hr, sm, so, q⟩ := h
  obtain ⟨o1, o2, o3⟩ := srtOk_of so
  rw [Vals.ref1 r]
  have hall : ds.all (sh 30) = true := List.all_eq_true.mpr o3
  have fin : ∀ (its : List Value), Vals xs its → its.length ≤ sizeLine → (∀ (A : Around) (E : Value → Shared → Prop) (Q : List Value → Shared → Prop), Q its { s with heap := (s.heap.push (PyProof.Rows.seqObj "list" #[] 0)).update s.heap.objs.size (Obj.mapSeq (· ++ its.toArray)) } → wpAny (model X.prog X.w) A (collect (.ref a)) Q E s) →
      ∀ (E : Value → Shared → Prop), wpAny (model X.prog X.w) X.A (call (.builtin "sorted") [.ref a]) (EP X pins σ Q) E s := by
    intro its rv hz hcol E
    obtain ⟨as, hrd⟩ := Dp.readsAll I ds xs its ((hr.mono sm).dp 30 hall) rv
    have hl : ds.length ≤ sizeLine := by rw [← hr.length, rv.length]; exact hz
    refine sorted_dataC hcol (args_sorted1 _) (bk_each hr rv) (reads_each hrd) o1 o2 hl (fun b hb => ?_) fun out h1 h2 => ?_
    · have := sh_depth (o3 b hb)
      omega
    · obtain ⟨ep, he'⟩ := PyProof.Rows.sortedAll_at s.heap its out.toArray
      rw [sortD_eq] at h2
      obtain ⟨ys, r1, r2⟩ := each_bk h2
      have hlen : ys.length ≤ sizeLine := by rw [r2.length, h1]; exact hl
      exact ⟨.ref _, upd H (s.heap.objs.size + 1) (.lst ys), I.laid (t' := s.toks) (fun _ _ => PyProof.Rows.sortedAll_old) (Nat.le_succ _) ⟨hlen, out, ep, r2, he'⟩, rfl, q ys _ r1 (I.hok.fresh (Nat.le_succ _))⟩
  rcases hs with hs | hs
  · obtain ⟨its, rv, hl, hz⟩ := I.list hs
    have hz' : its.length ≤ sizeLine := by rw [← rv.length]; exact hz
    exact fin its rv hz' (fun A E Q h => PyProof.Rows.collect_list hl.isList h hz') _
  · obtain ⟨its, rv, hl, hz⟩ := I.tuple hs
    have hz' : its.length ≤ sizeLine := by rw [← rv.length]; exact hz
    exact fin its rv hz' (fun A E Q h => collect_tuple (show s.heap.IsTuple a its.toArray from hl) h hz') _
end
end VL
/-! the value layer, 7: the rules of builtins and methods -/
namespace VL
open PySem PySem.Spec L2

/-- the builtin -/
def priV : Pri → Option Value
  | .len => some (.builtin "len")
  | .min1 => some (.builtin "min")
  | .min2 => some (.builtin "min")
  | .max1 => some (.builtin "max")
  | .max2 => some (.builtin "max")
  | .sum => some (.builtin "sum")
  | .sorted => some (.builtin "sorted")
  | .any => some (.builtin "any")
  | .all => some (.builtin "all")
  | .abs => some (.builtin "abs")
  | .tuple => some (.type "tuple")
  | .list => some (.type "list")
  | .int => some (.type "int")
  | .str => some (.type "str")
  | _ => none
section
variable {X : Cx}
theorem foldl_min (n : Int) (ns : List Int) : minI (n :: ns) = some (ns.foldl min n) := rfl
theorem len_at {F H : Hp} {v : V} {d : D} {n : Nat} (ok : Ok F H) (r : RA X.K F H v d) (h : (d = .str s ∧ s.length ≤ LIM ∧ n = s.length) ∨ ∃ xs, (d = .list xs ∨ d = .tuple xs) ∧ n = xs.length) : LenV X.K v H n := by
  rcases h with ⟨rfl, h1, rfl⟩ | ⟨xs, rfl | rfl, rfl⟩
  · rw [r.str]
    exact ⟨sizes h1, rfl⟩
  · obtain ⟨a, vs, rfl, h1, h2⟩ := r.list ok
    exact .inl ⟨vs, h1, h2.length.symm⟩
  · obtain ⟨a, vs, rfl, h1, h2⟩ := r.tuple ok
    exact .inr ⟨vs, h1, h2.length.symm⟩
theorem bindS {α β : Type} {o : Option α} {f : α → Option β} {b : β} (h : (o >>= f) = some b) : ∃ a, o = some a ∧ f a = some b := by
  cases o with
  | none => cases h
  | some a => exact ⟨a, rfl, h⟩
theorem items_ints {F H : Hp} {v : V} {d : D} {ds : List D} {ns : List Int} (ok : Ok F H) (h : itemsOf d = some ds) (h2 : allOpt toInt ds = some ns) (r : RA X.K F H v d) : ∃ a, v = .ref a ∧ (SqL X.K H a (ns.map V.int) ∨ SqT X.K H a (ns.map V.int)) := by
  obtain ⟨a, xs, rfl, h3, h4⟩ := items_at ok h r
  rw [allOpt_map toInt_of h2] at h3
  have e := h3.ints
  subst e
  rcases h4 with ⟨_, h4⟩ | ⟨_, h4⟩
  · exact ⟨a, rfl, .inl h4⟩
  · exact ⟨a, rfl, .inr h4⟩
theorem list_ints {F H : Hp} {v : V} {ds : List D} {ns : List Int} (ok : Ok F H) (h2 : allOpt toInt ds = some ns) (r : RA X.K F H v (.list ds)) : ∃ a, v = .ref a ∧ SqL X.K H a (ns.map V.int) := by
  obtain ⟨a, xs, rfl, h3, h4⟩ := r.list ok
  rw [allOpt_map toInt_of h2] at h4
  have e := h4.ints
  subst e
  exact ⟨a, rfl, h3⟩
theorem list_bools {F H : Hp} {v : V} {ds : List D} {ns : List Bool} (ok : Ok F H) (h2 : allOpt toBool ds = some ns) (r : RA X.K F H v (.list ds)) : ∃ a, v = .ref a ∧ SqL X.K H a (ns.map V.bl) := by
  obtain ⟨a, xs, rfl, h3, h4⟩ := r.list ok
  rw [allOpt_map toBool_of h2] at h4
  have e := h4.bls
  subst e
  exact ⟨a, rfl, h3⟩
theorem pri_rule (hc : X.calm = true) (hu : X.A.units + 65 < cLine) {p : Pri} {f : Value} {as : List D} {r : PR} (hf : priV p = some f) (h : priD p as = some r) : RuleC X f as r := by
  unfold priD at h
  split at h
  · cases h; cases hf
    refine ⟨_, call_len, fun F H vs Q ok rs q => ?_⟩
    obtain ⟨v, rfl, ra⟩ := RAs.one rs
    exact ⟨v, _, rfl, len_at (s := default) ok ra (.inr ⟨_, .inl rfl, rfl⟩), q.int ok⟩
  · cases h; cases hf
    refine ⟨_, call_len, fun F H vs Q ok rs q => ?_⟩
    obtain ⟨v, rfl, ra⟩ := RAs.one rs
    exact ⟨v, _, rfl, len_at (s := default) ok ra (.inr ⟨_, .inr rfl, rfl⟩), q.int ok⟩
  · split at h
    · rename_i c
      cases h; cases hf
      refine ⟨_, call_len, fun F H vs Q ok rs q => ?_⟩
      obtain ⟨v, rfl, ra⟩ := RAs.one rs
      exact ⟨v, _, rfl, len_at ok ra (.inl ⟨rfl, c, rfl⟩), q.int ok⟩
    · cases h
  · cases h; cases hf
    refine ⟨_, call_min2 hc, fun F H vs Q ok rs q => ?_⟩
    obtain ⟨v, w, rfl, r1, r2⟩ := RAs.two rs
    exact ⟨_, _, by rw [r1.int, r2.int], q.int ok⟩
  · cases h; cases hf
    refine ⟨_, call_max2 hc, fun F H vs Q ok rs q => ?_⟩
    obtain ⟨v, w, rfl, r1, r2⟩ := RAs.two rs
    exact ⟨_, _, by rw [r1.int, r2.int], q.int ok⟩
  · obtain ⟨xs, h1, h'⟩ := bindS h
    clear h
    obtain ⟨ns, h2, h''⟩ := bindS h'
    clear h'
    obtain ⟨m, h3, h⟩ := bindS h''
    clear h''
    split at h
    · cases h; cases hf
      refine ⟨_, cr_minI hc (by omega), fun F H vs Q ok rs q => ?_⟩
      obtain ⟨v, rfl, ra⟩ := RAs.one rs
      obtain ⟨a, rfl, hs⟩ := items_ints ok h1 h2 ra
      cases ns with
      | nil => cases h3
      | cons n ns => cases h3; exact ⟨a, n, ns, rfl, hs, q.int ok⟩
    · cases h
  · obtain ⟨xs, h1, h'⟩ := bindS h
    clear h
    obtain ⟨ns, h2, h''⟩ := bindS h'
    clear h'
    obtain ⟨m, h3, h⟩ := bindS h''
    clear h''
    split at h
    · cases h; cases hf
      refine ⟨_, cr_maxI hc (by omega), fun F H vs Q ok rs q => ?_⟩
      obtain ⟨v, rfl, ra⟩ := RAs.one rs
      obtain ⟨a, rfl, hs⟩ := items_ints ok h1 h2 ra
      cases ns with
      | nil => cases h3
      | cons n ns => cases h3; exact ⟨a, n, ns, rfl, hs, q.int ok⟩
    · cases h
  · obtain ⟨xs, h1, h'⟩ := bindS h
    clear h
    obtain ⟨ns, h2, h''⟩ := bindS h'
    clear h'
    cases asList_at h1
    cases h''; cases hf
    refine ⟨_, cr_sum hc, fun F H vs Q ok rs q => ?_⟩
    obtain ⟨v, rfl, ra⟩ := RAs.one rs
    obtain ⟨a, rfl, hs⟩ := list_ints ok h2 ra
    exact ⟨a, ns, rfl, hs, q.int ok⟩
  · obtain ⟨xs, h1, h'⟩ := bindS h
    clear h
    cases h'; cases hf
    refine ⟨_, call_tuple_of, fun F H vs Q ok rs q => ?_⟩
    obtain ⟨v, rfl, ra⟩ := RAs.one rs
    obtain ⟨a, ys, rfl, h3, h4⟩ := items_atF ok h1 ra
    rcases h4 with ⟨_, h4⟩ | ⟨_, f4, h4⟩
    · exact ⟨a, ys, rfl, .inl ⟨h4, fun l hl => q.tup ok hl h3⟩⟩
    · exact ⟨a, ys, rfl, .inr ⟨h4, q.same ok (.tup f4 h3)⟩⟩
  · obtain ⟨xs, h1, h'⟩ := bindS h
    clear h
    cases h'; cases hf
    refine ⟨_, call_list_of, fun F H vs Q ok rs q => ?_⟩
    obtain ⟨v, rfl, ra⟩ := RAs.one rs
    obtain ⟨a, ys, rfl, h3, h4⟩ := items_at ok h1 ra
    refine ⟨a, ys, rfl, ?_, fun l hl => q.lst ok hl h3⟩
    rcases h4 with ⟨_, h4⟩ | ⟨_, h4⟩
    · exact .inl h4
    · exact .inr h4
  · cases hf
  · obtain ⟨xs, h1, h'⟩ := bindS h
    clear h
    split at h'
    · rename_i c
      cases h'; cases hf
      refine ⟨_, cr_srt (by omega), fun F H vs Q ok rs q => ?_⟩
      obtain ⟨v, rfl, ra⟩ := RAs.one rs
      obtain ⟨a, ys, rfl, h3, h4⟩ := items_at ok h1 ra
      refine ⟨F, a, ys, xs, rfl, ?_, h3, ok.sm, c, fun ys p hr hp => q.lst ok hp hr⟩
      rcases h4 with ⟨_, h4⟩ | ⟨_, h4⟩
      · exact .inl h4
      · exact .inr h4
    · cases h'
  · obtain ⟨xs, h1, h'⟩ := bindS h
    clear h
    obtain ⟨ns, h2, h''⟩ := bindS h'
    clear h'
    cases asList_at h1
    cases h''; cases hf
    refine ⟨_, cr_any hc, fun F H vs Q ok rs q => ?_⟩
    obtain ⟨v, rfl, ra⟩ := RAs.one rs
    obtain ⟨a, rfl, hs⟩ := list_bools ok h2 ra
    exact ⟨a, ns, rfl, hs, q.bool ok⟩
  · obtain ⟨xs, h1, h'⟩ := bindS h
    clear h
    obtain ⟨ns, h2, h''⟩ := bindS h'
    clear h'
    cases asList_at h1
    cases h''; cases hf
    refine ⟨_, cr_all hc, fun F H vs Q ok rs q => ?_⟩
    obtain ⟨v, rfl, ra⟩ := RAs.one rs
    obtain ⟨a, rfl, hs⟩ := list_bools ok h2 ra
    exact ⟨a, ns, rfl, hs, q.bool ok⟩
  · cases h; cases hf
    refine ⟨_, call_int1, fun F H vs Q ok rs q => ?_⟩
    obtain ⟨v, rfl, ra⟩ := RAs.one rs
    exact .inl ⟨_, by rw [ra.int], q.int ok⟩
  · cases h; cases hf
    refine ⟨_, call_int1, fun F H vs Q ok rs q => ?_⟩
    obtain ⟨v, rfl, ra⟩ := RAs.one rs
    exact .inr ⟨_, by rw [ra.bool], q.int ok⟩
  · split at h
    · rename_i c
      obtain ⟨i, h1, rfl⟩ := map_some h
      cases hf
      refine ⟨_, call_int_str, fun F H vs Q ok rs q => ?_⟩
      obtain ⟨v, rfl, ra⟩ := RAs.one rs
      exact ⟨_, i, by rw [ra.str], h1, c, q.int ok⟩
    · cases h
  · split at h
    · rename_i c
      cases h; cases hf
      refine ⟨_, call_str_int, fun F H vs Q ok rs q => ?_⟩
      obtain ⟨v, rfl, ra⟩ := RAs.one rs
      exact ⟨_, by rw [ra.int], by omega, q.str ok⟩
    · cases h
  · cases h; cases hf
    refine ⟨_, call_abs, fun F H vs Q ok rs q => ?_⟩
    obtain ⟨v, rfl, ra⟩ := RAs.one rs
    exact ⟨_, by rw [ra.int], q.int ok⟩
  all_goals first | cases hf | cases h
end
end VL
/-! the value layer, 8: the rules of methods -/
namespace VL
open PySem PySem.Spec L2

/-- type, name, builtin -/
def mthT : Mth → String
  | .index => "list" | .count => "list"
  | _ => "str"
def mthN : Mth → Str
  | .index => "index" | .count => "count" | .split => "split" | .join => "join" | .partition => "partition" | .startswith => "startswith" | .find => "find" | .replace2 => "replace" | .replace3 => "replace"
def mthI : Mth → String
  | .index => "list.index" | .count => "list.count" | .split => "str.split" | .join => "str.join" | .partition => "str.partition" | .startswith => "str.startswith" | .find => "str.find" | .replace2 => "str.replace" | .replace3 => "str.replace"
theorem mth_at (m : Mth) : PlainAttrs (mthT m) ∧ PySem.Slot (mthT m) (mthN m) (mthI m) ∧ typeOf (.builtin (mthI m)) = pure (.type "method_descriptor") := by
  cases m with
  | index => exact ⟨PySem.F.plainAttrs_list, PySem.F.slot_list_index, PySem.F.type_list_index⟩
  | count => exact ⟨PySem.F.plainAttrs_list, PySem.F.slot_list_count, PySem.F.type_list_count⟩
  | split => exact ⟨PySem.F.plainAttrs_str, PySem.F.slot_str_split, PySem.F.type_str_split⟩
  | join => exact ⟨PySem.F.plainAttrs_str, PySem.F.slot_str_join, PySem.F.type_str_join⟩
  | partition => exact ⟨PySem.F.plainAttrs_str, PySem.F.slot_str_partition, PySem.F.type_str_partition⟩
  | startswith => exact ⟨PySem.F.plainAttrs_str, PySem.F.slot_str_startswith, PySem.F.type_str_startswith⟩
  | find => exact ⟨PySem.F.plainAttrs_str, PySem.F.slot_str_find, PySem.F.type_str_find⟩
  | replace2 => exact ⟨PySem.F.plainAttrs_str, PySem.F.slot_str_replace, PySem.F.type_str_replace⟩
  | replace3 => exact ⟨PySem.F.plainAttrs_str, PySem.F.slot_str_replace, PySem.F.type_str_replace⟩
def RuleM (X : Cx) (id : String) (o : D) (as : List D) (r : PR) : Prop := ∃ ru, MtR X id ru ∧ ∀ F H v vs Q, Ok F H → RA X.K F H v o → RAs X.K F H vs as → QP X.K F H r Q → ru v vs H Q
section
variable {X : Cx}
theorem mth_ty {F H : Hp} {m : Mth} {o : D} {as : List D} {r : PR} {v : V} (h : mthD m o as = some r) (ok : Ok F H) (ra : RA X.K F H v o) : tyV X.K (mthT m) v H := by
  unfold mthD at h
  split at h
  · obtain ⟨a, xs, rfl, h1, _⟩ := ra.list ok; exact .inl ⟨rfl, xs, h1⟩
  · obtain ⟨a, xs, rfl, h1, _⟩ := ra.list ok; exact .inl ⟨rfl, xs, h1⟩
  · rw [ra.str]; exact rfl
  · rw [ra.str]; exact rfl
  · rw [ra.str]; exact rfl
  · rw [ra.str]; exact rfl
  · rw [ra.str]; exact rfl
  · cases h
theorem firstIx_at {x : D} : ∀ {ys : List D} {j : Nat}, firstIx x ys = some j → ∃ z, ys[j]? = some z ∧ PyData.eqv z x = true ∧ ∀ (m : Nat) (z' : D), m < j → ys[m]? = some z' → PyData.eqv z' x = false
  | [], _, h => by cases h
  | y :: ys, j, h => by
    unfold firstIx at h
    split at h
    · rename_i c
      cases h
      exact ⟨y, rfl, c, fun m _ hm => absurd hm (Nat.not_lt_zero m)⟩
    · rename_i c
      obtain ⟨i, h1, rfl⟩ := map_some h
      obtain ⟨z, e1, e2, e3⟩ := firstIx_at h1
      refine ⟨z, by simpa using e1, e2, fun m z' hm e => ?_⟩
      cases m with
      | zero =>
        rw [List.getElem?_cons_zero] at e
        cases e
        simpa using c
      | succ m => exact e3 m z' (by omega) (by simpa using e)
theorem len_ne {b : Str} (h : b.length ≠ 0) : (b.length == 0) = false := by simpa using h
theorem mth_rule (hu : X.A.units + 65 < cLine) {m : Mth} {o : D} {as : List D} {r : PR} (h : mthD m o as = some r) : RuleM X (mthI m) o as r := by
  unfold mthD at h
  split at h
  · rename_i xs x
    split at h
    · rename_i c
      obtain ⟨c1, c2⟩ := c
      obtain ⟨j, h1, rfl⟩ := map_some h
      obtain ⟨z, e1, e2, e3⟩ := firstIx_at h1
      refine ⟨_, mt_indexD hu, fun F H v vs Q ok ro rs q => ?_⟩
      obtain ⟨y, rfl, ra⟩ := RAs.one rs
      have sl := (sh_all c2).1
      have d1 := (ro.rp ok).dp _ sl
      obtain ⟨a, ys, rfl, _⟩ := ro.list ok
      exact ⟨a, y, x, xs, j, z, rfl, rfl, d1, (ra.rp ok).dp _ c1, sh_shaped sl (by decide), sh_shaped c1 (by decide), e1, e2, e3, q.int ok⟩
    · cases h
  · rename_i xs k
    obtain ⟨ns, h1, rfl⟩ := map_some h
    refine ⟨_, mt_lcount, fun F H v vs Q ok ro rs q => ?_⟩
    obtain ⟨y, rfl, ra⟩ := RAs.one rs
    obtain ⟨a, rfl, hs⟩ := list_ints ok h1 ro
    exact ⟨a, ns, k, rfl, by rw [ra.int], hs, q.int ok⟩
  · rename_i a b
    split at h
    · rename_i c
      obtain ⟨c1, c2⟩ := c
      cases h
      refine ⟨_, mt_split, fun F H v vs Q ok ro rs q => ?_⟩
      obtain ⟨y, rfl, ra⟩ := RAs.one rs
      refine ⟨a, b, ro.str, by rw [ra.str], len_ne c1, sizes c2, fun p hp => q.lst ok hp RpL.ofStrs⟩
    · cases h
  · rename_i a b
    split at h
    · rename_i c
      obtain ⟨c1, c2⟩ := c
      cases h
      refine ⟨_, mt_partition, fun F H v vs Q ok ro rs q => ?_⟩
      obtain ⟨y, rfl, ra⟩ := RAs.one rs
      exact ⟨a, b, ro.str, by rw [ra.str], len_ne c1, sizes c2, fun p hp => q.tup ok hp (.cons (.str _) (.cons (.str _) (.cons (.str _) .nil)))⟩
    · cases h
  · rename_i a b
    cases h
    refine ⟨_, mt_startswith, fun F H v vs Q ok ro rs q => ?_⟩
    obtain ⟨y, rfl, ra⟩ := RAs.one rs
    exact ⟨a, b, ro.str, by rw [ra.str], q.bool ok⟩
  · rename_i a b
    cases h
    refine ⟨_, mt_find, fun F H v vs Q ok ro rs q => ?_⟩
    obtain ⟨y, rfl, ra⟩ := RAs.one rs
    exact ⟨a, b, ro.str, by rw [ra.str], q.int ok⟩
  · rename_i a x
    obtain ⟨xs, h1, h'⟩ := bindS h
    clear h
    obtain ⟨ys, h2, h''⟩ := bindS h'
    clear h'
    split at h''
    · rename_i c
      cases h''
      refine ⟨_, mt_join, fun F H v vs Q ok ro rs q => ?_⟩
      obtain ⟨y, rfl, ra⟩ := RAs.one rs
      obtain ⟨p, zs, rfl, h3, h4⟩ := items_at ok h1 ra
      rw [allOpt_map toStr_of h2] at h3
      have e := h3.strs
      subst e
      refine ⟨a, p, ys, ro.str, rfl, ?_, by unfold LIM at c; omega, q.str ok⟩
      rcases h4 with ⟨_, h4⟩ | ⟨_, h4⟩
      · exact .inl h4
      · exact .inr h4
    · cases h''
  · cases h
end
end VL
/-! the value layer, 8b: len(set(ints)), list(reversed(list)) -/
namespace VL
open PySem PySem.Spec PyProof.Rows L2

/-! ### len(set(xs)) -/
theorem firstMet_all (ns : List Int) : firstMet (fun i => ns.getD i 0) ns.length = dedupI ns := by
  have e : (List.range ns.length).map (fun i => ns.getD i 0) = ns := by
    refine List.ext_getElem? fun j => ?_
    rw [List.getElem?_map]
    by_cases h : j < ns.length
    · rw [List.getElem?_range h, List.getElem?_eq_getElem h, Option.map_some, List.getD_eq_getElem?_getD, List.getElem?_eq_getElem h]; rfl
    · rw [List.getElem?_eq_none (by simpa using h), List.getElem?_eq_none (by simpa using h)]; rfl
  show ((List.range ns.length).map (fun i => ns.getD i 0)).foldl step_dedup [] = ns.foldl step_dedup []
  rw [e]
theorem dedup_len (ns : List Int) : (dedupI ns).length ≤ ns.length := by
  rw [← firstMet_all]
  exact firstMet_length_le _ _
def tLenSetD (K : PySem.W.Frag) (ta : TE) : TE := fun σ H Q => ta σ H fun x H1 => ∃ (l : Addr) (ns : List Int), x = .ref l ∧ SqL K H1 l (ns.map V.int) ∧ ns.length < 60 ∧ Q (.int ((dedupI ns).length : Nat)) H1
theorem pe_lenSetD {X : Cx} {a : Expr} {ta : TE} {p p2 q pos : Pos} (hg : Gl X "len") (hm : X.mg "len" = none) (hg2 : Gl X "set") (hm2 : X.mg "set" = none) (ha : PE X a ta) (hc : X.calm = true)
    (na : starEach [a] X.env = (false, eval a X.env) :: starEach [] X.env) : PE X (.Call (.Name "len" p) [.Call (.Name "set" p2) [a] [] q] [] pos) (tLenSetD X.K ta) := by
  refine ⟨fun pins s σ H Q I h => ?_⟩
  refine Call_ (ld_blt I hg hm boot_len ?_)
  refine PyProof.Rows.callWith_builtin1 (PyProof.Rows.args_cons ?_ rfl) rfl rfl
  refine Call_ (ld_blt I hg2 hm2 boot_set ?_)
  refine PyProof.Rows.callWith_type1 (PyProof.Rows.args_cons (thn (ha.run pins s σ H _ I h) fun v s1 ⟨x, H1, I1, r1, q1⟩ => PyProof.Rows.args_nil ?_) na) na rfl
  obtain ⟨l, ns, rfl, hq, hl, q1⟩ := q1
  cases r1
  obtain ⟨its, r, pl, hz⟩ := I1.list hq
  have hlen : its.toArray.size = ns.length := by rw [List.size_toArray, ← r.length, List.length_map]
  refine call_set_list (I1.ok.hd hc) pl.isList (by simpa using RZ.intsAre_vals r) (by rw [hlen]; unfold scanBound; omega) fun h' tk hS hk => ?_
  refine PyProof.Rows.args_nil ?_
  rw [hlen, firstMet_all ns] at hS
  obtain ⟨o, es, ep, t, ho, hex, hd, _, _, _, hf, hn⟩ := hS
  have hdl := dedup_len ns
  have I2 : Inv X pins σ H1 { s1 with heap := h', toks := tk } := I1.kept fun b o e => hk b o (Heap.lt_size e) e
  exact call_len_set ho hex hd hf (by rw [hn]; omega) ⟨.int (dedupI ns).length, H1, I2.tok _, ⟨_, by rw [hn]⟩, q1⟩

/-! ### list(reversed(xs)) -/
section
variable {prog : Program} {w : World} {A : Around} {E : Value → Shared → Prop} {s : Shared}
open RT
theorem wpAny_list_init_rev {R : Result → Shared → Prop} {it l : Addr} {items : Array Value} (hh : A.handled = none) (hit : s.heap.IsRevIter it l ((items.size : Int) - 1)) (hl : s.heap.IsList l items) (hne : l ≠ it) (hn : items.size ≤ sizeLine)
    (S : Addr) (hS : s.heap.get? S = some { cls := .type "list", data := .seq #[] }) (hSi : S ≠ it) (hSl : S ≠ l)
    (hR : ∀ h' tk acc' c', (∀ b o, b ≠ S → b ≠ it → s.heap.get? b = some o → h'.get? b = some o) → h'.get? S = some { cls := .type "list", dict := none, data := .seq acc' c', slots := #[] } →
      ItemsOf (fun i v => items[items.size - 1 - i]? = some v) acc' items.size → R (.ok (.ret .none)) { s with heap := h', toks := tk }) :
    wpAny (model prog w) A.in1 (Builtin.«list.__init__» ⟨[.ref S, .ref it], []⟩)
      (fun fin s' => match fin with | .done f => R (.ok f) s' | .again c' => c'.quiet = true ∧ codeAny (model prog w) A c' R s') (fun e s' => R (.error e) s') s := by
  have W := (Walks.listRev (prog := prog) (w := w) (A := A.in1) hh it l hne items).toS
  have hSf : S ∉ [it, l] := by simp only [List.mem_cons, List.not_mem_nil, or_false, not_or]; exact ⟨hSi, hSl⟩
  show wpAny _ _ (do let old ← Builtin.List.listItems (.ref S); Builtin.List.listUpdate (.ref S) (fun _ => #[]); letGo old.toList.reverse; Builtin.List.listExtendWith (.ref S) (.ref it) .none) _ _ s
  refine wpAny_bind ?_
  unfold Builtin.List.listItems
  refine wpAny_bind (wpAny_seqItems hS rfl (wpAny_pure ?_))
  show wpAny _ _ (updateSeq S (fun _ => #[]) >>= fun _ => letGo (#[] : Array Value).toList.reverse >>= fun _ => Builtin.List.listExtendWith (.ref S) (.ref it) .none) _ _ s
  refine wpAny_bind (wpAny_updateSeq hS rfl ?_)
  have hS₂ := Heap.get?_update_self (Obj.mapSeq (fun _ => (#[] : Array Value))) hS rfl
  have oth : ∀ b o, b ≠ S → s.heap.get? b = some o → (s.heap.update S (Obj.mapSeq (fun _ => (#[] : Array Value)))).get? b = some o :=
    fun b o hb e => (Heap.get?_update_other _ _ (Ne.symm hb)).trans e
  refine wpAny_bind (wpAny_letGo ?_)
  have hit1 : (s.heap.update S (Obj.mapSeq (fun _ => (#[] : Array Value)))).IsRevIter it l ((items.size : Int) - 1) := hit.at fun o e => oth it o (Ne.symm hSi) e
  have hl1 : (s.heap.update S (Obj.mapSeq (fun _ => (#[] : Array Value)))).IsList l items := by
    obtain ⟨o, ho, r⟩ := hl
    exact ⟨o, oth l o (Ne.symm hSl) ho, r⟩
  have hT : ({ s with heap := s.heap.update S (Obj.mapSeq (fun _ => (#[] : Array Value))) } : Shared).TypeIs (.ref it) "list_reverseiterator" := Heap.IsRevIter.typeIs (s := { s with heap := s.heap.update S (Obj.mapSeq (fun _ => (#[] : Array Value))) }) hit1
  have h1 : Builtin.List.listSameRef (.ref S) (.ref it) = false := by simp [Builtin.List.listSameRef, hSi]
  unfold Builtin.List.listExtendWith
  refine wpAny_bind (wpAny_typeOf hT ?_)
  rw [if_neg (by rw [h1]; decide)]
  refine wpAny_bind (wpAny_pyIter_revIter (s := { s with heap := s.heap.update S (Obj.mapSeq (fun _ => (#[] : Array Value))) }) hit1 ?_)
  refine wpAny_bind (wpAny_holding ?_)
  unfold Builtin.List.listLengthHint
  refine wpAny_bind (wpAny_specialOf hT nolen_lri ?_)
  show wpAny _ A.in1 (specialOf (Value.ref it) (Str.ofString "__length_hint__") >>= _) _ _ _
  refine wpAny_bind (wpAny_specialOf hT hint_lri ?_)
  generalize hid : ("list_reverseiterator.__length_hint__" : String) = id0
  wp_delta
  rw [show splitId id0 = some ("list_reverseiterator", "__length_hint__") from by subst hid; decide +kernel]
  subst hid
  refine wpAny_bind (wpAny_isInstance (b := true) hT (by rw [isSubtype_type]; kernel_rfl) ?_)
  refine wpAny_pure ?_
  rw [if_neg (by decide)]
  have e0 : ((items.size : Nat) : Int) - 1 - ((0 : Nat) : Int) = (items.size : Int) - 1 := by omega
  refine wpAny_pure ⟨plainId_quiet F.plain_extend_loop _, codeAny_extend_loopS W hn S hSf _ items.size 0 _ _ _ rfl (Nat.zero_le _) ⟨Nat.zero_le _, by rw [e0]; exact hit1, hl1⟩ hS₂ (ItemsOf.nil _) fun s' acc' c' hm hS' hacc => ?_⟩
  rw [Moved.eq_with hm]
  refine hR s'.heap s'.toks acc' c' (fun b o hb hb2 e => hm.heap b o (fun hmem => ?_) (oth b o hb e)) hS' hacc
  rcases List.mem_cons.mp hmem with e' | hmem
  · exact hb e'
  · exact hb2 (List.mem_singleton.mp hmem)
theorem call_list_rev {Q : Value → Shared → Prop} {it l : Addr} {items : Array Value} (hh : A.handled = none) (hit : s.heap.IsRevIter it l ((items.size : Int) - 1)) (hl : s.heap.IsList l items) (hne : l ≠ it) (hn : items.size ≤ sizeLine)
    (hQ : ∀ h' tk acc' c', (∀ b o, b ≠ it → s.heap.get? b = some o → h'.get? b = some o) →
      h'.get? s.heap.objs.size = some { cls := .type "list", dict := none, data := .seq acc' c', slots := #[] } → ItemsOf (fun i v => items[items.size - 1 - i]? = some v) acc' items.size → Q (.ref s.heap.objs.size) { s with heap := h', toks := tk }) :
    wpAny (model prog w) A (call (.type "list") [.ref it]) Q E s := by
  refine callType_codes (Q₁ := fun obj s₁ => obj = .ref s.heap.objs.size ∧ s₁ = { s with heap := s.heap.push { cls := .type "list", data := .seq #[] } }) F.called_list (F.typeCall_list_1 _) F.entry_list_init
    (code_list_new _ ⟨rfl, rfl⟩) fun obj s₁ h₁ => ?_
  obtain ⟨rfl, rfl⟩ := h₁
  have hS : (s.heap.push { cls := .type "list", data := .seq #[] }).get? s.heap.objs.size = some { cls := .type "list", data := .seq #[] } := Heap.get?_push_size _ rfl
  obtain ⟨oi, hoi, _⟩ := id hit
  obtain ⟨ol, hol, _⟩ := id hl
  have hSi : s.heap.objs.size ≠ it := Nat.ne_of_gt (Heap.lt_size hoi)
  have hSl : s.heap.objs.size ≠ l := Nat.ne_of_gt (Heap.lt_size hol)
  refine ⟨⟨_, hS, rfl⟩, F.args_list_init_2 _ _, wpAny_list_init_rev (A := A.in1) hh (hit.at fun o e => Heap.get?_push_of_some _ e) (hl.push _) hne hn _ hS hSi hSl fun h' tk acc' c' hk hS' hacc => ?_⟩
  exact ⟨rfl, hQ h' tk acc' c' (fun b o hb e => hk b o (Nat.ne_of_lt (Heap.lt_size e)) hb (Heap.get?_push_of_some _ e)) hS' hacc⟩
end
theorem vals_rev {xs : List V} {us : List Value} {acc : Array Value} (r : Vals xs us) (h : ItemsOf (fun i v => us.toArray[us.toArray.size - 1 - i]? = some v) acc us.toArray.size) : Vals xs.reverse acc.toList := by
  have hl : xs.length = us.length := r.length
  have ha : acc.toList.length = us.length := by rw [Array.length_toList, h.1, List.size_toArray]
  refine vals_of_at (by rw [List.length_reverse, ha, hl]) fun j x u h1 h2 => ?_
  have h3 := h.2 j u (by rw [← h2, Array.getElem?_toList])
  rw [List.size_toArray, List.getElem?_toArray] at h3
  have hj : j < xs.length := by
    have := (List.getElem?_eq_some_iff.mp h1).1
    simpa using this
  rw [List.getElem?_reverse hj, hl] at h1
  obtain ⟨u', e1, e2⟩ := Vals.get r h1
  rw [h3] at e1
  cases e1
  exact e2
def tListRev (K : PySem.W.Frag) (ta : TE) : TE := fun σ H Q => ta σ H fun x H1 => ∃ (l : Addr) (xs : List V), x = .ref l ∧ SqL K H1 l xs ∧ ∀ q, H1 q = none → Q (.ref q) (upd H1 q (.lst xs.reverse))
theorem pe_listRev {X : Cx} {a : Expr} {ta : TE} {p p2 q pos : Pos} (hg : Gl X "list") (hm : X.mg "list" = none) (hg2 : Gl X "reversed") (hm2 : X.mg "reversed" = none) (ha : PE X a ta) (hc : X.calm = true)
    (na : starEach [a] X.env = (false, eval a X.env) :: starEach [] X.env) : PE X (.Call (.Name "list" p) [.Call (.Name "reversed" p2) [a] [] q] [] pos) (tListRev X.K ta) := by
  refine ⟨fun pins s σ H Q I h => ?_⟩
  refine Call_ (ld_blt I hg hm boot_list ?_)
  refine PyProof.Rows.callWith_type1 (PyProof.Rows.args_cons ?_ rfl) rfl rfl
  refine Call_ (ld_blt I hg2 hm2 PyProof.Rows.boot_reversed ?_)
  refine PyProof.Rows.callWith_type1 (PyProof.Rows.args_cons (thn (ha.run pins s σ H _ I h) fun v s1 ⟨x, H1, I1, r1, q1⟩ => PyProof.Rows.args_nil ?_) na) na rfl
  obtain ⟨l, xs, rfl, hq, q1⟩ := q1
  cases r1
  obtain ⟨its, r, pl, hz⟩ := I1.list hq
  refine call_reversed_list pl.isList ?_
  refine PyProof.Rows.args_nil ?_
  obtain ⟨ol, hol, hol2⟩ := pl.isList
  have hne : l ≠ s1.heap.objs.size := Nat.ne_of_lt (Heap.lt_size hol)
  refine call_list_rev (I1.ok.hd hc) ⟨_, Heap.get?_push_size _ rfl, rfl, rfl⟩ (Heap.IsList.push ⟨ol, hol, hol2⟩ _) hne (by rw [List.size_toArray, ← r.length]; exact hz) fun h' tk acc c' hk hS hi => ?_
  have hb : s1.heap.objs.size ≤ (s1.heap.push (revObj l ((its.toArray.size : Int) - 1))).objs.size := by rw [Heap.size_push]; omega
  refine ⟨.ref (s1.heap.push (revObj l ((its.toArray.size : Int) - 1))).objs.size, upd H1 _ (.lst xs.reverse), I1.laid (t' := tk) (fun b o e => hk b o (Nat.ne_of_lt (Heap.lt_size e)) (Heap.get?_push_of_some _ e)) hb (show ObjOk X.prog X.w _ _ _ (.lst xs.reverse) from ⟨?_, acc.toList, c', vals_rev r hi, ?_⟩), rfl, q1 _ (I1.hok.fresh hb)⟩
  · rw [List.length_reverse]; exact hz
  · rw [Array.toArray_toList]; exact hS
end VL
/-! the value layer, 8c: sorted of a dict with tuple keys -/
namespace VL
open PySem PySem.Spec PyProof.Rows PySem.W L2
theorem kD_kV {K : PySem.W.Frag} {F : Hp} : ∀ (c : List Key), RpL K F (c.map kV) (c.map kD)
  | [] => .nil
  | .inl i :: c => .cons (.int i) (kD_kV c)
  | .inr s :: c => .cons (.str s) (kD_kV c)
theorem keys_rp {K : PySem.W.Frag} {F H : Hp} (ok : Ok F H) : ∀ {ks : List (List Key × V)} {bs : List Addr}, IsKeys H ks bs → RpL K F (bs.map V.ref) (keysD ks)
  | _, _, .nil => .nil
  | _, _, .cons h t => .cons (.tup (.of (tu_of ok h)) (kD_kV _)) (keys_rp ok t)
def rSrtD (K : PySem.W.Frag) : List V → Hp → VK → Prop := fun vs H Q => ∃ (F : Hp) (a : Addr) (ks : List (List Key × V)), vs = [.ref a] ∧ Rd H a (.dT ks) ∧ Ok F H ∧ srtOk (keysD ks) = true ∧
  ∀ ys p, RpL K F ys (sortD PySem.W.dataLt (keysD ks)) → H p = none → Q (.ref p) (upd H p (.lst ys))
theorem cr_srtD {X : Cx} (hc : X.calm = true) (hu : X.A.units + 65 < cLine) : CallR X (.builtin "sorted") (rSrtD X.K) := by
  intro pins s σ H vs us Q I r h
  obtain ⟨F, a, ks, rfl, hd, ok, so, q⟩ := h
  obtain ⟨o1, o2, o3⟩ := srtOk_of so
  rw [Vals.ref1 r]
  obtain ⟨z, hs, xs, pr, o, es, ep, ho, hx, hdt, he, hn⟩ := (show ObjOk X.prog X.w H s.heap a (.dT ks) from hd.ok I.hok)
  have l1 : es.size = xs.length := size_of_entries he
  have l2 : ks.length = xs.length := Paired.length pr
  have hall : (keysD ks).all (sh 30) = true := List.all_eq_true.mpr o3
  have hr : RpL X.K F ((xs.map fun x => x.2.1).map V.ref) (keysD ks) := keys_rp ok (isKeys_of pr)
  have ldd : (keysD ks).length = xs.length := by unfold keysD; rw [List.length_map]; exact l2
  refine call_function_entry_kw kind_sorted plain_sorted entry_sorted (args_sorted1 _) ?_
  unfold Builtin.«sorted»
  refine wpAny_bind (m := checkCount "sorted" 1 1 _) (wpAny_pure ?_)
  refine wpAny_bind (PySem.W.kdu_collect (kdl_raw hs hx hdt) (I.ok.hd hc) ho (by omega) fun h' tk acc hk it => ?_)
  have ea : acc.toList = xs.map fun x => Value.ref x.2.1 := by
    have hl : acc.toList.length = xs.length := by rw [Array.length_toList, it.1]; exact l1
    apply List.ext_getElem?
    intro j
    rw [List.getElem?_map]
    cases hj : acc.toList[j]? with
    | none =>
      have h1 := List.getElem?_eq_none_iff.mp hj
      rw [List.getElem?_eq_none (by omega)]
      all_goals rfl
    | some v =>
      obtain ⟨en, hen, hv⟩ := it.2 j v (by rw [← Array.getElem?_toList]; exact hj)
      have qe := entry_at he j
      rw [hen] at qe
      cases hb : xs[j]? with
      | none =>
        rw [hb] at qe
        exact nomatch (show some en = none from qe)
      | some b =>
        rw [hb] at qe
        have e2 : en = entryOfKey (tupleKind (mixKind X.prog X.w)) b := Option.some.inj qe
        rw [hv, e2]
        all_goals rfl
  have eb : acc.toList = (xs.map fun x => x.2.1).map Value.ref := by rw [ea, List.map_map]; all_goals rfl
  have rv : Vals ((xs.map fun x => x.2.1).map V.ref) acc.toList := by rw [eb]; exact vals_refs _
  have hL : acc.toList.length ≤ sizeLine := by rw [← rv.length, List.length_map, List.length_map]; omega
  have I1 : Inv X pins σ H { s with heap := h', toks := tk } := I.kept hk
  obtain ⟨as, hrd⟩ := Dp.readsAll I1 (keysD ks) _ acc.toList ((hr.mono ok.sm).dp 30 hall) rv
  have e : EachIs (Bk X.K F) acc.toList (keysD ks) := bk_each hr rv
  refine wpAny_bind (wpAny_newList ?_ hL)
  have hoL : (h'.push (seqObj "list" acc.toList.toArray 0)).get? h'.objs.size = some (seqObj "list" acc.toList.toArray 0) := Heap.get?_push_size _ rfl
  show wpAny _ _ _ _ _ { s with heap := h'.push (seqObj "list" acc.toList.toArray 0), toks := tk }
  have old : ∀ b u, h'.get? b = some u → (sortingHeap (h'.push (seqObj "list" acc.toList.toArray 0)) h'.objs.size acc.toList).get? b = some u := fun b u e =>
    sortingHeap_old (Nat.ne_of_lt (Heap.lt_size e)) (Heap.get?_push_of_some _ e)
  have er' : EachIs (fun v b => ∃ as, Reads (sortingHeap (h'.push (seqObj "list" acc.toList.toArray 0)) h'.objs.size acc.toList) v b as) acc.toList (keysD ks) :=
    (reads_each hrd).mono fun _ _ ⟨as, r⟩ => ⟨as, PyProof.Rows.Reads.keeps old r⟩
  have mp : (keysD ks).map (fun d => d) = keysD ks := List.map_id' _
  refine wpAny_bind (wpAny_holding (wpAny_call_entry_kw slot_list_sort ⟨_, hoL, rfl⟩ entry_list_sort
    (list_sort_vals (s := { s with heap := h'.push (seqObj "list" acc.toList.toArray 0), toks := tk }) hoL (SortsAt.dataO (s := { s with heap := sortingHeap (h'.push (seqObj "list" acc.toList.toArray 0)) h'.objs.size acc.toList, toks := tk }) er' o1 o2 (by
      intro d hd
      have := sh_depth (o3 d hd)
      show X.A.units + 2 + d.depth < cLine
      omega)) hL ⟨_, rfl, ?_⟩) (args_list_sort _)))
  have hq := sortVals_data (enc := fun d : PyData => d) false e er' (by rw [mp]; exact o1)
  rw [mp, sortD_eq] at hq
  obtain ⟨ys, r1, r2⟩ := each_bk hq
  have hlen : ys.length ≤ sizeLine := by rw [r2.length, sortVals_length false rfl]; exact hL
  obtain ⟨e', he'⟩ := PyProof.Rows.sortedHeap_at (vs := acc.toList) (out := (sortVals _ false acc.toList acc.toList).toArray) hoL
  refine wpAny_pure ⟨_, rfl, .ref h'.objs.size, upd H h'.objs.size (.lst ys), I1.laid (t' := tk) (fun b u e => ?_) (Nat.le_refl _)
    (show ObjOk X.prog X.w _ _ _ (.lst ys) from ⟨hlen, _, e', r2, he'⟩), rfl, q ys _ r1 (I1.hok.fresh (Nat.le_refl _))⟩
  have hb : b < h'.objs.size := Heap.lt_size e
  rw [PyProof.Rows.sortedHeap_old (Nat.ne_of_lt hb) (by rw [size_push']; exact Nat.lt_succ_of_lt hb)]
  exact Heap.get?_push_of_some _ e
end VL
/-! the value layer, 8d: sorted by size, then by itself -/
namespace VL
open PySem PySem.Spec PyProof.Rows PySem.W L2

/-! ### data -/
theorem alike_dInts : ∀ {xs ys : List D}, xs.all dInt = true → ys.all dInt = true → alikeAll xs ys = true
  | [], _, _, _ => by simp [alikeAll]
  | _ :: _, [], _, _ => by simp [alikeAll]
  | x :: xs, y :: ys, h1, h2 => by
    rw [List.all_cons, Bool.and_eq_true] at h1 h2
    have ih := alike_dInts h1.2 h2.2
    cases x <;> simp [dInt] at h1
    cases y <;> simp [dInt] at h2
    simp [alikeAll, alike, ih]
theorem isTI_of {d : D} (h : isTI d = true) : ∃ ds, d = .tuple ds ∧ ds.all dInt = true := by
  cases d <;> simp only [isTI] at h
  all_goals first | exact ⟨_, rfl, h⟩ | cases h
theorem key_alike {a b : D} (ha : isTI a = true) (hb : isTI b = true) : alike (szKey a) (szKey b) = true := by
  obtain ⟨xs, rfl, h1⟩ := isTI_of ha
  obtain ⟨ys, rfl, h2⟩ := isTI_of hb
  simp [szKey, alike, alikeAll, alike_dInts h1 h2]
theorem sh_dInts (n : Nat) {ds : List D} (h : ds.all dInt = true) : ds.all (sh n) = true := by
  rw [List.all_eq_true] at h ⊢
  intro d hd
  have := h d hd
  cases d <;> simp [dInt] at this
  cases n <;> rfl
theorem sh_key {d : D} (h : isTI d = true) : sh 3 (szKey d) = true := by
  obtain ⟨xs, rfl, h1⟩ := isTI_of h
  show ([PyData.int xs.length, .tuple xs]).all (sh 2) = true
  rw [List.all_cons, List.all_cons]
  have h2 : sh 2 (.tuple xs) = true := by rw [sh]; exact sh_dInts 1 h1
  rw [h2]
  rfl
theorem readsTI {K : Frag} {F : Hp} {h : Heap} : ∀ {ds : List D} {xs : List V} {us : List Value}, ds.all dInt = true → RpL K F xs ds → Vals xs us → ReadsAll h us ds []
  | _, _, _, _, .nil, .nil => .nil
  | d :: ds, x :: xs, u :: us, hd, .cons r1 r2, .cons v1 v2 => by
    rw [List.all_cons, Bool.and_eq_true] at hd
    have ih := readsTI (h := h) hd.2 r2 v2
    cases d with
    | int i =>
      cases r1
      obtain ⟨t, rfl⟩ := v1
      exact .cons (as := []) (bs := []) (.int i t) ih
    | _ => simp [dInt] at hd

/-! ### def f(p): return (len(p), p) -/
def sizeB (pn : Str) (st : Stmt) : Bool := (match defBody st with
  | [.Return (some (.Tuple [.Call (.Name f _) [.Name a _] [] _, .Name b _] _ _)) _] => decide (f = ("len" : Str)) && decide (a = pn) && decide (b = pn)
  | _ => false) && (match (defScope st).names.lookup pn with
  | some .local => true
  | _ => false) && (match (defScope st).names.lookup ("len" : Str) with
  | some .globalImplicit => true
  | _ => false) && !(pn == ("__debug__" : Str)) && !(pn == ("__classdict__" : Str))
structure SizeF (K : Frag) (f : Addr) : Prop where
  ex : ∃ (x qual : Str) (st : Stmt) (fd : FuncData) (pn : Str), L2.Fun K x qual st f fd ∧ Binds K fd [pn] [] ∧ sizeB pn st = true ∧ FnScope [pn] [pn] (defScope st)
section
variable {X : Cx} {pins : List (Addr × Obj)} {s : Shared} {σ : St} {H : Hp}
/-- a name is read; the state stays -/
theorem ld_var {E : Value → Shared → Prop} {i : Nat} {x : Str} {v : V} {pos : Pos} {Q : Value → Shared → Prop} (I : Inv X pins σ H s) (hN : X.N[i]? = some x) (hs : σ[i]? = some (some v)) (hv : Vis X.env.scope x) (h : ∀ u, RelV v u → Q u s)
    (hd : (x == ("__debug__" : Str)) = false) (hcd : (x == ("__classdict__" : Str)) = false) : wpAny (model X.prog X.w) X.A (eval (.Name x pos) X.env) Q E s := by
  obtain ⟨m, hn, hl⟩ := I.loc
  obtain ⟨u, r, l⟩ := hl i x v hN hs hv
  have fin := h u r
  rcases l with ⟨hk, hm⟩ | ⟨hk, c, hc, hcell⟩
  · exact wpAny_Name (wpAny_loadName_local I.ok.kind hk hn hm fin) hd
  · rcases hk with hk | hk
    · exact wpAny_Name (wpAny_loadName_cell I.ok.kind hk hc hcell fin) hd
    · exact wpAny_Name (wpAny_loadName_free I.ok.kind hk hc hcell fin hcd) hd
end
section
variable {P : Program} {w : World} {K : Frag} {mg : Str → Option Value} {base : Heap}
theorem size_turn {f : Addr} (SF : SizeF K f) (hm : mg "len" = none) {A : Around} {outer : List PySem.Env} {s : Shared} {H : Hp} (hd : A.handled = none) (hdp : A.depth < recursionLimit) (e0 : Env0 P w K mg base A outer s H) {t : Addr} {its : List Value} (ht : s.heap.IsTuple t its.toArray)
    (hz : its.length ≤ 1000000000) {E : Value → Shared → Prop} {Q : Value → Shared → Prop}
    (hq : ∀ h' tk p o tok n, (∀ b u, s.heap.get? b = some u → h'.get? b = some u) → h'.get? p = some o → o.cls = .type "tuple" → o.data = .seq #[.int its.length tok, .ref t] n → Q (.ref p) { s with heap := h', toks := tk }) :
    wpAny (model P w) A (call (.ref f) [.ref t]) Q E s := by
  obtain ⟨x, qual, st, fd, pn, F, hb, hs, S⟩ := SF.ex
  obtain ⟨oc, od, kV, doc, pm, an, cdv, ct, osl, rfl, lk, hcd⟩ := F.ex
  have KX : K.In s.heap := e0.mod.kin.keeps fun b o e => (e0.bs b o e).1
  have lim : s.heap.NoLimit := e0.mod.nolimit.keeps fun b o e => (e0.bs b o e).1
  have hkind : ∀ y ∈ [pn].zip [Value.ref t], (defScope st).names.lookup y.1 = some .local ∨ ((defScope st).names.lookup y.1 = some .cell ∧ ((cellsFrom (s.heap.objs.size + 1) (defScope st).names []).lookup y.1).isSome = true) := fun ⟨n, v⟩ hy => by
    rcases S.par n (List.of_mem_zip hy).1 with q | q
    · exact .inl q
    · exact .inr ⟨q, PySem.W.cellsFrom_some _ _ _ (.inl q)⟩
  refine wpAny_call ?_
  refine codeAny_call_function hdp (KX _ _ lk) rfl S.co S.gen rfl (PySem.W.codeRec_of KX hcd) ((hb s [.ref t] KX rfl) _ _ _ _ ?_)
  refine wpAny_newFunctionEnv_cells S.kind hkind fun env he s1 xx => ?_
  subst he
  refine ⟨lim.keeps xx.toInCall.keep, codeAny_func ?_⟩
  have I : Inv (cxOf (L2.CX P w) P w K mg base [pn] qual (defScope st) f cdv A outer s H (fun _ _ _ => False)) [] (L2.start [pn] [V.ref t]) H s1 := inv_start S hd e0 rfl (.cons rfl .nil) xx
  have kp := xx.toInCall.keep
  obtain ⟨h1, tk1, rfl, hk⟩ := xx.done
  unfold sizeB at hs
  simp only [Bool.and_eq_true] at hs
  obtain ⟨⟨⟨⟨hs1, hs2⟩, hs3⟩, hs4⟩, hs5⟩ := hs
  split at hs1
  · rename_i fn p1 an' p2 p3 bn p4 c5 p5 p6 hbody
    simp only [Bool.and_eq_true, decide_eq_true_eq] at hs1
    obtain ⟨⟨rfl, rfl⟩, rfl⟩ := hs1
    have hl : (defScope st).names.lookup bn = some .local := by
      split at hs2
      · assumption
      · cases hs2
    have hg : (defScope st).names.lookup ("len" : Str) = some .globalImplicit := by
      split at hs3
      · assumption
      · cases hs3
    have hv : Vis (envOfC qual (defScope st) s.heap.objs.size f cdv).scope bn := .inl hl
    have hd1 : (bn == ("__debug__" : Str)) = false := by simpa using hs4
    have hd2 : (bn == ("__classdict__" : Str)) = false := by simpa using hs5
    rw [hbody]
    refine wpAny_execs_cons (wpAny_Return_some (wpAny_Tuple_spliced ?_))
    have ht1 : ({ s with heap := h1, toks := tk1 } : Shared).heap.IsTuple t its.toArray := by
      obtain ⟨o, ho, hc, n, hd⟩ := ht
      exact ⟨o, hk _ _ ho, hc, n, hd⟩
    refine args_cons ?_
    refine wpAny_Call_Name_kw (ld_blt I hg hm (by rfl) ?_)
    refine PyProof.Rows.callWith_builtin1 ?_
    refine args_cons (ld_var (i := 0) I rfl rfl hv (fun u hu => args_nil ?_) hd1 hd2)
    cases hu
    refine len_tuple ht1 (by simp only [List.size_toArray]; omega) ?_
    refine args_cons (ld_var (i := 0) (I.tok _) rfl rfl hv (fun u hu => args_nil ?_) hd1 hd2)
    cases hu
    refine ⟨by rw [sizeLine_eq]; simp, ?_⟩
    exact hq _ _ _ _ _ _ (fun b u e => Heap.get?_push_of_some _ (hk b u e)) (Heap.get?_push_size _ rfl) rfl rfl
  · cases hs1
end
/-! ### sorted(xs, key=f) -/
section
variable {X : Cx}
theorem bk_tup {F H : Hp} {pins : List (Addr × Obj)} {s : Shared} {σ : St} {u : Value} {ds : List D} (I : Inv X pins σ H s) (sm : Same F H) (b : Bk X.K F u (.tuple ds)) :
    ∃ (t : Addr) (xs : List V) (its : List Value), u = .ref t ∧ RpL X.K F xs ds ∧ Vals xs its ∧ s.heap.IsTuple t its.toArray ∧ its.length ≤ sizeLine := by
  obtain ⟨v, rv, rp⟩ := b
  cases rp with
  | tup h1 h2 =>
    rename_i a xs
    cases rv
    obtain ⟨its, r, it, hz⟩ := I.tuple (h1.mono sm).seq
    exact ⟨_, xs, its, rfl, h2, r, it, by rw [← r.length]; exact hz⟩
def rSrtSz (K : PySem.W.Frag) : List V → List V → Hp → VK → Prop := fun vs zs H Q => ∃ (F : Hp) (a f : Addr) (xs : List V) (ds : List D), vs = [.ref a] ∧ zs = [.ref f] ∧ SizeF K f ∧ SqL K H a xs ∧ RpL K F xs ds ∧ Same F H ∧ ds.all isTI = true ∧
  ∀ ys p, RpL K F ys (sortD szLt ds) → H p = none → Q (.ref p) (upd H p (.lst ys))
theorem cr_srtsz (hc : X.calm = true) (hu : X.A.units + 64 < cLine) (hdp : X.A.depth < recursionLimit) (hm : X.mg "len" = none) : CallRK X (.builtin "sorted") [Str.ofString "key"] (rSrtSz X.K) := by
  intro pins s σ H vs zs us ws Q I r rz h
  obtain ⟨F, a, f, xs, ds, rfl, rfl, SF, hs, hr, sm, so, q⟩ := h
  rw [Vals.ref1 r, Vals.ref1 rz]
  obtain ⟨its, rv, hl, hz⟩ := I.list hs
  have hz' : its.length ≤ sizeLine := by rw [← rv.length]; exact hz
  have hall : ∀ d ∈ ds, isTI d = true := List.all_eq_true.mp so
  have hlen : ds.length ≤ sizeLine := by rw [← hr.length, rv.length]; exact hz'
  show wpAny (model X.prog X.w) X.A (call (.builtin "sorted") [.ref a] [(Str.ofString "key", .ref f)]) _ _ _
  refine sorted_key_data (b := false) szKey hl.isList (bk_each hr rv) (fun d hd d' hd' => ?_) (.inl fun d hd => ?_) hlen (fun d hd => ?_) (ksk_s1 _ _) (fun _ => ksk_l1 _ _) (fun _ => ksk_t1 _ _) (fun v d hb hd h tk kp => ?_) fun out c h' tk kp fr hD hlo eo => ?_
  · obtain ⟨x, hx, rfl⟩ := List.mem_map.mp hd
    obtain ⟨y, hy, rfl⟩ := List.mem_map.mp hd'
    exact key_alike (hall x hx) (hall y hy)
  · obtain ⟨x, hx, rfl⟩ := List.mem_map.mp hd
    obtain ⟨zs, rfl, _⟩ := isTI_of (hall x hx)
    exact ⟨_, _, rfl⟩
  · have := sh_depth (sh_key (hall d hd))
    omega
  · obtain ⟨zs, rfl, hz2⟩ := isTI_of (hall d hd)
    have I' : Inv X pins σ H { s with heap := h, toks := tk } := I.kept kp
    obtain ⟨t, vs', ts, rfl, r1, r2, it, hz3⟩ := bk_tup I' sm hb
    refine size_turn SF hm (A := X.A.in1.in1) (I.ok.hd hc) hdp (I'.env0.in1.in1) it (by rw [sizeLine_eq] at hz3; omega) fun h2 tk2 p o tok n k2 e1 e2 e3 => ?_
    refine ⟨h2, tk2, rfl, k2, ?_⟩
    obtain ⟨o2, g1, g2, m, g3⟩ := it
    have hrd : Reads h2 (.ref t) (.tuple zs) [] := .tuple (k2 _ _ g1) g2 g3 (readsTI hz2 r1 r2)
    have hl2 : ts.length = zs.length := by rw [← r2.length, r1.length]
    rw [hl2] at e3
    exact .tuple e1 e2 e3 (.cons (as := []) (.int _ _) (.cons (as := []) (bs := []) hrd .nil))
  · rw [sortK_eq] at eo
    obtain ⟨ys, r1, r2⟩ := each_bk eo
    have hly : ys.length ≤ sizeLine := by rw [r2.length, hlo]; exact hlen
    exact ⟨.ref _, upd H (s.heap.objs.size + 1) (.lst ys), I.laid (t' := tk) kp (Nat.le_succ _) (show ObjOk X.prog X.w _ _ _ (.lst ys) from ⟨hly, out, c, r2, hD⟩), rfl, q ys _ r1 (I.hok.fresh (Nat.le_succ _))⟩
end
end VL
/-! the value layer, 8e: list of a dict with tuple keys; its items walked -/
namespace VL
open PySem PySem.Spec PyProof.Rows PySem.W L2
section
variable {X : Cx} {pins : List (Addr × Obj)} {σ : St} {H : Hp} {s : Shared} {o : Obj} {d : Addr}
theorem frzTv {kvs : List (List Key × V)} (I : Inv X pins σ H s) (h : H d = some (.frz o (.dT kvs))) :
    (d == sysModules) = false ∧ s.heap.get? d = some o ∧ o.ExactDict ∧ ∃ (es : Array DictEntry) (ep : Nat), o.data = .dict es ep ∧ es.size = kvs.length ∧
      ∀ (i : Nat) (k : List Key) (v : V), kvs[i]? = some (k, v) → ∃ (en : DictEntry) (q : Addr), es[i]? = some en ∧ en.key = .ref q ∧ H q = some (.tup (k.map kV)) ∧ RelV v en.val := by
  obtain ⟨hd, z, hs, xs, pr, o', es, ep, ho, hx, hdt, he, _⟩ := I.hok d _ h
  rw [hd] at ho
  cases ho
  refine ⟨hs, hd, hx, es, ep, hdt, ?_, fun i k v e => ?_⟩
  · have l1 : es.size = xs.length := size_of_entries he
    have l2 : kvs.length = xs.length := Paired.length pr
    omega
  · obtain ⟨b, hb, e1, e2, e3⟩ := paired_get pr e
    have q := entry_at he i
    rw [hb] at q
    exact ⟨_, b.2.1, q, rfl, e2, e3⟩
end
/-- the entries, each a new pair -/
def Itit (d : Addr) (o : Obj) (kvs : List (List Key × V)) : It :=
  ⟨fun i H => H d = some (.frz o (.dT kvs)) ∧ i < kvs.length, fun i H x H' => ∃ (T : Addr) (k : List Key) (v : V) (q : Addr), kvs[i]? = some (k, v) ∧ x = .ref T ∧ H T = none ∧ H' = upd H T (.tup [.ref q, v]) ∧ H q = some (.tup (k.map kV)),
   fun i H => H d = some (.frz o (.dT kvs)) ∧ kvs.length ≤ i⟩
section
variable {P : Program} {w : World} {K : PySem.W.Frag} {d : Addr} {o : Obj} {es : Array DictEntry} {ep : Nat}
theorem turn_itemsT {kvs : List (List Key × V)} {elts : List Expr} {kk : Nat} {tpos : Pos} (it : Addr) (hod : o.data = .dict es ep) :
    Turn P w K (.Tuple elts kk tpos) (Itit d o kvs) [it] it (fun i h => ∃ ok ov, IsItemIter h it d i kvs.length ep ok ov) where
  mem := by simp
  obj := fun i h st b hb => by
    have e : b = it := by simpa using hb
    subst e
    obtain ⟨ok, ov, e⟩ := st
    exact ⟨_, e, fun v z => nomatch z⟩
  keep := fun i h h' st k => let ⟨ok, ov, e⟩ := st; ⟨ok, ov, k it (by simp) _ e⟩
  item := by
    intro X hP hw hK hc i pins s σ H E I hf st hg
    subst hP hw hK
    obtain ⟨hd, hi⟩ := hg
    obtain ⟨hs, hgd, hx, es', ep', hdt, hsz, ent⟩ := frzTv I hd
    obtain ⟨rfl, rfl⟩ := dict_ep hod hdt
    obtain ⟨⟨k, v⟩, hkv⟩ : ∃ p, kvs[i]? = some p := ⟨kvs[i], List.getElem?_eq_getElem hi⟩
    obtain ⟨en, q, hen, hkey, hq, rv⟩ := ent i k v hkv
    obtain ⟨ok, ov, he⟩ := st
    rw [← hsz] at he
    have hlt : it < s.heap.objs.size := Heap.lt_size he
    have hi' : i < es'.size := by omega
    have hen' : es'[i] = en := by rw [Array.getElem?_eq_getElem hi'] at hen; exact Option.some.inj hen
    refine DT.nextI he (show DT.Raw s.heap d es' ep' from ⟨o, hgd, hx, hdt⟩) hi' fun h' ho hT hz hk => ?_
    rw [hen'] at ho hT
    refine ⟨_, rfl, wpAny_letOwnedTupleGo_items (s := { s with heap := h' }) ho fun h'' he' sb => ?_⟩
    have hT2 : h''.get? s.heap.objs.size = some { cls := .type "tuple", data := .seq #[en.key, en.val] } := (sb.2 _ (Nat.ne_of_gt hlt)).trans hT
    have new : ObjOk X.prog X.w (upd H s.heap.objs.size (.tup [.ref q, v])) h'' s.heap.objs.size (.tup [.ref q, v]) :=
      ⟨by show 2 ≤ sizeLine; decide, [en.key, en.val], .cons hkey (.cons rv .nil), ⟨_, hT2, rfl, _, rfl⟩⟩
    have I1 : Inv X pins σ (upd H s.heap.objs.size (.tup [.ref q, v])) { s with heap := h'' } :=
      I.turnedNew (t' := s.toks) (ch := [it]) (fun b ob hb e => (sb.2 b (by simpa using hb)).trans (hk b ob (by simpa using hb) e)) hf (Nat.le_refl _) new
    refine ⟨.ref s.heap.objs.size, _, I1, rfl, ⟨_, k, v, q, hkv, rfl, I.hok.fresh (Nat.le_refl _), rfl, hq⟩, ⟨en.key, en.val, ?_⟩, fun b hb => ?_⟩
    · rw [← hsz]; exact he'
    · have e : b = it := by simpa using hb
      rw [e, upd_ne (Nat.ne_of_lt hlt)]
      exact (hf it (by simp)).1
  done := by
    intro X hP hw hK hc i pins s σ H E I hf st hg
    subst hP hw hK
    obtain ⟨hd, hi⟩ := hg
    obtain ⟨f0, f1, f2, f3, f4, f5⟩ := hf it (by simp)
    obtain ⟨hs, hgd, hx, es', ep', hdt, hsz, ent⟩ := frzTv I hd
    obtain ⟨rfl, rfl⟩ := dict_ep hod hdt
    obtain ⟨ok, ov, he⟩ := st
    rw [← hsz] at he
    exact DT.endI (I.ok.hd hc) he (show DT.Raw s.heap d es' ep' from ⟨o, hgd, hx, hdt⟩) (by omega) fun h' eb => ⟨rfl, I.turned (t' := s.toks) (fun b ob hb e => eb b ob hb e) f0 f1 f3 f4 f5⟩
  self := fun A i s Q E st h => let ⟨_, _, e⟩ := st; PySem.W.kcp_self e h
end
def iItemsT (td : TE) : TI := fun σ H R => td σ H fun x H1 => ∃ d o kvs, x = .ref d ∧ H1 d = some (.frz o (.dT kvs)) ∧ R (Itit d o kvs) H1
section
variable {X : Cx} {tg e : Expr} {td : TE} {apos cpos : Pos}
theorem pi_itemsT {elts : List Expr} {kk : Nat} {tpos : Pos} (he : PE X e td) (hbase : attributeBase e "items" X.env (eval e X.env) = eval e X.env) (hline : (apos.endLine == cpos.line) = true) :
    PI X (.Tuple elts kk tpos) (.Call (.Attribute e "items" apos) [] [] cpos) (iItemsT td) := by
  refine ⟨fun pins s σ H R I h => ?_⟩
  refine wpAny_Call_method (T := "dict") (id := "dict.items") hbase rfl hline F.plainAttrs_dict F.slot_dict_items F.type_dict_items (thn (he.run pins s σ H _ I h) fun u s1 ⟨x, H1, I1, rx, d, o, kvs, ex, hd, q⟩ => ?_)
  subst ex
  obtain rfl : u = Value.ref d := rx
  obtain ⟨hs, hgd, hx, es, ep, hdt, hsz, ent⟩ := frzTv I1 hd
  have raw : DT.Raw s1.heap d es ep := ⟨o, hgd, hx, hdt⟩
  refine ⟨raw.typeIs, fun a e => by cases e; exact ⟨_, hgd, hx.2.1⟩, ?_⟩
  have I2 : Inv X pins σ H1 { s1 with heap := s1.heap.push { cls := .type "dict_items", data := .fields #[.ref d] } } := I1.kept (t' := s1.toks) fun b ob q => Heap.get?_push_of_some _ q
  have fin : wpAny (model X.prog X.w) X.A (pyIter (.ref s1.heap.objs.size)) (PIE X pins σ (.Tuple elts kk tpos) R) X.xe { s1 with heap := s1.heap.push { cls := .type "dict_items", data := .fields #[.ref d] } } := by
    refine DT.iterI (d := d) (es := es) (ep := ep) ⟨_, Heap.get?_push_size _ rfl, rfl, rfl⟩ (raw.push _) (pi_one (tk := s1.toks) I2 _ (turn_itemsT _ hdt) ⟨.none, .none, ?_⟩ q)
    rw [← hsz]
    exact Heap.get?_push_size _ rfl
  show wpAny _ _ (callWith cpos (.builtin "dict.items") [.ref d] [] []) _ X.xe s1
  exact method_meetsIn F.slot_dict_items F.entry_dict_items rfl (PySem.evalArgs_none ⟨rfl, raw.typeIs, F.args_dict_items_1 _, _, DT.meetsItems (es := es) (ep := ep) hs, raw, fin⟩)
/-- list(d) -/
def tListD (td : TE) : TE := fun σ H Q => td σ H fun v H1 => ∃ (d : Addr) (ks : List (List Key × V)), v = .ref d ∧ H1 d = some (.dT ks) ∧
  ∀ (D : Addr) (qs : List Addr), H1 D = none → IsKeys H1 ks qs → Q (.ref D) (upd H1 D (.lst (qs.map V.ref)))
theorem pe_listD {x : Str} {p pos : Pos} (hc : X.calm = true) (he : PE X e td) (hg : Gl X x) (hm : X.mg x = none) (hv : bootBuiltins x = some (.type "list")) (hn : x ≠ "__name__") (hdb : (x == ("__debug__" : Str)) = false)
    (hst : starEach [e] X.env = (false, eval e X.env) :: starEach [] X.env) : PE X (.Call (.Name x p) [e] [] pos) (tListD td) := by
  refine ⟨fun pins s σ H Q I h => ?_⟩
  refine wpAny_Call_Name_kw (ld_blt I hg hm hv ?_ hn hdb)
  have ha := (pa_cons he pa_nil hst).run pos pins s σ H (fun vs H1 => match vs with
    | [v] => ∃ (d : Addr) (ks : List (List Key × V)), v = .ref d ∧ H1 d = some (.dT ks) ∧ ∀ (D : Addr) (qs : List Addr), H1 D = none → IsKeys H1 ks qs → Q (.ref D) (upd H1 D (.lst (qs.map V.ref)))
    | _ => False) I h
  refine PyProof.Rows.callWith_type1 (thn ha fun us s1 ⟨vs, H1, I1, r1, q1⟩ => ?_) hst rfl
  cases vs with
  | nil => exact False.elim q1
  | cons v vs =>
    cases vs with
    | cons _ _ => exact False.elim q1
    | nil =>
      obtain ⟨d, ks, ev, hd, q⟩ := q1
      subst ev
      obtain ⟨u, rfl, ru⟩ := r1.one
      cases ru
      obtain ⟨z, hs, xs, pr, o, es, ep, ho, hx, hdt, he, hnn⟩ := I1.hok d _ hd
      have l1 : es.size = xs.length := size_of_entries he
      have l2 : ks.length = xs.length := Paired.length pr
      refine PySem.W.kdl_call (kdl_raw hs hx hdt) (I1.ok.hd hc) ho (by omega) fun h' tk acc c' kp e2 it => ?_
      have ea : acc.toList = xs.map fun x => Value.ref x.2.1 := by
        have hl : acc.toList.length = xs.length := by rw [Array.length_toList, it.1]; exact l1
        apply List.ext_getElem?
        intro j
        rw [List.getElem?_map]
        cases hj : acc.toList[j]? with
        | none =>
          have h1 := List.getElem?_eq_none_iff.mp hj
          rw [List.getElem?_eq_none (by omega)]
          all_goals rfl
        | some v =>
          obtain ⟨en, hen, hv⟩ := it.2 j v (by rw [← Array.getElem?_toList]; exact hj)
          have qe := entry_at he j
          rw [hen] at qe
          cases hb : xs[j]? with
          | none =>
            rw [hb] at qe
            exact nomatch (show some en = none from qe)
          | some b =>
            rw [hb] at qe
            have e2 : en = entryOfKey (tupleKind (mixKind X.prog X.w)) b := Option.some.inj qe
            rw [hv, e2]
            all_goals rfl
      have rv : Vals ((xs.map fun x => x.2.1).map V.ref) acc.toList := by
        have eb : acc.toList = (xs.map fun x => x.2.1).map Value.ref := by rw [ea, List.map_map]; all_goals rfl
        rw [eb]; exact vals_refs _
      have hp : H1 s1.heap.objs.size = none := I1.hok.fresh (Nat.le_refl _)
      refine ⟨.ref s1.heap.objs.size, upd H1 s1.heap.objs.size (.lst ((xs.map fun x => x.2.1).map V.ref)), I1.laid (t' := tk) (fun b u e => kp b u e) (Nat.le_refl _) ?_, rfl, q _ _ hp (isKeys_of pr)⟩
      exact ⟨by rw [List.length_map, List.length_map]; omega, acc.toList, c', rv, by rw [Array.toArray_toList]; exact e2⟩
end
/-! ### max with a default -/
def rMaxDf (K : PySem.W.Frag) : List V → List V → Hp → VK → Prop := fun vs zs H Q => ∃ (a : Addr) (ns : List Int) (d : Int), vs = [.ref a] ∧ zs = [.int d] ∧ SqL K H a (ns.map V.int) ∧ Q (.int ((maxI ns).getD d)) H
theorem cr_maxDf {X : Cx} (hc : X.calm = true) (hu : X.A.units + 64 < cLine) : CallRK X (.builtin "max") [Str.ofString "default"] (rMaxDf X.K) := by
  intro pins s σ H vs zs us ws Q I r rz h
  obtain ⟨a, ns, d, rfl, rfl, hs, q⟩ := h
  obtain ⟨u, rfl, ru⟩ := rz.one
  obtain ⟨t, rfl⟩ := (show ∃ t, u = Value.int d t from ru)
  rw [Vals.ref1 r]
  obtain ⟨its, rv, hl, _⟩ := I.list hs
  obtain ⟨as, hr⟩ := reads_ints (h := s.heap) rv
  show wpAny (model X.prog X.w) X.A (call (.builtin "max") [.ref a] [(Str.ofString "default", .int d t)]) _ _ _
  refine PySem.W.max_list_default (xs := ns.map .int) (I.ok.hd hc) hl.isList hr (alikeAll_ints ns) (by have := depthAll_ints ns; omega) (fun e h' tk hk => ?_) fun y ys i v h' tk bs e _ rd hk => ?_
  · have e' : ns = [] := List.map_eq_nil_iff.mp e
    subst e'
    exact ⟨.int d, H, I.kept hk, ⟨_, rfl⟩, q⟩
  · cases ns with
    | nil => cases e
    | cons n ns =>
      cases e
      rw [PySem.W.maxD_ints] at rd
      obtain ⟨t, rfl⟩ := reads_int rd
      exact ⟨.int _, H, I.kept hk, ⟨_, rfl⟩, q⟩
end VL
/-! the value layer, 9: the checker of expressions; outcomes -/
namespace VL
open PySem PySem.Spec L2

/-! ### what stands outside -/
structure Nm where
  fns : List (Nat × Str × Nat × List D)
  gls : List Str
  exs : List (Nat × Str)
  kfs : List Str
  rcs : List (Nat × Str)
structure Cs where
  N : List Str
  sc : Scope
  raw : Scope
  cm : Bool
  nm : Nm
inductive Md where
  | v | t | i
  deriving DecidableEq
def isI : Md → Bool
  | .i => true
  | _ => false
def Md.d : Md → Md
  | .i => .v
  | m => m
def plainT : Expr → Bool
  | .UnaryOp .Not _ _ => false
  | .BoolOp _ _ _ => false
  | .IfExp _ _ _ _ => false
  | .Compare _ _ _ _ => false
  | _ => true
def noStarB : Expr → Bool
  | .Starred _ _ => false
  | _ => true
def isT : Md → Bool
  | .t => true
  | _ => false
def lf (m : Md) (e : Expr) : Bool := !isT m || plainT e
def visB (cs : Cs) (x : Str) : Bool := (match cs.sc.names.lookup x with
  | some .local => true
  | some .cell => true
  | some .free => true
  | _ => false) && !(x == ("__debug__" : Str)) && !(x == ("__classdict__" : Str))
def locB (cs : Cs) (x : Str) : Bool := match cs.raw.names.lookup x with
  | some .local => true
  | some .cell => true
  | _ => false
def gloB (cs : Cs) (x : Str) : Bool := (match cs.sc.names.lookup x with
  | some .globalImplicit => true
  | _ => false) && !(x == ("__debug__" : Str)) && !(x == ("__name__" : Str))
def ixB (cs : Cs) (i : Nat) (x : Str) : Bool := match cs.N[i]? with
  | some y => decide (y = x)
  | none => false
def blts : List Str := ["len", "min", "max", "sum", "sorted", "any", "all", "abs", "tuple", "list", "int", "str", "range", "enumerate", "zip", "reversed", "isinstance", "bool", "set", "ValueError"]
def priN : Pri → Str
  | .len => "len" | .min1 => "min" | .max1 => "max" | .min2 => "min" | .max2 => "max" | .sum => "sum" | .tuple => "tuple" | .list => "list" | .sorted => "sorted" | .any => "any" | .all => "all" | .int => "int" | .str => "str" | .abs => "abs" | .lenset => "len" | .lrng => "list" | .trng => "tuple" | .lrev => "list"
def priN2 : Pri → Str
  | .lrng => "range" | .trng => "range" | .lenset => "set" | .lrev => "reversed" | _ => ""
def fewB (p : Pri) (ys : List Expr) : Bool := match ys, p with
  | [], _ => true
  | [_], .lrng => true
  | _, _ => false
def nmB (cs : Cs) (i : Nat) : Expr → Bool
  | .Name x _ => ixB cs i x && visB cs x
  | _ => false
def tyN : Ty → Str
  | .int => "int" | .bool => "bool" | .str => "str" | .tuple => "tuple" | .list => "list" | .listtuple => "list"
/-- a tuple of exceptions' names -/
def clsB (cs : Cs) : List Nat → List Expr → Bool
  | [], [] => true
  | c :: ks, .Name y _ :: ys => gloB cs y && (cs.nm.exs.any fun t => decide (t.1 = c) && decide (t.2 = y)) && clsB cs ks ys
  | _, _ => false
def constB : PX → D → Bool
  | .int i, .int j => i == j
  | .bool i, .bool j => i == j
  | .none, .none => true
  | _, _ => false
/-- the arguments that are left to the defaults -/
def dflB : PXs → List D → Bool
  | .nil, [] => true
  | .cons a as, d :: ds => constB a d && dflB as ds
  | _, _ => false
def PXs.len : PXs → Nat
  | .nil => 0
  | .cons _ as => as.len + 1
def okBase : Expr → Bool
  | .Call (.Name _ _) [] [] _ => false
  | _ => true
def noSlice : Expr → Bool
  | .Slice _ _ _ _ => false
  | _ => true
/-- a comprehension's block -/
def ownOf (N : List Str) (tg : List Nat) : List (Str × Nat) := tg.filterMap fun i => (N[i]?).map fun x => (x, i)
def blkB (N : List Str) (sc scope : Scope) (own : List (Str × Nat)) : Bool :=
  (match scope.kind with | .function => true | _ => false) &&
  (scope.names.all fun y => decide (scope.names.lookup y.1 = some y.2)) &&
  (own.all fun p => decide (N[p.2]? = some p.1)) &&
  (scope.names.all fun y => match y.2 with
    | .free => (match sc.names.lookup y.1 with | some .cell => true | some .free => true | _ => false)
    | .local => decide (y.1 ∈ own.map (·.1)) || !decide (y.1 ∈ N)
    | .cell => decide (y.1 ∈ own.map (·.1)) || !decide (y.1 ∈ N)
    | _ => true)
def tgB (cs : Cs) : List Nat → List Expr → Bool
  | [], [] => true
  | i :: is, .Name x _ :: es => ixB cs i x && locB cs x && tgB cs is es
  | _, _ => false
/-- a target: one name, or a tuple of names -/
def tgtB (cs : Cs) (tg : List Nat) (one : Bool) (e : Expr) : Bool :=
  match one, e with
  | true, .Name x p => tgB cs tg [.Name x p]
  | false, .Tuple es _ _ => tgB cs tg es
  | _, _ => false
def pairIt : PX → Bool
  | .enum _ => true
  | .zip _ _ => true
  | _ => false
def noSetE : Expr → Bool
  | .Set _ _ _ => false
  | _ => true
mutual
def chk : PX → Md → Cs → Expr → Bool
  | .var i, m, cs, e => lf m e && (match e with
    | .Name x _ => ixB cs i x && visB cs x
    | _ => false)
  | .int i, m, cs, e => lf m e && (match e with
    | .Constant (.int j) _ _ => decide (i = j)
    | _ => false)
  | .bool i, m, cs, e => lf m e && (match e with
    | .Constant (.bool j) _ _ => decide (i = j)
    | _ => false)
  | .none, m, cs, e => lf m e && (match e with
    | .Constant .none _ _ => true
    | _ => false)
  | .str i, m, cs, e => lf m e && (match e with
    | .Constant (.str j) _ _ => decide (i = j)
    | _ => false)
  | .glob g, m, cs, e => lf m e && (match e with
    | .Name x _ => (match cs.nm.gls[g]? with | some y => decide (y = x) | none => false) && gloB cs x
    | _ => false)
  | .bin op a b, m, cs, e => lf m e && (match e with
    | .BinOp l op' r _ => decide (op = op') && chk a .v cs l && chk b .v cs r
    | _ => false)
  | .neg a, m, cs, e => lf m e && (match e with
    | .UnaryOp .USub x _ => chk a .v cs x
    | _ => false)
  | .cmp op a b, m, cs, e => (match e with
    | .Compare l [op'] [r] _ => decide (op = op') && !behindInMarks op r && chk a .v cs l && chk b .v cs r
    | _ => false)
  | .chain op op2 a b c, m, cs, e => (match e with
    | .Compare l [op', op2'] [r, z] _ => decide (op = op') && decide (op2 = op2') && !lastMarks [op, op2] [r, z] && chk a .v cs l && chk b .v cs r && chk c .v cs z
    | _ => false)
  | .and a b, m, cs, e => (match e with
    | .BoolOp .And [l, r] _ => chk a m.d cs l && chk b m.d cs r
    | .BoolOp .And (l :: r :: z :: rs) p => chk a m.d cs l && chk b m.d cs (.BoolOp .And (r :: z :: rs) p)
    | _ => false)
  | .or a b, m, cs, e => (match e with
    | .BoolOp .Or [l, r] _ => chk a m.d cs l && chk b m.d cs r
    | .BoolOp .Or (l :: r :: z :: rs) p => chk a m.d cs l && chk b m.d cs (.BoolOp .Or (r :: z :: rs) p)
    | _ => false)
  | .not a, m, cs, e => (match e with
    | .UnaryOp .Not x _ => chk a m.d cs x
    | _ => false)
  | .ife c a b, m, cs, e => lf m e && (match e with
    | .IfExp t x y _ => chk c .t cs t && chk a .v cs x && chk b .v cs y
    | _ => false)
  | .idx a i, m, cs, e => lf m e && (match e with
    | .Subscript x y _ => noSlice y && chk a .v cs x && chk i .v cs y
    | _ => false)
  | .slc a lo hi, m, cs, e => lf m e && (match e with
    | .Subscript x (.Slice l h .none _) _ => chk a .v cs x && (match l with
        | .none => chks lo cs []
        | some l => chks lo cs [l]) && (match h with
        | .none => chks hi cs []
        | some h => chks hi cs [h])
    | _ => false)
  | .tup as, m, cs, e => lf m e && (match e with
    | .Tuple es _ _ => chks as cs es && decide (es.length < 1000)
    | _ => false)
  | .lst as, m, cs, e => lf m e && (match e with
    | .List es _ => chks as cs es && decide (es.length < 1000)
    | _ => false)
  | .call f as, m, cs, e => lf m e && (match e with
    | .Call (.Name x _) (e1 :: es) [] _ => gloB cs x && (cs.nm.fns.any fun t => decide (t.1 = f) && decide (t.2.1 = x) && decide (as.len = t.2.2.1) && decide (t.2.2.1 ≤ (e1 :: es).length + t.2.2.2.length) && chkd as cs (e1 :: es) (t.2.2.2.drop (t.2.2.2.length - (t.2.2.1 - (e1 :: es).length))))
    | _ => false)
  | .pri p as, m, cs, e => lf m e && cs.cm && (match e with
    | .Call (.Name x _) (e1 :: es) [] _ => gloB cs x && decide (x = priN p) && (match priV p with
      | some _ => chks as cs (e1 :: es)
      | none => (match es, e1 with
        | [], .Call (.Name z _) (y :: ys) [] _ => gloB cs z && decide (z = priN2 p) && fewB p ys && chks as cs (y :: ys)
        | _, _ => false))
    | _ => false)
  | .dsub i k, m, cs, e => lf m e && (match e with
    | .Subscript o y _ => nmB cs i o && noSlice y && chk k .v cs y
    | _ => false)
  | .dget i k d, m, cs, e => lf m e && (match e with
    | .Call (.Attribute o f ap) [y, z] [] cp => decide (f = ("get" : Str)) && (ap.endLine == cp.line) && nmB cs i o && noStarB y && noStarB z && chk k .v cs y && chk d .v cs z
    | _ => false)
  | .dsrt i, m, cs, e => lf m e && cs.cm && (match e with
    | .Call (.Name x _) [o] [] _ => gloB cs x && decide (x = ("sorted" : Str)) && nmB cs i o
    | _ => false)
  | .isx i c, m, cs, e => lf m e && (match e with
    | .Call (.Name x _) [o, .Name y _] [] _ => gloB cs x && decide (x = ("isinstance" : Str)) && nmB cs i o && gloB cs y && (cs.nm.exs.any fun t => decide (t.1 = c) && decide (t.2 = y))
    | _ => false)
  | .isv i, m, cs, e => lf m e && (match e with
    | .Call (.Name x _) [o, .Name y _] [] _ => gloB cs x && decide (x = ("isinstance" : Str)) && nmB cs i o && gloB cs y && decide (y = ("ValueError" : Str))
    | _ => false)
  | .maxd a d, m, cs, e => lf m e && cs.cm && (match e with
    | .Call (.Name x _) [o] [⟨some y, z, _⟩] _ => gloB cs x && decide (x = ("max" : Str)) && decide (y = ("default" : Str)) && noStarB o && chk a .v cs o && (match z with
      | .Constant (.int j) _ _ => decide (d = j)
      | _ => false)
    | _ => false)
  | .revrng a, m, cs, e => isI m && (match e with
    | .Call (.Name x _) [.Call (.Name y _) [o] [] _] [] _ => gloB cs x && decide (x = ("reversed" : Str)) && gloB cs y && decide (y = ("range" : Str)) && noStarB o && chk a .v cs o
    | _ => false)
  | .fs4 s a t b, m, cs, e => lf m e && (match e with
    | .JoinedStr [.Constant (.str j) _ _, .FormattedValue x k1 .none _, .Constant (.str l) _ _, .FormattedValue y k2 .none _] _ => decide (s = j) && decide (s.length < 1000) && decide (k1 = -1) && decide (t = l) && decide (k2 = -1) && chk a .v cs x && chk b .v cs y
    | _ => false)
  | .edict, m, cs, e => lf m e && (match e with
    | .Dict [] [] _ => true
    | _ => false)
  | .dlst i, m, cs, e => lf m e && cs.cm && (match e with
    | .Call (.Name x _) [o] [] _ => gloB cs x && decide (x = ("list" : Str)) && nmB cs i o
    | _ => false)
  | .isxs i c, m, cs, e => lf m e && (match e with
    | .Call (.Name x _) [o, .Tuple ys _ _] [] _ => gloB cs x && decide (x = ("isinstance" : Str)) && nmB cs i o && clsB cs c ys && decide (ys.length < 20)
    | _ => false)
  | .lci elt tg i cond scope, m, cs, e => lf m e && cs.cm && (match e with
    | .ListComp x [⟨t, .Call (.Attribute o f ap) [] [] cp, cd, 0⟩] sc _ => decide (sc = scope) && blkB cs.N cs.sc scope (ownOf cs.N tg) && decide ((ownOf cs.N tg).map (·.2) = tg) && nmB cs i o && decide (f = ("items" : Str)) && (ap.endLine == cp.line) &&
      tgtB { cs with sc := relS scope cs.sc, raw := scope } tg false t && chk elt .v { cs with sc := relS scope cs.sc, raw := scope } x && chkt cond { cs with sc := relS scope cs.sc, raw := scope } cd
    | _ => false)
  | .srtsz a, m, cs, e => lf m e && cs.cm && (match e with
    | .Call (.Name x _) [o] [⟨some y, .Name z _, _⟩] _ => gloB cs x && decide (x = ("sorted" : Str)) && decide (y = ("key" : Str)) && gloB cs z && (cs.nm.kfs.any fun t => decide (t = z)) && noStarB o && chk a .v cs o
    | _ => false)
  | .lcd elt tg one i cond scope, m, cs, e => lf m e && cs.cm && (match e with
    | .ListComp x [⟨t, o, cd, 0⟩] sc _ => decide (sc = scope) && blkB cs.N cs.sc scope (ownOf cs.N tg) && decide ((ownOf cs.N tg).map (·.2) = tg) && nmB cs i o &&
      tgtB { cs with sc := relS scope cs.sc, raw := scope } tg one t && chk elt .v { cs with sc := relS scope cs.sc, raw := scope } x && chkt cond { cs with sc := relS scope cs.sc, raw := scope } cd
    | _ => false)
  | .mth k o as, m, cs, e => lf m e && (match e with
    | .Call (.Attribute x f ap) (e1 :: es) [] cp => decide (f = mthN k) && okBase x && (ap.endLine == cp.line) && decide (es.length < 20) && chk o .v cs x && chks as cs (e1 :: es)
    | _ => false)
  | .isi a t, m, cs, e => lf m e && (match e with
    | .Call (.Name x _) [y, .Name z _] [] _ => gloB cs x && decide (x = ("isinstance" : Str)) && gloB cs z && decide (z = tyN t) && (match t with | .listtuple => false | _ => true) && noStarB y && chk a .v cs y
    | .Call (.Name x _) [y, .Tuple [.Name z _, .Name z2 _] _ _] [] _ => gloB cs x && decide (x = ("isinstance" : Str)) && gloB cs z && decide (z = ("list" : Str)) && gloB cs z2 && decide (z2 = ("tuple" : Str)) && (match t with | .listtuple => true | _ => false) && noStarB y && chk a .v cs y
    | _ => false)
  | .lcm elt tg one it cond scope, m, cs, e => lf m e && cs.cm && (match e with
    | .ListComp x [⟨t, i, cd, 0⟩] sc _ => decide (sc = scope) && blkB cs.N cs.sc scope (ownOf cs.N tg) && decide ((ownOf cs.N tg).map (·.2) = tg) && chk it .i cs i &&
      tgtB { cs with sc := relS scope cs.sc, raw := scope } tg one t && chk elt .v { cs with sc := relS scope cs.sc, raw := scope } x && chkt cond { cs with sc := relS scope cs.sc, raw := scope } cd && noSetE i && (!pairIt it || !one)
    | _ => false)
  | .rng as, m, cs, e => isI m && (match e with
    | .Call (.Name x _) (e1 :: es) [] _ => gloB cs x && decide (x = ("range" : Str)) && decide (es.length < 3) && chks as cs (e1 :: es)
    | _ => false)
  | .enum a, m, cs, e => isI m && (match e with
    | .Call (.Name x _) [y] [] _ => gloB cs x && decide (x = ("enumerate" : Str)) && noStarB y && chk a .v cs y
    | _ => false)
  | .zip a b, m, cs, e => isI m && (match e with
    | .Call (.Name x _) [y, z] [] _ => gloB cs x && decide (x = ("zip" : Str)) && noStarB y && noStarB z && chk a .v cs y && chk b .v cs z
    | _ => false)
  | .rev a, m, cs, e => isI m && (match e with
    | .Call (.Name x _) [y] [] _ => gloB cs x && decide (x = ("reversed" : Str)) && noStarB y && chk a .v cs y
    | _ => false)
  | _, _, _, _ => false
def chks : PXs → Cs → List Expr → Bool
  | .nil, cs, es => (match es with
    | [] => true
    | _ => false)
  | .cons a as, cs, es => (match es with
    | e :: es => noStarB e && chk a .v cs e && chks as cs es
    | [] => false)
def chkt : PXs → Cs → List Expr → Bool
  | .nil, cs, es => (match es with
    | [] => true
    | _ => false)
  | .cons a as, cs, es => (match es with
    | [e] => chk a .t cs e && (match as with | .nil => true | _ => false)
    | _ => false)
def chkd : PXs → Cs → List Expr → List D → Bool
  | .nil, cs, es, ds => (match es, ds with
    | [], [] => true
    | _, _ => false)
  | .cons a as, cs, es, ds => (match es with
    | e :: es => noStarB e && chk a .v cs e && chkd as cs es ds
    | [] => dflB (.cons a as) ds)
end

/-! ### outcomes -/
abbrev XR := Nat → Option D → Value → Option Addr → Hp → Hp → Prop
def Pst {α : Type} (xr : XR) (W : WX) (σ : St) (F H : Hp) (r : Rs α) (C : α → Hp → Hp → Prop) : Prop :=
  match r with
  | .ok a => ∀ F' H', Grow F H F' H' → C a F' H'
  | .ex c p => ∀ F' H' cls d, Grow F H F' H' → xr c p cls d F' H' → W cls d σ H'
  | .no => False
section
variable {α β : Type} {xr : XR} {W : WX} {σ : St} {F H F' H' : Hp} {r : Rs α} {C : α → Hp → Hp → Prop}
theorem Pst.grow (h : Pst xr W σ F H r C) (g : Grow F H F' H') : Pst xr W σ F' H' r C := by
  cases r with
  | ok a => exact fun F2 H2 g2 => h F2 H2 (g.trans g2)
  | ex c p => exact fun F2 H2 cls d g2 => h F2 H2 cls d (g.trans g2)
  | no => exact h
theorem Pst.imp {C' : α → Hp → Hp → Prop} (h : Pst xr W σ F H r C) (q : ∀ a F' H', r = .ok a → Grow F H F' H' → C a F' H' → C' a F' H') : Pst xr W σ F H r C' := by
  cases r with
  | ok a => exact fun F2 H2 g2 => q a F2 H2 rfl g2 (h F2 H2 g2)
  | ex c p => exact h
  | no => exact h
theorem Pst.bind {f : α → Rs β} {C : β → Hp → Hp → Prop} (h : Pst xr W σ F H (r.bind f) C) : Pst xr W σ F H r (fun a F' H' => Pst xr W σ F' H' (f a) C) := by
  cases r with
  | ok a => exact fun F2 H2 g2 => Pst.grow (r := f a) h g2
  | ex c p => exact h
  | no => exact h
theorem Pst.ok {a : α} (h : Pst xr W σ F H (.ok a) C) (g : Grow F H F' H') : C a F' H' := h F' H' g
end

/-! ### what is well around a body -/
/-- a function of the table -/
def spM (K : PySem.W.Frag) (xr : XR) (n : Nat) (m : List D → Rs PR) : Sp := fun vs H Q E => vs.length = n ∧ ∃ F ds, Ok F H ∧ RpL K F vs ds ∧ match m ds with
  | .ok r => QP K F H r Q
  | .ex c p => ∀ F' H' cls d, Grow F H F' H' → xr c p cls d F' H' → E cls d H'
  | .no => False
def FnAt (X : Cx) (xr : XR) (x : Str) (n : Nat) (dd : List D) (m : List D → Rs PR) : Prop :=
  ∃ k f fd ps, FnOk X.prog X.w X.K X.mg X.base (L2.CX X.prog X.w) k f fd ps (spM X.K xr n m) ∧ Room k X.A ∧ X.mg x = some (.ref f) ∧ PySem.W.keepIn X.K (.ref f) = true ∧
    ∀ j, j ≤ dd.length → ∃ dvs ds, Binds X.K fd ps ds ∧ Vals dvs ds ∧ ∀ H, RpL X.K H dvs (dd.drop (dd.length - j))
/-- what is told of a class that is raised, at D -/
structure ExD (K : PySem.W.Frag) (mg : Str → Option Value) (x : Str) (D : Addr) : Prop where
  g : mg x = some (.ref D)
  x : PySem.W.excIn K D [.type "ValueError", .type "Exception", .type "BaseException", .type "object"] "ValueError.__new__" = true
  k : PySem.W.keepIn K (.ref D) = true
  b : PySem.W.subIn K (.ref D) (.type "BaseException") = some true
  t : PySem.W.typeIn K (.ref D) = some (.type "type")
/-- the classes of the law -/
structure ExW (K : PySem.W.Frag) (mg : Str → Option Value) (xr : XR) (exs rcs : List (Nat × Str)) : Prop where
  xg : ∀ t ∈ exs, ∃ T, mg t.2 = some (.ref T)
  rs : ∀ t ∈ rcs, ∃ D, ExD K mg t.2 D ∧ ∀ F H, xr t.1 none (.ref D) none F H
  xf : ∀ c p cls d F H, xr c p cls d F H → d = none ∧ ∃ D, cls = .ref D ∧ ExcC K D ∧ PySem.W.kitOne K (.ref D) (.type "ValueError") = some true ∧
    ∀ t ∈ exs, ∀ T, mg t.2 = some (.ref T) → PySem.W.kitOne K (.ref D) (.ref T) = some (isaB c t.1) ∧ PySem.W.exmOne K (.ref D) (.ref T) = some (isaB c t.1)
structure Wd (X : Cx) (kx : Kx) (xr : XR) (W : WX) (cs : Cs) (tb : Tb) : Prop where
  kK : kx.K = X.K
  N : X.N = cs.N
  sc : X.env.scope = cs.sc
  nd : X.N.Nodup
  cm : cs.cm = true → X.calm = true
  un : X.A.units + 65 < cLine
  tk : Takes X W
  st : ∀ x : Str, locB cs x = true → Loc X.env.scope x ∧ (X.fn x = true ∨ X.env.scope.names.lookup x = some .local)
  fn : ∀ t ∈ cs.nm.fns, FnAt X xr t.2.1 t.2.2.1 t.2.2.2 (tb.fn t.1)
  gl : ∀ (g : Nat) (x : Str) (d : D), cs.nm.gls[g]? = some x → tb.gl[g]? = some d → ∃ v u, X.mg x = some u ∧ RelV v u ∧ ∀ H, Rp X.K H v d
  bi : ∀ x : Str, x ∈ blts → X.mg x = none
  dp : X.A.depth < recursionLimit
  xg : ∀ t ∈ cs.nm.exs, ∃ T, X.mg t.2 = some (.ref T)
  ix : ∀ c p b F, kx.xa c p b F → (∀ t ∈ cs.nm.exs, ∀ T, X.mg t.2 = some (.ref T) → CallR X (.builtin "isinstance") (fun xs H Q => xs = [.ref b, .ref T] ∧ Q (.bl (isaB c t.1)) H)) ∧
    CallR X (.builtin "isinstance") (fun xs H Q => xs = [.ref b, .ty "ValueError"] ∧ Q (.bl true) H) ∧
    ∀ (ts : List (Nat × Str)) (Ts : List Addr), (∀ t ∈ ts, t ∈ cs.nm.exs) → Paired (fun (t : Nat × Str) (T : Addr) => X.mg t.2 = some (.ref T)) ts Ts →
      CallR X (.builtin "isinstance") (fun xs H Q => ∃ tp, xs = [.ref b, .ref tp] ∧ H tp = some (.tup (Ts.map V.ref)) ∧ Q (.bl ((ts.map (·.1)).any (isaB c))) H)
  nx : X.calm = true → ∀ c p b F, ¬ kx.xa c p b F
  kf : ∀ z ∈ cs.nm.kfs, ∃ f, X.mg z = some (.ref f) ∧ SizeF X.K f
/-- what a result is, of arguments -/
abbrev RRs (K : PySem.W.Frag) (σ : St) (env : SEnv) (H F' H' : Hp) : List R → List V → Prop := Paired (RR K σ env H F' H')

section
variable {X : Cx} {kx : Kx} {xr : XR} {W : WX} {cs : Cs} {tb : Tb}
theorem visB_of {cs : Cs} {x : Str} (h : visB cs x = true) : Vis cs.sc x ∧ (x == ("__debug__" : Str)) = false ∧ (x == ("__classdict__" : Str)) = false := by
  unfold visB at h
  rw [Bool.and_eq_true, Bool.and_eq_true] at h
  obtain ⟨⟨h1, h2⟩, h3⟩ := h
  refine ⟨?_, by simpa using h2, by simpa using h3⟩
  unfold Vis
  split at h1
  · rename_i e; exact .inl e
  · rename_i e; exact .inr (.inl e)
  · rename_i e; exact .inr (.inr e)
  · cases h1
theorem gloB_of (w : Wd X kx xr W cs tb) {x : Str} (h : gloB cs x = true) : Gl X x ∧ (x == ("__debug__" : Str)) = false ∧ x ≠ "__name__" := by
  unfold gloB at h
  rw [Bool.and_eq_true, Bool.and_eq_true] at h
  obtain ⟨⟨h1, h2⟩, h3⟩ := h
  refine ⟨?_, by simpa using h2, fun e => by subst e; simp at h3⟩
  unfold Gl Env.kindOf
  rw [w.sc]
  split at h1
  · rename_i e; exact e
  · cases h1
theorem ixB_of (w : Wd X kx xr W cs tb) {i : Nat} {x : Str} (h : ixB cs i x = true) : X.N[i]? = some x := by
  unfold ixB at h
  rw [w.N]
  split at h
  · rename_i y e; rw [e, of_decide_eq_true h]
  · cases h
theorem star_of {e : Expr} {es : List Expr} {env : PySem.Env} (h : noStarB e = true) : starEach (e :: es) env = (false, eval e env) :: starEach es env := by
  cases e <;> first | rfl | (simp [noStarB] at h)
theorem chks_stars : ∀ {as : PXs} {cs : Cs} {es : List Expr} {env : PySem.Env} {pos : Pos}, chks as cs es = true → (starEach es env).all (fun x => !x.1) = true
  | .nil, cs, [], env, pos, h => rfl
  | .nil, cs, _ :: _, env, pos, h => by simp [chks] at h
  | .cons a as, cs, [], env, pos, h => by simp [chks] at h
  | .cons a as, cs, e :: es, env, pos, h => by
    simp only [chks, Bool.and_eq_true] at h
    rw [star_of h.1.1, List.all_cons, chks_stars (pos := pos) h.2]
    rfl
theorem Paired.lenR {γ δ : Type} {G : γ → δ → Prop} : ∀ {l : List γ} {l2 : List δ}, Paired G l l2 → l.length = l2.length
  | _, _, .nil => rfl
  | _, _, .cons _ t => by simp [Paired.lenR t]
end

/-- a rule by cases of what comes -/
theorem rule2_any {X : Cx} {f : Value → Value → Sem Value} {g : D → D → Option PR} (hr : ∀ d e r, g d e = some r → Rule2 X f d e r) (o o' : Rs R) :
    ∃ ru : R2, OpR X f ru ∧ ∀ x y r, o = .ok x → o' = .ok y → g x.d y.d = some r → ∀ F H v w Q, Ok F H → RA X.K F H v x.d → RA X.K F H w y.d → QP X.K F H r Q → ru v w H Q := by
  have no : ∃ ru : R2, OpR X f ru ∧ ∀ (x y : R) (r : PR), o = .ok x → o' = .ok y → g x.d y.d = none → True := ⟨fun _ _ _ _ => False, fun _ _ _ _ _ _ _ _ _ _ _ _ h => h.elim, fun _ _ _ _ _ _ => trivial⟩
  have fls : OpR X f (fun _ _ _ _ => False) := fun _ _ _ _ _ _ _ _ _ _ _ _ h => h.elim
  cases o with
  | ok x =>
    cases o' with
    | ok y =>
      cases e : g x.d y.d with
      | some r =>
        obtain ⟨ru, h1, h2⟩ := hr _ _ _ e
        exact ⟨ru, h1, fun x' y' r' e1 e2 e3 => by cases e1; cases e2; rw [e] at e3; cases e3; exact h2⟩
      | none => exact ⟨_, fls, fun x' y' r' e1 e2 e3 => by cases e1; cases e2; rw [e] at e3; cases e3⟩
    | ex c p => exact ⟨_, fls, fun x' y' r' e1 e2 e3 => by cases e2⟩
    | no => exact ⟨_, fls, fun x' y' r' e1 e2 e3 => by cases e2⟩
  | ex c p => exact ⟨_, fls, fun x' y' r' e1 e2 e3 => by cases e1⟩
  | no => exact ⟨_, fls, fun x' y' r' e1 e2 e3 => by cases e1⟩
theorem ruleI_any {X : Cx} (o o' : Rs R) :
    ∃ ru : R2, IxR X ru ∧ ∀ x y r, o = .ok x → o' = .ok y → idxD x.d y.d = some r → ∀ F H v w Q, Ok F H → RA X.K F H v x.d → RA X.K F H w y.d → QP X.K F H (.v r) Q → ru v w H Q := by
  have fls : IxR X (fun _ _ _ _ => False) := fun _ _ _ _ _ _ _ _ _ _ _ _ _ _ h => h.elim
  cases o with
  | ok x =>
    cases o' with
    | ok y =>
      cases e : idxD x.d y.d with
      | some r =>
        obtain ⟨ru, h1, h2⟩ := idx_rule (X := X) e
        exact ⟨ru, h1, fun x' y' r' e1 e2 e3 => by cases e1; cases e2; rw [e] at e3; cases e3; exact h2⟩
      | none => exact ⟨_, fls, fun x' y' r' e1 e2 e3 => by cases e1; cases e2; rw [e] at e3; cases e3⟩
    | ex c p => exact ⟨_, fls, fun x' y' r' e1 e2 e3 => by cases e2⟩
    | no => exact ⟨_, fls, fun x' y' r' e1 e2 e3 => by cases e2⟩
  | ex c p => exact ⟨_, fls, fun x' y' r' e1 e2 e3 => by cases e1⟩
  | no => exact ⟨_, fls, fun x' y' r' e1 e2 e3 => by cases e1⟩
theorem ruleC_any {X : Cx} {f : Value} {g : List D → Option PR} (hr : ∀ ds r, g ds = some r → RuleC X f ds r) (o : Rs (List R)) :
    ∃ ru : List V → Hp → VK → Prop, CallR X f ru ∧ ∀ xs r, o = .ok xs → g (xs.map R.d) = some r → ∀ F H vs Q, Ok F H → RAs X.K F H vs (xs.map R.d) → QP X.K F H r Q → ru vs H Q := by
  have fls : CallR X f (fun _ _ _ => False) := fun _ _ _ _ _ _ _ _ _ h => h.elim
  cases o with
  | ok xs =>
    cases e : g (xs.map R.d) with
    | some r =>
      obtain ⟨ru, h1, h2⟩ := hr _ _ e
      exact ⟨ru, h1, fun x' r' e1 e3 => by cases e1; rw [e] at e3; cases e3; exact h2⟩
    | none => exact ⟨_, fls, fun x' r' e1 e3 => by cases e1; rw [e] at e3; cases e3⟩
  | ex c p => exact ⟨_, fls, fun x' r' e1 e3 => by cases e1⟩
  | no => exact ⟨_, fls, fun x' r' e1 e3 => by cases e1⟩
theorem ruleM_any {X : Cx} {id : String} {g : D → List D → Option PR} (hr : ∀ d ds r, g d ds = some r → RuleM X id d ds r) (o : Rs R) (o' : Rs (List R)) :
    ∃ ru, MtR X id ru ∧ ∀ x xs r, o = .ok x → o' = .ok xs → g x.d (xs.map R.d) = some r → ∀ F H v vs Q, Ok F H → RA X.K F H v x.d → RAs X.K F H vs (xs.map R.d) → QP X.K F H r Q → ru v vs H Q := by
  have fls : MtR X id (fun _ _ _ _ => False) := fun _ _ _ _ _ _ _ _ _ _ _ _ h => h.elim
  cases o with
  | ok x =>
    cases o' with
    | ok y =>
      cases e : g x.d (y.map R.d) with
      | some r =>
        obtain ⟨ru, h1, h2⟩ := hr _ _ _ e
        exact ⟨ru, h1, fun x' y' r' e1 e2 e3 => by cases e1; cases e2; rw [e] at e3; cases e3; exact h2⟩
      | none => exact ⟨_, fls, fun x' y' r' e1 e2 e3 => by cases e1; cases e2; rw [e] at e3; cases e3⟩
    | ex c p => exact ⟨_, fls, fun x' y' r' e1 e2 e3 => by cases e2⟩
    | no => exact ⟨_, fls, fun x' y' r' e1 e2 e3 => by cases e2⟩
  | ex c p => exact ⟨_, fls, fun x' y' r' e1 e2 e3 => by cases e1⟩
  | no => exact ⟨_, fls, fun x' y' r' e1 e2 e3 => by cases e1⟩
end VL
/-! the value layer, 10: expressions do what they say -/
namespace VL
open PySem PySem.Spec L2

def SnV (tb : Tb) (p : PX) : Prop := ∀ {X : Cx} {kx : Kx} {xr : XR} {W : WX} {cs : Cs} (_ : Wd X kx xr W cs tb) {e : Expr}, chk p .v cs e = true → ∀ {env : SEnv} {σ : St} {F0 H0 F H : Hp} {Q : VK},
  EnvOk kx F0 H0 env σ F H → Pst xr W σ F H (ev tb p env) (fun r F' H' => ∀ v, RR X.K σ env H F' H' r v → Q v H') → wE X e σ H Q
def SnT (tb : Tb) (p : PX) : Prop := ∀ {X : Cx} {kx : Kx} {xr : XR} {W : WX} {cs : Cs} (_ : Wd X kx xr W cs tb) {e : Expr}, chk p .t cs e = true → ∀ {env : SEnv} {σ : St} {F0 H0 F H : Hp} {Q : Bool → Hp → Prop},
  EnvOk kx F0 H0 env σ F H → Pst xr W σ F H (ev tb p env) (fun r F' H' => match r.d with | .bool b => Q b H' | _ => False) → wT X e σ H Q
def SnA (tb : Tb) (p : PXs) : Prop := ∀ {X : Cx} {kx : Kx} {xr : XR} {W : WX} {cs : Cs} (_ : Wd X kx xr W cs tb) {es : List Expr}, chks p cs es = true → ∀ {env : SEnv} {σ : St} {F0 H0 F H : Hp} {Q : List V → Hp → Prop},
  EnvOk kx F0 H0 env σ F H → Pst xr W σ F H (evs tb p env) (fun rs F' H' => ∀ vs, RRs X.K σ env H F' H' rs vs → Q vs H') → wA X es σ H Q
structure Sn (tb : Tb) (p : PX) : Prop where
  v : SnV tb p
  t : SnT tb p

section
variable {X : Cx} {kx : Kx} {xr : XR} {W : WX} {cs : Cs} {tb : Tb} {K : PySem.W.Frag} {σ : St} {env : SEnv} {F H F' H' F2 H2 : Hp} {Q : VK}
theorem qp_of {r : PR} (k : Pst xr W σ F2 H2 (.ok r.r) (fun r F' H' => ∀ v, RR K σ env H F' H' r v → Q v H')) (s : Same H H2) : QP K F2 H2 r Q :=
  fun F3 H3 v g h => k F3 H3 g v (h.rr.back s)
theorem RRs.grow : ∀ {rs : List R} {vs : List V}, RRs K σ env H F' H' rs vs → Grow F' H' F2 H2 → RRs K σ env H F2 H2 rs vs := fun h g => Paired.mapP h fun _ _ z => z.grow g
theorem RRs.ras : ∀ {rs : List R} {vs : List V}, RRs K σ env H F' H' rs vs → RAs K F' H' vs (rs.map R.d)
  | _, _, .nil => .nil
  | _, _, .cons h t => .cons h.ra (RRs.ras t)
theorem plainT_of {e : Expr} (h : plainT e = true) : ∀ whole, isTrue e X.env whole = (do let v ← whole; standAt e.pos; holding [v] (truthy v)) := by
  intro whole
  cases e with
  | UnaryOp op x p => cases op <;> first | rfl | (simp [plainT] at h)
  | BoolOp => simp [plainT] at h
  | IfExp => simp [plainT] at h
  | Compare => simp [plainT] at h
  | _ => rfl
theorem RR.bool_of {r : R} {v : V} {b : Bool} (h : RR K σ env H F' H' r v) (e : r.d = .bool b) : v = .bl b := RA.bool (e ▸ h.ra)
theorem RR.int_of {r : R} {v : V} {b : Int} (h : RR K σ env H F' H' r v) (e : r.d = .int b) : v = .int b := RA.int (e ▸ h.ra)
/-- a plain test -/
theorem snT_leaf {p : PX} (h : ∀ cs e, chk p .t cs e = true → plainT e = true ∧ chk p .v cs e = true) (s : SnV tb p) : SnT tb p := by
  intro X kx xr W cs w e hc env σ F0 H0 F H Q E q
  obtain ⟨h1, h2⟩ := h cs e hc
  refine (pt_val (peW e) (plainT_of h1)).w ?_
  show wE X e σ H (fun x H1 => ∃ c, x = .bl c ∧ Q c H1)
  refine s w h2 E (q.imp fun r F1 H1 _ g k v rv => ?_)
  split at k
  · rename_i b e1
    exact ⟨b, rv.bool_of e1, k⟩
  · exact k.elim
theorem lf_v (e : Expr) : lf .v e = true := rfl
theorem lf_t (e : Expr) : lf .t e = plainT e := by unfold lf; simp [isT]

/-! ### leaves -/
theorem sn_var (i : Nat) : SnV tb (.var i) := by
  intro X kx xr W cs w e h env σ F0 H0 F H Q E q
  simp only [chk, lf_v, Bool.true_and] at h
  split at h
  · rename_i x pos
    rw [Bool.and_eq_true] at h
    obtain ⟨h1, h2⟩ := h
    obtain ⟨v1, v2, v3⟩ := visB_of h2
    rw [← w.sc] at v1
    refine (pe_var (ixB_of w h1) v1 v2 v3).w ?_
    simp only [ev] at q
    cases e : env[i]? with
    | none => rw [e] at q; exact q.elim
    | some s =>
      rw [e] at q
      have z := E.sl i s e
      cases s with
      | fz d =>
        obtain ⟨v, e1, r⟩ := z
        rw [w.kK] at r
        exact ⟨v, e1, q F H (Grow.refl E.ok) v r⟩
      | ow ds =>
        obtain ⟨a, xs, e1, f, h0, hh, r⟩ := z
        rw [w.kK] at r
        exact ⟨_, e1, q F H (Grow.refl E.ok) _ ⟨a, xs, rfl, e1, e, f, hh, r⟩⟩
      | _ => exact q.elim
  · cases h
theorem sn_int (i : Int) : SnV tb (.int i) := by
  intro X kx xr W cs w e h env σ F0 H0 F H Q E q
  simp only [chk, lf_v, Bool.true_and] at h
  split at h
  · rw [decide_eq_true_eq] at h
    subst h
    simp only [ev] at q
    exact pe_int.w (q F H (Grow.refl E.ok) _ (.int _))
  · cases h
theorem sn_bool (i : Bool) : SnV tb (.bool i) := by
  intro X kx xr W cs w e h env σ F0 H0 F H Q E q
  simp only [chk, lf_v, Bool.true_and] at h
  split at h
  · rw [decide_eq_true_eq] at h
    subst h
    simp only [ev] at q
    exact pe_bl.w (q F H (Grow.refl E.ok) _ (.bl _))
  · cases h
theorem sn_none : SnV tb .none := by
  intro X kx xr W cs w e h env σ F0 H0 F H Q E q
  simp only [chk, lf_v, Bool.true_and] at h
  split at h
  · simp only [ev] at q
    exact pe_non.w (q F H (Grow.refl E.ok) _ .non)
  · cases h
theorem sn_str (i : Str) : SnV tb (.str i) := by
  intro X kx xr W cs w e h env σ F0 H0 F H Q E q
  simp only [chk, lf_v, Bool.true_and] at h
  split at h
  · rw [decide_eq_true_eq] at h
    subst h
    simp only [ev] at q
    exact pe_str.w (q F H (Grow.refl E.ok) _ (.str _))
  · cases h
theorem sn_glob (g : Nat) : SnV tb (.glob g) := by
  intro X kx xr W cs w e h env σ F0 H0 F H Q E q
  simp only [chk, lf_v, Bool.true_and] at h
  split at h
  · rename_i x pos
    rw [Bool.and_eq_true] at h
    obtain ⟨h1, h2⟩ := h
    obtain ⟨g1, g2, g3⟩ := gloB_of w h2
    simp only [ev] at q
    split at h1
    · rename_i y ey
      have ey2 := of_decide_eq_true h1
      subst ey2
      cases ed : tb.gl[g]? with
      | none => rw [ed] at q; exact q.elim
      | some d =>
        rw [ed] at q
        obtain ⟨v, u, m1, m2, m3⟩ := w.gl g _ d ey ed
        exact (pe_glob g1 m1 m2 g2).w (q F H (Grow.refl E.ok) v (m3 F))
    · cases h1
  · cases h

/-! ### operators -/
theorem sn_bin {op : Operator} {a b : PX} (ha : SnV tb a) (hb : SnV tb b) : SnV tb (.bin op a b) := by
  intro X kx xr W cs w e h env σ F0 H0 F H Q E q
  simp only [chk, lf_v, Bool.true_and] at h
  split at h
  · rename_i l op' r pos
    simp only [Bool.and_eq_true, decide_eq_true_eq] at h
    obtain ⟨⟨e0, h1⟩, h2⟩ := h
    subst e0
    simp only [ev] at q
    obtain ⟨ru, o, hru⟩ := rule2_any (X := X) (f := binaryOp op) (g := binD op) (fun d e r h => bin_rule h) (ev tb a env) (ev tb b env)
    refine (pe_op o (peW l) (peW r)).w ?_
    show wE X l σ H (fun x H1 => wE X r σ H1 fun y H2 => ru x y H2 Q)
    refine ha w h1 E (q.bind.imp fun x F1 H1 ex g1 k1 v rv => ?_)
    refine hb w h2 (E.grow g1) (k1.bind.imp fun y F2 H2 ey g2 k2 u ru2 => ?_)
    cases eb : binD op x.d y.d with
    | none => rw [eb] at k2; exact k2.elim
    | some z =>
      rw [eb] at k2
      exact hru x y z ex ey eb F2 H2 v u Q g2.ok (rv.ra.grow g2) ru2.ra (qp_of k2 (g1.h.trans g2.h))
  · cases h
theorem sn_neg {a : PX} (ha : SnV tb a) : SnV tb (.neg a) := by
  intro X kx xr W cs w e h env σ F0 H0 F H Q E q
  simp only [chk, lf_v, Bool.true_and] at h
  split at h
  · rename_i x pos
    simp only [ev] at q
    refine (pe_un un_neg (peW x)).w ?_
    refine ha w h E (q.bind.imp fun x F1 H1 ex g1 k1 v rv => ?_)
    split at k1
    · rename_i i ei
      exact ⟨i, rv.int_of ei, k1 F1 H1 (Grow.refl g1.ok) _ (.int _)⟩
    · exact k1.elim
  · cases h
theorem cmp_core {op : CmpOp} {a b : PX} (ha : SnV tb a) (hb : SnV tb b) (w : Wd X kx xr W cs tb) {l r : Expr} (h1 : chk a .v cs l = true) (h2 : chk b .v cs r = true) {F0 H0 : Hp} (E : EnvOk kx F0 H0 env σ F H) :
    ∃ ru : R2, OpR X (compareOp op) ru ∧ ∀ {C : R → Hp → Hp → Prop} {R' : VK}, Pst xr W σ F H (ev tb (.cmp op a b) env) C → (∀ k F' H', C (.fz (.bool k)) F' H' → R' (.bl k) H') → wE X l σ H (fun x H1 => wE X r σ H1 fun y H2 => ru x y H2 R') := by
  obtain ⟨ru, o, hru⟩ := rule2_any (X := X) (f := compareOp op) (g := fun d e => (cmpD op d e).map fun k => PR.v (.bool k)) (fun d e r h => by
    obtain ⟨k, e1, rfl⟩ := map_some h
    exact cmp_rule w.un e1) (ev tb a env) (ev tb b env)
  refine ⟨ru, o, fun {C R'} q hC => ?_⟩
  simp only [ev] at q
  refine ha w h1 E (q.bind.imp fun x F1 H1 ex g1 k1 v rv => ?_)
  refine hb w h2 (E.grow g1) (k1.bind.imp fun y F2 H2 ey g2 k2 u ru2 => ?_)
  cases eb : cmpD op x.d y.d with
  | none => rw [eb] at k2; exact k2.elim
  | some z =>
    rw [eb] at k2
    refine hru x y (.v (.bool z)) ex ey (by rw [eb]; rfl) F2 H2 v u _ g2.ok (rv.ra.grow g2) ru2.ra (fun F3 H3 v g3 pv => ?_)
    cases pv
    exact hC z F3 H3 (k2 F3 H3 g3)
theorem sn_cmp {op : CmpOp} {a b : PX} (ha : SnV tb a) (hb : SnV tb b) : Sn tb (.cmp op a b) := by
  constructor
  · intro X kx xr W cs w e h env σ F0 H0 F H Q E q
    simp only [chk] at h
    split at h
    · rename_i l op' r pos
      simp only [Bool.and_eq_true, decide_eq_true_eq] at h
      obtain ⟨⟨⟨e0, hm⟩, h1⟩, h2⟩ := h
      subst e0
      obtain ⟨ru, o, hh⟩ := cmp_core (op := op) ha hb w h1 h2 E
      exact (pe_cmpR o (peW l) (peW r) (by simpa using hm)).w (hh q fun k F' H' z => z _ (.bl k))
    · cases h
  · intro X kx xr W cs w e h env σ F0 H0 F H Q E q
    simp only [chk] at h
    split at h
    · rename_i l op' r pos
      simp only [Bool.and_eq_true, decide_eq_true_eq] at h
      obtain ⟨⟨⟨e0, hm⟩, h1⟩, h2⟩ := h
      subst e0
      obtain ⟨ru, o, hh⟩ := cmp_core (op := op) ha hb w h1 h2 E
      exact (pt_cmpR o (peW l) (peW r) (by simpa using hm)).w (hh q fun k F' H' z => ⟨k, rfl, z⟩)
    · cases h
end
end VL
/-! the value layer, 11: and, or, not, chains, parts -/
namespace VL
open PySem PySem.Spec L2
section
variable {X : Cx} {kx : Kx} {xr : XR} {W : WX} {cs : Cs} {tb : Tb} {K : PySem.W.Frag} {σ : St} {env : SEnv} {F H F' H' F2 H2 : Hp} {Q : VK}
theorem chain_core {op op' : CmpOp} {a b c : PX} (ha : SnV tb a) (hb : SnV tb b) (hc : SnV tb c) (w : Wd X kx xr W cs tb) {l r u : Expr} (h1 : chk a .v cs l = true) (h2 : chk b .v cs r = true) (h3 : chk c .v cs u = true) {F0 H0 : Hp} (E : EnvOk kx F0 H0 env σ F H) :
    ∃ ru ru' : R2, OpR X (compareOp op) ru ∧ OpR X (compareOp op') ru' ∧ ∀ {C : R → Hp → Hp → Prop} {R' : VK}, Pst xr W σ F H (ev tb (.chain op op' a b c) env) C → (∀ k F' H', C (.fz (.bool k)) F' H' → R' (.bl k) H') →
      wE X l σ H (fun x H1 => wE X r σ H1 fun y H2 => ru x y H2 fun z H3 => ∃ k, z = .bl k ∧ (if k = true then wE X u σ H3 fun w' H4 => ru' y w' H4 R' else R' (.bl false) H3)) := by
  obtain ⟨ru, o, hru⟩ := rule2_any (X := X) (f := compareOp op) (g := fun d e => (cmpD op d e).map fun k => PR.v (.bool k)) (fun d e r h => by
    obtain ⟨k, e1, rfl⟩ := map_some h
    exact cmp_rule w.un e1) (ev tb a env) (ev tb b env)
  obtain ⟨ru', o', hru'⟩ := rule2_any (X := X) (f := compareOp op') (g := fun d e => (cmpD op' d e).map fun k => PR.v (.bool k)) (fun d e r h => by
    obtain ⟨k, e1, rfl⟩ := map_some h
    exact cmp_rule w.un e1) (ev tb b env) (ev tb c env)
  refine ⟨ru, ru', o, o', fun {C R'} q hC => ?_⟩
  simp only [ev] at q
  refine ha w h1 E (q.bind.imp fun x F1 H1 ex g1 k1 v rv => ?_)
  refine hb w h2 (E.grow g1) (k1.bind.imp fun y F2 H2 ey g2 k2 vy ry => ?_)
  cases eb : cmpD op x.d y.d with
  | none => rw [eb] at k2; exact k2.elim
  | some z =>
    rw [eb] at k2
    refine hru x y (.v (.bool z)) ex ey (by rw [eb]; rfl) F2 H2 v vy _ g2.ok (rv.ra.grow g2) ry.ra (fun F3 H3 v3 g3 pv => ?_)
    cases pv
    refine ⟨z, rfl, ?_⟩
    cases z with
    | false =>
      rw [if_neg (by decide)]
      exact hC false F3 H3 (k2 F3 H3 g3)
    | true =>
      rw [if_pos rfl]
      simp only at k2
      refine hc w h3 ((E.grow (g1.trans g2)).grow g3) ((k2.grow g3).bind.imp fun z F4 H4 ez g4 k4 vz rz => ?_)
      cases ec : cmpD op' y.d z.d with
      | none => rw [ec] at k4; exact k4.elim
      | some z' =>
        rw [ec] at k4
        refine hru' y z (.v (.bool z')) ey ez (by rw [ec]; rfl) F4 H4 vy vz _ g4.ok ((ry.ra.grow g3).grow g4) rz.ra (fun F5 H5 v5 g5 pv => ?_)
        cases pv
        exact hC z' F5 H5 (k4 F5 H5 g5)
theorem sn_chain {op op' : CmpOp} {a b c : PX} (ha : SnV tb a) (hb : SnV tb b) (hc : SnV tb c) : Sn tb (.chain op op' a b c) := by
  constructor
  · intro X kx xr W cs w e h env σ F0 H0 F H Q E q
    simp only [chk] at h
    split at h
    · rename_i l o1 o2 r u pos
      simp only [Bool.and_eq_true, decide_eq_true_eq] at h
      obtain ⟨⟨⟨⟨⟨e0, e1⟩, hm⟩, h1⟩, h2⟩, h3⟩ := h
      subst e0 e1
      obtain ⟨ru, ru', o, o', hh⟩ := chain_core (op := op) (op' := op') ha hb hc w h1 h2 h3 E
      exact (pe_chain o o' (peW l) (peW r) (peW u) (by simpa using hm)).w (hh q fun k F' H' z => z _ (.bl k))
    · cases h
  · intro X kx xr W cs w e h env σ F0 H0 F H Q E q
    simp only [chk] at h
    split at h
    · rename_i l o1 o2 r u pos
      simp only [Bool.and_eq_true, decide_eq_true_eq] at h
      obtain ⟨⟨⟨⟨⟨e0, e1⟩, hm⟩, h1⟩, h2⟩, h3⟩ := h
      subst e0 e1
      obtain ⟨ru, ru', o, o', hh⟩ := chain_core (op := op) (op' := op') ha hb hc w h1 h2 h3 E
      exact (pt_chain o o' (peW l) (peW r) (peW u) (by simpa using hm)).w (hh q fun k F' H' z => ⟨k, rfl, z⟩)
    · cases h

/-! ### and, or -/
theorem pw_of {op : PySem.BoolOp} {vs : List Expr} {p : Pos} {t : TT} (h : PT X (.BoolOp op vs p) t) : PW X (.BoolOp op vs p) t := ⟨fun _ pins s σ H Q I q => h.run pins s σ H Q I q⟩
theorem md_v : Md.d .v = .v := rfl
theorem md_t : Md.d .t = .t := rfl
theorem and_v {a b : PX} {l : Expr} {e2 : Expr} (ha : SnV tb a) (hb : SnV tb b) (w : Wd X kx xr W cs tb) (h1 : chk a .v cs l = true) (h2 : chk b .v cs e2 = true) {F0 H0 : Hp} (E : EnvOk kx F0 H0 env σ F H)
    (q : Pst xr W σ F H (ev tb (.and a b) env) (fun r F' H' => ∀ v, RR X.K σ env H F' H' r v → Q v H')) : tAndV (wE X l) (wE X e2) σ H Q := by
  simp only [ev] at q
  refine ha w h1 E (q.bind.imp fun x F1 H1 ex g1 k1 v rv => ?_)
  split at k1
  · rename_i ed
    refine ⟨true, rv.bool_of ed, ?_⟩
    rw [if_pos rfl]
    exact hb w h2 (E.grow g1) (Pst.imp k1 fun r F2 H2 er g2 k2 v2 r2 => k2 v2 (r2.back g1.h))
  · rename_i ed
    refine ⟨false, rv.bool_of ed, ?_⟩
    rw [if_neg (by decide)]
    exact k1 F1 H1 (Grow.refl g1.ok) _ (.bl _)
  · exact k1.elim
theorem or_v {a b : PX} {l : Expr} {e2 : Expr} (ha : SnV tb a) (hb : SnV tb b) (w : Wd X kx xr W cs tb) (h1 : chk a .v cs l = true) (h2 : chk b .v cs e2 = true) {F0 H0 : Hp} (E : EnvOk kx F0 H0 env σ F H)
    (q : Pst xr W σ F H (ev tb (.or a b) env) (fun r F' H' => ∀ v, RR X.K σ env H F' H' r v → Q v H')) : tOrV (wE X l) (wE X e2) σ H Q := by
  simp only [ev] at q
  refine ha w h1 E (q.bind.imp fun x F1 H1 ex g1 k1 v rv => ?_)
  split at k1
  · rename_i ed
    refine ⟨true, rv.bool_of ed, ?_⟩
    rw [if_pos rfl]
    exact k1 F1 H1 (Grow.refl g1.ok) _ (.bl _)
  · rename_i ed
    refine ⟨false, rv.bool_of ed, ?_⟩
    rw [if_neg (by decide)]
    exact hb w h2 (E.grow g1) (Pst.imp k1 fun r F2 H2 er g2 k2 v2 r2 => k2 v2 (r2.back g1.h))
  · exact k1.elim
theorem and_t {a b : PX} {l : Expr} {e2 : Expr} {Q : Bool → Hp → Prop} (ha : SnT tb a) (hb : SnT tb b) (w : Wd X kx xr W cs tb) (h1 : chk a .t cs l = true) (h2 : chk b .t cs e2 = true) {F0 H0 : Hp} (E : EnvOk kx F0 H0 env σ F H)
    (q : Pst xr W σ F H (ev tb (.and a b) env) (fun r F' H' => match r.d with | .bool b => Q b H' | _ => False)) : tAnd (wT X l) (wT X e2) σ H Q := by
  simp only [ev] at q
  refine ha w h1 E (q.bind.imp fun x F1 H1 ex g1 k1 => ?_)
  cases ed : x.d with
  | bool b =>
    rw [ed] at k1
    show if b = true then _ else _
    cases b with
    | true => rw [if_pos rfl]; exact hb w h2 (E.grow g1) k1
    | false => rw [if_neg (by decide)]; exact k1 F1 H1 (Grow.refl g1.ok)
  | _ => rw [ed] at k1; exact k1.elim
theorem or_t {a b : PX} {l : Expr} {e2 : Expr} {Q : Bool → Hp → Prop} (ha : SnT tb a) (hb : SnT tb b) (w : Wd X kx xr W cs tb) (h1 : chk a .t cs l = true) (h2 : chk b .t cs e2 = true) {F0 H0 : Hp} (E : EnvOk kx F0 H0 env σ F H)
    (q : Pst xr W σ F H (ev tb (.or a b) env) (fun r F' H' => match r.d with | .bool b => Q b H' | _ => False)) : tOr (wT X l) (wT X e2) σ H Q := by
  simp only [ev] at q
  refine ha w h1 E (q.bind.imp fun x F1 H1 ex g1 k1 => ?_)
  cases ed : x.d with
  | bool b =>
    rw [ed] at k1
    show if b = true then _ else _
    cases b with
    | true => rw [if_pos rfl]; exact k1 F1 H1 (Grow.refl g1.ok)
    | false => rw [if_neg (by decide)]; exact hb w h2 (E.grow g1) k1
  | _ => rw [ed] at k1; exact k1.elim
theorem sn_and {a b : PX} (ha : Sn tb a) (hb : Sn tb b) : Sn tb (.and a b) := by
  constructor
  · intro X kx xr W cs w e h env σ F0 H0 F H Q E q
    simp only [chk, md_v] at h
    split at h
    · rw [Bool.and_eq_true] at h
      exact (pe_and (peW _) (pe_one (peW _))).w (and_v ha.v hb.v w h.1 h.2 E q)
    · rw [Bool.and_eq_true] at h
      exact (pe_and (peW _) (peW _)).w (and_v ha.v hb.v w h.1 h.2 E q)
    · cases h
  · intro X kx xr W cs w e h env σ F0 H0 F H Q E q
    simp only [chk, md_t] at h
    split at h
    · rw [Bool.and_eq_true] at h
      exact (pw_and (ptW _) (pw_and1 (ptW _))).pt.w (and_t ha.t hb.t w h.1 h.2 E q)
    · rw [Bool.and_eq_true] at h
      exact (pw_and (ptW _) (pw_of (ptW _))).pt.w (and_t ha.t hb.t w h.1 h.2 E q)
    · cases h
theorem sn_or {a b : PX} (ha : Sn tb a) (hb : Sn tb b) : Sn tb (.or a b) := by
  constructor
  · intro X kx xr W cs w e h env σ F0 H0 F H Q E q
    simp only [chk, md_v] at h
    split at h
    · rw [Bool.and_eq_true] at h
      exact (pe_or (peW _) (pe_one (peW _))).w (or_v ha.v hb.v w h.1 h.2 E q)
    · rw [Bool.and_eq_true] at h
      exact (pe_or (peW _) (peW _)).w (or_v ha.v hb.v w h.1 h.2 E q)
    · cases h
  · intro X kx xr W cs w e h env σ F0 H0 F H Q E q
    simp only [chk, md_t] at h
    split at h
    · rw [Bool.and_eq_true] at h
      exact (pw_or (ptW _) (pw_or1 (ptW _))).pt.w (or_t ha.t hb.t w h.1 h.2 E q)
    · rw [Bool.and_eq_true] at h
      exact (pw_or (ptW _) (pw_of (ptW _))).pt.w (or_t ha.t hb.t w h.1 h.2 E q)
    · cases h
theorem sn_not {a : PX} (ha : Sn tb a) : Sn tb (.not a) := by
  constructor
  · intro X kx xr W cs w e h env σ F0 H0 F H Q E q
    simp only [chk, md_v] at h
    split at h
    · simp only [ev] at q
      refine (pe_not (peW _)).w ?_
      refine ha.v w h E (q.bind.imp fun x F1 H1 ex g1 k1 v rv => ?_)
      split at k1
      · rename_i k ed
        exact ⟨k, rv.bool_of ed, k1 F1 H1 (Grow.refl g1.ok) _ (.bl _)⟩
      · exact k1.elim
    · cases h
  · intro X kx xr W cs w e h env σ F0 H0 F H Q E q
    simp only [chk, md_t] at h
    split at h
    · simp only [ev] at q
      refine (pt_not (ptW _)).w ?_
      refine ha.t w h E (q.bind.imp fun x F1 H1 ex g1 k1 => ?_)
      cases ed : x.d with
      | bool b => rw [ed] at k1; exact k1 F1 H1 (Grow.refl g1.ok)
      | _ => rw [ed] at k1; exact k1.elim
    · cases h
theorem sn_ife {c a b : PX} (hc : Sn tb c) (ha : SnV tb a) (hb : SnV tb b) : SnV tb (.ife c a b) := by
  intro X kx xr W cs w e h env σ F0 H0 F H Q E q
  simp only [chk, lf_v, Bool.true_and] at h
  split at h
  · simp only [Bool.and_eq_true] at h
    obtain ⟨⟨h1, h2⟩, h3⟩ := h
    simp only [ev] at q
    refine (pe_ifExp (ptW _) (peW _) (peW _)).w ?_
    refine hc.t w h1 E (q.bind.imp fun x F1 H1 ex g1 k1 => ?_)
    cases ed : x.d with
    | bool k =>
      rw [ed] at k1
      show if k = true then _ else _
      cases k with
      | true => rw [if_pos rfl]; exact ha w h2 (E.grow g1) (Pst.imp k1 fun r F2 H2 er g2 k2 v2 r2 => k2 v2 (r2.back g1.h))
      | false => rw [if_neg (by decide)]; exact hb w h3 (E.grow g1) (Pst.imp k1 fun r F2 H2 er g2 k2 v2 r2 => k2 v2 (r2.back g1.h))
    | _ => rw [ed] at k1; exact k1.elim
  · cases h

/-! ### parts -/
theorem plainIx_of {b : Expr} (h : noSlice b = true) : PlainIx b := by
  intro o i
  cases b <;> first | rfl | (simp [noSlice] at h)
theorem sn_idx {a b : PX} (ha : SnV tb a) (hb : SnV tb b) : SnV tb (.idx a b) := by
  intro X kx xr W cs w e h env σ F0 H0 F H Q E q
  simp only [chk, lf_v, Bool.true_and] at h
  split at h
  · rename_i l r pos
    simp only [Bool.and_eq_true] at h
    obtain ⟨⟨hs, h1⟩, h2⟩ := h
    simp only [ev] at q
    obtain ⟨ru, o, hru⟩ := ruleI_any (X := X) (ev tb a env) (ev tb b env)
    refine (pe_ix o (peW l) (peW r) (plainIx_of hs)).w ?_
    refine ha w h1 E (q.bind.imp fun x F1 H1 ex g1 k1 v rv => ?_)
    refine hb w h2 (E.grow g1) (k1.bind.imp fun y F2 H2 ey g2 k2 u ru2 => ?_)
    cases eb : idxD x.d y.d with
    | none => rw [eb] at k2; exact k2.elim
    | some z =>
      rw [eb] at k2
      exact hru x y z ex ey eb F2 H2 v u Q g2.ok (rv.ra.grow g2) ru2.ra (qp_of (r := .v z) k2 (g1.h.trans g2.h))
  · cases h
end
end VL
/-! the value layer, 12: arguments, displays, calls -/
namespace VL
open PySem PySem.Spec L2
section
variable {X : Cx} {kx : Kx} {xr : XR} {W : WX} {cs : Cs} {tb : Tb} {K : PySem.W.Frag} {σ : St} {env : SEnv} {F H F' H' F2 H2 : Hp} {Q : VK}
theorem RRs.back {H1 : Hp} {rs : List R} {vs : List V} (h : RRs K σ env H1 F' H' rs vs) (e : Same H H1) : RRs K σ env H F' H' rs vs := Paired.mapP h fun _ _ z => z.back e
theorem sna_nil : SnA tb .nil := by
  intro X kx xr W cs w es h env σ F0 H0 F H Q E q
  simp only [chks] at h
  split at h
  · simp only [evs] at q
    exact pa_nil.w (q F H (Grow.refl E.ok) _ .nil)
  · cases h
theorem sna_cons {a : PX} {as : PXs} (ha : SnV tb a) (hr : SnA tb as) : SnA tb (.cons a as) := by
  intro X kx xr W cs w es h env σ F0 H0 F H Q E q
  simp only [chks] at h
  split at h
  · simp only [Bool.and_eq_true] at h
    obtain ⟨⟨h1, h2⟩, h3⟩ := h
    simp only [evs] at q
    refine (pa_cons (peW _) (paW _) (star_of h1)).w ?_
    refine ha w h2 E (q.bind.imp fun x F1 H1 ex g1 k1 v rv => ?_)
    refine hr w h3 (E.grow g1) (k1.bind.imp fun xs F2 H2 exs g2 k2 vs rvs => ?_)
    exact k2 F2 H2 (Grow.refl g2.ok) _ (.cons (rv.grow g2) (rvs.back g1.h))
  · cases h
/-- what is kept is frozen, all of it -/
theorem RRs.keepF : ∀ {rs : List R} {vs : List V} {ds : List D}, RRs K σ env H F' H' rs vs → keepAll rs = some ds → ∀ {G : Hp}, Grow F H G H' → Same F' G → ∃ F2, Grow F H F2 H' ∧ Same G F2 ∧ RpL K F2 vs ds
  | _, _, _, .nil, k, G, g, s => by
    cases k
    exact ⟨G, g, Same.refl G, .nil⟩
  | r :: rs, v :: vs, ds, .cons hr ht, k, G, g, s => by
    unfold keepAll allOpt at k
    split at k
    · rename_i y ys e1 e2
      cases k
      cases r with
      | fz d =>
        cases e1
        obtain ⟨F2, g2, s2, r2⟩ := RRs.keepF ht e2 g s
        exact ⟨F2, g2, s2, .cons (Rp.mono (s.trans s2) hr) r2⟩
      | nw ds =>
        cases e1
        obtain ⟨a, xs, rfl, f, h0, h, rr⟩ := hr
        obtain ⟨G2, g2, s2, e⟩ := g.freeze h0 h
        obtain ⟨F2, g3, s3, r2⟩ := RRs.keepF ht e2 g2 (s.trans s2)
        exact ⟨F2, g3, s2.trans s3, .cons (.lst (.of (s3 _ _ e)) (RpL.mono ((s.trans s2).trans s3) rr)) r2⟩
      | bw i ds => cases e1
    · cases k
theorem RRs.keep {rs : List R} {vs : List V} {ds : List D} (h : RRs K σ env H F' H' rs vs) (g : Grow F H F' H') (k : keepAll rs = some ds) : ∃ F2, Grow F H F2 H' ∧ RpL K F2 vs ds := by
  obtain ⟨F2, g2, _, r⟩ := h.keepF k g (Same.refl F')
  exact ⟨F2, g2, r⟩
theorem evs_len : ∀ {as : PXs} {rs : List R}, evs tb as env = .ok rs → rs.length = as.len
  | .nil, rs, h => by simp only [evs] at h; cases h; rfl
  | .cons a as, rs, h => by
    simp only [evs] at h
    cases e1 : ev tb a env with
    | ok x =>
      rw [e1] at h
      simp only [Rs.bind] at h
      cases e2 : evs tb as env with
      | ok xs =>
        rw [e2] at h
        cases h
        simp only [List.length_cons, PXs.len, evs_len e2]
      | ex c p => rw [e2] at h; cases h
      | no => rw [e2] at h; cases h
    | ex c p => rw [e1] at h; cases h
    | no => rw [e1] at h; cases h
theorem chks_len : ∀ {as : PXs} {es : List Expr}, chks as cs es = true → as.len = es.length
  | .nil, [], h => rfl
  | .nil, _ :: _, h => by simp [chks] at h
  | .cons a as, [], h => by simp [chks] at h
  | .cons a as, e :: es, h => by
    simp only [chks, Bool.and_eq_true] at h
    simp only [PXs.len, List.length_cons, chks_len h.2]
theorem small_size {n : Nat} (h : n < 1000) : n ≤ sizeLine := by
  have := sizeLine_eq
  omega
theorem sn_tup {as : PXs} (ha : SnA tb as) : SnV tb (.tup as) := by
  intro X kx xr W cs w e h env σ F0 H0 F H Q E q
  simp only [chk, lf_v, Bool.true_and] at h
  split at h
  · rename_i es k pos
    simp only [Bool.and_eq_true, decide_eq_true_eq] at h
    simp only [ev] at q
    refine (pe_tup (paW es)).w ?_
    refine ha w h.1 E (q.bind.imp fun xs F1 H1 ex g1 k1 vs rvs => ?_)
    cases ek : keepAll xs with
    | none => rw [ek] at k1; exact k1.elim
    | some ds =>
      obtain ⟨F2, g2, r2⟩ := rvs.keep g1 ek
      refine ⟨small_size (by rw [← Paired.lenR rvs, evs_len ex, chks_len h.1]; exact h.2), fun p hp => ?_⟩
      rw [ex] at q
      simp only [Rs.bind, ek] at q
      have g3 := Grow.new (o := .tup vs) g2.ok hp
      exact q _ _ (g2.trans g3) _ (.tup (.of upd_same) (r2.mono g3.f))
  · cases h
theorem sn_lst {as : PXs} (ha : SnA tb as) : SnV tb (.lst as) := by
  intro X kx xr W cs w e h env σ F0 H0 F H Q E q
  simp only [chk, lf_v, Bool.true_and] at h
  split at h
  · rename_i es pos
    simp only [Bool.and_eq_true, decide_eq_true_eq] at h
    simp only [ev] at q
    refine (pe_lst (paW es)).w ?_
    refine ha w h.1 E (q.bind.imp fun xs F1 H1 ex g1 k1 vs rvs => ?_)
    cases ek : keepAll xs with
    | none => rw [ek] at k1; exact k1.elim
    | some ds =>
      obtain ⟨F2, g2, r2⟩ := rvs.keep g1 ek
      refine ⟨small_size (by rw [← Paired.lenR rvs, evs_len ex, chks_len h.1]; exact h.2), fun p hp => ?_⟩
      rw [ex] at q
      simp only [Rs.bind, ek] at q
      have g3 := Grow.own (o := .lst vs) g2.ok hp noT_lst
      exact q _ _ (g2.trans g3) _ ⟨p, vs, rfl, g2.ok.sm.free hp, g2.h.free hp, upd_same, r2⟩
  · cases h

/-! ### builtins -/
theorem boot_pri {p : Pri} {f : Value} (h : priV p = some f) : bootBuiltins (priN p) = some f := by
  cases p <;> cases h <;> (unfold priN; decide +kernel)
theorem bi_pri {p : Pri} {f : Value} (h : priV p = some f) : priN p ∈ blts := by
  cases p <;> cases h <;> (unfold priN blts; decide)
theorem hpl_of {as : PXs} {es : List Expr} {env : PySem.Env} {pos : Pos} (h : chks as cs es = true) : (backTo pos (starEach es env)).any (·.1) = false := by
  have := chks_stars (env := env) (pos := pos) h
  generalize starEach es env = l at this
  induction l with
  | nil => rfl
  | cons x l ih =>
    rw [List.all_cons, Bool.and_eq_true] at this
    unfold backTo at ih ⊢
    rw [List.map_cons, List.any_cons, ih this.2, Bool.or_false]
    simpa using this.1
theorem chks_head {as : PXs} {e : Expr} {es : List Expr} (h : chks as cs (e :: es) = true) : noStarB e = true ∧ ∃ a as', as = .cons a as' ∧ chks as' cs es = true := by
  cases as with
  | nil => simp [chks] at h
  | cons a as =>
    simp only [chks, Bool.and_eq_true] at h
    exact ⟨h.1.1, a, as, rfl, h.2⟩
theorem okBase_of {o : Expr} {f : Str} {env : PySem.Env} (h : okBase o = true) : attributeBase o f env (eval o env) = eval o env := by
  unfold attributeBase
  split
  · simp [okBase] at h
  · rfl
theorem sn_mth {k : Mth} {o : PX} {as : PXs} (ho : SnV tb o) (ha : SnA tb as) : SnV tb (.mth k o as) := by
  intro X kx xr W cs w e h env σ F0 H0 F H Q E q
  simp only [chk, lf_v, Bool.true_and] at h
  split at h
  · rename_i x f ap e1 es cp
    simp only [Bool.and_eq_true, decide_eq_true_eq] at h
    obtain ⟨⟨⟨⟨⟨h1, h2⟩, h3⟩, h4⟩, h5⟩, h6⟩ := h
    subst h1
    simp only [ev] at q
    obtain ⟨s1, a0, as', e0, c0⟩ := chks_head h6
    obtain ⟨m1, m2, m3⟩ := mth_at k
    obtain ⟨ru, oo, hru⟩ := ruleM_any (X := X) (id := mthI k) (g := mthD k) (fun d ds r h => mth_rule w.un h) (ev tb o env) (evs tb as env)
    have hfew : ((backTo cp (starEach (e1 :: es) X.env)).all (fun x => !x.1) && (backToKw cp (keywordEach [] X.env)).all (fun x => x.1.isSome)
      && decide ((e1 :: es).length + ([] : List Keyword).length + (if ([] : List Keyword).isEmpty then 0 else 1) < 30)) = true := by
      have hp := hpl_of (env := X.env) (pos := cp) h6
      have : (backTo cp (starEach (e1 :: es) X.env)).all (fun x => !x.1) = true := by
        rw [List.all_eq_true]
        intro y hy
        have := List.any_eq_false.mp hp y hy
        simpa using this
      rw [this]
      simp [keywordEach, backToKw]
      omega
    refine (pe_bm m1 m2 m3 oo (peW x) (paW (e1 :: es)) (okBase_of h2) hfew h3 (star_of s1) (hpl_of c0)).w ?_
    refine ho w h5 E (q.bind.imp fun r F1 H1 er g1 k1 v rv => ?_)
    cases exs : evs tb as env with
    | ok xs =>
      rw [exs] at k1
      simp only at k1
      cases eb : mthD k r.d (xs.map R.d) with
      | none => rw [eb] at k1; exact k1.elim
      | some z =>
        rw [eb] at k1
        refine ⟨mth_ty eb g1.ok rv.ra, ?_⟩
        refine ha w h6 (E.grow g1) ?_
        rw [exs]
        intro F2 H2 g2 vs rvs
        exact hru r xs z er exs eb F2 H2 v vs Q g2.ok (rv.ra.grow g2) rvs.ras (qp_of (Pst.grow k1 g2) (g1.h.trans g2.h))
    | ex c p => rw [exs] at k1; exact k1.elim
    | no => rw [exs] at k1; exact k1.elim
  · cases h
end
end VL
/-! the value layer, 13: calls of functions, isinstance, slices -/
namespace VL
open PySem PySem.Spec L2
section
variable {X : Cx} {kx : Kx} {xr : XR} {W : WX} {cs : Cs} {tb : Tb} {K : PySem.W.Frag} {σ : St} {env : SEnv} {F H F' H' F2 H2 : Hp} {Q : VK}
def SnD (tb : Tb) (p : PXs) : Prop := ∀ {X : Cx} {kx : Kx} {xr : XR} {W : WX} {cs : Cs} (_ : Wd X kx xr W cs tb) {es : List Expr} {ds : List D}, chkd p cs es ds = true → ∀ {env : SEnv} {σ : St} {F0 H0 F H : Hp} {Q : List V → Hp → Prop},
  EnvOk kx F0 H0 env σ F H → Pst xr W σ F H (evs tb p env) (fun rs F' H' => ∀ vs rs1, rs = rs1 ++ ds.map R.fz → RRs X.K σ env H F' H' rs1 vs → Q vs H') → wA X es σ H Q
theorem const_ev {a : PX} {d : D} (h : constB a d = true) : ev tb a env = .ok (.fz d) := by
  unfold constB at h
  split at h
  · simp only [beq_iff_eq] at h; subst h; simp only [ev]
  · simp only [beq_iff_eq] at h; subst h; simp only [ev]
  · simp only [ev]
  · cases h
theorem dfl_ev : ∀ {as : PXs} {ds : List D}, dflB as ds = true → evs tb as env = .ok (ds.map R.fz)
  | .nil, [], h => by simp only [evs]; rfl
  | .nil, _ :: _, h => by simp [dflB] at h
  | .cons a as, [], h => by simp [dflB] at h
  | .cons a as, d :: ds, h => by
    simp only [dflB, Bool.and_eq_true] at h
    simp only [evs, const_ev h.1, dfl_ev h.2, Rs.bind, List.map_cons]
theorem snd_nil : SnD tb .nil := by
  intro X kx xr W cs w es ds h env σ F0 H0 F H Q E q
  simp only [chkd] at h
  split at h
  · simp only [evs] at q
    exact pa_nil.w (q F H (Grow.refl E.ok) [] [] rfl .nil)
  · cases h
theorem snd_cons {a : PX} {as : PXs} (ha : SnV tb a) (hr : SnD tb as) : SnD tb (.cons a as) := by
  intro X kx xr W cs w es ds h env σ F0 H0 F H Q E q
  simp only [chkd] at h
  split at h
  · simp only [Bool.and_eq_true] at h
    obtain ⟨⟨h1, h2⟩, h3⟩ := h
    simp only [evs] at q
    refine (pa_cons (peW _) (paW _) (star_of h1)).w ?_
    refine ha w h2 E (q.bind.imp fun x F1 H1 ex g1 k1 v rv => ?_)
    refine hr w h3 (E.grow g1) (k1.bind.imp fun xs F2 H2 exs g2 k2 vs rs1 e1 rvs => ?_)
    exact k2 F2 H2 (Grow.refl g2.ok) _ (x :: rs1) (by rw [e1]; rfl) (.cons (rv.grow g2) (rvs.back g1.h))
  · rw [dfl_ev h] at q
    exact pa_nil.w (q F H (Grow.refl E.ok) [] [] rfl .nil)
theorem chkd_stars : ∀ {as : PXs} {cs : Cs} {es : List Expr} {ds : List D} {env : PySem.Env}, chkd as cs es ds = true → (starEach es env).all (fun x => !x.1) = true
  | .nil, cs, [], ds, env, h => rfl
  | .nil, cs, _ :: _, ds, env, h => by simp [chkd] at h
  | .cons a as, cs, [], ds, env, h => rfl
  | .cons a as, cs, e :: es, ds, env, h => by
    simp only [chkd, Bool.and_eq_true] at h
    rw [star_of h.1.1, List.all_cons, chkd_stars h.2]
    rfl
theorem hpl_all {l : List (Bool × Sem Value)} {pos : Pos} (this : l.all (fun x => !x.1) = true) : (backTo pos l).any (·.1) = false := by
  induction l with
  | nil => rfl
  | cons x l ih =>
    rw [List.all_cons, Bool.and_eq_true] at this
    unfold backTo at ih ⊢
    rw [List.map_cons, List.any_cons, ih this.2, Bool.or_false]
    simpa using this.1
theorem chkd_head {as : PXs} {e : Expr} {es : List Expr} {ds : List D} (h : chkd as cs (e :: es) ds = true) : noStarB e = true ∧ ∃ a as', as = .cons a as' ∧ chkd as' cs es ds = true := by
  cases as with
  | nil => simp [chkd] at h
  | cons a as =>
    simp only [chkd, Bool.and_eq_true] at h
    exact ⟨h.1.1, a, as, rfl, h.2⟩
theorem keep_of : ∀ {rs : List R}, rs.any R.isBw = false → keepAll rs = some (rs.map R.d)
  | [], _ => rfl
  | r :: rs, h => by
    rw [List.any_cons, Bool.or_eq_false_iff] at h
    unfold keepAll allOpt
    have := keep_of h.2
    unfold keepAll at this
    rw [this]
    cases r with
    | fz d => rfl
    | nw ds => rfl
    | bw i ds => cases h.1
theorem RRs.ofFz : ∀ {vs : List V} {ds : List D}, RpL K F' vs ds → RRs K σ env H F' H' (ds.map R.fz) vs
  | _, _, .nil => .nil
  | _, _, .cons h t => .cons h (RRs.ofFz t)
theorem Paired.app {γ δ : Type} {G : γ → δ → Prop} : ∀ {l m : List γ} {l2 m2 : List δ}, Paired G l l2 → Paired G m m2 → Paired G (l ++ m) (l2 ++ m2)
  | _, _, _, _, .nil, h => h
  | _, _, _, _, .cons r t, h => .cons r (Paired.app t h)
theorem RAs.rpl (ok : Ok F H) : ∀ {vs : List V} {ds : List D}, RAs K F H vs ds → RpL K H vs ds
  | _, _, .nil => .nil
  | _, _, .cons h t => .cons (h.rp ok) (RAs.rpl ok t)
/-- .. but for one new object -/
noncomputable def cut1 (F H H' : Hp) (a : Addr) : Hp := fun b => if b = a then none else cut F H H' b
theorem cut1_grow {a : Addr} {xs : List V} (k : Ok F H) (h : Same H H') (ha : H a = none) (h' : H' a = some (.lst xs)) : Grow F H (cut1 F H H' a) H' := by
  have g := cut_grow k h
  have fa : F a = none := k.sm.free ha
  refine ⟨fun b o e => ?_, h, ⟨fun b o e => ?_, fun b ys e r => ?_⟩, fun b e hb => ?_⟩
  · unfold cut1
    rw [if_neg (fun q => by subst q; rw [fa] at e; cases e)]
    exact g.f b o e
  · unfold cut1 at e
    split at e
    · cases e
    · exact g.ok.sm b o e
  · unfold cut1 at e
    split at e
    · rename_i q
      subst q
      rcases r with r | ⟨ob, r⟩ <;> (rw [h'] at r; cases r)
    · exact g.ok.nt b ys e r
  · unfold cut1
    split
    · rfl
    · exact g.n b e hb
theorem sn_call {f : Nat} {as : PXs} (ha : SnD tb as) : SnV tb (.call f as) := by
  intro X kx xr W cs w e h env σ F0 H0 F H Q E q
  simp only [chk, lf_v, Bool.true_and] at h
  split at h
  · rename_i x px e1 es pos
    rw [Bool.and_eq_true, List.any_eq_true] at h
    obtain ⟨h1, t, ht, h⟩ := h
    simp only [Bool.and_eq_true, decide_eq_true_eq] at h
    obtain ⟨⟨⟨⟨c1, c2⟩, c3⟩, c4⟩, c5⟩ := h
    subst c1 c2
    obtain ⟨g1, g2, g3⟩ := gloB_of w h1
    obtain ⟨k, fa, fd, ps, FO, Rm, hm, hk, hb⟩ := w.fn t ht
    have hj : t.2.2.1 - (e1 :: es).length ≤ t.2.2.2.length := by omega
    obtain ⟨dvs, dsv, Bd, Vd, Rd⟩ := hb _ hj
    obtain ⟨s1, a0, as', e0, d0⟩ := chkd_head c5
    generalize t.2.2.2.drop (t.2.2.2.length - (t.2.2.1 - (e1 :: es).length)) = ddj at c5 Rd d0
    refine (pe_callSD FO Rm g1 hm hk Bd Vd (fun σ => passAt w.tk σ) (paW (e1 :: es)) g2 (star_of s1) (hpl_all (chkd_stars d0))).w ?_
    simp only [ev] at q
    have key : wA X (e1 :: es) σ H (fun vs H1 => spM X.K xr t.2.2.1 (tb.fn t.1) (vs ++ dvs) H1 Q (WE W σ)) := by
      refine ha w c5 E (q.bind.imp fun xs F1 H1 ex gg k1 vs rs1 e1 rvs => ?_)
      have rr : RRs X.K σ env H F1 H1 xs (vs ++ dvs) := by rw [e1]; exact Paired.app rvs (RRs.ofFz (Rd F1))
      have hl : (vs ++ dvs).length = t.2.2.1 := by rw [← Paired.lenR rr, evs_len ex, c3]
      rw [ex] at q
      simp only [Rs.bind] at q
      cases hbw : xs.any R.isBw with
      | false =>
        rw [hbw] at q
        obtain ⟨F2, gk, r2⟩ := rr.keep gg (keep_of hbw)
        refine ⟨hl, F2, _, gk.ok, r2, ?_⟩
        cases em : tb.fn t.1 (xs.map R.d) with
        | ok r =>
          rw [em] at q
          have q' : Pst xr W σ F H (.ok r.r) (fun r F' H' => ∀ v, RR X.K σ env H F' H' r v → Q v H') := by
            cases r with
            | v d => simpa [lentR, lent, PR.r] using q
            | l ds => simpa [lentR, lent, PR.r] using q
          exact qp_of (Pst.grow q' gk) gk.h
        | ex c p =>
          rw [em] at q
          have q' : Pst xr W σ F H (.ex c p) (fun r F' H' => ∀ v, RR X.K σ env H F' H' r v → Q v H') := by simpa [lentR] using q
          exact fun F3 H3 cls d g3 x3 => q' F3 H3 cls d (gk.trans g3) x3
        | no => rw [em] at q; exact q.elim
      | true =>
        rw [hbw] at q
        refine ⟨hl, H1, _, Ok.refl H1, RAs.rpl gg.ok rr.ras, ?_⟩
        cases em : tb.fn t.1 (xs.map R.d) with
        | ok r =>
          rw [em] at q
          cases r with
          | v d =>
            by_cases hn : nl 30 d = true
            · have q' : Pst xr W σ F H (.ok (.fz d)) (fun r F' H' => ∀ v, RR X.K σ env H F' H' r v → Q v H') := by simpa [lentR, lent, hn] using q
              intro F3 H3 v g3 pv
              have gc := cut_grow gg.ok g3.h
              exact q' _ _ (gg.trans gc) v (Rp.frozen gc.ok 30 (Rp.mono g3.ok.sm pv) hn)
            · have : Pst xr W σ F H (.no : Rs R) (fun r F' H' => ∀ v, RR X.K σ env H F' H' r v → Q v H') := by simpa [lentR, lent, hn] using q
              exact this.elim
          | l ds =>
            by_cases hn : ds.all (nl 30) = true
            · have q' : Pst xr W σ F H (.ok (.nw ds)) (fun r F' H' => ∀ v, RR X.K σ env H F' H' r v → Q v H') := by
                have q := q
                unfold lentR lent at q
                simp only [hn] at q
                simpa using q
              intro F3 H3 v g3 pv
              obtain ⟨a, ys, rfl, p1, p2, p3, p4⟩ := pv
              have gc := cut1_grow gg.ok g3.h p2 p3
              refine q' _ _ (gg.trans gc) _ ⟨a, ys, rfl, ?_, gg.h.free p2, p3, RpL.frozen gc.ok 30 (RpL.mono g3.ok.sm p4) hn⟩
              unfold cut1
              rw [if_pos rfl]
            · have : Pst xr W σ F H (.no : Rs R) (fun r F' H' => ∀ v, RR X.K σ env H F' H' r v → Q v H') := by
                have q := q
                have hn' : ¬ (true = false ∨ ds.all (nl 30) = true) := fun z => z.elim (fun z => nomatch z) hn
                unfold lentR lent at q
                simp only [hn', if_false] at q
                exact q
              exact this.elim
        | ex c p => rw [em] at q; simp [lentR] at q; exact q.elim
        | no => rw [em] at q; exact q.elim
    exact key
  · cases h

/-! ### isinstance -/
def tnD : D → String
  | .none => "NoneType" | .bool _ => "bool" | .int _ => "int" | .str _ => "str" | .list _ => "list" | .tuple _ => "tuple" | .dict _ => "dict"
def tyS : Ty → String
  | .int => "int" | .bool => "bool" | .str => "str" | .tuple => "tuple" | .list => "list" | .listtuple => "list"
theorem rp_ty {v : V} {d : D} (h : Rp K H v d) : TyX K H v (.type (tnD d)) := by
  cases h with
  | non => exact .base .non
  | bl b => exact .base (.bl b)
  | int i => exact .base (.int i)
  | str x => exact .base (.str x)
  | lst h1 h2 =>
    rcases h1 with (h | ⟨o, h⟩) | ⟨o, its, n, hk, hc, _⟩
    · exact .base (.lst h)
    · exact .base (.frz h)
    · exact .kList hk hc
  | tup h1 h2 =>
    rcases h1 with h1 | ⟨_, o, its, n, hk, hc, _⟩
    · exact .base (.tup h1)
    · exact .kTuple hk hc
  | dct h => exact .base (.dK h)
theorem isi_kit {d : D} {t : Ty} (h : (match t with | .listtuple => false | _ => true) = true) (hd : ∃ v H, Rp K H v d) : PySem.W.kitOne K (.type (tnD d)) (.type (tyS t)) = some (isiD d t) := by
  obtain ⟨v, H, r⟩ := hd
  cases r <;> cases t <;> first | (simp at h; done) | (simp only [tnD, tyS, isiD]; exact kit_ty (by decide +kernel))
theorem isi_kit2 {d : D} (hd : ∃ v H, Rp K H v d) : PySem.W.kitAny K (.type (tnD d)) [.type "list", .type "tuple"] = some (isiD d .listtuple) := by
  obtain ⟨v, H, r⟩ := hd
  have a1 := isi_kit (K := K) (t := .list) rfl ⟨v, H, r⟩
  have a2 := isi_kit (K := K) (t := .tuple) rfl ⟨v, H, r⟩
  refine kitAny_cons a1 (fun e => kitAny_cons a2 (fun e2 => ?_) fun e2 => ?_) fun e => ?_
  · rw [kitAny_nil]; cases r <;> first | rfl | (simp [isiD] at e e2)
  · cases r <;> first | rfl | (simp [isiD] at e2)
  · cases r <;> first | rfl | (simp [isiD] at e)
theorem boot_ty (t : Ty) : bootBuiltins (tyN t) = some (.type (tyS t)) := by
  cases t <;> (unfold tyN tyS; decide +kernel)
theorem bi_ty (t : Ty) : tyN t ∈ blts := by
  cases t <;> (unfold tyN blts; decide)
theorem sn_isi {a : PX} {t : Ty} (ha : SnV tb a) : SnV tb (.isi a t) := by
  intro X kx xr W cs w e h env σ F0 H0 F H Q E q
  simp only [chk, lf_v, Bool.true_and] at h
  simp only [ev] at q
  split at h
  · rename_i x px y z pz pos
    simp only [Bool.and_eq_true, decide_eq_true_eq] at h
    obtain ⟨⟨⟨⟨⟨⟨h1, h2⟩, h3⟩, h4⟩, h5⟩, h6⟩, h7⟩ := h
    subst h2 h4
    obtain ⟨g1, g2, g3⟩ := gloB_of w h1
    obtain ⟨z1, z2, z3⟩ := gloB_of w h3
    have pa : PA X [.Name (tyN t) pz] (tCons (tC (.ty (tyS t))) tNil) := pa_cons (pe_bltn z1 (w.bi _ (bi_ty t)) (boot_ty t) rfl z3 z2) pa_nil rfl
    refine (pe_callB call_isi g1 (w.bi _ (by unfold blts; decide)) PyProof.Rows.boot_isinstance (pa_cons (peW y) pa (star_of h6)) g3 g2 (star_of h6) rfl).w ?_
    refine ha w h7 E (q.bind.imp fun r F1 H1 ex gg k1 v rv => ?_)
    exact ⟨v, .ty (tyS t), _, _, _, rfl, .ty _, rp_ty (rv.ra.rp gg.ok), isi_kit h5 ⟨v, H1, rv.ra.rp gg.ok⟩, k1 F1 H1 (Grow.refl gg.ok) _ (.bl _)⟩
  · rename_i x px y z pz z' pz' kk tp pos
    simp only [Bool.and_eq_true, decide_eq_true_eq] at h
    obtain ⟨⟨⟨⟨⟨⟨⟨⟨h1, h2⟩, h3⟩, h4⟩, h5⟩, h6⟩, h7⟩, h8⟩, h9⟩ := h
    subst h2 h4 h6
    obtain ⟨g1, g2, g3⟩ := gloB_of w h1
    obtain ⟨z1, z2, z3⟩ := gloB_of w h3
    obtain ⟨y1, y2, y3⟩ := gloB_of w h5
    have et : t = .listtuple := by cases t <;> first | rfl | cases h7
    subst et
    have pt : PA X [.Name ("list" : Str) pz, .Name ("tuple" : Str) pz'] (tCons (tC (.ty "list")) (tCons (tC (.ty "tuple")) tNil)) :=
      pa_cons (pe_bltn z1 (w.bi _ (by unfold blts; decide)) PyProof.Rows.boot_list rfl z3 z2) (pa_cons (pe_bltn y1 (w.bi _ (by unfold blts; decide)) PyProof.Rows.boot_tuple rfl y3 y2) pa_nil rfl) rfl
    have pa := pa_cons (X := X) (pe_tup (x1 := kk) (pos := tp) pt) pa_nil rfl
    refine (pe_callB call_isiT g1 (w.bi _ (by unfold blts; decide)) PyProof.Rows.boot_isinstance (pa_cons (peW y) pa (star_of h8)) g3 g2 (star_of h8) rfl).w ?_
    refine ha w h9 E (q.bind.imp fun r F1 H1 ex gg k1 v rv => ?_)
    refine ⟨small_size (by decide), fun p hp => ?_⟩
    have gn := Grow.new (o := .tup [.ty "list", .ty "tuple"]) gg.ok hp
    have r2 := (rv.ra.grow gn).rp gn.ok
    exact ⟨v, p, _, _, _, _, rfl, upd_same, .cons (.ty _) (.cons (.ty _) .nil), rp_ty r2, isi_kit2 ⟨v, _, r2⟩, k1 _ _ gn _ (.bl _)⟩
  · cases h

/-! ### slices -/
theorem ruleS_any {X : Cx} (o : Rs R) (ol oh : Rs (List R)) :
    ∃ ru : V → Option Int → Option Int → Hp → VK → Prop, SlR X ru ∧ ∀ (x : R) (l h : List R) (lo hi : Option Int) (r : PR), o = .ok x → ol = .ok l → oh = .ok h → partI (l.map R.d) = some lo → partI (h.map R.d) = some hi → slcD x.d lo hi = some r →
      ∀ F H v Q, Ok F H → RA X.K F H v x.d → QP X.K F H r Q → ru v lo hi H Q := by
  by_cases hh : ∃ (x : R) (l h : List R) (lo hi : Option Int) (r : PR), o = .ok x ∧ ol = .ok l ∧ oh = .ok h ∧ partI (l.map R.d) = some lo ∧ partI (h.map R.d) = some hi ∧ slcD x.d lo hi = some r
  · obtain ⟨x, l, h, lo, hi, r, e1, e2, e3, e4, e5, e6⟩ := hh
    obtain ⟨ru, h1, h2⟩ := slc_rule (X := X) e6
    refine ⟨ru, h1, fun x' l' h' lo' hi' r' a1 a2 a3 a4 a5 a6 => ?_⟩
    rw [e1] at a1; cases a1
    rw [e2] at a2; cases a2
    rw [e3] at a3; cases a3
    rw [e4] at a4; cases a4
    rw [e5] at a5; cases a5
    rw [e6] at a6; cases a6
    exact h2
  · exact ⟨fun _ _ _ _ _ => False, by intro pins s σ H x v vl vu lo hi sl Q I rx hs pl pu q; exact q.elim, fun x l h lo hi r e1 e2 e3 e4 e5 e6 => absurd ⟨x, l, h, lo, hi, r, e1, e2, e3, e4, e5, e6⟩ hh⟩
/-- every item -/
def SnL (tb : Tb) : PXs → Prop
  | .nil => True
  | .cons a as => Sn tb a ∧ SnL tb as
theorem SnL.a : ∀ {as : PXs}, SnL tb as → SnA tb as
  | .nil, _ => sna_nil
  | .cons a as, h => sna_cons h.1.v (SnL.a h.2)
theorem SnL.d : ∀ {as : PXs}, SnL tb as → SnD tb as
  | .nil, _ => snd_nil
  | .cons a as, h => snd_cons h.1.v (SnL.d h.2)
/-- a part of a slice -/
def PartB (X : Cx) (cs : Cs) (lo : PXs) (l : Option Expr) : Bool := match l with
  | .none => chks lo cs []
  | some l => chks lo cs [l]
theorem part_of {lo : PXs} {l : Option Expr} (hl : SnL tb lo) (w : Wd X kx xr W cs tb) (h : PartB X cs lo l = true) : ∃ t : TO, PO X l t ∧ ∀ {env : SEnv} {σ : St} {F0 H0 F H : Hp} {Q : Option Int → Hp → Prop}, EnvOk kx F0 H0 env σ F H →
    Pst xr W σ F H (evs tb lo env) (fun rs F' H' => ∃ p, partI (rs.map R.d) = some p ∧ Q p H') → t σ H Q := by
  unfold PartB at h
  split at h
  · refine ⟨_, po_none, fun {env σ F0 H0 F H Q} E q => ?_⟩
    cases lo with
    | nil =>
      simp only [evs] at q
      obtain ⟨p, e, z⟩ := q F H (Grow.refl E.ok)
      cases e
      exact z
    | cons a as => simp [chks] at h
  · rename_i l
    cases lo with
    | nil => simp [chks] at h
    | cons a as =>
      simp only [chks, Bool.and_eq_true] at h
      obtain ⟨⟨h1, h2⟩, h3⟩ := h
      cases as with
      | cons b bs => simp [chks] at h3
      | nil =>
        refine ⟨_, po_some (peW l), fun {env σ F0 H0 F H Q} E q => ?_⟩
        simp only [evs] at q
        refine hl.1.v w h2 E (q.bind.imp fun x F1 H1 ex g1 k1 v rv => ?_)
        simp only [Rs.bind] at k1
        obtain ⟨p, e, z⟩ := k1 F1 H1 (Grow.refl g1.ok)
        simp only [List.map_cons, List.map_nil] at e
        unfold partI at e
        split at e
        · rename_i hq; cases hq
        · rename_i i hq
          cases e
          have : x.d = .int i := by
            have := congrArg List.head? hq
            simpa using this
          exact ⟨i, rv.int_of this, z⟩
        · cases e
theorem sn_slc {a : PX} {lo hi : PXs} (ha : SnV tb a) (hl : SnL tb lo) (hh : SnL tb hi) : SnV tb (.slc a lo hi) := by
  intro X kx xr W cs w e h env σ F0 H0 F H Q E q
  simp only [chk, lf_v, Bool.true_and] at h
  split at h
  · rename_i x l u p2 pos
    simp only [Bool.and_eq_true] at h
    obtain ⟨⟨h1, h2⟩, h3⟩ := h
    simp only [ev] at q
    obtain ⟨tl, pl, kl⟩ := part_of (X := X) (l := l) hl w h2
    obtain ⟨th, ph, kh⟩ := part_of (X := X) (l := u) hh w h3
    obtain ⟨ru, o, hru⟩ := ruleS_any (X := X) (ev tb a env) (evs tb lo env) (evs tb hi env)
    refine (pe_slice o (peW x) pl ph).w ?_
    refine ha w h1 E (q.bind.imp fun r F1 H1 ex g1 k1 v rv => ?_)
    refine kl (E.grow g1) (k1.bind.imp fun rl F2 H2 el g2 k2 => ?_)
    cases e1 : partI (rl.map R.d) with
    | none => rw [e1] at k2; exact k2.elim
    | some pl' =>
      rw [e1] at k2
      refine ⟨pl', rfl, ?_⟩
      refine kh ((E.grow g1).grow g2) (Pst.imp (Pst.bind k2) fun rh F3 H3 eh g3 k3 => ?_)
      cases e2 : partI (rh.map R.d) with
      | none => rw [e2] at k3; exact k3.elim
      | some ph' =>
        rw [e2] at k3
        refine ⟨ph', rfl, ?_⟩
        simp only at k3
        cases e3 : slcD r.d pl' ph' with
        | none => rw [e3] at k3; exact k3.elim
        | some z =>
          rw [e3] at k3
          exact hru r rl rh pl' ph' z ex el eh e1 e2 e3 F3 H3 v Q g3.ok ((rv.ra.grow g2).grow g3) (qp_of k3 ((g1.h.trans g2.h).trans g3.h))
  · cases h
end
end VL
/-! the value layer, 13e: enumerate over a tuple -/
namespace VL
open PySem PySem.Spec PyProof.Rows L2
theorem enumNew {v : Value} {o : Obj} {Hh : Heap → Prop} (B : Begins v o Hh) :
    Meets (Builtin.«enumerate.__new__» ⟨[.type "enumerate", v], []⟩) (fun _ R s => Hh s.heap ∧
      R (.ok (.ret (.ref (s.heap.push o).objs.size))) { s with heap := (s.heap.push o).push { cls := .type "enumerate", data := .fields #[.none, .bool false, .ref s.heap.objs.size, rawInt 0, .none, .none] } }) :=
  Meets.of_wp fun prog w A R s h => by
    obtain ⟨hp, gg, dd, tk, os⟩ := s
    obtain ⟨h1, h2⟩ := h
    have hsub := sub_enumerate
    have itv : ∀ {A' : Around} {E : Value → Shared → Prop} {Q : Value → Shared → Prop}, Q (.ref hp.objs.size) ⟨hp.push o, gg, dd, tk, os⟩ → wpAny (model prog w) A' (pyIter v) Q E ⟨hp, gg, dd, tk, os⟩ :=
      fun q => B.iter prog w _ _ _ _ h1 q
    wp_walk using itv
    refine wpAny_stack_any fun _ => wpAny_pure ?_
    split
    · rename_i c _ _ _ _ _
      cases (c == Value.type "enumerate") <;> (wp_walk using itv; exact ⟨_, rfl, h2⟩)
    · wp_walk using itv
      exact ⟨_, rfl, h2⟩
theorem enumCall {prog : Program} {w : World} {A : Around} {E : Value → Shared → Prop} {s : Shared} {v : Value} {o : Obj} {Hh : Heap → Prop} {Q : Value → Shared → Prop} (B : Begins v o Hh) (h1 : Hh s.heap)
    (h : ∀ h' : Heap, IsEnum h' (s.heap.objs.size + 1) s.heap.objs.size 0 .none → h'.get? s.heap.objs.size = some o →
      (∀ b o, s.heap.get? b = some o → h'.get? b = some o) → Q (.ref (s.heap.objs.size + 1)) { s with heap := h' }) : wpAny (model prog w) A (call (.type "enumerate") [v]) Q E s := by
  refine callType_new PySem.F.called_enumerate (by decide) (PySem.F.typeCall_enumerate_1 _) (PySem.F.newCall_enumerate_1 _) (fun obj => PySem.F.args_object_init_2 obj _) PySem.F.entry_enumerate_new (enumNew B) ⟨h1, ?_⟩
  have hz : (s.heap.push o).objs.size = s.heap.objs.size + 1 := Heap.size_push ..
  have fr := Heap.get?_push_size (s.heap.push o) (o := { cls := .type "enumerate", data := .fields #[.none, .bool false, .ref s.heap.objs.size, rawInt 0, .none, .none] }) rfl
  rw [hz] at fr
  show _ ∧ _
  rw [hz]
  exact ⟨⟨_, fr, rfl⟩, h _ fr (Heap.get?_push_of_some _ (Heap.get?_push_size _ B.free)) fun b u x => Heap.get?_push_of_some _ (Heap.get?_push_of_some _ x)⟩
def IteT (K : PySem.W.Frag) (a : Addr) : It where
  go := fun i H => ∃ (xs : List V) (x : V), SqT K H a xs ∧ xs[i]? = some x
  yld := fun i H v H' => ∃ T x, v = .ref T ∧ H T = none ∧ H' = upd H T (.tup [.int (i : Nat), x]) ∧ ∀ xs, SqT K H a xs → xs[i]? = some x
  stop := fun i H => ∃ xs : List V, SqT K H a xs ∧ xs.length ≤ i
theorem turn_enumT {P : Program} {w : World} {K : PySem.W.Frag} {elts : List Expr} {kk : Nat} {tpos : Pos} (a e it : Addr) :
    Turn P w K (.Tuple elts kk tpos) (IteT K a) [e, it] e (fun i h => (∃ old, IsEnum h e it ((i : Nat) : Int) old) ∧ h.IsTupleIter it a i ∧ e ≠ it) where
  mem := List.mem_cons_self
  obj := fun i h st b hb => by
    obtain ⟨⟨old, h1⟩, ⟨u, h2, _, h3⟩, _⟩ := st
    rcases List.mem_cons.mp hb with z | z
    · rw [z]
      exact ⟨_, h1, fun v q => nomatch q⟩
    · rw [List.mem_singleton.mp z]
      exact ⟨u, h2, fun v q => by rw [h3] at q; cases q⟩
  keep := fun i h h' st k => by
    obtain ⟨⟨old, h1⟩, h2, h3⟩ := st
    exact ⟨⟨old, k e (by simp) _ h1⟩, h2.at fun u q => k it (by simp) u q, h3⟩
  item := by
    intro X hP hw hK hc i pins s σ H E I hf st hg
    subst hP hw hK
    obtain ⟨⟨old, h1⟩, h2, h3⟩ := st
    obtain ⟨xs, x, hq, hx⟩ := hg
    obtain ⟨its, rv, p, hz⟩ := I.tuple hq
    have p' : s.heap.IsTuple a its.toArray := p
    obtain ⟨u, hu, ru⟩ := rv.get hx
    have ea : e ≠ a := fun z => by
      obtain ⟨o2, y1, y2, _⟩ := p'
      rw [← z] at y1
      have h1' := h1
      rw [show s.heap.get? e = _ from h1'] at y1
      cases y1
      exact absurd (Value.type.inj y2) (by decide)
    have ia : a ≠ it := fun z => by
      obtain ⟨o2, y1, y2, _⟩ := p'
      obtain ⟨o3, z1, z2, _⟩ := h2
      rw [z, z1] at y1
      cases y1
      rw [z2] at y2
      exact absurd (Value.type.inj y2) (by decide)
    have il : i < its.toArray.size := by
      rcases Nat.lt_or_ge i its.length with l | l
      · simpa using l
      · rw [List.getElem?_eq_none l] at hu; cases hu
    have el : e < s.heap.objs.size := Heap.lt_size h1
    have itl : it < s.heap.objs.size := by obtain ⟨_, q, _⟩ := h2; exact Heap.lt_size q
    have hh : X.A.in1.handled = none := I.ok.hd hc
    refine wpAny_pyNext_enum_itemD (Draws.tuple hh it a ia its.toArray) h1 ⟨h2, p'⟩ il h3 (by simp; exact ⟨h3, ea⟩) fun y h' tk hy ho hit' hT hsz hk => ?_
    have euy : y = u := by
      rw [List.getElem?_toArray, hu] at hy
      exact (Option.some.inj hy).symm
    subst euy
    refine ⟨_, rfl, wpAny_letOwnedTupleGo_enum (s := { s with heap := h', toks := tk + 1 }) ho fun h'' he' sb => ?_⟩
    have hT2 : h''.get? s.heap.objs.size = some { cls := .type "tuple", data := .seq #[.int i tk, y] } := (sb.2 _ (Nat.ne_of_gt el)).trans hT
    have new : ObjOk X.prog X.w (upd H s.heap.objs.size (.tup [.int (i : Nat), x])) h'' s.heap.objs.size (.tup [.int (i : Nat), x]) := ⟨small_size (by show 2 < 1000; decide), [.int i tk, y], .cons ⟨_, rfl⟩ (.cons ru .nil), ⟨_, hT2, rfl, _, rfl⟩⟩
    have I1 : Inv X pins σ (upd H s.heap.objs.size (.tup [.int (i : Nat), x])) { s with heap := h'', toks := tk + 1 } :=
      I.turnedNew (ch := [e, it]) (fun b ob hb q => (sb.2 b (fun z => hb (by simp [z]))).trans (hk b ob (fun z => hb (by simp [z])) (fun z => hb (by simp [z])) q)) hf (Nat.le_refl _) new
    refine ⟨V.ref s.heap.objs.size, _, I1, rfl, ⟨_, x, rfl, I.hok.fresh (Nat.le_refl _), rfl, fun zs hz => by rw [I.tuple_inj hz hq]; exact hx⟩, ⟨⟨y, ?_⟩, hit'.1.at fun o q => (sb.2 it (Ne.symm h3)).trans q, h3⟩, fun b hb => ?_⟩
    · rw [show ((i + 1 : Nat) : Int) = (i : Int) + 1 by omega]
      exact he'
    · have hb' : b < s.heap.objs.size := by
        rcases List.mem_cons.mp hb with z | z
        · rw [z]; exact el
        · rw [List.mem_singleton.mp z]; exact itl
      rw [upd_ne (Nat.ne_of_lt hb')]
      exact (hf b hb).1
  done := by
    intro X hP hw hK hc i pins s σ H E I hf st hg
    subst hP hw hK
    obtain ⟨⟨old, h1⟩, h2, h3⟩ := st
    obtain ⟨xs, hq, hx⟩ := hg
    obtain ⟨its, rv, p, hz⟩ := I.tuple hq
    have p' : s.heap.IsTuple a its.toArray := p
    obtain ⟨f0, f1, f2, f3, f4, f5⟩ := hf it (by simp)
    have hl := rv.length
    have ia : a ≠ it := fun z => by
      obtain ⟨o2, y1, y2, _⟩ := p'
      obtain ⟨o3, z1, z2, _⟩ := h2
      rw [z, z1] at y1
      cases y1
      rw [z2] at y2
      exact absurd (Value.type.inj y2) (by decide)
    have hT : s.TypeIs (.ref e) "enumerate" := ⟨_, h1, rfl⟩
    unfold pyNext
    refine wpAny_bind (wpAny_attempt (wpAny_callSpecial?_slot (name := Str.ofString "__next__") hT PySem.F.slot_enumerate_next (wpAny_call_entry PySem.F.slot_enumerate_next hT PySem.F.entry_enumerate_next ?_ (PySem.F.args_enumerate_next_1 _))))
    show wpAny _ _ (field (.ref e) 2 >>= _) _ _ _
    refine wpAny_bind (wpAny_field h1 rfl (x := .ref it) rfl ?_)
    refine wpAny_bind (wpAny_nextOf_tuple_end (I.ok.hd hc) h2 p' (by simp; omega) fun h' x eb hx' => ?_)
    obtain ⟨o, ho, hcc⟩ := hx'
    refine wpAny_bind (wpAny_isInstance (T := "StopIteration") (b := true) ⟨o, ho, hcc⟩ isSubtype_stop ?_)
    exact wpAny_pure ⟨rfl, I.turned (t' := s.toks) (fun b o hb q => eb b o hb q) f0 f1 f3 f4 f5⟩
  self := fun A i s Q E st h => wpAny_pyIter_enum st.1.choose_spec h
def iEnumT (K : PySem.W.Frag) (ta : TA) : TI := fun σ H R => ta σ H fun vs H1 => ∃ a xs, vs = [.ref a] ∧ SqT K H1 a xs ∧ R (IteT K a) H1
theorem pi_enumT {X : Cx} {e : Expr} {ta : TA} {p pos tpos : Pos} {elts : List Expr} {kk : Nat} (hg : Gl X "enumerate") (hm : X.mg "enumerate" = none) (ha : PA X [e] ta) (hs : starEach [e] X.env = [(false, eval e X.env)]) :
    PI X (.Tuple elts kk tpos) (.Call (.Name "enumerate" p) [e] [] pos) (iEnumT X.K ta) := by
  refine ⟨fun pins s σ H R I h => ?_⟩
  refine Call_ (ld_blt I hg hm boot_enumerate (PyProof.Rows.callWith_type1 (thn (ha.run pos pins s σ H _ I h) fun us s1 ⟨vs, H1, I1, r1, a, xs, ex, hq, q⟩ => ?_) hs rfl))
  subst ex
  cases r1 with
  | cons r rr =>
    cases rr
    cases r
    obtain ⟨its, rv, p', hz⟩ := I1.tuple hq
    refine enumCall (begins_tuple a its.toArray) p' fun h' he hit hk => wpAny_pyIter_enum he ?_
    have I2 : Inv X pins σ H1 { s1 with heap := h' } := I1.kept (t' := s1.toks) hk
    refine ⟨s1.heap.objs.size + 1, [s1.heap.objs.size + 1, s1.heap.objs.size], _, _, H1, rfl, I2, turn_enumT a (s1.heap.objs.size + 1) s1.heap.objs.size, ⟨⟨.none, he⟩, ⟨_, hit, rfl, rfl⟩, Nat.succ_ne_self _⟩, fun b hb => ?_, q⟩
    have hle : s1.heap.objs.size ≤ b := by
      rcases List.mem_cons.mp hb with z | z
      · rw [z]; exact Nat.le_succ _
      · rw [List.mem_singleton.mp z]; exact Nat.le_refl _
    exact I1.fpOk hle (I1.hok.fresh hle)
end VL
/-! the value layer, 13z: zip over lists and tuples, mixed -/
namespace VL
open PySem PySem.Spec PyProof.Rows L2
def SqX (K : PySem.W.Frag) (k : Bool) (H : Hp) (a : Addr) (xs : List V) : Prop := match k with | true => SqL K H a xs | false => SqT K H a xs
def ItX (k : Bool) (h : Heap) (it a : Addr) (i : Nat) : Prop := match k with | true => h.IsListIter it a i | false => h.IsTupleIter it a i
def IsX (k : Bool) (h : Heap) (a : Addr) (items : Array Value) : Prop := match k with | true => h.IsList a items | false => h.IsTuple a items
def itO (k : Bool) (a : Addr) : Obj := match k with
  | true => { cls := .type "list_iterator", data := .fields #[.ref a, .int 0 0] }
  | false => { cls := .type "tuple_iterator", data := .fields #[.ref a, .int 0 0] }
theorem begins_x (k : Bool) (a : Addr) (items : Array Value) : Begins (.ref a) (itO k a) (fun h => IsX k h a items) := by
  cases k with
  | true => exact begins_list a items
  | false => exact begins_tuple a items
theorem itO_at {k : Bool} {a it : Addr} {h : Heap} (e : h.get? it = some (itO k a)) : ItX k h it a 0 := by
  cases k with
  | true => exact ⟨_, e, rfl, rfl⟩
  | false => exact ⟨_, e, rfl, rfl⟩
theorem ItX.at {k : Bool} {h h' : Heap} {it a : Addr} {i : Nat} (x : ItX k h it a i) (e : ∀ o, h.get? it = some o → h'.get? it = some o) : ItX k h' it a i := by
  cases k with
  | true => exact Heap.IsListIter.at x e
  | false => exact Heap.IsTupleIter.at x e
theorem ItX.obj {k : Bool} {h : Heap} {it a : Addr} {i : Nat} (x : ItX k h it a i) : ∃ o, h.get? it = some o ∧ ∀ v, o.data ≠ .cell v := by
  cases k with
  | true =>
    obtain ⟨o, e, _, d⟩ := x
    exact ⟨o, e, fun v q => by rw [d] at q; cases q⟩
  | false =>
    obtain ⟨o, e, _, d⟩ := x
    exact ⟨o, e, fun v q => by rw [d] at q; cases q⟩
theorem ItX.ne {k : Bool} {h : Heap} {it a : Addr} {i : Nat} {items : Array Value} (x : ItX k h it a i) (y : IsX k h a items) : a ≠ it := fun z => by
  subst z
  cases k with
  | true =>
    obtain ⟨o, e, c, _⟩ := x
    obtain ⟨o2, e2, c2, _⟩ := y
    rw [e] at e2
    cases e2
    rw [c] at c2
    exact absurd (Value.type.inj c2) (by decide)
  | false =>
    obtain ⟨o, e, c, _⟩ := x
    obtain ⟨o2, e2, c2, _⟩ := y
    rw [e] at e2
    cases e2
    rw [c] at c2
    exact absurd (Value.type.inj c2) (by decide)
theorem draws_x {prog : Program} {w : World} {A : Around} (hh : A.handled = none) (k : Bool) {it a : Addr} (hne : a ≠ it) (items : Array Value) :
    Draws prog w A it [it, a] items.size (fun i v => items[i]? = some v) (fun i h => ItX k h it a i ∧ IsX k h a items) := by
  cases k with
  | true => exact Draws.list hh it a hne items
  | false => exact Draws.tuple hh it a hne items
section
variable {X : Cx} {pins : List (Addr × Obj)} {σ : L2.St} {H : Hp} {s : Shared}
theorem inv_x {k : Bool} {a : Addr} {xs : List V} (I : Inv X pins σ H s) (h : SqX X.K k H a xs) : ∃ its : List Value, Vals xs its ∧ IsX k s.heap a its.toArray := by
  cases k with
  | true =>
    obtain ⟨its, r, p, _⟩ := I.list h
    exact ⟨its, r, p.isList⟩
  | false =>
    obtain ⟨its, r, p, _⟩ := I.tuple h
    exact ⟨its, r, p⟩
theorem inj_x {k : Bool} {a : Addr} {xs ys : List V} (I : Inv X pins σ H s) (h : SqX X.K k H a xs) (h' : SqX X.K k H a ys) : xs = ys := by
  cases k with
  | true => exact I.list_inj h h'
  | false => exact I.tuple_inj h h'
end
theorem IsX.lt {k : Bool} {h : Heap} {a : Addr} {items : Array Value} (x : IsX k h a items) : a < h.objs.size := by
  cases k with
  | true => obtain ⟨o, e, _⟩ := x; exact Heap.lt_size e
  | false => obtain ⟨o, e, _⟩ := x; exact Heap.lt_size e
def IzX (K : PySem.W.Frag) (k1 k2 : Bool) (a b : Addr) : It where
  go := fun i H => ∃ (xs ys : List V) (x y : V), SqX K k1 H a xs ∧ SqX K k2 H b ys ∧ xs[i]? = some x ∧ ys[i]? = some y
  yld := fun i H v H' => ∃ T x y, v = .ref T ∧ H T = none ∧ H' = upd H T (.tup [x, y]) ∧ (∀ xs, SqX K k1 H a xs → xs[i]? = some x) ∧ ∀ ys, SqX K k2 H b ys → ys[i]? = some y
  stop := fun i H => ∃ xs ys : List V, SqX K k1 H a xs ∧ SqX K k2 H b ys ∧ i ≤ xs.length ∧ i ≤ ys.length ∧ (i = xs.length ∨ i = ys.length)
theorem arr_lt {its : List Value} {i : Nat} {u : Value} (h : its[i]? = some u) : i < its.toArray.size := by
  have := (List.getElem?_eq_some_iff.mp h).1
  simpa using this
theorem turn_zipX {P : Program} {w : World} {K : PySem.W.Frag} {elts : List Expr} {kk : Nat} {tpos : Pos} {k1 k2 : Bool} {a b z TI TO i1 i2 : Addr} (D : ZipSep2 z TI TO i1 i2 [i1, a] [i2, b]) :
    Turn P w K (.Tuple elts kk tpos) (IzX K k1 k2 a b) [z, TI, TO, i1, i2] z (fun i h => IsZip h z TI TO .none ∧ IsTupOf2 h TI (.ref i1) (.ref i2) ∧ (∃ x y, IsTupOf2 h TO x y) ∧ ItX k1 h i1 a i ∧ ItX k2 h i2 b i) where
  mem := List.mem_cons_self
  obj := fun i h st c hc => by
    obtain ⟨hz, hTI, ⟨x, y, hTO⟩, h1, h2⟩ := st
    simp only [List.mem_cons, List.not_mem_nil, or_false] at hc
    rcases hc with q | q | q | q | q
    · rw [q]; exact ⟨_, hz, fun v q => nomatch q⟩
    · rw [q]; exact ⟨_, hTI, fun v q => nomatch q⟩
    · rw [q]; exact ⟨_, hTO, fun v q => nomatch q⟩
    · rw [q]; exact h1.obj
    · rw [q]; exact h2.obj
  keep := fun i h h' st k => by
    obtain ⟨hz, hTI, ⟨x, y, hTO⟩, h1, h2⟩ := st
    exact ⟨k z (by simp) _ hz, k TI (by simp) _ hTI, ⟨x, y, k TO (by simp) _ hTO⟩, h1.at fun o => k i1 (by simp) o, h2.at fun o => k i2 (by simp) o⟩
  item := by
    intro X hP hw hK hc i pins s σ H E I hf st hg
    subst hP hw hK
    obtain ⟨hz, hTI, ⟨x0, y0, hTO⟩, h1, h2⟩ := st
    obtain ⟨xs, ys, x, y, hqx, hqy, hx, hy⟩ := hg
    obtain ⟨its, rv, p⟩ := inv_x I hqx
    obtain ⟨its2, rv2, p2⟩ := inv_x I hqy
    obtain ⟨u, hu, ru⟩ := rv.get hx
    obtain ⟨u2, hu2, ru2⟩ := rv2.get hy
    have zl : z < s.heap.objs.size := Heap.lt_size hz
    have hh : X.A.in1.handled = none := I.ok.hd hc
    refine wpAny_pyNext_zipD2_item D (draws_x hh k1 (h1.ne p) its.toArray) (draws_x hh k2 (h2.ne p2) its2.toArray) hz hTI hTO ⟨h1, p⟩ ⟨h2, p2⟩ (arr_lt hu) (arr_lt hu2) fun w1 w2 h' tk e1 e2 z' TO' st1 st2 hT hsz hk => ?_
    rw [List.getElem?_toArray, hu] at e1
    rw [List.getElem?_toArray, hu2] at e2
    cases e1
    cases e2
    refine ⟨_, rfl, wpAny_letOwnedTupleGo_zip (s := { s with heap := h', toks := tk }) z' fun h'' z'' sb => ?_⟩
    have hT2 : h''.get? s.heap.objs.size = some { cls := .type "tuple", data := .seq #[u, u2] } := (sb.2 _ (Nat.ne_of_gt zl)).trans hT
    have new : ObjOk X.prog X.w (upd H s.heap.objs.size (.tup [x, y])) h'' s.heap.objs.size (.tup [x, y]) :=
      ⟨small_size (by show 2 < 1000; decide), [u, u2], .cons ru (.cons ru2 .nil), ⟨_, hT2, rfl, _, rfl⟩⟩
    have I1 : Inv X pins σ (upd H s.heap.objs.size (.tup [x, y])) { s with heap := h'', toks := tk } :=
      I.turnedNew (ch := [z, TI, TO, i1, i2]) (fun c o hb q => (sb.2 c (fun q' => hb (by simp [q']))).trans (hk c o (fun q' => hb (by simp [q'])) (fun q' => hb (by simp [q'])) (fun q' => hb (by simp [q'])) (fun q' => hb (by simp [q'])) q)) hf (Nat.le_refl _) new
    refine ⟨V.ref s.heap.objs.size, _, I1, rfl, ⟨_, x, y, rfl, I.hok.fresh (Nat.le_refl _), rfl, fun l hl => by rw [inj_x I hl hqx]; exact hx, fun l hl => by rw [inj_x I hl hqy]; exact hy⟩, ⟨z'', ?_, ⟨u, u2, ?_⟩, ?_, ?_⟩, fun c hcm => ?_⟩
    · exact (sb.2 _ D.TIz).trans (hk _ _ D.TIz D.TITO D.TIi1 D.TIi2 hTI)
    · exact (sb.2 _ D.TOz).trans TO'
    · exact st1.1.at fun o q => (sb.2 _ (Ne.symm D.zi1)).trans q
    · exact st2.1.at fun o q => (sb.2 _ (Ne.symm D.zi2)).trans q
    · have hlt : c < s.heap.objs.size := by
        simp only [List.mem_cons, List.not_mem_nil, or_false] at hcm
        rcases hcm with q | q | q | q | q
        · rw [q]; exact zl
        · rw [q]; exact Heap.lt_size hTI
        · rw [q]; exact Heap.lt_size hTO
        · rw [q]; obtain ⟨_, e1, _⟩ := h1.obj; exact Heap.lt_size e1
        · rw [q]; obtain ⟨_, e2, _⟩ := h2.obj; exact Heap.lt_size e2
      rw [upd_ne (Nat.ne_of_lt hlt)]
      exact (hf c hcm).1
  done := by
    intro X hP hw hK hc i pins s σ H E I hf st hg
    subst hP hw hK
    obtain ⟨hz, hTI, ⟨x0, y0, hTO⟩, h1, h2⟩ := st
    obtain ⟨xs, ys, hqx, hqy, l1, l2, hend⟩ := hg
    obtain ⟨its, rv, p⟩ := inv_x I hqx
    obtain ⟨its2, rv2, p2⟩ := inv_x I hqy
    have e1 : its.toArray.size = xs.length := by rw [List.size_toArray, rv.length]
    have e2 : its2.toArray.size = ys.length := by rw [List.size_toArray, rv2.length]
    have hh : X.A.in1.handled = none := I.ok.hd hc
    refine wpAny_pyNext_zipD2_end D (draws_x hh k1 (h1.ne p) its.toArray) (draws_x hh k2 (h2.ne p2) its2.toArray) hz hTI hTO ⟨h1, p⟩ ⟨h2, p2⟩ (by omega) (by omega) (by omega) fun h' tk hk => ⟨rfl, ?_⟩
    exact I.turnedL (ch := [z, TI, TO, i1, i2]) (fun c o hb q => hk c o (fun q' => hb (by simp [q'])) (fun q' => hb (by simp [q'])) (fun q' => hb (by simp [q'])) (fun q' => hb (by simp [q'])) q) hf
  self := fun A i s Q E st h => wpAny_pyIter_zip st.1 h
def iZipX (K : PySem.W.Frag) (k1 k2 : Bool) (ta : TA) : TI := fun σ H R => ta σ H fun vs H1 => ∃ a b xs ys, vs = [.ref a, .ref b] ∧ SqX K k1 H1 a xs ∧ SqX K k2 H1 b ys ∧ R (IzX K k1 k2 a b) H1
theorem pi_zipX {X : Cx} {e e2 : Expr} {ta : TA} {p pos tpos : Pos} {elts : List Expr} {kk : Nat} (k1 k2 : Bool) (hg : Gl X "zip") (hm : X.mg "zip" = none) (ha : PA X [e, e2] ta)
    (hs : starEach [e, e2] X.env = (false, eval e X.env) :: starEach [e2] X.env) (hpl : (backTo pos (starEach [e2] X.env)).any (·.1) = false) :
    PI X (.Tuple elts kk tpos) (.Call (.Name "zip" p) [e, e2] [] pos) (iZipX X.K k1 k2 ta) := by
  refine ⟨fun pins s σ H R I h => ?_⟩
  refine Call_ (ld_blt I hg hm PyProof.Rows.boot_zip (PyProof.Rows.callWith_type1 (thn (ha.run pos pins s σ H _ I h) fun us s1 ⟨vs, H1, I1, r1, a, b, xs, ys, ex, hqx, hqy, q⟩ => ?_) hs hpl))
  subst ex
  cases r1 with
  | cons r rr =>
    cases rr with
    | cons r' rr =>
      cases rr
      cases r
      cases r'
      obtain ⟨its, rv, p1⟩ := inv_x I1 hqx
      obtain ⟨its2, rv2, p2⟩ := inv_x I1 hqy
      refine zip_begins2 (begins_x k1 a its.toArray) (begins_x k2 b its2.toArray) p1 p2 fun h' hz hTI hTO g1 g2 hsz hk => wpAny_pyIter_zip hz ?_
      have I2 : Inv X pins σ H1 { s1 with heap := h' } := I1.kept (t' := s1.toks) hk
      refine ⟨s1.heap.objs.size + 4, [s1.heap.objs.size + 4, s1.heap.objs.size + 2, s1.heap.objs.size + 3, s1.heap.objs.size, s1.heap.objs.size + 1], _, _, H1, rfl, I2,
        turn_zipX (k1 := k1) (k2 := k2) (zip_sep2 (fp1 := [a]) (fp2 := [b]) (fun c hc => by rw [List.mem_singleton.mp hc]; exact p1.lt) (fun c hc => by rw [List.mem_singleton.mp hc]; exact p2.lt)), ⟨hz, hTI, ⟨_, _, hTO⟩, itO_at g1, itO_at g2⟩, fun c hcm => ?_, q⟩
      have hle : s1.heap.objs.size ≤ c := by
        simp only [List.mem_cons, List.not_mem_nil, or_false] at hcm
        rcases hcm with z | z | z | z | z <;> (rw [z]; first | exact Nat.le_add_right _ _ | exact Nat.le_refl _)
      exact I1.fpOk hle (I1.hok.fresh hle)
end VL
/-! the value layer, 13b: builtins; dicts in expressions -/
namespace VL
open PySem PySem.Spec L2
section
variable {X : Cx} {kx : Kx} {xr : XR} {W : WX} {cs : Cs} {tb : Tb} {K : PySem.W.Frag} {σ : St} {env : SEnv} {F0 H0 F H F' H' F2 H2 : Hp} {Q : VK}
theorem lrng1 {d : D} {z : PR} (h : priD .lrng [d] = some z) : ∃ n, d = .int n ∧ n ≤ LIM ∧ -1000000 ≤ n ∧ z = .l (rngL 0 n) := by
  cases d with
  | int n =>
    have h : (if n ≤ LIM ∧ -1000000 ≤ n then some (PR.l (rngL 0 n)) else none) = some z := h
    split at h
    · rename_i c
      cases h
      exact ⟨n, rfl, c.1, c.2, rfl⟩
    · cases h
  | _ => exact absurd (show (none : Option PR) = some z from h) (by simp)
theorem trng1 {d : D} {z : PR} (h : priD .trng [d] = some z) : ∃ n, d = .int n ∧ n ≤ LIM ∧ -1000000 ≤ n ∧ z = .v (.tuple (rngL 0 n)) := by
  cases d with
  | int n =>
    have h : (if n ≤ LIM ∧ -1000000 ≤ n then some (PR.v (.tuple (rngL 0 n))) else none) = some z := h
    split at h
    · rename_i c
      cases h
      exact ⟨n, rfl, c.1, c.2, rfl⟩
    · cases h
  | _ => exact absurd (show (none : Option PR) = some z from h) (by simp)
theorem lrng2 {d e : D} {z : PR} (h : priD .lrng [d, e] = some z) : ∃ m n, d = .int m ∧ e = .int n ∧ (n ≤ LIM ∧ -1000000 ≤ n ∧ -1000000 ≤ m ∧ m ≤ LIM ∧ n - m ≤ LIM) ∧ z = .l (rngL m n) := by
  cases d with
  | int m =>
    cases e with
    | int n =>
      have h : (if n ≤ LIM ∧ -1000000 ≤ n ∧ -1000000 ≤ m ∧ m ≤ LIM ∧ n - m ≤ LIM then some (PR.l (rngL m n)) else none) = some z := h
      split at h
      · rename_i c
        cases h
        exact ⟨m, n, rfl, rfl, c, rfl⟩
      · cases h
    | _ => exact absurd (show (none : Option PR) = some z from h) (by simp)
  | _ => cases e <;> exact absurd (show (none : Option PR) = some z from h) (by simp)
theorem lenset1 {d : D} {z : PR} (h : priD .lenset [d] = some z) : ∃ xs ns, d = .list xs ∧ allOpt toInt xs = some ns ∧ ns.length < 60 ∧ z = .v (.int (dedupI ns).length) := by
  have h : (do let xs ← asList d; let ns ← allOpt toInt xs; if ns.length < 60 then some (PR.v (.int (dedupI ns).length)) else none) = some z := h
  obtain ⟨xs, h1, h'⟩ := bindS h
  obtain ⟨ns, h2, h''⟩ := bindS h'
  split at h''
  · rename_i c
    cases h''
    exact ⟨xs, ns, asList_at h1, h2, c, rfl⟩
  · cases h''
theorem lrev1 {d : D} {z : PR} (h : priD .lrev [d] = some z) : ∃ xs, d = .list xs ∧ z = .l xs.reverse := by
  have h : (do let xs ← asList d; some (PR.l xs.reverse)) = some z := h
  obtain ⟨xs, h1, h'⟩ := bindS h
  cases h'
  exact ⟨xs, asList_at h1, rfl⟩
theorem rg_rp {a b : Int} : RpL K F (rgV a b) (rngL a b) := by
  have e1 : rgV a b = ((List.range (b - a).toNat).map fun (i : Nat) => a + (i : Int)).map V.int := by rw [List.map_map]; rfl
  have e2 : rngL a b = ((List.range (b - a).toNat).map fun (i : Nat) => a + (i : Int)).map PyData.int := by rw [List.map_map]; rfl
  rw [e1, e2]
  exact .ofInts
theorem rgOk {m n : Int} (h : n ≤ LIM ∧ -1000000 ≤ n ∧ -1000000 ≤ m ∧ m ≤ LIM ∧ n - m ≤ LIM) : RgOk m n := by
  unfold LIM at h
  obtain ⟨h1, h2, h3, h4, h5⟩ := h
  refine ⟨by omega, by omega, by omega, by omega, by omega⟩
/-- builtins about builtins -/
theorem sn_pri2 {p : Pri} {as : PXs} (hA : SnL tb as) (w : Wd X kx xr W cs tb) (hc : X.calm = true) (hf : priV p = none) {px zp yp : Pos} {pos : Pos} {y : Expr} {ys : List Expr} (h1 : gloB cs (priN p) = true) (h5 : gloB cs (priN2 p) = true)
    (hfew : fewB p ys = true) (h7 : chks as cs (y :: ys) = true) (E : EnvOk kx F0 H0 env σ F H) (q : Pst xr W σ F H (ev tb (.pri p as) env) (fun r F' H' => ∀ v, RR X.K σ env H F' H' r v → Q v H')) :
    wE X (.Call (.Name (priN p) px) [.Call (.Name (priN2 p) zp) (y :: ys) [] yp] [] pos) σ H Q := by
  obtain ⟨g1, g2, g3⟩ := gloB_of w h1
  obtain ⟨g4, g5, g6⟩ := gloB_of w h5
  simp only [ev] at q
  cases as with
  | nil => simp [chks] at h7
  | cons a as =>
    simp only [chks, Bool.and_eq_true] at h7
    obtain ⟨⟨s1, c1⟩, c2⟩ := h7
    cases as with
    | nil =>
      cases ys with
      | cons y2 ys => simp [chks] at c2
      | nil =>
        simp only [evs] at q
        cases p with
        | lrng =>
          refine (pe_listRg hc g1 (w.bi _ (by unfold blts; decide)) (prg_1 g4 (w.bi _ (by unfold blts; decide)) (peW y) (star_of s1)) (star_of rfl)).w ?_
          refine hA.1.v w c1 E (q.bind.bind.imp fun x F1 H1 ex gg k1 v rv => ?_)
          have k2 := k1 F1 H1 (Grow.refl gg.ok)
          dsimp only at k2
          cases eb : priD .lrng ([x].map R.d) with
          | none => rw [eb] at k2; exact k2.elim
          | some z =>
            rw [eb] at k2
            obtain ⟨n, en, b1, b2, rfl⟩ := lrng1 eb
            refine ⟨n, rv.int_of en, rgOk (by unfold LIM at b1 ⊢; omega), fun p hp => ?_⟩
            exact (qp_of k2 gg.h).lst gg.ok hp rg_rp
        | trng =>
          refine (pe_tupRg hc g1 (w.bi _ (by unfold blts; decide)) (prg_1 g4 (w.bi _ (by unfold blts; decide)) (peW y) (star_of s1)) (star_of rfl)).w ?_
          refine hA.1.v w c1 E (q.bind.bind.imp fun x F1 H1 ex gg k1 v rv => ?_)
          have k2 := k1 F1 H1 (Grow.refl gg.ok)
          dsimp only at k2
          cases eb : priD .trng ([x].map R.d) with
          | none => rw [eb] at k2; exact k2.elim
          | some z =>
            rw [eb] at k2
            obtain ⟨n, en, b1, b2, rfl⟩ := trng1 eb
            refine ⟨n, rv.int_of en, rgOk (by unfold LIM at b1 ⊢; omega), fun p hp => ?_⟩
            exact (qp_of k2 gg.h).tup gg.ok hp rg_rp
        | lenset =>
          refine (pe_lenSetD g1 (w.bi _ (by unfold blts; decide)) g4 (w.bi _ (by unfold blts; decide)) (peW y) hc (star_of s1)).w ?_
          refine hA.1.v w c1 E (q.bind.bind.imp fun x F1 H1 ex gg k1 v rv => ?_)
          have k2 := k1 F1 H1 (Grow.refl gg.ok)
          dsimp only at k2
          cases eb : priD .lenset ([x].map R.d) with
          | none => rw [eb] at k2; exact k2.elim
          | some z =>
            rw [eb] at k2
            obtain ⟨xs, ns, ex2, e2, l2, rfl⟩ := lenset1 eb
            have ra := rv.ra
            rw [ex2] at ra
            obtain ⟨l, rfl, hs⟩ := list_ints gg.ok e2 ra
            exact ⟨l, ns, rfl, hs, l2, (qp_of k2 gg.h).int gg.ok⟩
        | lrev =>
          refine (pe_listRev g1 (w.bi _ (by unfold blts; decide)) g4 (w.bi _ (by unfold blts; decide)) (peW y) hc (star_of s1)).w ?_
          refine hA.1.v w c1 E (q.bind.bind.imp fun x F1 H1 ex gg k1 v rv => ?_)
          have k2 := k1 F1 H1 (Grow.refl gg.ok)
          dsimp only at k2
          cases eb : priD .lrev ([x].map R.d) with
          | none => rw [eb] at k2; exact k2.elim
          | some z =>
            rw [eb] at k2
            obtain ⟨xs, ex2, rfl⟩ := lrev1 eb
            have ra := rv.ra
            rw [ex2] at ra
            obtain ⟨l, us, rfl, hs, hr⟩ := ra.list gg.ok
            exact ⟨l, us, rfl, hs, fun p hp => (qp_of k2 gg.h).lst gg.ok hp hr.reverse⟩
        | _ => cases hf
    | cons b as =>
      cases ys with
      | nil => simp [chks] at c2
      | cons y2 ys =>
        simp only [chks, Bool.and_eq_true] at c2
        obtain ⟨⟨s2, c3⟩, c4⟩ := c2
        cases ys with
        | cons y3 ys => simp [fewB] at hfew
        | nil =>
          cases as with
          | cons b2 as => simp [chks] at c4
          | nil =>
            simp only [evs] at q
            cases p with
            | lrng =>
              refine (pe_listRg hc g1 (w.bi _ (by unfold blts; decide)) (prg_2 g4 (w.bi _ (by unfold blts; decide)) (peW y) (peW y2) (star_of s1) (star_of s2) (by rw [star_of s2]; rfl)) (star_of rfl)).w ?_
              refine hA.1.v w c1 E (q.bind.bind.imp fun x F1 H1 ex gg k1 v rv => ?_)
              refine hA.2.1.v w c3 (E.grow gg) (k1.bind.bind.imp fun x2 F2 H2 ex2 gg2 k3 v2 rv2 => ?_)
              have k2 := k3 F2 H2 (Grow.refl gg2.ok)
              dsimp only at k2
              have k2 := k2 F2 H2 (Grow.refl gg2.ok)
              dsimp only at k2
              cases eb : priD .lrng ([x, x2].map R.d) with
              | none => rw [eb] at k2; exact k2.elim
              | some z =>
                rw [eb] at k2
                obtain ⟨m, n, em, en, b1, rfl⟩ := lrng2 eb
                refine ⟨m, n, rv.int_of em, rv2.int_of en, rgOk b1, fun p hp => ?_⟩
                exact (qp_of k2 (gg.h.trans gg2.h)).lst gg2.ok hp rg_rp
            | _ => simp [fewB] at hfew
theorem sn_pri {p : Pri} {as : PXs} (hA : SnL tb as) : SnV tb (.pri p as) := by
  have ha : SnA tb as := fun {X kx xr W cs} w {es} h => hA.a w h
  intro X kx xr W cs w e h env σ F0 H0 F H Q E q
  simp only [chk, lf_v, Bool.true_and, Bool.and_eq_true] at h
  obtain ⟨hcm, h⟩ := h
  split at h
  · rename_i x px e1 es pos
    simp only [Bool.and_eq_true, decide_eq_true_eq] at h
    obtain ⟨⟨h1, h2⟩, h4⟩ := h
    subst h2
    obtain ⟨g1, g2, g3⟩ := gloB_of w h1
    split at h4
    · rename_i f hf
      simp only [ev] at q
      obtain ⟨ru, o, hru⟩ := ruleC_any (X := X) (f := f) (g := priD p) (fun ds r h => pri_rule (w.cm hcm) w.un hf h) (evs tb as env)
      obtain ⟨s1, a0, as', e0, c0⟩ := chks_head h4
      have key : wA X (e1 :: es) σ H (fun vs H1 => ru vs H1 Q) := by
        refine ha w h4 E (q.bind.imp fun xs F1 H1 ex g1 k1 vs rvs => ?_)
        cases eb : priD p (xs.map R.d) with
        | none => rw [eb] at k1; exact k1.elim
        | some z =>
          rw [eb] at k1
          exact hru xs z ex eb F1 H1 vs Q g1.ok rvs.ras (qp_of k1 g1.h)
      have hm := w.bi _ (bi_pri hf)
      have hb := boot_pri hf
      have hh : (∃ id, f = .builtin id) ∨ ∃ T, f = .type T := by
        cases p <;> cases hf <;> first | exact .inl ⟨_, rfl⟩ | exact .inr ⟨_, rfl⟩
      rcases hh with ⟨id, rfl⟩ | ⟨T, rfl⟩
      · exact (pe_callB o g1 hm hb (paW (e1 :: es)) g3 g2 (star_of s1) (hpl_of c0)).w key
      · exact (pe_callTy o g1 hm hb (paW (e1 :: es)) g3 g2 (star_of s1) (hpl_of c0)).w key
    · rename_i hf
      split at h4
      · rename_i z zp y ys yp
        simp only [Bool.and_eq_true, decide_eq_true_eq] at h4
        obtain ⟨⟨⟨h5, h6⟩, hfew⟩, h7⟩ := h4
        subst h6
        exact sn_pri2 hA w (w.cm hcm) hf h1 h5 hfew h7 E q
      · cases h4
  · cases h
/-! ### dicts -/
theorem keyK_kV {d : D} {c : Key} {v : V} (h : keyK d = some c) (r : Rp K F v d) : v = kV c := by
  cases d with
  | int i => cases h; cases r; rfl
  | str s => cases h; cases r; rfl
  | _ => cases h
theorem keyK_all : ∀ {ds : List D} {c : List Key} {xs : List V}, allOpt keyK ds = some c → RpL K F xs ds → xs = c.map kV
  | [], c, xs, h, r => by cases h; cases r; rfl
  | d :: ds, c, xs, h, r => by
    unfold allOpt at h
    cases e1 : keyK d with
    | none => rw [e1] at h; cases h
    | some k =>
      cases e2 : allOpt keyK ds with
      | none => rw [e1, e2] at h; cases h
      | some ks =>
        rw [e1, e2] at h
        cases h
        cases r with
        | cons h1 h2 => rw [keyK_kV e1 h1, keyK_all e2 h2]; rfl
theorem look_rp {κ : Type} [DecidableEq κ] (c : κ) : ∀ {ks : List (κ × V)} {kvs : List (κ × D)}, RpA K F ks kvs → (∀ d, lookA c kvs = some d → ∃ v, valV ks c = some v ∧ Rp K F v d) ∧ (lookA c kvs = none → valV ks c = none)
  | _, _, .nil => ⟨(fun d h => by cases h), fun _ => rfl⟩
  | (k, v) :: ks, (k', d) :: kvs, .cons ⟨h1, h2⟩ t => by
    have e : k = k' := h1
    subst e
    have ih := look_rp c t
    by_cases q : k = c
    · subst q
      refine ⟨fun d' h => ?_, fun h => ?_⟩
      · rw [lookA, if_pos rfl] at h
        cases h
        exact ⟨v, valV_pos rfl, h2⟩
      · rw [lookA, if_pos rfl] at h; cases h
    · rw [lookA, if_neg q]
      refine ⟨fun d' h => ?_, fun h => ?_⟩
      · rw [valV_neg q]; exact ih.1 d' h
      · rw [valV_neg q]; exact ih.2 h
theorem keyT_at {x : R} {c : List Key} {u : V} (h : keyT x.d = some c) (r : RR K σ env H F' H' x u) (ok : Ok F' H') : ∃ b, u = .ref b ∧ H' b = some (.tup (c.map kV)) := by
  have ra := r.ra
  cases ed : x.d with
  | tuple ds =>
    rw [ed] at h ra
    obtain ⟨b, xs, rfl, f1, h1, h2⟩ := ra.tupleF ok
    have h : (if pairD ds = true then allOpt keyK ds else none) = some c := h
    split at h
    rotate_left
    · cases h
    rename_i hp
    replace f1 := f1.key hp
    have e := keyK_all h h2
    subst e
    exact ⟨b, rfl, ok.sm _ _ f1⟩
  | _ => rw [ed] at h; cases h
theorem keysD_eq {ks : List (List Key × V)} {kvs : List (List Key × D)} (h : RpA K F ks kvs) : keysD ks = keysD kvs := by
  induction h with
  | nil => rfl
  | cons h t ih =>
    unfold keysD at ih ⊢
    rw [List.map_cons, List.map_cons, ih, h.1]
theorem kvsOf_at {s : Slot} {kvs : List (List Key × D)} (h : kvsOf s = some kvs) {kx : Kx} {x : Option (Option V)} {Hz : Hp} (so : SlotOk kx F Hz H x s) :
    ∃ (a : Addr) (ks : List (List Key × V)), x = some (some (.ref a)) ∧ Rd H a (.dT ks) ∧ RpA kx.K F ks kvs := by
  unfold kvsOf at h
  split at h
  · cases h
    obtain ⟨a, ks, e1, _, _, e2, e3⟩ := so
    exact ⟨a, ks, e1, .inl e2, e3⟩
  · cases h
    obtain ⟨a, ks, od, e1, _, _, e2, e3⟩ := so
    exact ⟨a, ks, e1, .inr ⟨od, e2⟩, e3⟩
  · cases h
theorem nmB_of (w : Wd X kx xr W cs tb) {i : Nat} {o : Expr} (h : nmB cs i o = true) : ∃ x p, o = .Name x p ∧ X.N[i]? = some x ∧ Vis X.env.scope x ∧ (x == ("__debug__" : Str)) = false ∧ (x == ("__classdict__" : Str)) = false := by
  cases o with
  | Name x p =>
    have h : (ixB cs i x && visB cs x) = true := h
    rw [Bool.and_eq_true] at h
    obtain ⟨v1, v2, v3⟩ := visB_of h.2
    exact ⟨x, p, rfl, ixB_of w h.1, by rw [w.sc]; exact v1, v2, v3⟩
  | _ => cases h
/-- a name's value -/
theorem wE_nm (w : Wd X kx xr W cs tb) {i : Nat} {o : Expr} {v : V} (h : nmB cs i o = true) (hv : σ[i]? = some (some v)) (q : Q v H) : wE X o σ H Q := by
  obtain ⟨x, p, rfl, h1, h2, h3, h4⟩ := nmB_of w h
  exact (pe_var h1 h2 h3 h4).w ⟨v, hv, q⟩
theorem noSl_of {y : Expr} (h : noSlice y = true) : NoSl y := by
  intro ov iv
  cases y <;> first | rfl | (simp [noSlice] at h)
theorem DGet.at {H : Hp} {a b : Addr} {ks : List (List Key × V)} {c : List Key} (h : Rd H a (.dT ks)) (hb : H b = some (.tup (c.map kV))) : DGet H a (.ref b) (valV ks c) := .inr ⟨ks, c, b, h, rfl, hb, rfl⟩
theorem env_kvs {i : Nat} {kvs : List (List Key × D)} (h : (env[i]?).bind kvsOf = some kvs) (E : EnvOk kx F0 H0 env σ F H) : ∃ (a : Addr) (ks : List (List Key × V)), σ[i]? = some (some (.ref a)) ∧ Rd H a (.dT ks) ∧ RpA kx.K F ks kvs := by
  obtain ⟨s, hs, hk⟩ := Option.bind_eq_some_iff.mp h
  exact kvsOf_at hk (E.sl i s hs)
theorem sn_dsub {i : Nat} {k : PX} (hk : SnV tb k) : SnV tb (.dsub i k) := by
  intro X kx xr W cs w e h env σ F0 H0 F H Q E q
  simp only [chk, lf_v, Bool.true_and] at h
  split at h
  · rename_i o y pos
    simp only [Bool.and_eq_true] at h
    obtain ⟨⟨h1, h2⟩, h3⟩ := h
    simp only [ev] at q
    split at q
    · rename_i kvs hs
      refine (pe_dget (by have := w.un; omega) (peW o) (peW y) (noSl_of h2)).w ?_
      obtain ⟨a, ks, e1, _, _⟩ := env_kvs hs E
      refine wE_nm w h1 e1 ?_
      refine hk w h3 E (q.bind.imp fun x F1 H1 ex g1 k1 v rv => ?_)
      split at k1
      · rename_i vd ed
        obtain ⟨c, ec, el⟩ := Option.bind_eq_some_iff.mp ed
        obtain ⟨a', ks', e1', e2, e3⟩ := env_kvs hs (E.grow g1)
        rw [e1] at e1'
        cases e1'
        obtain ⟨b, rfl, hb⟩ := keyT_at ec rv g1.ok
        obtain ⟨v', ev', rv'⟩ := (look_rp c e3).1 vd el
        rw [w.kK] at rv'
        exact ⟨a, v', rfl, ev' ▸ DGet.at e2 hb, k1 F1 H1 (Grow.refl g1.ok) v' rv'⟩
      · exact k1.elim
    · exact q.elim
  · cases h
theorem sn_dget {i : Nat} {k d : PX} (hk : SnV tb k) (hd : SnV tb d) : SnV tb (.dget i k d) := by
  intro X kx xr W cs w e h env σ F0 H0 F H Q E q
  simp only [chk, lf_v, Bool.true_and] at h
  split at h
  · rename_i o f ap y z cp
    simp only [Bool.and_eq_true, decide_eq_true_eq] at h
    obtain ⟨⟨⟨⟨⟨⟨h1, h2⟩, h3⟩, h4⟩, h5⟩, h6⟩, h7⟩ := h
    subst h1
    simp only [ev] at q
    split at q
    · rename_i kvs hs
      obtain ⟨xo, po, eo, _, _, _, _⟩ := nmB_of w h3
      have m2 : M2 X o "get" ap y z cp := by
        refine ⟨by subst eo; rfl, ?_, h2, ?_⟩
        · rw [star_of h4, star_of h5]; rfl
        · rw [star_of h4, star_of h5]; rfl
      refine (pe_dget2 (by have := w.un; omega) (peW o) (peW y) (peW z) m2).w ?_
      obtain ⟨a, ks, e1, e2, _⟩ := env_kvs hs E
      refine wE_nm w h3 e1 ⟨a, rfl, .inr ⟨ks, e2⟩, ?_⟩
      refine hk w h6 E (q.bind.imp fun x F1 H1 ex g1 k1 v rv => ?_)
      refine hd w h7 (E.grow g1) (k1.bind.imp fun x2 F2 H2 ex2 g2 k2 v2 rv2 => ?_)
      split at k2
      · rename_i yd c ey ec
        have g12 := g1.trans g2
        obtain ⟨a', ks', e1', e2', e3⟩ := env_kvs hs (E.grow g12)
        rw [e1] at e1'
        cases e1'
        obtain ⟨b, rfl, hb⟩ := keyT_at ec (rv.grow g2) g12.ok
        refine ⟨valV ks' c, DGet.at e2' hb, ?_⟩
        cases el : lookA c kvs with
        | some vd =>
          obtain ⟨v', ev', rv'⟩ := (look_rp c e3).1 vd el
          rw [ev']
          rw [el] at k2
          rw [w.kK] at rv'
          exact k2 F2 H2 (Grow.refl g2.ok) v' rv'
        | none =>
          rw [(look_rp c e3).2 el]
          rw [el] at k2
          obtain ⟨F3, g3, s3, r3⟩ := rv2.keep g2 ey
          rw [ex] at q
          simp only [Rs.bind] at q
          rw [ex2] at q
          simp only [ey, ec, el] at q
          exact q F3 H2 (g1.trans g3) v2 r3
      · exact k2.elim
    · exact q.elim
  · cases h
theorem sn_dsrt {i : Nat} : SnV tb (.dsrt i) := by
  intro X kx xr W cs w e h env σ F0 H0 F H Q E q
  simp only [chk, lf_v, Bool.true_and, Bool.and_eq_true] at h
  obtain ⟨hcm, h⟩ := h
  split at h
  · rename_i x px o pos
    simp only [Bool.and_eq_true, decide_eq_true_eq] at h
    obtain ⟨⟨h1, h2⟩, h3⟩ := h
    subst h2
    obtain ⟨g1, g2, g3⟩ := gloB_of w h1
    simp only [ev] at q
    split at q
    · rename_i kvs hs
      split at q
      · rename_i so
        have hc := w.cm hcm
        obtain ⟨xo, po, eo, _, _, _, _⟩ := nmB_of w h3
        have so' : starEach [o] X.env = (false, eval o X.env) :: starEach [] X.env := by subst eo; rfl
        refine (pe_callB (cr_srtD hc w.un) g1 (w.bi _ (by unfold blts; decide)) (by decide +kernel) (pa_cons (peW o) pa_nil so') g3 g2 so' rfl).w ?_
        obtain ⟨a, ks, e1, f1, f2, f3, f4⟩ := E.sl i _ hs
        refine wE_nm w h3 e1 ?_
        have ek : keysD ks = keysD kvs := keysD_eq f4
        refine ⟨F, a, ks, rfl, .inl f3, E.ok, by rw [ek]; exact so, fun ys p ry hp => ?_⟩
        rw [ek] at ry
        exact (qp_of (r := .l _) q (Same.refl H)).lst E.ok hp ry
      · exact q.elim
    · exact q.elim
  · cases h
theorem sn_edict : SnV tb .edict := by
  intro X kx xr W cs w e h env σ F0 H0 F H Q E q
  simp only [chk, lf_v, Bool.true_and] at h
  split at h
  · simp only [ev] at q
    refine pe_dnewK.w fun p hp => ?_
    have g3 := Grow.new (o := .dK []) E.ok hp
    exact q _ _ g3 _ (.dct upd_same)
  · cases h
theorem keys_rpl : ∀ {ks : List (List Key × V)} {qs : List Addr} {K : PySem.W.Frag} {F H : Hp}, Ok F H → IsKeys H ks qs → RpL K F (qs.map V.ref) (keysD ks) := fun ok h => keys_rp ok h
theorem sn_dlst {i : Nat} : SnV tb (.dlst i) := by
  intro X kx xr W cs w e h env σ F0 H0 F H Q E q
  simp only [chk, lf_v, Bool.true_and, Bool.and_eq_true] at h
  obtain ⟨hcm, h⟩ := h
  split at h
  · rename_i x px o pos
    simp only [Bool.and_eq_true, decide_eq_true_eq] at h
    obtain ⟨⟨h1, h2⟩, h3⟩ := h
    subst h2
    obtain ⟨g1, g2, g3⟩ := gloB_of w h1
    simp only [ev] at q
    split at q
    · rename_i kvs hs
      have hc := w.cm hcm
      obtain ⟨xo, po, eo, _, _, _, _⟩ := nmB_of w h3
      have so' : starEach [o] X.env = (false, eval o X.env) :: starEach [] X.env := by subst eo; rfl
      refine (pe_listD hc (peW o) g1 (w.bi _ (by unfold blts; decide)) (by decide +kernel) g3 g2 so').w ?_
      obtain ⟨a, ks, e1, f1, f2, f3, f4⟩ := E.sl i _ hs
      refine wE_nm w h3 e1 ?_
      refine ⟨a, ks, rfl, f3, fun D qs hD hk => ?_⟩
      have ek : keysD ks = keysD kvs := keysD_eq f4
      have rr : RpL kx.K F (qs.map V.ref) (keysD kvs) := by rw [← ek]; exact keys_rp E.ok hk
      rw [w.kK] at rr
      exact (qp_of (r := .l (keysD kvs)) q (Same.refl H)).lst E.ok hD rr
    · exact q.elim
  · cases h
theorem sn_maxd {a : PX} {d : Int} (ha : SnV tb a) : SnV tb (.maxd a d) := by
  intro X kx xr W cs w e h env σ F0 H0 F H Q E q
  simp only [chk, lf_v, Bool.true_and, Bool.and_eq_true] at h
  obtain ⟨hcm, h⟩ := h
  split at h
  · rename_i x px o y z kp pos
    simp only [Bool.and_eq_true, decide_eq_true_eq] at h
    obtain ⟨⟨⟨⟨⟨h1, h2⟩, h3⟩, h7⟩, h8⟩, h9⟩ := h
    split at h9
    · rename_i j kz pz
      rw [decide_eq_true_eq] at h9
      subst h2 h3 h9
      obtain ⟨g1, g2, g3⟩ := gloB_of w h1
      simp only [ev] at q
      have hc := w.cm hcm
      have so' := star_of (env := X.env) (es := []) h7
      have hst : ∀ pos' : Pos, backTo pos' (starEach [o] X.env) = (false, eval o X.env) :: backTo pos' (starEach [] X.env) := fun pos' => by rw [so']; rfl
      refine (pe_callBK (cr_maxDf hc (by have := w.un; omega)) g1 (w.bi _ (by unfold blts; decide)) (by decide +kernel) (pa_cons (peW o) pa_nil so') (pk_cons pe_int pk_nil) g3 g2 (hst _) (by rw [hst]; rfl) (by rfl) (by rfl) (by rfl)).w ?_
      refine ha w h8 E (q.bind.imp fun r F1 H1 ex gg k1 v rv => ?_)
      have ra := rv.ra
      cases ed : r.d with
      | list xs =>
        rw [ed] at k1 ra
        simp only [asList] at k1
        split at k1
        · rename_i ns hns
          obtain ⟨b, ys, rfl, h11, h12⟩ := ra.list gg.ok
          have e1 : xs = ns.map PyData.int := by
            clear k1
            have : ∀ {xs : List PyData} {ns : List Int}, allOpt toInt xs = some ns → xs = ns.map PyData.int := by
              intro xs
              induction xs with
              | nil => intro ns h; cases h; rfl
              | cons x xs ih =>
                intro ns h
                simp only [allOpt] at h
                cases x <;> simp only [toInt] at h <;> try cases h
                rename_i i
                cases hr : allOpt toInt xs with
                | none => rw [hr] at h; cases h
                | some ms => rw [hr] at h; cases h; rw [ih hr]; rfl
            exact this hns
          subst e1
          have e2 := h12.ints
          subst e2
          exact ⟨b, ns, _, rfl, rfl, h11, k1 F1 H1 (Grow.refl gg.ok) _ (.int _)⟩
        · exact k1.elim
      | _ => rw [ed] at k1; exact k1.elim
    · cases h9
  · cases h
theorem sn_srtsz {a : PX} (ha : SnV tb a) : SnV tb (.srtsz a) := by
  intro X kx xr W cs w e h env σ F0 H0 F H Q E q
  simp only [chk, lf_v, Bool.true_and, Bool.and_eq_true] at h
  obtain ⟨hcm, h⟩ := h
  split at h
  · rename_i x px o y z pz kp pos
    simp only [Bool.and_eq_true, decide_eq_true_eq, List.any_eq_true] at h
    obtain ⟨⟨⟨⟨⟨⟨h1, h2⟩, h3⟩, h4⟩, ⟨z', h5, h6⟩⟩, h7⟩, h8⟩ := h
    subst h2 h3 h6
    obtain ⟨g1, g2, g3⟩ := gloB_of w h1
    obtain ⟨g4, g5, g6⟩ := gloB_of w h4
    obtain ⟨f, m1, SF⟩ := w.kf _ h5
    simp only [ev] at q
    have hc := w.cm hcm
    have so' := star_of (env := X.env) (es := []) h7
    have hst : ∀ pos' : Pos, backTo pos' (starEach [o] X.env) = (false, eval o X.env) :: backTo pos' (starEach [] X.env) := fun pos' => by rw [so']; rfl
    refine (pe_callBK (cr_srtsz hc (by have := w.un; omega) w.dp (w.bi _ (by unfold blts; decide))) g1 (w.bi _ (by unfold blts; decide)) (by decide +kernel) (pa_cons (peW o) pa_nil so') (pk_cons (pe_glob (v := .ref f) g4 m1 rfl g5) pk_nil) g3 g2 (hst _) (by rw [hst]; rfl) (by rfl) (by rfl) (by rfl)).w ?_
    refine ha w h8 E (q.bind.imp fun r F1 H1 ex gg k1 v rv => ?_)
    have ra := rv.ra
    cases ed : r.d with
    | list xs =>
      rw [ed] at k1 ra
      simp only [asList] at k1
      split at k1
      · rename_i so
        obtain ⟨b, ys, rfl, h11, h12⟩ := ra.list gg.ok
        exact ⟨F1, b, f, ys, xs, rfl, rfl, SF, h11, h12, gg.ok.sm, so, fun zs p ry hp => (qp_of (r := .l _) k1 gg.h).lst gg.ok hp ry⟩
      · exact k1.elim
    | _ => rw [ed] at k1; exact k1.elim
  · cases h
theorem sn_isx {i c : Nat} : SnV tb (.isx i c) := by
  intro X kx xr W cs w e h env σ F0 H0 F H Q E q
  simp only [chk, lf_v, Bool.true_and] at h
  split at h
  · rename_i x px o y py pos
    simp only [Bool.and_eq_true, decide_eq_true_eq, List.any_eq_true] at h
    obtain ⟨⟨⟨⟨h1, h2⟩, h3⟩, h4⟩, ⟨t, ht, h5, h6⟩⟩ := h
    subst h2 h5 h6
    obtain ⟨g1, g2, g3⟩ := gloB_of w h1
    obtain ⟨g4, g5, g6⟩ := gloB_of w h4
    obtain ⟨T, mT⟩ := w.xg t ht
    simp only [ev] at q
    split at q
    · rename_i c' p hs
      obtain ⟨b, e1, hx⟩ := E.sl i _ hs
      obtain ⟨xo, po, eo, _, _, _, _⟩ := nmB_of w h3
      have so : ∀ r, starEach (o :: r) X.env = (false, eval o X.env) :: starEach r X.env := fun r => by subst eo; rfl
      refine (pe_callB ((w.ix _ _ _ _ hx).1 t ht T mT) g1 (w.bi _ (by unfold blts; decide)) PyProof.Rows.boot_isinstance (pa_cons (peW o) (pa_cons (pe_glob (v := .ref T) g4 mT rfl g5) pa_nil rfl) (so _)) g3 g2 (so _) rfl).w ?_
      refine wE_nm w h3 e1 ?_
      exact ⟨rfl, (qp_of (r := .v _) q (Same.refl H)).bool E.ok⟩
    · exact q.elim
  · cases h
theorem cls_wA (w : Wd X kx xr W cs tb) : ∀ {ks : List Nat} {ys : List Expr}, clsB cs ks ys = true → ∃ (ts : List (Nat × Str)) (Ts : List Addr), (∀ t ∈ ts, t ∈ cs.nm.exs) ∧ ts.map (·.1) = ks ∧ Paired (fun (t : Nat × Str) (T : Addr) => X.mg t.2 = some (.ref T)) ts Ts ∧
    ys.length = Ts.length ∧ ∀ (σ : St) (H : Hp) (Q : List V → Hp → Prop), Q (Ts.map V.ref) H → wA X ys σ H Q
  | [], [], _ => ⟨[], [], (fun t h => by cases h), rfl, .nil, rfl, fun σ H Q q => pa_nil.w q⟩
  | c :: ks, .Name y py :: ys, h => by
    simp only [clsB, Bool.and_eq_true, List.any_eq_true, decide_eq_true_eq] at h
    obtain ⟨⟨h1, ⟨t, ht, h2, h3⟩⟩, h4⟩ := h
    subst h2 h3
    obtain ⟨ts, Ts, i1, i2, i3, i4, i5⟩ := cls_wA w h4
    obtain ⟨g4, g5, g6⟩ := gloB_of w h1
    obtain ⟨T, mT⟩ := w.xg t ht
    refine ⟨t :: ts, T :: Ts, fun u hu => ?_, by rw [List.map_cons, i2], .cons mT i3, by simp [i4], fun σ H Q q => ?_⟩
    · rcases List.mem_cons.mp hu with rfl | hu
      · exact ht
      · exact i1 u hu
    · exact (pa_cons (pe_glob (v := .ref T) g4 mT rfl g5) (paW ys) rfl).w (i5 σ H _ q)
  | [], _ :: _, h => by simp [clsB] at h
  | _ :: _, [], h => by simp [clsB] at h
theorem sn_isxs {i : Nat} {c : List Nat} : SnV tb (.isxs i c) := by
  intro X kx xr W cs w e h env σ F0 H0 F H Q E q
  simp only [chk, lf_v, Bool.true_and] at h
  split at h
  · rename_i x px o ys ky py pos
    simp only [Bool.and_eq_true, decide_eq_true_eq] at h
    obtain ⟨⟨⟨⟨h1, h2⟩, h3⟩, h4⟩, h5⟩ := h
    subst h2
    obtain ⟨g1, g2, g3⟩ := gloB_of w h1
    obtain ⟨ts, Ts, i1, i2, i3, i4, i5⟩ := cls_wA w h4
    subst i2
    simp only [ev] at q
    split at q
    · rename_i c' p hs
      obtain ⟨b, e1, hx⟩ := E.sl i _ hs
      obtain ⟨xo, po, eo, _, _, _, _⟩ := nmB_of w h3
      have so : ∀ r, starEach (o :: r) X.env = (false, eval o X.env) :: starEach r X.env := fun r => by subst eo; rfl
      refine (pe_callB ((w.ix _ _ _ _ hx).2.2 ts Ts i1 i3) g1 (w.bi _ (by unfold blts; decide)) PyProof.Rows.boot_isinstance (pa_cons (peW o) (pa_cons (pe_tup (paW ys)) pa_nil rfl) (so _)) g3 g2 (so _) rfl).w ?_
      refine wE_nm w h3 e1 ?_
      refine i5 σ H _ ⟨small_size (by rw [List.length_map, ← i4]; omega), fun tp htp => ?_⟩
      have g3 := Grow.new (o := .tup (Ts.map V.ref)) E.ok htp
      exact ⟨tp, rfl, upd_same, q _ _ g3 _ (.bl _)⟩
    · exact q.elim
  · cases h
theorem sn_isv {i : Nat} : SnV tb (.isv i) := by
  intro X kx xr W cs w e h env σ F0 H0 F H Q E q
  simp only [chk, lf_v, Bool.true_and] at h
  split at h
  · rename_i x px o y py pos
    simp only [Bool.and_eq_true, decide_eq_true_eq] at h
    obtain ⟨⟨⟨⟨h1, h2⟩, h3⟩, h4⟩, h5⟩ := h
    subst h2 h5
    obtain ⟨g1, g2, g3⟩ := gloB_of w h1
    obtain ⟨g4, g5, g6⟩ := gloB_of w h4
    simp only [ev] at q
    split at q
    · rename_i c' p hs
      obtain ⟨b, e1, hx⟩ := E.sl i _ hs
      obtain ⟨xo, po, eo, _, _, _, _⟩ := nmB_of w h3
      have so : ∀ r, starEach (o :: r) X.env = (false, eval o X.env) :: starEach r X.env := fun r => by subst eo; rfl
      refine (pe_callB (w.ix _ _ _ _ hx).2.1 g1 (w.bi _ (by unfold blts; decide)) PyProof.Rows.boot_isinstance (pa_cons (peW o) (pa_cons (pe_bltn (v := .ty "ValueError") g4 (w.bi _ (by unfold blts; decide)) (by decide +kernel) rfl g6 g5) pa_nil rfl) (so _)) g3 g2 (so _) rfl).w ?_
      refine wE_nm w h3 e1 ?_
      exact ⟨rfl, (qp_of (r := .v _) q (Same.refl H)).bool E.ok⟩
    · exact q.elim
  · cases h
end
end VL
/-! the value layer, 14: what is walked -/
namespace VL
open PySem PySem.Spec L2
open RT (ItvT pi_revA)
def wI (X : Cx) (tg e : Expr) : TI := fun σ H R => ∀ pins s, Inv X pins σ H s →
  wpAny (model X.prog X.w) X.A (eval e X.env) (fun v s1 => wpAny (model X.prog X.w) X.A (pyIter v) (PIE X pins σ tg R) X.xe s1) X.xe s
theorem piW {X : Cx} (tg e : Expr) : PI X tg e (wI X tg e) := ⟨fun pins s _ _ _ I h => h pins s I⟩
theorem _root_.L2.PI.w {X : Cx} {tg e : Expr} {t : TI} {σ : St} {H : Hp} {R : It → Hp → Prop} (h : PI X tg e t) (q : t σ H R) : wI X tg e σ H R := fun pins s I => h.run pins s σ H R I q

/-- what is walked, turn by turn, as long as the things at L stay -/
def WkA (K : PySem.W.Frag) (L : List Addr) (Hs F' : Hp) (ds : List D) (J : It) : Prop := ∀ (H1 : Hp) (i : Nat), (∀ a ∈ L, H1 a = Hs a) →
  (i < ds.length → J.go i H1) ∧ (i = ds.length → J.stop i H1) ∧ ∀ (x : V) (H2 F1 : Hp), i < ds.length → J.yld i H1 x H2 → Ok F1 H1 → Same F' F1 → ∃ F2 d, ds[i]? = some d ∧ Grow F1 H1 F2 H2 ∧ Rp K F2 x d
/-- the thing at a: it is frozen, or new, or a slot's own -/
def Cnd (B : List Nat) (σ : St) (env : SEnv) (H F' H' : Hp) (a : Addr) : Prop := H' a ≠ none ∧ (F' a ≠ none ∨ H a = none ∨ ∃ (i : Nat) (ds : List D), i ∈ B ∧ env[i]? = some (Slot.ow ds) ∧ σ[i]? = some (some (V.ref a)))
def Wk (B : List Nat) (K : PySem.W.Frag) (σ : St) (env : SEnv) (H F' H' : Hp) (ds : List D) (J : It) : Prop := ∃ L, (∀ a ∈ L, Cnd B σ env H F' H' a) ∧ WkA K L H' F' ds J
def isTupE : Expr → Bool
  | .Tuple _ _ _ => true
  | _ => false
def SnI (tb : Tb) (p : PX) : Prop := ∀ {X : Cx} {kx : Kx} {xr : XR} {W : WX} {cs : Cs} (_ : Wd X kx xr W cs tb) {tg e : Expr}, chk p .i cs e = true → (pairIt p = true → isTupE tg = true) → ∀ {env : SEnv} {σ : St} {F0 H0 F H : Hp} {R' : It → Hp → Prop},
  EnvOk kx F0 H0 env σ F H → Pst xr W σ F H (evI tb p env) (fun ds F' H' => ∀ J, Wk (bwOf p) X.K σ env H F' H' ds J → R' J H') → wI X tg e σ H R'
section
variable {X : Cx} {kx : Kx} {xr : XR} {W : WX} {cs : Cs} {tb : Tb} {K : PySem.W.Frag} {σ : St} {env : SEnv} {F H F' H' F2 H2 : Hp} {Q : VK}
theorem Cnd.grow {B : List Nat} {a : Addr} (h : Cnd B σ env H F' H' a) (g : Grow F' H' F2 H2) : Cnd B σ env H F2 H2 a := by
  refine ⟨same_ne g.h h.1, ?_⟩
  rcases h.2 with h | h
  · exact .inl (same_ne g.f h)
  · exact .inr h
theorem Cnd.back {B : List Nat} {a : Addr} {H1 : Hp} (h : Cnd B σ env H1 F' H' a) (s : Same H H1) : Cnd B σ env H F' H' a := by
  refine ⟨h.1, ?_⟩
  rcases h.2 with h | h | h
  · exact .inl h
  · exact .inr (.inl (s.free h))
  · exact .inr (.inr h)
theorem sq_eq {H1 : Hp} {a : Addr} {xs : List V} (h : Rd H' a (.lst xs)) (e : H1 a = H' a) : SqL K H1 a xs := by
  rcases h with h | ⟨o, h⟩
  · exact .inl (.inl (by rw [e]; exact h))
  · exact .inl (.inr ⟨o, by rw [e]; exact h⟩)
theorem sqT_eq {H1 : Hp} {a : Addr} {xs : List V} (h : Rd H' a (.tup xs)) (e : H1 a = H' a) : SqT K H1 a xs := by
  rcases h with h | ⟨o, h⟩
  · exact .inl (.inl (by rw [e]; exact h))
  · exact .inl (.inr ⟨o, by rw [e]; exact h⟩)
theorem rd_ne {a : Addr} {o : HO} (h : Rd H a o) : H a ≠ none := by
  rcases h with h | ⟨u, h⟩ <;> (rw [h]; simp)
theorem rd_same {a : Addr} {o : HO} (h : Rd F a o) (s : Same F H) : Rd H a o := by
  rcases h with h | ⟨u, h⟩
  · exact .inl (s _ _ h)
  · exact .inr ⟨u, s _ _ h⟩
/-- a list that is walked -/
theorem rr_list {B : List Nat} {r : R} {v : V} {ds : List D} (hB : ∀ i ds, r = .bw i ds → i ∈ B) (h : RR K σ env H F' H' r v) (e : r.d = .list ds) (ok : Ok F' H') : ∃ (a : Addr) (xs : List V) (L : List Addr), v = .ref a ∧ SqL K H' a xs ∧ RpL K F' xs ds ∧ (∀ b ∈ L, Cnd B σ env H F' H' b) ∧ ∀ H1 : Hp, (∀ b ∈ L, H1 b = H' b) → SqL K H1 a xs := by
  cases r with
  | fz d =>
    cases e
    cases h with
    | @lst a xs _ h1 h2 =>
      rcases h1 with h1 | h1
      · refine ⟨a, xs, [a], rfl, .inl (rd_same h1 ok.sm), h2, fun b hb => ?_, fun H1 hL => sq_eq (rd_same h1 ok.sm) (hL a (by simp))⟩
        have : b = a := by simpa using hb
        subst this
        exact ⟨rd_ne (rd_same h1 ok.sm), .inl (rd_ne h1)⟩
      · exact ⟨a, xs, [], rfl, .inr h1, h2, (fun b hb => (List.not_mem_nil hb).elim), fun H1 _ => .inr h1⟩
  | nw ds' =>
    cases e
    obtain ⟨a, xs, rfl, f, h0, hh, r⟩ := h
    refine ⟨a, xs, [a], rfl, .of hh, r, fun b hb => ?_, fun H1 hL => .of (by rw [hL a (by simp)]; exact hh)⟩
    have : b = a := by simpa using hb
    subst this
    exact ⟨by rw [hh]; simp, .inr (.inl h0)⟩
  | bw i ds' =>
    cases e
    obtain ⟨a, xs, rfl, s, z, f, hh, r⟩ := h
    refine ⟨a, xs, [a], rfl, .of hh, r, fun b hb => ?_, fun H1 hL => .of (by rw [hL a (by simp)]; exact hh)⟩
    have : b = a := by simpa using hb
    subst this
    exact ⟨by rw [hh]; simp, .inr (.inr ⟨i, _, hB _ _ rfl, z, s⟩)⟩
theorem rr_tuple {B : List Nat} {r : R} {v : V} {ds : List D} (h : RR K σ env H F' H' r v) (e : r.d = .tuple ds) (ok : Ok F' H') : ∃ (a : Addr) (xs : List V) (L : List Addr), v = .ref a ∧ SqT K H' a xs ∧ RpL K F' xs ds ∧ (∀ b ∈ L, Cnd B σ env H F' H' b) ∧ ∀ H1 : Hp, (∀ b ∈ L, H1 b = H' b) → SqT K H1 a xs := by
  cases r with
  | fz d =>
    cases e
    cases h with
    | @tup a xs _ h1 h2 =>
      rcases h1 with h1 | ⟨_, h1⟩
      rotate_left
      · exact ⟨a, xs, [], rfl, .inr h1, h2, (fun b hb => (List.not_mem_nil hb).elim), fun H1 _ => .inr h1⟩
      have h1 : Rd F' a (.tup xs) := .inl h1
      refine ⟨a, xs, [a], rfl, .inl (rd_same h1 ok.sm), h2, fun b hb => ?_, fun H1 hL => sqT_eq (rd_same h1 ok.sm) (hL a (by simp))⟩
      have : b = a := by simpa using hb
      subst this
      exact ⟨rd_ne (rd_same h1 ok.sm), .inl (rd_ne h1)⟩
  | nw ds' => cases e
  | bw i ds' => cases e
theorem Cnd.sub {B B' : List Nat} {a : Addr} (h : Cnd B σ env H F' H' a) (hs : ∀ i ∈ B, i ∈ B') : Cnd B' σ env H F' H' a := by
  refine ⟨h.1, ?_⟩
  rcases h.2 with h | h | ⟨i, ds, h1, h2⟩
  · exact .inl h
  · exact .inr (.inl h)
  · exact .inr (.inr ⟨i, ds, hs i h1, h2⟩)
theorem pr_nobw {r : PR} {i : Nat} {ds : List D} (h : r.r = .bw i ds) : False := by cases r <;> cases h
theorem lent_nobw {b : Bool} {r : Rs PR} {i : Nat} {ds : List D} (h : lentR b r = .ok (.bw i ds)) : False := by
  unfold lentR at h
  split at h
  · unfold lent at h
    split at h
    · split at h <;> cases h
    · split at h <;> cases h
  · split at h <;> cases h
  · cases h
theorem bindOk {α β : Type} {r : Rs α} {f : α → Rs β} {b : β} (h : r.bind f = .ok b) : ∃ a, r = .ok a ∧ f a = .ok b := by
  cases r with
  | ok a => exact ⟨a, rfl, h⟩
  | ex c p => cases h
  | no => cases h
theorem bw_of (tb : Tb) (env : SEnv) : ∀ {p : PX} {i : Nat} {ds : List D}, ev tb p env = .ok (.bw i ds) → i ∈ bwOf p
  | .var j, i, ds, h => by
    simp only [ev] at h
    split at h
    · rename_i s e
      cases s <;> simp only [slotR] at h <;> cases h
      simp [bwOf]
    · cases h
  | .int _, i, ds, h => by simp only [ev] at h; cases h
  | .bool _, i, ds, h => by simp only [ev] at h; cases h
  | .none, i, ds, h => by simp only [ev] at h; cases h
  | .str _, i, ds, h => by simp only [ev] at h; cases h
  | .glob _, i, ds, h => by simp only [ev] at h; split at h <;> cases h
  | .bin op a b, i, ds, h => by
    simp only [ev] at h
    obtain ⟨x, _, h⟩ := bindOk h
    obtain ⟨y, _, h⟩ := bindOk h
    split at h
    · exact (pr_nobw (Rs.ok.inj h)).elim
    · cases h
  | .neg a, i, ds, h => by
    simp only [ev] at h
    obtain ⟨x, _, h⟩ := bindOk h
    split at h <;> cases h
  | .cmp op a b, i, ds, h => by
    simp only [ev] at h
    obtain ⟨x, _, h⟩ := bindOk h
    obtain ⟨y, _, h⟩ := bindOk h
    split at h <;> cases h
  | .chain _ _ a b c, i, ds, h => by
    simp only [ev] at h
    obtain ⟨x, _, h⟩ := bindOk h
    obtain ⟨y, _, h⟩ := bindOk h
    split at h
    · obtain ⟨z, _, h⟩ := bindOk h
      split at h <;> cases h
    · cases h
    · cases h
  | .and a b, i, ds, h => by
    simp only [ev] at h
    obtain ⟨x, _, h⟩ := bindOk h
    split at h
    · exact bw_of tb env (p := b) h
    · cases h
    · cases h
  | .or a b, i, ds, h => by
    simp only [ev] at h
    obtain ⟨x, _, h⟩ := bindOk h
    split at h
    · cases h
    · exact bw_of tb env (p := b) h
    · cases h
  | .not a, i, ds, h => by
    simp only [ev] at h
    obtain ⟨x, _, h⟩ := bindOk h
    split at h <;> cases h
  | .ife c a b, i, ds, h => by
    simp only [ev] at h
    obtain ⟨x, _, h⟩ := bindOk h
    split at h
    · exact List.mem_append_left _ (bw_of tb env (p := a) h)
    · exact List.mem_append_right _ (bw_of tb env (p := b) h)
    · cases h
  | .idx a b, i, ds, h => by
    simp only [ev] at h
    obtain ⟨x, _, h⟩ := bindOk h
    obtain ⟨y, _, h⟩ := bindOk h
    split at h <;> cases h
  | .slc a lo hi, i, ds, h => by
    simp only [ev] at h
    obtain ⟨x, _, h⟩ := bindOk h
    obtain ⟨y, _, h⟩ := bindOk h
    split at h
    · obtain ⟨z, _, h⟩ := bindOk h
      split at h
      · split at h
        · exact (pr_nobw (Rs.ok.inj h)).elim
        · cases h
      · cases h
    · cases h
  | .tup as, i, ds, h => by
    simp only [ev] at h
    obtain ⟨x, _, h⟩ := bindOk h
    split at h <;> cases h
  | .lst as, i, ds, h => by
    simp only [ev] at h
    obtain ⟨x, _, h⟩ := bindOk h
    split at h <;> cases h
  | .call f as, i, ds, h => by
    simp only [ev] at h
    obtain ⟨x, _, h⟩ := bindOk h
    exact (lent_nobw h).elim
  | .pri f as, i, ds, h => by
    simp only [ev] at h
    obtain ⟨x, _, h⟩ := bindOk h
    split at h
    · exact (pr_nobw (Rs.ok.inj h)).elim
    · cases h
  | .fs4 s a t b, i, ds, h => by
    simp only [ev] at h
    obtain ⟨x, _, h⟩ := bindOk h
    split at h
    · split at h <;> cases h
    · cases h
  | .mth f o as, i, ds, h => by
    simp only [ev] at h
    obtain ⟨x, _, h⟩ := bindOk h
    split at h
    · split at h
      · exact (pr_nobw (Rs.ok.inj h)).elim
      · cases h
    · cases h
  | .isi a t, i, ds, h => by
    simp only [ev] at h
    obtain ⟨x, _, h⟩ := bindOk h
    cases h
  | .isx _ _, i, ds, h => by simp only [ev] at h; split at h <;> cases h
  | .isv _, i, ds, h => by simp only [ev] at h; split at h <;> cases h
  | .xat _ _, i, ds, h => by simp only [ev] at h; split at h <;> cases h
  | .lcm _ _ _ it _ _, i, ds, h => by
    simp only [ev] at h
    obtain ⟨x, _, h⟩ := bindOk h
    split at h
    · cases h
    · obtain ⟨y, _, h⟩ := bindOk h
      cases h
  | .dsub _ k, i, ds, h => by
    simp only [ev] at h
    split at h
    · obtain ⟨x, _, h⟩ := bindOk h
      split at h <;> cases h
    · cases h
  | .dget _ k d, i, ds, h => by
    simp only [ev] at h
    split at h
    · obtain ⟨x, _, h⟩ := bindOk h
      obtain ⟨x, _, h⟩ := bindOk h
      split at h <;> cases h
    · cases h
  | .din _ k _, i, ds, h => by
    simp only [ev] at h
    split at h
    · obtain ⟨x, _, h⟩ := bindOk h
      split at h <;> cases h
    · cases h
  | .isxs _ _, i, ds, h => by
    simp only [ev] at h
    split at h <;> cases h
  | .maxd _ _, i, ds, h => by
    simp only [ev] at h
    obtain ⟨x, _, h⟩ := bindOk h
    split at h
    · split at h <;> cases h
    · cases h
  | .edict, i, ds, h => by simp only [ev] at h; cases h
  | .dlst _, i, ds, h => by
    simp only [ev] at h
    split at h <;> cases h
  | .lci _ _ _ _ _, i, ds, h => by
    simp only [ev] at h
    split at h
    · split at h
      · cases h
      · obtain ⟨y, _, h⟩ := bindOk h
        cases h
    · cases h
  | .srtsz _, i, ds, h => by
    simp only [ev] at h
    obtain ⟨x, _, h⟩ := bindOk h
    split at h
    · split at h <;> cases h
    · cases h
  | .dsrt _, i, ds, h => by
    simp only [ev] at h
    split at h
    · split at h <;> cases h
    · cases h
  | .lcd _ _ _ _ _ _, i, ds, h => by
    simp only [ev] at h
    split at h
    · split at h
      · cases h
      · obtain ⟨y, _, h⟩ := bindOk h
        cases h
    · cases h
  | .dlen _, i, ds, h => by
    simp only [ev] at h
    split at h
    · split at h <;> cases h
    · cases h
  | .rng _, i, ds, h => by simp only [ev] at h; cases h
  | .enum _, i, ds, h => by simp only [ev] at h; cases h
  | .zip _ _, i, ds, h => by simp only [ev] at h; cases h
  | .rev _, i, ds, h => by simp only [ev] at h; cases h
  | .revrng _, i, ds, h => by simp only [ev] at h; cases h
  | .ditems _, i, ds, h => by simp only [ev] at h; cases h
  | .dkeys _, i, ds, h => by simp only [ev] at h; cases h
theorem get_lt {α : Type} {xs : List α} {i : Nat} (h : i < xs.length) : ∃ x, xs[i]? = some x := ⟨xs[i], List.getElem?_eq_getElem h⟩
theorem wk_list {L : List Addr} {a : Addr} {xs : List V} {ds : List D} (rp : RpL K F' xs ds) (hs : ∀ H1 : Hp, (∀ b ∈ L, H1 b = H' b) → SqL K H1 a xs) : WkA K L H' F' ds (Itl K a) := by
  intro H1 i hL
  have sq := hs H1 hL
  have hl := rp.length
  refine ⟨fun hi => ?_, fun hi => ⟨xs, sq, by omega⟩, fun x H2 F1 hi y ok sm => ?_⟩
  · obtain ⟨x, hx⟩ := get_lt (xs := xs) (i := i) (by omega)
    exact ⟨xs, x, sq, hx⟩
  · obtain ⟨rfl, y⟩ := y
    obtain ⟨d, e, r⟩ := rp.get' (y xs sq)
    exact ⟨F1, d, e, Grow.refl ok, r.mono sm⟩
theorem wk_tup {L : List Addr} {a : Addr} {xs : List V} {ds : List D} (rp : RpL K F' xs ds) (hs : ∀ H1 : Hp, (∀ b ∈ L, H1 b = H' b) → SqT K H1 a xs) : WkA K L H' F' ds (Itt K a) := by
  intro H1 i hL
  have sq := hs H1 hL
  have hl := rp.length
  refine ⟨fun hi => ?_, fun hi => ⟨xs, sq, by omega⟩, fun x H2 F1 hi y ok sm => ?_⟩
  · obtain ⟨x, hx⟩ := get_lt (xs := xs) (i := i) (by omega)
    exact ⟨xs, x, sq, hx⟩
  · obtain ⟨rfl, y⟩ := y
    obtain ⟨d, e, r⟩ := rp.get' (y xs sq)
    exact ⟨F1, d, e, Grow.refl ok, r.mono sm⟩
theorem wk_str (z : Str) : WkA K [] H' F' (strL z) (Its z) := by
  intro H1 i hL
  have hl : (strL z).length = z.cps.size := by unfold strL; simp
  refine ⟨fun hi => by rw [hl] at hi; exact hi, fun hi => by rw [hl] at hi; exact Nat.le_of_eq hi.symm, fun x H2 F1 hi y ok sm => ?_⟩
  obtain ⟨rfl, c, e, rfl⟩ := y
  refine ⟨F1, .str ⟨#[c]⟩, ?_, Grow.refl ok, .str _⟩
  unfold strL
  rw [List.getElem?_map]
  have : z.cps.toList[i]? = some c := by simpa using e
  rw [this]; rfl
theorem wk_rng (lo : Int) (n : Nat) : WkA K [] H' F' ((List.range n).map fun (i : Nat) => PyData.int (lo + i)) (Itr lo n) := by
  intro H1 i hL
  rw [List.length_map, List.length_range]
  refine ⟨fun hi => hi, fun hi => Nat.le_of_eq hi.symm, fun x H2 F1 hi y ok sm => ?_⟩
  obtain ⟨rfl, rfl⟩ := y
  refine ⟨F1, .int (lo + i), ?_, Grow.refl ok, .int _⟩
  rw [List.getElem?_map, List.getElem?_range hi]; rfl
theorem wk_rngC (lo c : Int) (n : Nat) : WkA K [] H' F' ((List.range n).map fun (i : Nat) => PyData.int (lo + i * c)) (Itc lo c n) := by
  intro H1 i hL
  rw [List.length_map, List.length_range]
  refine ⟨fun hi => hi, fun hi => Nat.le_of_eq hi.symm, fun x H2 F1 hi y ok sm => ?_⟩
  obtain ⟨rfl, rfl⟩ := y
  refine ⟨F1, .int (lo + i * c), ?_, Grow.refl ok, .int _⟩
  rw [List.getElem?_map, List.getElem?_range hi]; rfl
theorem enumL_get : ∀ (xs : List D) (n i : Nat), (enumL n xs)[i]? = (xs[i]?).map fun d => .tuple [.int (n + i : Nat), d]
  | [], n, i => by simp [enumL]
  | x :: xs, n, 0 => by simp [enumL]
  | x :: xs, n, i + 1 => by
    have := enumL_get xs (n + 1) i
    simp only [enumL, List.getElem?_cons_succ, this]
    have e : n + 1 + i = n + (i + 1) := by omega
    rw [e]
theorem enumL_len : ∀ (xs : List D) (n : Nat), (enumL n xs).length = xs.length
  | [], n => rfl
  | x :: xs, n => by simp [enumL, enumL_len xs]
theorem zipL_len : ∀ (xs ys : List D), (zipL xs ys).length = min xs.length ys.length
  | [], ys => by simp [zipL]
  | x :: xs, [] => by simp [zipL]
  | x :: xs, y :: ys => by simp [zipL, zipL_len xs ys]
theorem zipL_get : ∀ (xs ys : List D) (i : Nat) (x y : D), xs[i]? = some x → ys[i]? = some y → (zipL xs ys)[i]? = some (.tuple [x, y])
  | x :: xs, y :: ys, 0, a, b, h1, h2 => by simp at h1 h2; subst h1 h2; rfl
  | x :: xs, y :: ys, i + 1, a, b, h1, h2 => by
    simp only [List.getElem?_cons_succ] at h1 h2
    simp only [zipL, List.getElem?_cons_succ]
    exact zipL_get xs ys i a b h1 h2
  | [], _, _, _, _, h1, _ => by simp at h1
  | _ :: _, [], _, _, _, _, h2 => by simp at h2
theorem wk_enum {L : List Addr} {a : Addr} {xs : List V} {ds : List D} (rp : RpL K F' xs ds) (hs : ∀ H1 : Hp, (∀ b ∈ L, H1 b = H' b) → SqL K H1 a xs) : WkA K L H' F' (enumL 0 ds) (Ite K a) := by
  intro H1 i hL
  have sq := hs H1 hL
  have hl := rp.length
  rw [enumL_len]
  refine ⟨fun hi => ?_, fun hi => ⟨xs, sq, by omega⟩, fun x H2 F1 hi y ok sm => ?_⟩
  · obtain ⟨x, hx⟩ := get_lt (xs := xs) (i := i) (by omega)
    exact ⟨xs, x, sq, hx⟩
  · obtain ⟨T, u, rfl, hT, rfl, y⟩ := y
    obtain ⟨d, e, r⟩ := rp.get' (y xs sq)
    have g := Grow.new (o := .tup [.int (i : Nat), u]) ok hT
    refine ⟨_, .tuple [.int (i : Nat), d], ?_, g, .tup (.of upd_same) (.cons (.int _) (.cons ((r.mono sm).mono g.f) .nil))⟩
    rw [enumL_get, e, Nat.zero_add]; rfl
theorem wk_enumT {L : List Addr} {a : Addr} {xs : List V} {ds : List D} (rp : RpL K F' xs ds) (hs : ∀ H1 : Hp, (∀ b ∈ L, H1 b = H' b) → SqT K H1 a xs) : WkA K L H' F' (enumL 0 ds) (IteT K a) := by
  intro H1 i hL
  have sq := hs H1 hL
  have hl := rp.length
  rw [enumL_len]
  refine ⟨fun hi => ?_, fun hi => ⟨xs, sq, by omega⟩, fun x H2 F1 hi y ok sm => ?_⟩
  · obtain ⟨x, hx⟩ := get_lt (xs := xs) (i := i) (by omega)
    exact ⟨xs, x, sq, hx⟩
  · obtain ⟨T, u, rfl, hT, rfl, y⟩ := y
    obtain ⟨d, e, r⟩ := rp.get' (y xs sq)
    have g := Grow.new (o := .tup [.int (i : Nat), u]) ok hT
    refine ⟨_, .tuple [.int (i : Nat), d], ?_, g, .tup (.of upd_same) (.cons (.int _) (.cons ((r.mono sm).mono g.f) .nil))⟩
    rw [enumL_get, e, Nat.zero_add]; rfl
def kOf : D → Bool
  | .list _ => true
  | _ => false
theorem rr_seq {B : List Nat} {r : R} {v : V} {ds : List D} (hB : ∀ i ds, r = .bw i ds → i ∈ B) (h : RR K σ env H F' H' r v) (e : itemsOf r.d = some ds) (ok : Ok F' H') :
    ∃ (a : Addr) (xs : List V) (L : List Addr), v = .ref a ∧ SqX K (kOf r.d) H' a xs ∧ RpL K F' xs ds ∧ (∀ b ∈ L, Cnd B σ env H F' H' b) ∧ ∀ H1 : Hp, (∀ b ∈ L, H1 b = H' b) → SqX K (kOf r.d) H1 a xs := by
  cases ed : r.d with
  | list xs => rw [ed] at e; cases e; exact rr_list hB h ed ok
  | tuple xs => rw [ed] at e; cases e; exact rr_tuple h ed ok
  | _ => rw [ed] at e; cases e
theorem wk_zip {k1 k2 : Bool} {L : List Addr} {a b : Addr} {xs ys : List V} {ds es : List D} (rp : RpL K F' xs ds) (rq : RpL K F' ys es) (hs : ∀ H1 : Hp, (∀ b ∈ L, H1 b = H' b) → SqX K k1 H1 a xs ∧ SqX K k2 H1 b ys) : WkA K L H' F' (zipL ds es) (IzX K k1 k2 a b) := by
  intro H1 i hL
  obtain ⟨sq, sq2⟩ := hs H1 hL
  have hl := rp.length
  have hl2 := rq.length
  rw [zipL_len]
  refine ⟨fun hi => ?_, fun hi => ⟨xs, ys, sq, sq2, by omega, by omega, by omega⟩, fun x H2 F1 hi y ok sm => ?_⟩
  · obtain ⟨x, hx⟩ := get_lt (xs := xs) (i := i) (by omega)
    obtain ⟨y, hy⟩ := get_lt (xs := ys) (i := i) (by omega)
    exact ⟨xs, ys, x, y, sq, sq2, hx, hy⟩
  · obtain ⟨T, u, v, rfl, hT, rfl, y1, y2⟩ := y
    obtain ⟨d, e, r⟩ := rp.get' (y1 xs sq)
    obtain ⟨d2, e2, r2⟩ := rq.get' (y2 ys sq2)
    have g := Grow.new (o := .tup [u, v]) ok hT
    exact ⟨_, .tuple [d, d2], zipL_get _ _ _ _ _ e e2, g, .tup (.of upd_same) (.cons ((r.mono sm).mono g.f) (.cons ((r2.mono sm).mono g.f) .nil))⟩
theorem rev_get {α : Type} {xs : List α} {i : Nat} (h : i < xs.length) : xs.reverse[i]? = xs[xs.length - 1 - i]? := List.getElem?_reverse h
theorem wk_rev {L : List Addr} {a : Addr} {xs : List V} {ds : List D} (rp : RpL K F' xs ds) (hs : ∀ H1 : Hp, (∀ b ∈ L, H1 b = H' b) → SqL K H1 a xs) : WkA K L H' F' ds.reverse (Itv K a xs.length) := by
  intro H1 i hL
  have sq := hs H1 hL
  have hl := rp.length
  rw [List.length_reverse]
  refine ⟨fun hi => ?_, fun hi => by show xs.length ≤ i; omega, fun x H2 F1 hi y ok sm => ?_⟩
  · obtain ⟨x, hx⟩ := get_lt (xs := xs) (i := xs.length - 1 - i) (by omega)
    exact ⟨by omega, xs, x, sq, hx⟩
  · obtain ⟨rfl, y⟩ := y
    obtain ⟨d, e, r⟩ := rp.get' (y xs sq)
    exact ⟨F1, d, by rw [rev_get hi, ← hl]; exact e, Grow.refl ok, r.mono sm⟩
theorem wk_revT {L : List Addr} {a : Addr} {xs : List V} {ds : List D} (rp : RpL K F' xs ds) (hs : ∀ H1 : Hp, (∀ b ∈ L, H1 b = H' b) → SqT K H1 a xs) : WkA K L H' F' ds.reverse (ItvT K a xs.length) := by
  intro H1 i hL
  have sq := hs H1 hL
  have hl := rp.length
  rw [List.length_reverse]
  refine ⟨fun hi => ?_, fun hi => by show xs.length ≤ i; omega, fun x H2 F1 hi y ok sm => ?_⟩
  · obtain ⟨x, hx⟩ := get_lt (xs := xs) (i := xs.length - 1 - i) (by omega)
    exact ⟨by omega, xs, x, sq, hx⟩
  · obtain ⟨rfl, y⟩ := y
    obtain ⟨d, e, r⟩ := rp.get' (y xs sq)
    exact ⟨F1, d, by rw [rev_get hi, ← hl]; exact e, Grow.refl ok, r.mono sm⟩

/-! ### the rules -/
theorem sni_leaf {p : PX} (s : SnV tb p) (hI : ∀ env, evI tb p env = (ev tb p env).bind fun x => Rs.of (walkD x.d)) (hc : ∀ cs e, chk p .i cs e = true → chk p .v cs e = true) : SnI tb p := by
  intro X kx xr W cs w tg e h ht env σ F0 H0 F H R' E q
  have h := hc cs e h
  rw [hI] at q
  cases ex : ev tb p env with
  | ok x =>
    cases ed : x.d with
    | list ds =>
      refine (pi_list (peW e)).w ?_
      refine s w h E (q.bind.imp fun y F1 H1 ey g k v rv => ?_)
      rw [ex] at ey
      cases ey
      rw [ed] at k
      obtain ⟨a, xs, L, rfl, h1, h2, h3, h4⟩ := rr_list (B := bwOf p) (fun i ds' e => bw_of tb env (e ▸ ex)) rv ed g.ok
      exact ⟨a, rfl, ⟨xs, h1⟩, k F1 H1 (Grow.refl g.ok) _ ⟨L, h3, wk_list h2 h4⟩⟩
    | tuple ds =>
      refine (pi_tup (peW e)).w ?_
      refine s w h E (q.bind.imp fun y F1 H1 ey g k v rv => ?_)
      rw [ex] at ey
      cases ey
      rw [ed] at k
      obtain ⟨a, xs, L, rfl, h1, h2, h3, h4⟩ := rr_tuple rv ed g.ok
      exact ⟨a, rfl, ⟨xs, h1⟩, k F1 H1 (Grow.refl g.ok) _ ⟨L, h3, wk_tup h2 h4⟩⟩
    | str z =>
      refine (pi_str (peW e)).w ?_
      refine s w h E (q.bind.imp fun y F1 H1 ey g k v rv => ?_)
      rw [ex] at ey
      cases ey
      rw [ed] at k
      exact ⟨z, RA.str (ed ▸ rv.ra), k F1 H1 (Grow.refl g.ok) _ ⟨[], (fun b hb => (List.not_mem_nil hb).elim), wk_str z⟩⟩
    | _ => rw [ex] at q; simp only [Rs.bind, ed, walkD, Rs.of] at q; exact q.elim
  | ex c p' =>
    refine (pi_list (peW e)).w ?_
    refine s w h E (q.bind.imp fun y F1 H1 ey g k v rv => ?_)
    rw [ex] at ey; cases ey
  | no => rw [ex] at q; exact q.elim
theorem Paired.two {γ δ : Type} {G : γ → δ → Prop} {a b : γ} {l : List δ} (h : Paired G [a, b] l) : ∃ x y, l = [x, y] ∧ G a x ∧ G b y := by
  cases h with
  | cons h t => cases t with
    | cons h2 t => cases t; exact ⟨_, _, rfl, h, h2⟩
theorem Rs.ofC {α : Type} {o : Option α} {C : α → Hp → Hp → Prop} (k : Pst xr W σ F H (Rs.of o) C) : ∃ a, o = some a ∧ ∀ F' H', Grow F H F' H' → C a F' H' := by
  cases o with
  | none => exact k.elim
  | some a => exact ⟨a, rfl, k⟩
theorem LIM_lt : (LIM : Int) < 2 ^ 62 := by unfold LIM; decide
theorem ints_of : ∀ {rs : List R} {vs : List V} {ns : List Int}, RRs K σ env H F' H' rs vs → rs.map R.d = ns.map PyData.int → vs = ns.map V.int
  | [], _, [], .nil, _ => rfl
  | _ :: _, _, [], _, e => by simp at e
  | [], _, _ :: _, _, e => by simp at e
  | r :: rs, _, n :: ns, .cons h t, e => by
    rw [List.map_cons, List.map_cons] at e
    obtain ⟨e1, e2⟩ := List.cons.inj e
    rw [List.map_cons, ← ints_of t e2, ← h.int_of e1]
theorem sni_revrng {a : PX} (ha : SnV tb a) : SnI tb (.revrng a) := by
  intro X kx xr W cs w tg e h ht env σ F0 H0 F H R' E q
  simp only [chk, isI, Bool.true_and] at h
  split at h
  · rename_i x px y py o p1 p2
    simp only [Bool.and_eq_true, decide_eq_true_eq] at h
    obtain ⟨⟨⟨⟨⟨h1, h2⟩, h3⟩, h4⟩, h5⟩, h6⟩ := h
    subst h2 h4
    obtain ⟨g1, g2, g3⟩ := gloB_of w h1
    obtain ⟨g4, g5, g6⟩ := gloB_of w h3
    have hm : X.mg "range" = none := w.bi _ (by unfold blts; decide)
    have hm2 : X.mg "reversed" = none := w.bi _ (by unfold blts; decide)
    simp only [evI] at q
    refine (pi_revR g1 hm2 (prg_1 g4 hm (peW o) (star_of h5))).w ?_
    refine ha w h6 E (q.bind.imp fun r F1 H1 ex g k v rv => ?_)
    have ra := rv.ra
    cases ed : r.d with
    | int n =>
      rw [ed] at k ra
      simp only at k
      split at k
      · rename_i c
        obtain rfl : v = .int n := ra.int
        have := LIM_lt
        refine ⟨n, rfl, by omega, by omega, by omega, by omega, ?_⟩
        have e1 : (n - 0).toNat = n.toNat := by rw [Int.sub_zero]
        rw [e1]
        exact k F1 H1 (Grow.refl g.ok) _ ⟨[], (fun b hb => (List.not_mem_nil hb).elim), wk_rngC _ _ _⟩
      · exact k.elim
    | _ => rw [ed] at k; exact k.elim
  · cases h
theorem sni_rng {as : PXs} (ha : SnL tb as) : SnI tb (.rng as) := by
  intro X kx xr W cs w tg e h ht env σ F0 H0 F H R' E q
  simp only [chk, isI, Bool.true_and] at h
  split at h
  · rename_i x px e1 es pos
    simp only [Bool.and_eq_true, decide_eq_true_eq] at h
    obtain ⟨⟨⟨h1, h2⟩, h3⟩, h4⟩ := h
    subst h2
    obtain ⟨g1, g2, g3⟩ := gloB_of w h1
    have hm : X.mg "range" = none := w.bi _ (by unfold blts; decide)
    simp only [evI] at q
    obtain ⟨s1, a0, as', e0, c0⟩ := chks_head h4
    cases es with
    | nil =>
      refine (pi_range1 g1 hm (paW [e1]) (star_of s1)).w ?_
      refine ha.a w h4 E (q.bind.imp fun rs F1 H1 er g k vs rvs => ?_)
      obtain ⟨ds, e2, k⟩ := Rs.ofC k
      have hl := evs_len er
      rw [chks_len h4] at hl
      unfold rngD at e2
      split at e2
      · rename_i n en
        split at e2
        · rename_i c
          cases e2
          have ev := ints_of (ns := [n]) rvs en
          subst ev
          have := LIM_lt
          refine ⟨n, rfl, by omega, by omega, k F1 H1 (Grow.refl g.ok) _ ⟨[], (fun b hb => (List.not_mem_nil hb).elim), ?_⟩⟩
          have := wk_rng (K := X.K) (H' := H1) (F' := F1) 0 n.toNat
          unfold rngL
          rw [Int.sub_zero]
          exact this
        · cases e2
      · rename_i m n en
        have := congrArg List.length en
        simp [hl] at this
      · rename_i m n o en
        have := congrArg List.length en
        simp [hl] at this
      · cases e2
    | cons e2' es =>
      cases es with
      | nil =>
        obtain ⟨s2, a2, as2, e02, c02⟩ := chks_head c0
        refine (pi_range2 g1 hm (paW [e1, e2']) ((star_of s1).trans (congrArg _ (star_of s2))) (star_of s2)).w ?_
        refine ha.a w h4 E (q.bind.imp fun rs F1 H1 er g k vs rvs => ?_)
        obtain ⟨ds, e2, k⟩ := Rs.ofC k
        have hl := evs_len er
        rw [chks_len h4] at hl
        unfold rngD at e2
        split at e2
        · rename_i n en
          have := congrArg List.length en
          simp [hl] at this
        · rename_i m n en
          split at e2
          · rename_i c
            cases e2
            have ev := ints_of (ns := [m, n]) rvs en
            subst ev
            have := LIM_lt
            exact ⟨m, n, rfl, ⟨by omega, by omega, by omega, by omega⟩, k F1 H1 (Grow.refl g.ok) _ ⟨[], (fun b hb => (List.not_mem_nil hb).elim), wk_rng m (n - m).toNat⟩⟩
          · cases e2
        · rename_i m n o en
          have := congrArg List.length en
          simp [hl] at this
        · cases e2
      | cons e3' es =>
        cases es with
        | cons _ _ => simp at h3; omega
        | nil =>
          refine (pi_range3 g1 hm (paW [e1, e2', e3']) (star_of s1) (hpl_of c0)).w ?_
          refine ha.a w h4 E (q.bind.imp fun rs F1 H1 er g k vs rvs => ?_)
          obtain ⟨ds, e2, k⟩ := Rs.ofC k
          have hl := evs_len er
          rw [chks_len h4] at hl
          unfold rngD at e2
          split at e2
          · rename_i n en
            have := congrArg List.length en
            simp [hl] at this
          · rename_i m n en
            have := congrArg List.length en
            simp [hl] at this
          · rename_i i j c en
            have ev := ints_of (ns := [i, j, c]) rvs en
            subst ev
            unfold rngStep at e2
            split at e2
            · rename_i cc
              cases e2
              obtain ⟨c1, c2, c3⟩ := cc
              exact ⟨i, j, c, _, rfl, ⟨c1, c2, c3, PyProof.Rows.rangeSize_toNat i j c⟩, k F1 H1 (Grow.refl g.ok) _ ⟨[], (fun b hb => (List.not_mem_nil hb).elim), wk_rngC i c _⟩⟩
            · cases e2
          · cases e2
  · cases h
theorem isTup_of {tg : Expr} (h : isTupE tg = true) : ∃ es k p, tg = .Tuple es k p := by
  cases tg <;> first | exact ⟨_, _, _, rfl⟩ | cases h
theorem sni_enum {a0 : PX} (ha : SnV tb a0) : SnI tb (.enum a0) := by
  intro X kx xr W cs w tg e h ht env σ F0 H0 F H R' E q
  obtain ⟨es, kk, tp, rfl⟩ := isTup_of (ht rfl)
  simp only [chk, isI, Bool.true_and] at h
  split at h
  · rename_i x px y pos
    simp only [Bool.and_eq_true, decide_eq_true_eq] at h
    obtain ⟨⟨⟨h1, h2⟩, h3⟩, h4⟩ := h
    subst h2
    obtain ⟨g1, g2, g3⟩ := gloB_of w h1
    have hm : X.mg "enumerate" = none := w.bi _ (by unfold blts; decide)
    simp only [evI] at q
    cases ex : ev tb a0 env with
    | ok x =>
      cases ed : x.d with
      | list ds =>
        refine (pi_enum g1 hm (pa_cons (peW y) pa_nil (star_of h3)) (star_of h3)).w ?_
        refine ha w h4 E (q.bind.imp fun r F1 H1 er g k v rv => ?_)
        rw [ex] at er
        cases er
        rw [ed] at k
        obtain ⟨a, xs, L, rfl, h1, h2, h3, h4⟩ := rr_list (B := bwOf (.enum a0)) (fun i ds' e => bw_of tb env (p := a0) (e ▸ ex)) rv ed g.ok
        exact ⟨a, xs, rfl, h1, k F1 H1 (Grow.refl g.ok) _ ⟨L, h3, wk_enum h2 h4⟩⟩
      | tuple ds =>
        refine (pi_enumT g1 hm (pa_cons (peW y) pa_nil (star_of h3)) (star_of h3)).w ?_
        refine ha w h4 E (q.bind.imp fun r F1 H1 er g k v rv => ?_)
        rw [ex] at er
        cases er
        rw [ed] at k
        obtain ⟨a, xs, L, rfl, h1, h2, h3, h4⟩ := rr_tuple rv ed g.ok
        exact ⟨a, xs, rfl, h1, k F1 H1 (Grow.refl g.ok) _ ⟨L, h3, wk_enumT h2 h4⟩⟩
      | _ => rw [ex] at q; simp only [Rs.bind, ed, itemsOf] at q; exact q.elim
    | ex c p' =>
      refine (pi_enum g1 hm (pa_cons (peW y) pa_nil (star_of h3)) (star_of h3)).w ?_
      refine ha w h4 E (q.bind.imp fun r F1 H1 er g k v rv => ?_)
      rw [ex] at er; cases er
    | no => rw [ex] at q; exact q.elim
  · cases h
theorem sni_zip {a0 b0 : PX} (ha : SnV tb a0) (hb : SnV tb b0) : SnI tb (.zip a0 b0) := by
  intro X kx xr W cs w tg e h ht env σ F0 H0 F H R' E q
  obtain ⟨es, kk, tp, rfl⟩ := isTup_of (ht rfl)
  simp only [chk, isI, Bool.true_and] at h
  split at h
  · rename_i x px y z pos
    simp only [Bool.and_eq_true, decide_eq_true_eq] at h
    obtain ⟨⟨⟨⟨⟨h1, h2⟩, h3⟩, h4⟩, h5⟩, h6⟩ := h
    subst h2
    obtain ⟨g1, g2, g3⟩ := gloB_of w h1
    have hm : X.mg "zip" = none := w.bi _ (by unfold blts; decide)
    simp only [evI] at q
    obtain ⟨k1, hk1⟩ : ∃ k1, ∀ x, ev tb a0 env = .ok x → k1 = kOf x.d := ⟨(match ev tb a0 env with | .ok x => kOf x.d | _ => true), fun x e => by rw [e]⟩
    obtain ⟨k2, hk2⟩ : ∃ k2, ∀ x, ev tb b0 env = .ok x → k2 = kOf x.d := ⟨(match ev tb b0 env with | .ok x => kOf x.d | _ => true), fun x e => by rw [e]⟩
    refine (pi_zipX k1 k2 g1 hm (pa_cons (peW y) (pa_cons (peW z) pa_nil (star_of h4)) (star_of h3)) (star_of h3) (by rw [star_of h4]; rfl)).w ?_
    refine ha w h5 E (q.bind.imp fun r F1 H1 er g k v rv => ?_)
    refine hb w h6 (E.grow g) (k.bind.imp fun r2 F2 H2 er2 g2 k2' v2 rv2 => ?_)
    obtain ⟨ds, e2, k3⟩ := Rs.ofC k2'
    have rv' := rv.grow g2
    unfold zipD at e2
    split at e2
    · rename_i xs ys d1 d2
      cases e2
      obtain ⟨a, xs, L, rfl, h1, h2, h3, h4⟩ := rr_seq (B := bwOf (.zip a0 b0)) (fun i ds' e => List.mem_append_left _ (bw_of tb env (p := a0) (e ▸ er))) rv' d1 g2.ok
      obtain ⟨b, ys, L2, rfl, y1, y2, y3, y4⟩ := rr_seq (B := bwOf (.zip a0 b0)) (fun i ds' e => List.mem_append_right _ (bw_of tb env (p := b0) (e ▸ er2))) rv2 d2 g2.ok
      rw [← hk1 _ er] at h1 h4
      rw [← hk2 _ er2] at y1 y4
      exact ⟨a, b, xs, ys, rfl, h1, y1, k3 F2 H2 (Grow.refl g2.ok) _ ⟨L ++ L2, fun c hc => (List.mem_append.mp hc).elim (fun z => h3 c z) fun z => (y3 c z).back g.h,
        wk_zip h2 y2 fun H1 hL => ⟨h4 H1 fun c hc => hL c (List.mem_append_left _ hc), y4 H1 fun c hc => hL c (List.mem_append_right _ hc)⟩⟩⟩
    · cases e2
  · cases h
theorem sni_rev {a0 : PX} (ha : SnV tb a0) : SnI tb (.rev a0) := by
  intro X kx xr W cs w tg e h ht env σ F0 H0 F H R' E q
  simp only [chk, isI, Bool.true_and] at h
  split at h
  · rename_i x px y pos
    simp only [Bool.and_eq_true, decide_eq_true_eq] at h
    obtain ⟨⟨⟨h1, h2⟩, h3⟩, h4⟩ := h
    subst h2
    obtain ⟨g1, g2, g3⟩ := gloB_of w h1
    have hm : X.mg "reversed" = none := w.bi _ (by unfold blts; decide)
    simp only [evI] at q
    refine (pi_revA g1 hm (peW y) (star_of h3)).w ?_
    refine ha w h4 E (q.bind.imp fun r F1 H1 er g k v rv => ?_)
    cases ed : r.d with
    | list ds =>
      rw [ed] at k
      obtain ⟨a, xs, L, rfl, h1, h2, h3, h4⟩ := rr_list (B := bwOf (.rev a0)) (fun i ds' e => bw_of tb env (p := a0) (e ▸ er)) rv ed g.ok
      exact ⟨a, xs, rfl, .inl ⟨h1, k F1 H1 (Grow.refl g.ok) _ ⟨L, h3, wk_rev h2 h4⟩⟩⟩
    | tuple ds =>
      rw [ed] at k
      obtain ⟨a, xs, L, rfl, h1, h2, h3, h4⟩ := rr_tuple rv ed g.ok
      exact ⟨a, xs, rfl, .inr ⟨h1, k F1 H1 (Grow.refl g.ok) _ ⟨L, h3, wk_revT h2 h4⟩⟩⟩
    | _ => rw [ed] at k; exact k.elim
  · cases h
end
end VL
/-! the value layer, 15: targets, comprehensions -/
namespace VL
open PySem PySem.Spec L2
section
variable {X : Cx} {kx : Kx} {xr : XR} {W : WX} {cs : Cs} {tb : Tb} {K : PySem.W.Frag} {σ : St} {env : SEnv} {F0 H0 F H F' H' F2 H2 : Hp} {Q : VK}

/-! ### slots wiped -/
theorem wipe_get (σ : St) : ∀ (vs : List Nat) (i : Nat), (wipe σ vs)[i]? = if i ∈ vs then (σ[i]?).map (fun _ => none) else σ[i]?
  | [], i => by simp [wipe]
  | v :: vs, i => by
    unfold wipe
    by_cases h : v = i
    · subst h
      rw [List.getElem?_set_self', if_pos List.mem_cons_self, wipe_get σ vs v]
      split
      · cases σ[v]? <;> rfl
      · cases σ[v]? <;> rfl
    · rw [List.getElem?_set_ne h, wipe_get σ vs i]
      have : i ∈ v :: vs ↔ i ∈ vs := by
        rw [List.mem_cons]
        exact ⟨fun z => z.elim (fun e => absurd e.symm h) id, .inr⟩
      simp only [this]
theorem wipe_eq {σ2 : St} {vs : List Nat} (hl : σ2.length = σ.length) (h : ∀ j, j ∉ vs → σ2[j]? = (wipe σ vs)[j]?) : wipe σ2 vs = wipe σ vs := by
  apply List.ext_getElem?
  intro i
  rw [wipe_get, wipe_get]
  by_cases hi : i ∈ vs
  · rw [if_pos hi, if_pos hi]
    rcases Nat.lt_or_ge i σ.length with hl1 | hl1
    · rw [List.getElem?_eq_getElem hl1, List.getElem?_eq_getElem (by omega)]; rfl
    · rw [List.getElem?_eq_none hl1, List.getElem?_eq_none (by omega)]
  · rw [if_neg hi, if_neg hi, h i hi, wipe_get, if_neg hi]
theorem killS_get : ∀ (is : List Nat) (env : SEnv) (i : Nat), (killS is env)[i]? = if i ∈ is then (env[i]?).map (fun _ => Slot.un) else env[i]?
  | [], env, i => by simp [killS]
  | v :: vs, env, i => by
    have : killS (v :: vs) env = killS vs (env.set v .un) := rfl
    rw [this, killS_get vs]
    by_cases h : v = i
    · subst h
      rw [if_pos List.mem_cons_self, List.getElem?_set_self']
      split <;> (cases env[v]? <;> rfl)
    · rw [List.getElem?_set_ne h]
      have : i ∈ v :: vs ↔ i ∈ vs := by
        rw [List.mem_cons]
        exact ⟨fun z => z.elim (fun e => absurd e.symm h) id, .inr⟩
      simp only [this]
theorem killS_len (is : List Nat) (env : SEnv) : (killS is env).length = env.length := by
  induction is generalizing env with
  | nil => rfl
  | cons v vs ih =>
    have : killS (v :: vs) env = killS vs (env.set v .un) := rfl
    rw [this, ih, List.length_set]
theorem EnvOk.wipe (E : EnvOk kx F0 H0 env σ F H) (is : List Nat) : EnvOk kx F0 H0 (VL.killS is env) (L2.wipe σ is) F H := by
  have key : ∀ (i : Nat) (s : Slot), (VL.killS is env)[i]? = some s → s = .un ∨ (env[i]? = some s ∧ (L2.wipe σ is)[i]? = σ[i]?) := fun i s e => by
    rw [killS_get] at e
    by_cases hi : i ∈ is
    · rw [if_pos hi] at e
      cases q : env[i]? with
      | none => rw [q] at e; cases e
      | some u => rw [q] at e; exact .inl (Option.some.inj e).symm
    · rw [if_neg hi] at e
      exact .inr ⟨e, by rw [wipe_get, if_neg hi]⟩
  refine ⟨by rw [killS_len, wipe_length]; exact E.len, fun i s e => ?_, fun i j si sj a e1 e2 o1 o2 s1 s2 => ?_, E.ok, E.f0, E.h0, E.nb⟩
  · rcases key i s e with rfl | ⟨h1, h2⟩
    · trivial
    · rw [h2]; exact E.sl i s h1
  · rcases key i si e1 with rfl | ⟨h1, h2⟩
    · cases o1
    · rcases key j sj e2 with rfl | ⟨h3, h4⟩
      · cases o2
      · rw [h2] at s1
        rw [h4] at s2
        exact E.dj i j si sj a h1 h3 o1 o2 s1 s2

/-! ### targets -/
def gL : List Nat → TGs
  | [] => gNil
  | i :: is => gCons (gName i) (gL is)
def gT (K : PySem.W.Frag) (tg : List Nat) (one : Bool) : TG := match one, tg with
  | true, [i] => gName i
  | _, tg => gTup K tg.length (gL tg)
theorem locB_of (w : Wd X kx xr W cs tb) {x : Str} (h : locB cs x = true) : Loc X.env.scope x ∧ (X.fn x = true ∨ X.env.scope.names.lookup x = some .local) := w.st x h
theorem tgB_ok (w : Wd X kx xr W cs tb) : ∀ {tg : List Nat} {es : List Expr}, tgB cs tg es = true → PGs X es (gL tg) ∧ (assignEach es X.env).length = tg.length ∧ (assignEach es X.env).findIdx? (·.1) = none
  | [], [], _ => ⟨pgs_nil, rfl, rfl⟩
  | [], _ :: _, h => by simp [tgB] at h
  | i :: is, [], h => by simp [tgB] at h
  | i :: is, e :: es, h => by
    unfold tgB at h
    split at h
    · rename_i e1; cases e1
    · rename_i i' is' x p es' e1 e2
      cases e1
      cases e2
      simp only [Bool.and_eq_true] at h
      obtain ⟨⟨h1, h2⟩, h3⟩ := h
      obtain ⟨p1, p2, p3⟩ := tgB_ok w h3
      obtain ⟨l1, l2⟩ := locB_of w h2
      refine ⟨pgs_cons (pg_name w.nd (ixB_of w h1) l1 l2) p1, ?_, ?_⟩
      · show (assignEach es X.env).length + 1 = _
        rw [p2]; rfl
      · show List.findIdx? (·.1) ((false, assign (.Name x p) X.env) :: assignEach es X.env) = none
        rw [List.findIdx?_cons, p3]; rfl
    · cases h
theorem tgt_pg (w : Wd X kx xr W cs tb) (hc : X.calm = true) {tg : List Nat} {one : Bool} {e : Expr} (h : tgtB cs tg one e = true) : PG X e (gT X.K tg one) := by
  unfold tgtB at h
  split at h
  · rename_i x p
    cases tg with
    | nil => simp [tgB] at h
    | cons i is =>
      simp only [tgB, Bool.and_eq_true] at h
      obtain ⟨⟨h1, h2⟩, h3⟩ := h
      cases is with
      | cons _ _ => simp [tgB] at h3
      | nil =>
        obtain ⟨l1, l2⟩ := locB_of w h2
        exact pg_name w.nd (ixB_of w h1) l1 l2
  · rename_i es k p
    obtain ⟨p1, p2, p3⟩ := tgB_ok w h
    have : gT X.K tg false = gTup X.K tg.length (gL tg) := by unfold gT; rfl
    rw [this]
    exact pg_tup hc p1 p2 p3
  · cases h
theorem gL_ok : ∀ {is : List Nat} {ds : List D} {env env' : SEnv} {σ : St} {vs : List V} {Q : St → Hp → Prop}, setAll is ds env = some env' → RpL kx.K F vs ds → EnvOk kx F0 H0 env σ F H →
    (∀ σ', EnvOk kx F0 H0 env' σ' F H → σ'.length = σ.length → (∀ j, j ∉ is → σ'[j]? = σ[j]?) → Q σ' H) → gL is vs σ H Q
  | [], [], env, env', σ, vs, Q, e, r, E, h => by
    cases e
    cases r
    exact ⟨rfl, h σ E rfl fun _ _ => rfl⟩
  | [], _ :: _, _, _, _, _, _, e, _, _, _ => by cases e
  | _ :: _, [], _, _, _, _, _, e, _, _, _ => by cases e
  | i :: is, d :: ds, env, env', σ, vs, Q, e, r, E, h => by
    cases r with
    | cons r1 r2 =>
      refine ⟨_, _, rfl, ?_⟩
      refine gL_ok (is := is) e r2 (E.setFz r1 i) fun σ' E' hl hj => h σ' E' (by rw [hl, List.length_set]) fun j hn => ?_
      rw [List.mem_cons, not_or] at hn
      rw [hj j hn.2, List.getElem?_set_ne (Ne.symm hn.1)]
theorem setAll_len : ∀ {is : List Nat} {ds : List D} {env env' : SEnv}, setAll is ds env = some env' → is.length = ds.length
  | [], [], _, _, _ => rfl
  | [], _ :: _, _, _, e => by cases e
  | _ :: _, [], _, _, e => by cases e
  | i :: is, d :: ds, env, env', e => by
    rw [List.length_cons, List.length_cons, setAll_len (is := is) (ds := ds) (env := env.set i (.fz d)) e]
theorem gT_ok {tg : List Nat} {one : Bool} {d : D} {env' : SEnv} {v : V} {Q : St → Hp → Prop} (e : takes tg one d env = some env') (r : Rp kx.K F v d) (E : EnvOk kx F0 H0 env σ F H)
    (h : ∀ σ', EnvOk kx F0 H0 env' σ' F H → σ'.length = σ.length → (∀ j, j ∉ tg → σ'[j]? = σ[j]?) → Q σ' H) : gT kx.K tg one v σ H Q := by
  unfold takes at e
  split at e
  · rename_i i
    cases e
    exact h _ (E.setFz r i) (List.length_set ..) fun j hj => List.getElem?_set_ne (fun q => hj (by rw [q]; simp))
  · rename_i ds
    have : gT kx.K tg false = gTup kx.K tg.length (gL tg) := by unfold gT; rfl
    rw [this]
    cases r with
    | tup h1 h2 =>
      refine ⟨_, _, rfl, (h1.mono E.ok.sm).seq, ?_, gL_ok e h2 E h⟩
      rw [h2.length, setAll_len e]
  · cases e
end
end VL
/-! the value layer, 16: comprehensions -/
namespace VL
open PySem PySem.Spec L2
section
variable {X : Cx} {kx : Kx} {xr : XR} {W : WX} {cs : Cs} {tb : Tb} {K : PySem.W.Frag} {σ : St} {env : SEnv} {F0 H0 F H F' H' F2 H2 : Hp} {Q : VK}
theorem blkB_of {N : List Str} {sc scope : Scope} {own : List (Str × Nat)} (h : blkB N sc scope own = true) : BlkOk N sc scope own := by
  unfold blkB at h
  simp only [Bool.and_eq_true, List.all_eq_true, decide_eq_true_eq] at h
  obtain ⟨⟨⟨h1, h2⟩, h3⟩, h4⟩ := h
  refine ⟨?_, fun y hy => h2 y hy, fun p hp => h3 p hp, fun y hy e => ?_, fun y hy e => ?_⟩
  · split at h1
    · assumption
    · cases h1
  · have := h4 y hy
    rw [e] at this
    simp only at this
    split at this
    · rename_i q; exact .inl q
    · rename_i q; exact .inr q
    · cases this
  · have := h4 y hy
    rcases e with e | e
    · rw [e] at this
      simp only [Bool.or_eq_true, decide_eq_true_eq, Bool.not_eq_true', decide_eq_false_iff_not] at this
      exact this
    · rw [e] at this
      simp only [Bool.or_eq_true, decide_eq_true_eq, Bool.not_eq_true', decide_eq_false_iff_not] at this
      exact this
/-- in a comprehension's block -/
theorem Wd.blk (w : Wd X kx xr W cs tb) (hc : X.calm = true) {scope : Scope} {s : Shared} {Hb : Hp} {C : Addr} {cl : List (Str × Addr)} {fp : List Addr} :
    Wd (X.blk s Hb scope (compEnvC scope cl C X.env) fp) kx xr (fun _ _ _ _ => False) { cs with sc := relS scope cs.sc, raw := scope } tb := by
  have es : (X.blk s Hb scope (compEnvC scope cl C X.env) fp).env.scope = relS scope cs.sc := by rw [← w.sc]; rfl
  refine ⟨w.kK, w.N, es, w.nd, w.cm, w.un, takes0, fun x h => ?_, w.fn, w.gl, w.bi, w.dp, w.xg, fun c p b F hx => absurd hx (w.nx hc c p b F), w.nx, w.kf⟩
  have h : (match scope.names.lookup x with | some .local => true | some .cell => true | _ => false) = true := h
  have key : ∀ k, k ≠ .free → scope.names.lookup x = some k → (X.blk s Hb scope (compEnvC scope cl C X.env) fp).env.scope.names.lookup x = some k := fun k hk e => by
    rw [es]
    exact lookup_relS_keep hk e
  split at h
  · rename_i e
    exact ⟨.inl (key _ (by decide) e), .inr (key _ (by decide) e)⟩
  · rename_i e
    refine ⟨.inr (key _ (by decide) e), .inl ?_⟩
    show (scope.names.lookup x == some .cell) = true
    rw [e]; rfl
  · cases h
def wTs (X : Cx) (ifs : List Expr) : TT := fun σ H Q => ∀ pins s, Inv X pins σ H s →
  wpAny (model X.prog X.w) X.A (forIn ifs true fun c r => if r = true then do let ok ← isTrue c X.env (eval c X.env); pure (ForInStep.yield ok) else pure (ForInStep.yield r)) (TP X pins σ Q) X.xe s
theorem ptsW (ifs : List Expr) : PTs X ifs (wTs X ifs) := ⟨fun pins s _ _ _ I h => h pins s I⟩
theorem _root_.L2.PTs.w {ifs : List Expr} {t : TT} {σ : St} {H : Hp} {Q : Bool → Hp → Prop} (h : PTs X ifs t) (q : t σ H Q) : wTs X ifs σ H Q := fun pins s I => h.run pins s σ H Q I q
def testR (tb : Tb) (cond : PXs) (e : SEnv) : Rs Bool := (evs tb cond e).bind fun
  | [] => .ok true
  | [x] => Rs.of (toBool x.d)
  | _ => .no
theorem toBool_d {x : R} {b : Bool} (h : toBool x.d = some b) : x.d = .bool b := toBool_of _ _ h
/-- the tests -/
theorem tests_ok {cond : PXs} {cd : List Expr} (hl : SnL tb cond) (w : Wd X kx xr W cs tb) (h : chkt cond cs cd = true) {Q : Bool → Hp → Prop} (E : EnvOk kx F0 H0 env σ F H)
    (q : Pst xr W σ F H (testR tb cond env) (fun b F' H' => Q b H')) : wTs X cd σ H Q := by
  cases cond with
  | nil =>
    simp only [chkt] at h
    split at h
    · unfold testR at q
      simp only [evs] at q
      exact pts_nil.w (q F H (Grow.refl E.ok))
    · cases h
  | cons a as =>
    simp only [chkt] at h
    split at h
    · rw [Bool.and_eq_true] at h
      obtain ⟨h1, h2⟩ := h
      split at h2
      · unfold testR at q
        simp only [evs] at q
        refine (pts_one (ptW _)).w ?_
        refine hl.1.t w h1 E ?_
        cases ea : ev tb a env with
        | ok r =>
          rw [ea] at q
          simp only [Rs.bind] at q
          intro F1 H1 g
          obtain ⟨b, e1, k⟩ := Rs.ofC (C := fun b F' H' => Q b H') q
          rw [toBool_d e1]
          exact k F1 H1 g
        | ex c p => rw [ea] at q; exact q
        | no => rw [ea] at q; exact q
      · cases h2
    · cases h
theorem Grow.write1 {D : Addr} {o : HO} (g : Grow F H F' H') (h0 : H D = none) (hF : F' D = none) (nt : NoT o) : Grow F H F' (upd H' D o) := by
  refine ⟨g.f, fun b x e => ?_, g.ok.write hF nt, g.n⟩
  rw [upd_ne (ne_of_none e h0)]
  exact g.h b x e
theorem lc_noex {tk : D → Option SEnv} {test : SEnv → Rs Bool} {elt : SEnv → Rs R} : ∀ {ds : List D} {c : Nat} {p : Option D}, lcLoop tk test elt ds ≠ .ex c p
  | [], c, p, h => by cases h
  | d :: ds, c, p, h => by
    unfold lcLoop at h
    split at h
    · cases h
    · split at h
      · split at h
        · split at h
          · split at h
            · cases h
            · cases h
          · cases h
        · cases h
      · exact lc_noex h
      · cases h
theorem noSet_of {e : Expr} {env : PySem.Env} (h : noSetE e = true) : ∀ x, foldedSetIterable e env x = pure x := by
  intro x
  unfold foldedSetIterable
  cases e <;> first | rfl | (simp [noSetE] at h)
theorem tgtB_tup {tg : List Nat} {one : Bool} {t : Expr} (h : tgtB cs tg one t = true) (ho : one = false) : isTupE t = true := by
  subst ho
  cases t <;> first | rfl | (simp [tgtB] at h)
/-- the turns of a comprehension -/
theorem lc_core0 {elt : PX} {tg : List Nat} {one : Bool} {cond : PXs} {scope : Scope} {x : Expr} {cd : List Expr} (he : SnV tb elt) (hl : SnL tb cond) (w : Wd X kx xr W cs tb) (hc : X.calm = true)
    (h3 : chk elt .v { cs with sc := relS scope cs.sc, raw := scope } x = true) (h4 : chkt cond { cs with sc := relS scope cs.sc, raw := scope } cd = true)
    (E : EnvOk kx F0 H0 env σ F H) {ds xs : List PyData} {F1 H1 : Hp} (g1 : Grow F H F1 H1) {J : It} {L : List Addr} (hL : ∀ a ∈ L, H1 a ≠ none) (wa : WkA X.K L H1 F1 ds J) (hsz : ¬ LIM ≤ ds.length)
    {loop : List PyData → Rs (List PyData)} (hloop : lcLoop (fun d => takes tg one d (killS tg env)) (fun e => (evs tb cond e).bind fun | [] => .ok true | [x] => Rs.of (toBool x.d) | _ => .no) (fun e => ev tb elt e) = loop)
    (er : loop ds = .ok xs) {Q : VK} (k1 : ∀ (Fc Hc : Hp), Grow F1 H1 Fc Hc → ∀ v, RR X.K σ env H Fc Hc (.nw xs) v → Q v Hc) :
    ∀ D, H1 D = none → ∃ W : Nat → Nat → Hp → Prop, (∃ m, W 0 m (upd H1 D (.lst []))) ∧ ∀ i m Hc, W i m Hc → (J.stop i Hc ∧ Q (.ref D) Hc) ∨ (J.go i Hc ∧ ∃ Nx : Hp → Prop, (∀ H', Nx H' → ∃ m', m' < m ∧ W (i + 1) m' H') ∧
      ∀ v Hy, J.yld i Hc v Hy → gT X.K tg one v (L2.wipe σ tg) Hy fun σ2 H2 => L2.wipe σ2 tg = L2.wipe σ tg ∧ (∀ (s : Shared) (Hb : Hp) (C : Addr) (cl : List (Str × Addr)) (fp : List Addr), wTs (X.blk s Hb scope (compEnvC scope cl C X.env) fp) cd σ2 H2 fun b H3 =>
        if b = true then (∀ (s : Shared) (Hb : Hp) (C : Addr) (cl : List (Str × Addr)) (fp : List Addr), wE (X.blk s Hb scope (compEnvC scope cl C X.env) fp) x σ2 H3 fun y H4 => ∃ acc, H4 D = some (.lst acc) ∧ acc.length < sizeLine ∧ Nx (upd H4 D (.lst (acc ++ [y])))) else Nx H3)) := by
  intro D hD
  have hDF : F1 D = none := g1.ok.sm.free hD
  refine ⟨fun i m Hc => m = ds.length - i ∧ i ≤ ds.length ∧ ∃ (Fc : Hp) (acc : List V) (ad rest : List PyData), Grow F1 H1 Fc Hc ∧ Fc D = none ∧ Hc D = some (.lst acc) ∧ RpL X.K Fc acc ad ∧ loop (ds.drop i) = .ok rest ∧ ad ++ rest = xs ∧ acc.length ≤ i,
    ⟨ds.length, by omega, Nat.zero_le _, F1, [], [], xs, Grow.own g1.ok hD noT_lst, hDF, upd_same, .nil, by rw [List.drop_zero]; exact er, rfl, Nat.le_refl _⟩, ?_⟩
  rintro i m Hc ⟨rfl, hile, Fc, acc, ad, rest, gc, fD, hDc, racc, erest, hxs, hacc⟩
  have hLc : ∀ a ∈ L, Hc a = H1 a := fun a ha => by
    cases z : H1 a with
    | none => exact absurd z (hL a ha)
    | some o => exact gc.h a o z
  obtain ⟨w1, w2, w3⟩ := wa Hc i hLc
  by_cases hi : i < ds.length
  · refine .inr ⟨w1 hi, fun H' => (fun i m Hc => m = ds.length - i ∧ i ≤ ds.length ∧ ∃ (Fc : Hp) (acc : List V) (ad rest : List PyData), Grow F1 H1 Fc Hc ∧ Fc D = none ∧ Hc D = some (.lst acc) ∧ RpL X.K Fc acc ad ∧ loop (ds.drop i) = .ok rest ∧ ad ++ rest = xs ∧ acc.length ≤ i) (i + 1) (ds.length - (i + 1)) H', fun H' hn => ⟨_, by omega, hn⟩, fun v Hy y => ?_⟩
    obtain ⟨F2, d, edi, g2, rd⟩ := w3 v Hy Fc hi y gc.ok gc.f
    have edrop : ds.drop i = d :: ds.drop (i + 1) := by
      rw [List.drop_eq_getElem_cons hi]
      congr 1
      rw [List.getElem?_eq_getElem hi] at edi
      exact Option.some.inj edi
    rw [edrop, ← hloop] at erest
    unfold lcLoop at erest
    rw [hloop] at erest
    split at erest
    · cases erest
    · rename_i env1 etk
      have E1 : EnvOk kx F0 H0 (killS tg env) (L2.wipe σ tg) F2 Hy := ((E.grow g1).wipe tg).grow (gc.trans g2)
      have fD2 : F2 D = none := g2.n D fD (by rw [hDc]; simp)
      have hD2 : Hy D = some (.lst acc) := g2.h D _ hDc
      have rd' : Rp kx.K F2 v d := by rw [w.kK]; exact rd
      have := gT_ok (Q := fun σ2 H2 => L2.wipe σ2 tg = L2.wipe σ tg ∧ (∀ (s : Shared) (Hb : Hp) (C : Addr) (cl : List (Str × Addr)) (fp : List Addr), wTs (X.blk s Hb scope (compEnvC scope cl C X.env) fp) cd σ2 H2 fun b H3 =>
        if b = true then (∀ (s : Shared) (Hb : Hp) (C : Addr) (cl : List (Str × Addr)) (fp : List Addr), wE (X.blk s Hb scope (compEnvC scope cl C X.env) fp) x σ2 H3 fun y H4 => ∃ acc, H4 D = some (.lst acc) ∧ acc.length < sizeLine ∧
          (fun i m Hc => m = ds.length - i ∧ i ≤ ds.length ∧ ∃ (Fc : Hp) (acc : List V) (ad rest : List PyData), Grow F1 H1 Fc Hc ∧ Fc D = none ∧ Hc D = some (.lst acc) ∧ RpL X.K Fc acc ad ∧ loop (ds.drop i) = .ok rest ∧ ad ++ rest = xs ∧ acc.length ≤ i) (i + 1) (ds.length - (i + 1)) (upd H4 D (.lst (acc ++ [y]))))
        else (fun i m Hc => m = ds.length - i ∧ i ≤ ds.length ∧ ∃ (Fc : Hp) (acc : List V) (ad rest : List PyData), Grow F1 H1 Fc Hc ∧ Fc D = none ∧ Hc D = some (.lst acc) ∧ RpL X.K Fc acc ad ∧ loop (ds.drop i) = .ok rest ∧ ad ++ rest = xs ∧ acc.length ≤ i) (i + 1) (ds.length - (i + 1)) H3)) etk rd' E1
      rw [w.kK] at this
      refine this fun σ2 E2 hl2 hj2 => ⟨wipe_eq (by rw [hl2, wipe_length]) hj2, fun s Hb C cl fp => ?_⟩
      refine tests_ok hl (w.blk hc) h4 E2 ?_
      have g12 : Grow F1 H1 F2 Hy := gc.trans g2
      cases et : testR tb cond env1 with
      | ex c p => simp only [testR] at et; rw [et] at erest; cases erest
      | no => simp only [testR] at et; rw [et] at erest; cases erest
      | ok b =>
        simp only [testR] at et
        rw [et] at erest
        intro F3 H3 g3
        have fD3 : F3 D = none := g3.n D fD2 (by rw [hD2]; simp)
        have hD3 : H3 D = some (.lst acc) := g3.h D _ hD2
        cases b with
        | false =>
          rw [if_neg (by decide)]
          exact ⟨rfl, hi, F3, acc, ad, rest, g12.trans g3, fD3, hD3, racc.mono (g2.f.trans g3.f), erest, hxs, by omega⟩
        | true =>
          rw [if_pos rfl]
          intro s Hb C cl fp
          simp only at erest
          refine he (w.blk hc) h3 (E2.grow g3) ?_
          cases ee : ev tb elt env1 with
          | ex c p => rw [ee] at erest; cases erest
          | no => rw [ee] at erest; cases erest
          | ok r =>
            rw [ee] at erest
            simp only at erest
            intro F4 H4 g4 yv ry
            split at erest
            · rename_i xd ek
              split at erest
              · rename_i ys eys
                cases erest
                obtain ⟨F5, g5, s5, r5⟩ := ry.keep g4 ek
                have fD5 : F5 D = none := g5.n D fD3 (by rw [hD3]; simp)
                have hD5 : H4 D = some (.lst acc) := g5.h D _ hD3
                have g15 : Grow F1 H1 F5 H4 := (g12.trans g3).trans g5
                refine ⟨acc, hD5, ?_, rfl, hi, F5, acc ++ [yv], ad ++ [xd], ys, g15.write1 hD fD5 noT_lst, fD5, upd_same, RpL.append (racc.mono ((g2.f.trans g3.f).trans g5.f)) (.cons r5 .nil), eys, by rw [← hxs]; simp, by simp; omega⟩
                have := sizes (Nat.le_refl LIM)
                omega
              · cases erest
            · cases erest
  · have e : i = ds.length := by omega
    subst e
    refine .inl ⟨w2 rfl, ?_⟩
    rw [List.drop_length, ← hloop] at erest
    cases erest
    rw [List.append_nil] at hxs
    subst hxs
    exact k1 Fc Hc gc _ ⟨D, acc, rfl, fD, g1.h.free hD, hDc, racc⟩
/-- what a comprehension comes to -/
theorem lc_core {elt : PX} {tg : List Nat} {one : Bool} {it : PX} {cond : PXs} {scope : Scope} {x t i : Expr} {cd : List Expr} (he : SnV tb elt) (hi : SnI tb it) (hl : SnL tb cond) (w : Wd X kx xr W cs tb) (hc : X.calm = true)
    (h1 : chk it .i cs i = true) (h2 : tgtB { cs with sc := relS scope cs.sc, raw := scope } tg one t = true) (h3 : chk elt .v { cs with sc := relS scope cs.sc, raw := scope } x = true) (h4 : chkt cond { cs with sc := relS scope cs.sc, raw := scope } cd = true)
    (hp : pairIt it = true → one = false) (E : EnvOk kx F0 H0 env σ F H)
    (q : Pst xr W σ F H (ev tb (.lcm elt tg one it cond scope) env) (fun r F' H' => ∀ v, RR X.K σ env H F' H' r v → Q v H')) :
    tLc (wI X t i) (gT X.K tg one) (fun σ H Q => ∀ (s : Shared) (Hb : Hp) (C : Addr) (cl : List (Str × Addr)) (fp : List Addr), wTs (X.blk s Hb scope (compEnvC scope cl C X.env) fp) cd σ H Q)
      (fun σ H Q => ∀ (s : Shared) (Hb : Hp) (C : Addr) (cl : List (Str × Addr)) (fp : List Addr), wE (X.blk s Hb scope (compEnvC scope cl C X.env) fp) x σ H Q) tg σ H Q := by
  simp only [ev] at q
  refine hi w h1 (fun z => tgtB_tup h2 (hp z)) E (q.bind.imp fun ds F1 H1 ed g1 k1 J wk => ?_)
  obtain ⟨L, hL, wa⟩ := wk
  split at k1
  · exact k1.elim
  rename_i hsz
  generalize hloop : lcLoop (fun d => takes tg one d (killS tg env)) (fun e => (evs tb cond e).bind fun | [] => .ok true | [x] => Rs.of (toBool x.d) | _ => .no) (fun e => ev tb elt e) = loop at k1
  cases er : loop ds with
  | ex c p => rw [← hloop] at er; exact (lc_noex er).elim
  | no => rw [er] at k1; exact k1.elim
  | ok xs =>
    rw [er] at k1
    simp only [Rs.bind] at k1
    exact lc_core0 he hl w hc h3 h4 E g1 (fun a ha => (hL a ha).1) wa hsz hloop er k1
theorem sn_lcm {elt : PX} {tg : List Nat} {one : Bool} {it : PX} {cond : PXs} {scope : Scope} (he : SnV tb elt) (hi : SnI tb it) (hl : SnL tb cond) : SnV tb (.lcm elt tg one it cond scope) := by
  intro X kx xr W cs w e h env σ F0 H0 F H Q E q
  simp only [chk, lf_v, Bool.true_and, Bool.and_eq_true] at h
  obtain ⟨hcm, h⟩ := h
  have hc := w.cm hcm
  split at h
  · rename_i x t i cd sc pos
    simp only [Bool.and_eq_true, decide_eq_true_eq] at h
    obtain ⟨⟨⟨⟨⟨⟨⟨⟨e0, hb⟩, ho⟩, h1⟩, h2⟩, h3⟩, h4⟩, h5⟩, h6⟩ := h
    subst e0
    have hb' := blkB_of hb
    rw [← w.N, ← w.sc] at hb'
    have := pe_lc (X := X) (elt := x) (tg := t) (iter := i) (ifs := cd) (pos := pos) (g := gT X.K tg one)
      (tt := fun σ H Q => ∀ (s : Shared) (Hb : Hp) (C : Addr) (cl : List (Str × Addr)) (fp : List Addr), wTs (X.blk s Hb sc (compEnvC sc cl C X.env) fp) cd σ H Q)
      (te := fun σ H Q => ∀ (s : Shared) (Hb : Hp) (C : Addr) (cl : List (Str × Addr)) (fp : List Addr), wE (X.blk s Hb sc (compEnvC sc cl C X.env) fp) x σ H Q) hc w.nd (piW t i) hb'
      (fun s Hb C cl fp => tgt_pg (w.blk hc) hc h2) (fun s Hb C cl fp => ⟨fun pins s' σ H' Q I q => q s Hb C cl fp pins s' I⟩) (fun s Hb C cl fp => ⟨fun pins s' σ H' Q I q => q s Hb C cl fp pins s' I⟩) (noSet_of h5)
    refine this.w ?_
    rw [w.N, ho]
    exact lc_core he hi hl w hc h1 h2 h3 h4 (fun z => by simpa [z] using h6) E q
  · cases h
end
end VL
/-! the value layer, 16b: comprehensions over a dict -/
namespace VL
open PySem PySem.Spec L2
section
variable {X : Cx} {kx : Kx} {xr : XR} {W : WX} {cs : Cs} {tb : Tb} {K : PySem.W.Frag} {σ : St} {env : SEnv} {F0 H0 F H F' H' F2 H2 : Hp} {Q : VK}
theorem wk_keysT {a : Addr} {od : Obj} {ks : List (List Key × V)} {ds : List D} (e : H' a = some (.frz od (.dT ks))) (ek : keysD ks = ds) : WkA K [a] H' F' ds (Itkt a od ks) := by
  intro H1 j hL
  have e1 : H1 a = some (.frz od (.dT ks)) := by rw [hL a (by simp)]; exact e
  have hl : ds.length = ks.length := by rw [← ek]; unfold keysD; rw [List.length_map]
  refine ⟨fun hi => ⟨e1, by omega⟩, fun hi => ⟨e1, by omega⟩, fun x H2 F1 hi y ok sm => ?_⟩
  obtain ⟨rfl, k, v, b, hk, rfl, hb⟩ := y
  refine ⟨F1, .tuple (k.map kD), ?_, Grow.refl ok, .tup (.of (tu_of ok hb)) (kD_kV k)⟩
  rw [← ek]
  unfold keysD
  rw [List.getElem?_map, hk]
  rfl
theorem lcd_core {elt : PX} {tg : List Nat} {one : Bool} {i : Nat} {cond : PXs} {scope : Scope} {x t o : Expr} {cd : List Expr} (he : SnV tb elt) (hl : SnL tb cond) (w : Wd X kx xr W cs tb) (hc : X.calm = true)
    (h1 : nmB cs i o = true) (h3 : chk elt .v { cs with sc := relS scope cs.sc, raw := scope } x = true) (h4 : chkt cond { cs with sc := relS scope cs.sc, raw := scope } cd = true) (E : EnvOk kx F0 H0 env σ F H)
    (q : Pst xr W σ F H (ev tb (.lcd elt tg one i cond scope) env) (fun r F' H' => ∀ v, RR X.K σ env H F' H' r v → Q v H')) :
    ∃ a ks, H a = some (.dT ks) ∧ ∀ od, tLc (wI X t o) (gT X.K tg one) (fun σ H Q => ∀ (s : Shared) (Hb : Hp) (C : Addr) (cl : List (Str × Addr)) (fp : List Addr), wTs (X.blk s Hb scope (compEnvC scope cl C X.env) fp) cd σ H Q)
      (fun σ H Q => ∀ (s : Shared) (Hb : Hp) (C : Addr) (cl : List (Str × Addr)) (fp : List Addr), wE (X.blk s Hb scope (compEnvC scope cl C X.env) fp) x σ H Q) tg σ (upd H a (.frz od (.dT ks))) (fun v H' => H' a = some (.frz od (.dT ks)) ∧ Q v (upd H' a (.dT ks))) := by
  simp only [ev] at q
  split at q
  · rename_i kvs hs
    split at q
    · exact q.elim
    rename_i hsz
    generalize hloop : lcLoop (fun d => takes tg one d (killS tg (env.set i (.dl kvs)))) (fun e => (evs tb cond e).bind fun | [] => .ok true | [x] => Rs.of (toBool x.d) | _ => .no) (fun e => ev tb elt e) = loop at q
    cases er : loop (keysD kvs) with
    | ex c p => rw [← hloop] at er; exact (lc_noex er).elim
    | no => rw [er] at q; exact q.elim
    | ok xs =>
      rw [er] at q
      simp only [Rs.bind] at q
      obtain ⟨a, ks, e1, f1, f2, f3, f4⟩ := E.sl i _ hs
      refine ⟨a, ks, f3, fun od => ?_⟩
      have El : EnvOk kx F0 H0 (env.set i (.dl kvs)) σ F (upd H a (.frz od (.dT ks))) := E.write hs rfl e1 noT_dL ⟨a, ks, od, rfl, f1, f2, upd_same, f4⟩
      refine (pi_keys (peW o)).w ?_
      refine wE_nm w h1 e1 ⟨a, od, rfl, .inr ⟨ks, upd_same, ?_⟩⟩
      refine lc_core0 he hl w hc h3 h4 El (Grow.refl El.ok) (L := [a]) (Q := fun v H' => H' a = some (.frz od (.dT ks)) ∧ Q v (upd H' a (.dT ks))) (fun b hb => ?_) (wk_keysT upd_same (keysD_eq f4)) hsz hloop er (fun Fc Hc g v rr => ?_)
      · rw [List.mem_singleton.mp hb, upd_same]; simp
      · have hca : Hc a = some (.frz od (.dT ks)) := g.h a _ upd_same
        have hfa : Fc a = none := g.n a f1 (by rw [upd_same]; simp)
        refine ⟨hca, ?_⟩
        obtain ⟨D, ys, rfl, z1, z2, z3, z4⟩ := rr
        have hDa : D ≠ a := fun z => by rw [z, upd_same] at z2; cases z2
        rw [upd_ne hDa] at z2
        refine q Fc (upd Hc a (.dT ks)) ⟨g.f, fun b x e => ?_, g.ok.write hfa noT_dT, fun b e hb => ?_⟩ (.ref D) ⟨D, ys, rfl, z1, z2, by rw [upd_ne hDa]; exact z3, z4⟩
        · by_cases z : b = a
          · rw [z, upd_same]; rw [z, f3] at e; exact e
          · rw [upd_ne z]; exact g.h b x (by rw [upd_ne z]; exact e)
        · by_cases z : b = a
          · rw [z]; exact hfa
          · exact g.n b e (by rw [upd_ne z]; exact hb)
  · exact q.elim
theorem sn_lcd {elt : PX} {tg : List Nat} {one : Bool} {i : Nat} {cond : PXs} {scope : Scope} (he : SnV tb elt) (hl : SnL tb cond) : SnV tb (.lcd elt tg one i cond scope) := by
  intro X kx xr W cs w e h env σ F0 H0 F H Q E q
  simp only [chk, lf_v, Bool.true_and, Bool.and_eq_true] at h
  obtain ⟨hcm, h⟩ := h
  have hc := w.cm hcm
  split at h
  · rename_i x t o cd sc pos
    simp only [Bool.and_eq_true, decide_eq_true_eq] at h
    obtain ⟨⟨⟨⟨⟨⟨e0, hb⟩, ho⟩, h1⟩, h2⟩, h3⟩, h4⟩ := h
    subst e0
    have hb' := blkB_of hb
    rw [← w.N, ← w.sc] at hb'
    obtain ⟨xo, po, eo, n1, n2, n3, n4⟩ := nmB_of w h1
    have hns : noSetE o = true := by rw [eo]; rfl
    have hlc := pe_lc (X := X) (elt := x) (tg := t) (iter := o) (ifs := cd) (pos := pos) (g := gT X.K tg one)
      (tt := fun σ H Q => ∀ (s : Shared) (Hb : Hp) (C : Addr) (cl : List (Str × Addr)) (fp : List Addr), wTs (X.blk s Hb sc (compEnvC sc cl C X.env) fp) cd σ H Q)
      (te := fun σ H Q => ∀ (s : Shared) (Hb : Hp) (C : Addr) (cl : List (Str × Addr)) (fp : List Addr), wE (X.blk s Hb sc (compEnvC sc cl C X.env) fp) x σ H Q) hc w.nd (piW t o) hb'
      (fun s Hb C cl fp => tgt_pg (w.blk hc) hc h2) (fun s Hb C cl fp => ⟨fun pins s' σ H' Q I q => q s Hb C cl fp pins s' I⟩) (fun s Hb C cl fp => ⟨fun pins s' σ H' Q I q => q s Hb C cl fp pins s' I⟩) (noSet_of hns)
    rw [w.N, ho] at hlc
    obtain ⟨a, ks, f3, hq⟩ := lcd_core (t := t) he hl w hc h1 h3 h4 E q
    exact (pe_lock hlc).w ⟨a, .dT ks, f3, trivial, fun od => hq od⟩
  · cases h
theorem wk_itemsT {a : Addr} {od : Obj} {ks : List (List Key × V)} {kvs : List (List Key × D)} (e : H' a = some (.frz od (.dT ks))) (f4 : RpA K F' ks kvs) : WkA K [a] H' F' (itemsT kvs) (Itit a od ks) := by
  intro H1 j hL
  have e1 : H1 a = some (.frz od (.dT ks)) := by rw [hL a (by simp)]; exact e
  have hl : (itemsT kvs).length = ks.length := by unfold itemsT; rw [List.length_map]; exact (Paired.length f4).symm
  refine ⟨fun hi => ⟨e1, by omega⟩, fun hi => ⟨e1, by omega⟩, fun x H2 F1 hi y ok sm => ?_⟩
  obtain ⟨T, k, v, q, hk, rfl, hT, rfl, hq⟩ := y
  obtain ⟨p, hp, ep, rp⟩ := paired_get f4 hk
  have g := Grow.new (o := .tup [.ref q, v]) ok hT
  refine ⟨_, .tuple [.tuple (k.map kD), p.2], ?_, g, .tup (.of upd_same) (.cons ((Rp.tup (.of (tu_of ok hq)) (kD_kV k)).mono g.f) (.cons ((rp.mono sm).mono g.f) .nil))⟩
  unfold itemsT
  rw [List.getElem?_map, hp]
  have ep' : k = p.1 := ep
  rw [ep']
  rfl
theorem lci_core {elt : PX} {tg : List Nat} {i : Nat} {cond : PXs} {scope : Scope} {x o : Expr} {elts : List Expr} {kk : Nat} {tpos ap cp : Pos} {cd : List Expr} (he : SnV tb elt) (hl : SnL tb cond) (w : Wd X kx xr W cs tb) (hc : X.calm = true)
    (h1 : nmB cs i o = true) (hbase : attributeBase o ("items" : Str) X.env (eval o X.env) = eval o X.env) (hline : (ap.endLine == cp.line) = true) (h3 : chk elt .v { cs with sc := relS scope cs.sc, raw := scope } x = true) (h4 : chkt cond { cs with sc := relS scope cs.sc, raw := scope } cd = true) (E : EnvOk kx F0 H0 env σ F H)
    (q : Pst xr W σ F H (ev tb (.lci elt tg i cond scope) env) (fun r F' H' => ∀ v, RR X.K σ env H F' H' r v → Q v H')) :
    ∃ a ks, H a = some (.dT ks) ∧ ∀ od, tLc (wI X (.Tuple elts kk tpos) (.Call (.Attribute o ("items" : Str) ap) [] [] cp)) (gT X.K tg false) (fun σ H Q => ∀ (s : Shared) (Hb : Hp) (C : Addr) (cl : List (Str × Addr)) (fp : List Addr), wTs (X.blk s Hb scope (compEnvC scope cl C X.env) fp) cd σ H Q)
      (fun σ H Q => ∀ (s : Shared) (Hb : Hp) (C : Addr) (cl : List (Str × Addr)) (fp : List Addr), wE (X.blk s Hb scope (compEnvC scope cl C X.env) fp) x σ H Q) tg σ (upd H a (.frz od (.dT ks))) (fun v H' => H' a = some (.frz od (.dT ks)) ∧ Q v (upd H' a (.dT ks))) := by
  simp only [ev] at q
  split at q
  · rename_i kvs hs
    split at q
    · exact q.elim
    rename_i hsz
    generalize hloop : lcLoop (fun d => takes tg false d (killS tg (env.set i (.dl kvs)))) (fun e => (evs tb cond e).bind fun | [] => .ok true | [x] => Rs.of (toBool x.d) | _ => .no) (fun e => ev tb elt e) = loop at q
    cases er : loop (itemsT kvs) with
    | ex c p => rw [← hloop] at er; exact (lc_noex er).elim
    | no => rw [er] at q; exact q.elim
    | ok xs =>
      rw [er] at q
      simp only [Rs.bind] at q
      obtain ⟨a, ks, e1, f1, f2, f3, f4⟩ := E.sl i _ hs
      refine ⟨a, ks, f3, fun od => ?_⟩
      have El : EnvOk kx F0 H0 (env.set i (.dl kvs)) σ F (upd H a (.frz od (.dT ks))) := E.write hs rfl e1 noT_dL ⟨a, ks, od, rfl, f1, f2, upd_same, f4⟩
      refine (pi_itemsT (peW o) hbase hline).w ?_
      refine wE_nm w h1 e1 ⟨a, od, ks, rfl, upd_same, ?_⟩
      refine lc_core0 he hl w hc h3 h4 El (Grow.refl El.ok) (L := [a]) (Q := fun v H' => H' a = some (.frz od (.dT ks)) ∧ Q v (upd H' a (.dT ks))) (fun b hb => ?_) (wk_itemsT upd_same (by rw [← w.kK]; exact f4)) hsz hloop er (fun Fc Hc g v rr => ?_)
      · rw [List.mem_singleton.mp hb, upd_same]; simp
      · have hca : Hc a = some (.frz od (.dT ks)) := g.h a _ upd_same
        have hfa : Fc a = none := g.n a f1 (by rw [upd_same]; simp)
        refine ⟨hca, ?_⟩
        obtain ⟨D, ys, rfl, z1, z2, z3, z4⟩ := rr
        have hDa : D ≠ a := fun z => by rw [z, upd_same] at z2; cases z2
        rw [upd_ne hDa] at z2
        refine q Fc (upd Hc a (.dT ks)) ⟨g.f, fun b x e => ?_, g.ok.write hfa noT_dT, fun b e hb => ?_⟩ (.ref D) ⟨D, ys, rfl, z1, z2, by rw [upd_ne hDa]; exact z3, z4⟩
        · by_cases z : b = a
          · rw [z, upd_same]; rw [z, f3] at e; exact e
          · rw [upd_ne z]; exact g.h b x (by rw [upd_ne z]; exact e)
        · by_cases z : b = a
          · rw [z]; exact hfa
          · exact g.n b e (by rw [upd_ne z]; exact hb)
  · exact q.elim
theorem sn_lci {elt : PX} {tg : List Nat} {i : Nat} {cond : PXs} {scope : Scope} (he : SnV tb elt) (hl : SnL tb cond) : SnV tb (.lci elt tg i cond scope) := by
  intro X kx xr W cs w e h env σ F0 H0 F H Q E q
  simp only [chk, lf_v, Bool.true_and, Bool.and_eq_true] at h
  obtain ⟨hcm, h⟩ := h
  have hc := w.cm hcm
  split at h
  · rename_i x t o f ap cp cd sc pos
    simp only [Bool.and_eq_true, decide_eq_true_eq] at h
    obtain ⟨⟨⟨⟨⟨⟨⟨⟨e0, hb⟩, ho⟩, h1⟩, hf⟩, hline⟩, h2⟩, h3⟩, h4⟩ := h
    subst e0 hf
    obtain ⟨elts, kk, tpos, rfl⟩ : ∃ elts kk tpos, t = Expr.Tuple elts kk tpos := by
      cases t <;> first | exact ⟨_, _, _, rfl⟩ | (simp [tgtB] at h2)
    have hb' := blkB_of hb
    rw [← w.N, ← w.sc] at hb'
    obtain ⟨xo, po, eo, n1, n2, n3, n4⟩ := nmB_of w h1
    have hns : noSetE (.Call (.Attribute o ("items" : Str) ap) [] [] cp) = true := rfl
    have hbase : attributeBase o ("items" : Str) X.env (eval o X.env) = eval o X.env := by subst eo; rfl
    have hlc := pe_lc (X := X) (elt := x) (tg := .Tuple elts kk tpos) (iter := .Call (.Attribute o ("items" : Str) ap) [] [] cp) (ifs := cd) (pos := pos) (g := gT X.K tg false)
      (tt := fun σ H Q => ∀ (s : Shared) (Hb : Hp) (C : Addr) (cl : List (Str × Addr)) (fp : List Addr), wTs (X.blk s Hb sc (compEnvC sc cl C X.env) fp) cd σ H Q)
      (te := fun σ H Q => ∀ (s : Shared) (Hb : Hp) (C : Addr) (cl : List (Str × Addr)) (fp : List Addr), wE (X.blk s Hb sc (compEnvC sc cl C X.env) fp) x σ H Q) hc w.nd (piW (.Tuple elts kk tpos) (.Call (.Attribute o ("items" : Str) ap) [] [] cp)) hb'
      (fun s Hb C cl fp => tgt_pg (w.blk hc) hc h2) (fun s Hb C cl fp => ⟨fun pins s' σ H' Q I q => q s Hb C cl fp pins s' I⟩) (fun s Hb C cl fp => ⟨fun pins s' σ H' Q I q => q s Hb C cl fp pins s' I⟩) (noSet_of hns)
    rw [w.N, ho] at hlc
    obtain ⟨a, ks, f3, hq⟩ := lci_core (elts := elts) (kk := kk) (tpos := tpos) he hl w hc h1 hbase hline h3 h4 E q
    exact (pe_lock hlc).w ⟨a, .dT ks, f3, trivial, fun od => hq od⟩
  · cases h
end
end VL
/-! the value layer, 16c: f-strings of two things -/
namespace VL
open PySem PySem.Spec L2
section
variable {tb : Tb}
theorem fmt_at {K : PySem.W.Frag} {F H : Hp} {v : V} {d : D} {y : Str} (h : fmtD d = some y) (r : RA K F H v d) :
    (v = .str y) ∨ ∃ i : Int, v = .int i ∧ i.natAbs.log2 < 1920 ∧ y = (toString i : String) := by
  unfold fmtD at h
  split at h
  · cases h; exact .inl r.str
  · split at h
    · rename_i i c
      cases h
      exact .inr ⟨i, r.int, by omega, rfl⟩
    · cases h
  · cases h
theorem app_len (x y : Str) : (x ++ y).length = x.length + y.length := by
  show (x.cps ++ y.cps).size = x.cps.size + y.cps.size
  rw [Array.size_append]
theorem sn_fs4 {s t : Str} {a b : PX} (ha : SnV tb a) (hb : SnV tb b) : SnV tb (.fs4 s a t b) := by
  intro X kx xr W cs w e h env σ F0 H0 F H Q E q
  simp only [chk, lf_v, Bool.true_and] at h
  simp only [ev] at q
  split at h
  · rename_i j x1 p1 x k1 p2 l x2 p3 y k2 p4 pos
    simp only [Bool.and_eq_true, decide_eq_true_eq] at h
    obtain ⟨⟨⟨⟨⟨⟨h1, h0⟩, h2⟩, h3⟩, h4⟩, h5⟩, h6⟩ := h
    subst h1 h2 h3 h4
    refine (pe_joined (.cons pe_str (.cons (pe_fmt (peW x)) (.cons pe_str (.cons (pe_fmt (peW y)) .nil))))).w ?_
    have e0 : (Str.empty ++ s).length = s.length := by rw [app_len]; simp [Str.empty, Str.length]
    refine ⟨s, rfl, small_size (by rw [e0]; exact h0), ?_⟩
    refine ha w h5 E (q.bind.imp fun r F1 H1 ex g1 k1 v rv => ?_)
    cases eb : ev tb b env with
    | ok y2 =>
      rw [eb] at k1
      simp only at k1
      cases ef : fs4D s t r.d y2.d with
      | none => rw [ef] at k1; exact k1.elim
      | some d =>
        rw [ef] at k1
        simp only at k1
        unfold fs4D at ef
        split at ef
        rotate_left
        · cases ef
        rename_i p1 p2 e1 e2
        split at ef
        rotate_left
        · cases ef
        rename_i hz
        cases ef
        have hz' := sizes hz
        have key : tJs [tC (.str t), tFmt (wE X y)] ((Str.empty ++ s) ++ p1) σ H1 fun out H1 => Q (.str out) H1 := by
          refine ⟨t, rfl, by rw [app_len, app_len, e0]; omega, ?_⟩
          refine hb w h6 (E.grow g1) ?_
          rw [eb]
          intro F2 H2 g2 v2 rv2
          have fin : tJs [] ((((Str.empty ++ s) ++ p1) ++ t) ++ p2) σ H2 fun out H1 => Q (.str out) H1 := k1 F2 H2 g2 _ (.str _)
          rcases fmt_at e2 rv2.ra with rfl | ⟨i, rfl, hi, rfl⟩
          · exact .inl ⟨p2, rfl, by omega, p2, rfl, by rw [app_len, app_len, app_len, e0]; exact hz', fin⟩
          · exact .inr ⟨i, rfl, hi, _, rfl, by rw [app_len, app_len, app_len, e0]; exact hz', fin⟩
        rcases fmt_at e1 rv.ra with rfl | ⟨i, rfl, hi, rfl⟩
        · exact .inl ⟨p1, rfl, by omega, p1, rfl, by rw [app_len, e0]; omega, key⟩
        · exact .inr ⟨i, rfl, hi, _, rfl, by rw [app_len, e0]; omega, key⟩
    | ex c p => rw [eb] at k1; exact k1.elim
    | no => rw [eb] at k1; exact k1.elim
  · cases h
end
end VL
/-! the value layer, 17: every expression -/
namespace VL
open PySem PySem.Spec L2
section
variable {tb : Tb}
theorem lf_i (e : Expr) : lf .i e = true := rfl
theorem md_i : Md.d .i = .v := rfl
structure Sx (tb : Tb) (p : PX) : Prop where
  v : SnV tb p
  t : SnT tb p
  i : SnI tb p
theorem Sx.s {p : PX} (h : Sx tb p) : Sn tb p := ⟨h.v, h.t⟩
theorem sx_leaf {p : PX} (s : SnV tb p) (ht : ∀ cs e, chk p .t cs e = true → plainT e = true ∧ chk p .v cs e = true) (hi : ∀ cs e, chk p .i cs e = true → chk p .v cs e = true) (hI : ∀ env, evI tb p env = (ev tb p env).bind fun x => Rs.of (walkD x.d)) : Sx tb p :=
  ⟨s, snT_leaf ht s, sni_leaf s hI hi⟩
theorem sx_of {p : PX} (s : Sn tb p) (hi : ∀ cs e, chk p .i cs e = true → chk p .v cs e = true) (hI : ∀ env, evI tb p env = (ev tb p env).bind fun x => Rs.of (walkD x.d)) : Sx tb p :=
  ⟨s.v, s.t, sni_leaf s.v hI hi⟩
theorem sx_none {p : PX} (h : ∀ m cs e, chk p m cs e = false) : Sx tb p :=
  ⟨fun _ _ q => absurd q (by rw [h]; decide), fun _ _ q => absurd q (by rw [h]; decide), fun _ _ _ q => absurd q (by rw [h]; decide)⟩
theorem sx_it {p : PX} (h : SnI tb p) (h1 : ∀ cs e, chk p .v cs e = false) (h2 : ∀ cs e, chk p .t cs e = false) : Sx tb p :=
  ⟨fun _ _ q => absurd q (by rw [h1]; decide), fun _ _ q => absurd q (by rw [h2]; decide), h⟩
mutual
theorem sx (tb : Tb) : (p : PX) → Sx tb p
  | .var i => sx_leaf (sn_var i) (fun cs e h => by simpa only [chk, lf_t, lf_v, Bool.and_eq_true, Bool.true_and] using h) (fun cs e h => by simpa only [chk, lf_i, lf_v] using h) (fun env => by simp only [evI])
  | .int i => sx_leaf (sn_int i) (fun cs e h => by simpa only [chk, lf_t, lf_v, Bool.and_eq_true, Bool.true_and] using h) (fun cs e h => by simpa only [chk, lf_i, lf_v] using h) (fun env => by simp only [evI])
  | .bool i => sx_leaf (sn_bool i) (fun cs e h => by simpa only [chk, lf_t, lf_v, Bool.and_eq_true, Bool.true_and] using h) (fun cs e h => by simpa only [chk, lf_i, lf_v] using h) (fun env => by simp only [evI])
  | .none => sx_leaf sn_none (fun cs e h => by simpa only [chk, lf_t, lf_v, Bool.and_eq_true, Bool.true_and] using h) (fun cs e h => by simpa only [chk, lf_i, lf_v] using h) (fun env => by simp only [evI])
  | .str i => sx_leaf (sn_str i) (fun cs e h => by simpa only [chk, lf_t, lf_v, Bool.and_eq_true, Bool.true_and] using h) (fun cs e h => by simpa only [chk, lf_i, lf_v] using h) (fun env => by simp only [evI])
  | .glob i => sx_leaf (sn_glob i) (fun cs e h => by simpa only [chk, lf_t, lf_v, Bool.and_eq_true, Bool.true_and] using h) (fun cs e h => by simpa only [chk, lf_i, lf_v] using h) (fun env => by simp only [evI])
  | .bin op a b => sx_leaf (sn_bin (sx tb a).v (sx tb b).v) (fun cs e h => by simpa only [chk, lf_t, lf_v, Bool.and_eq_true, Bool.true_and] using h) (fun cs e h => by simpa only [chk, lf_i, lf_v] using h) (fun env => by simp only [evI])
  | .neg a => sx_leaf (sn_neg (sx tb a).v) (fun cs e h => by simpa only [chk, lf_t, lf_v, Bool.and_eq_true, Bool.true_and] using h) (fun cs e h => by simpa only [chk, lf_i, lf_v] using h) (fun env => by simp only [evI])
  | .cmp op a b => sx_of (sn_cmp (sx tb a).v (sx tb b).v) (fun cs e h => by simpa only [chk] using h) (fun env => by simp only [evI])
  | .chain op op' a b c => sx_of (sn_chain (sx tb a).v (sx tb b).v (sx tb c).v) (fun cs e h => by simpa only [chk] using h) (fun env => by simp only [evI])
  | .and a b => sx_of (sn_and (sx tb a).s (sx tb b).s) (fun cs e h => by simpa only [chk, md_i, md_v] using h) (fun env => by simp only [evI])
  | .or a b => sx_of (sn_or (sx tb a).s (sx tb b).s) (fun cs e h => by simpa only [chk, md_i, md_v] using h) (fun env => by simp only [evI])
  | .not a => sx_of (sn_not (sx tb a).s) (fun cs e h => by simpa only [chk, md_i, md_v] using h) (fun env => by simp only [evI])
  | .ife c a b => sx_leaf (sn_ife (sx tb c).s (sx tb a).v (sx tb b).v) (fun cs e h => by simpa only [chk, lf_t, lf_v, Bool.and_eq_true, Bool.true_and] using h) (fun cs e h => by simpa only [chk, lf_i, lf_v] using h) (fun env => by simp only [evI])
  | .idx a i => sx_leaf (sn_idx (sx tb a).v (sx tb i).v) (fun cs e h => by simpa only [chk, lf_t, lf_v, Bool.and_eq_true, Bool.true_and] using h) (fun cs e h => by simpa only [chk, lf_i, lf_v] using h) (fun env => by simp only [evI])
  | .slc a lo hi => sx_leaf (sn_slc (sx tb a).v (sxs tb lo) (sxs tb hi)) (fun cs e h => by simpa only [chk, lf_t, lf_v, Bool.and_eq_true, Bool.true_and] using h) (fun cs e h => by simpa only [chk, lf_i, lf_v] using h) (fun env => by simp only [evI])
  | .tup as => sx_leaf (sn_tup (sxs tb as).a) (fun cs e h => by simpa only [chk, lf_t, lf_v, Bool.and_eq_true, Bool.true_and] using h) (fun cs e h => by simpa only [chk, lf_i, lf_v] using h) (fun env => by simp only [evI])
  | .lst as => sx_leaf (sn_lst (sxs tb as).a) (fun cs e h => by simpa only [chk, lf_t, lf_v, Bool.and_eq_true, Bool.true_and] using h) (fun cs e h => by simpa only [chk, lf_i, lf_v] using h) (fun env => by simp only [evI])
  | .call f as => sx_leaf (sn_call (sxs tb as).d) (fun cs e h => by simpa only [chk, lf_t, lf_v, Bool.and_eq_true, Bool.true_and] using h) (fun cs e h => by simpa only [chk, lf_i, lf_v] using h) (fun env => by simp only [evI])
  | .pri p as => sx_leaf (sn_pri (sxs tb as)) (fun cs e h => by simpa only [chk, lf_t, lf_v, Bool.and_eq_true, Bool.true_and, and_assoc] using h) (fun cs e h => by simpa only [chk, lf_i, lf_v] using h) (fun env => by simp only [evI])
  | .mth m o as => sx_leaf (sn_mth (sx tb o).v (sxs tb as).a) (fun cs e h => by simpa only [chk, lf_t, lf_v, Bool.and_eq_true, Bool.true_and] using h) (fun cs e h => by simpa only [chk, lf_i, lf_v] using h) (fun env => by simp only [evI])
  | .isi a t => sx_leaf (sn_isi (sx tb a).v) (fun cs e h => by simpa only [chk, lf_t, lf_v, Bool.and_eq_true, Bool.true_and] using h) (fun cs e h => by simpa only [chk, lf_i, lf_v] using h) (fun env => by simp only [evI])
  | .lcm elt tg one it cond scope => sx_leaf (sn_lcm (sx tb elt).v (sx tb it).i (sxs tb cond)) (fun cs e h => by simpa only [chk, lf_t, lf_v, Bool.and_eq_true, Bool.true_and, and_assoc] using h) (fun cs e h => by simpa only [chk, lf_i, lf_v] using h) (fun env => by simp only [evI])
  | .rng as => sx_it (sni_rng (sxs tb as)) (fun cs e => by simp [chk, isI]) (fun cs e => by simp [chk, isI])
  | .enum a => sx_it (sni_enum (sx tb a).v) (fun cs e => by simp [chk, isI]) (fun cs e => by simp [chk, isI])
  | .zip a b => sx_it (sni_zip (sx tb a).v (sx tb b).v) (fun cs e => by simp [chk, isI]) (fun cs e => by simp [chk, isI])
  | .rev a => sx_it (sni_rev (sx tb a).v) (fun cs e => by simp [chk, isI]) (fun cs e => by simp [chk, isI])
  | .isx i c => sx_leaf sn_isx (fun cs e h => by simpa only [chk, lf_t, lf_v, Bool.and_eq_true, Bool.true_and] using h) (fun cs e h => by simpa only [chk, lf_i, lf_v] using h) (fun env => by simp only [evI])
  | .isv i => sx_leaf sn_isv (fun cs e h => by simpa only [chk, lf_t, lf_v, Bool.and_eq_true, Bool.true_and] using h) (fun cs e h => by simpa only [chk, lf_i, lf_v] using h) (fun env => by simp only [evI])
  | .isxs i c => sx_leaf sn_isxs (fun cs e h => by simpa only [chk, lf_t, lf_v, Bool.and_eq_true, Bool.true_and] using h) (fun cs e h => by simpa only [chk, lf_i, lf_v] using h) (fun env => by simp only [evI])
  | .edict => sx_leaf sn_edict (fun cs e h => by simpa only [chk, lf_t, lf_v, Bool.and_eq_true, Bool.true_and] using h) (fun cs e h => by simpa only [chk, lf_i, lf_v] using h) (fun env => by simp only [evI])
  | .fs4 s a t b => sx_leaf (sn_fs4 (sx tb a).v (sx tb b).v) (fun cs e h => by simpa only [chk, lf_t, lf_v, Bool.and_eq_true, Bool.true_and] using h) (fun cs e h => by simpa only [chk, lf_i, lf_v] using h) (fun env => by simp only [evI])
  | .dlst i => sx_leaf sn_dlst (fun cs e h => by simpa only [chk, lf_t, lf_v, Bool.and_eq_true, Bool.true_and, and_assoc] using h) (fun cs e h => by simpa only [chk, lf_i, lf_v] using h) (fun env => by simp only [evI])
  | .lci elt tg i cond scope => sx_leaf (sn_lci (sx tb elt).v (sxs tb cond)) (fun cs e h => by simpa only [chk, lf_t, lf_v, Bool.and_eq_true, Bool.true_and, and_assoc] using h) (fun cs e h => by simpa only [chk, lf_i, lf_v] using h) (fun env => by simp only [evI])
  | .xat i f => sx_none fun m cs e => by simp only [chk]
  | .dsub i k => sx_leaf (sn_dsub (sx tb k).v) (fun cs e h => by simpa only [chk, lf_t, lf_v, Bool.and_eq_true, Bool.true_and] using h) (fun cs e h => by simpa only [chk, lf_i, lf_v] using h) (fun env => by simp only [evI])
  | .lcd elt tg one i cond scope => sx_leaf (sn_lcd (sx tb elt).v (sxs tb cond)) (fun cs e h => by simpa only [chk, lf_t, lf_v, Bool.and_eq_true, Bool.true_and, and_assoc] using h) (fun cs e h => by simpa only [chk, lf_i, lf_v] using h) (fun env => by simp only [evI])
  | .dget i k d => sx_leaf (sn_dget (sx tb k).v (sx tb d).v) (fun cs e h => by simpa only [chk, lf_t, lf_v, Bool.and_eq_true, Bool.true_and] using h) (fun cs e h => by simpa only [chk, lf_i, lf_v] using h) (fun env => by simp only [evI])
  | .din n k i => sx_none fun m cs e => by simp only [chk]
  | .dsrt i => sx_leaf sn_dsrt (fun cs e h => by simpa only [chk, lf_t, lf_v, Bool.and_eq_true, Bool.true_and, and_assoc] using h) (fun cs e h => by simpa only [chk, lf_i, lf_v] using h) (fun env => by simp only [evI])
  | .srtsz a => sx_leaf (sn_srtsz (sx tb a).v) (fun cs e h => by simpa only [chk, lf_t, lf_v, Bool.and_eq_true, Bool.true_and, and_assoc] using h) (fun cs e h => by simpa only [chk, lf_i, lf_v] using h) (fun env => by simp only [evI])
  | .dlen i => sx_none fun m cs e => by simp only [chk]
  | .revrng a => sx_it (sni_revrng (sx tb a).v) (fun cs e => by simp [chk, isI]) (fun cs e => by simp [chk, isI])
  | .maxd a d => sx_leaf (sn_maxd (sx tb a).v) (fun cs e h => by simpa only [chk, lf_t, lf_v, Bool.and_eq_true, Bool.true_and, and_assoc] using h) (fun cs e h => by simpa only [chk, lf_i, lf_v] using h) (fun env => by simp only [evI])
  | .ditems i => sx_none fun m cs e => by simp only [chk]
  | .dkeys i => sx_none fun m cs e => by simp only [chk]
theorem sxs (tb : Tb) : (ps : PXs) → SnL tb ps
  | .nil => trivial
  | .cons a as => ⟨(sx tb a).s, sxs tb as⟩
end
end
end VL
/-! the value layer, 18: the checker of statements; ends -/
namespace VL
open PySem PySem.Spec L2

def noLC : Expr → Bool
  | .ListComp _ _ _ _ => false
  | .SetComp _ _ _ _ => false
  | .DictComp _ _ _ _ _ => false
  | _ => true
def isLcm : PX → Bool
  | .lcm _ _ _ _ _ _ => true
  | .lcd _ _ _ _ _ _ => true
  | _ => false
def noTupE : Expr → Bool
  | .Tuple _ _ _ => false
  | _ => true
def locO (cs : Cs) (x : Str) : Bool := match cs.sc.names.lookup x with
  | some .local => true
  | _ => false
def celO (cs : Cs) (x : Str) : Bool := match cs.sc.names.lookup x with
  | some .cell => true
  | _ => false
def swB (cs : Cs) (e : PX) (x : Str) (p : Pos) (v : Expr) : Bool := match v with
  | .ListComp _ _ sc vp => (locO cs x && (p.line == vp.line) && !(sc.names.any fun (n, k) => n == x && (k == .local || k == .cell)) && isLcm e) || celO cs x
  | v => noLC v
def mtN : Mt → Str
  | .append => "append" | .extend => "extend" | .insert => "insert" | .remove => "remove" | .reverse => "reverse" | .clear => "clear" | .pop0 => "pop" | .popat => "pop"
def mtI : Mt → String
  | .append => "list.append" | .extend => "list.extend" | .insert => "list.insert" | .remove => "list.remove" | .reverse => "list.reverse" | .clear => "list.clear" | .pop0 => "list.pop" | .popat => "list.pop"
def ghost : XS → Bool
  | .frz _ => true
  | .kill _ => true
  | _ => false
/-- within an except suite -/
def calmOff (cs : Cs) : Cs := { cs with cm := false, nm := { cs.nm with fns := [], kfs := [], rcs := [] } }
mutual
def chkS : XS → Cs → Stmt → Bool
  | .asg i e, cs, st => (match st with
    | .Assign [.Name x p] v _ => ixB cs i x && locB cs x && chk e .v cs v && swB cs e x p v
    | _ => false)
  | .newT i, cs, st => (match st with
    | .Assign [.Name x _] (.Dict [] [] _) _ => ixB cs i x && locB cs x
    | _ => false)
  | .newK i, cs, st => (match st with
    | .Assign [.Name x _] (.Dict [] [] _) _ => ixB cs i x && locB cs x
    | _ => false)
  | .unp is e, cs, st => (match st with
    | .Assign [.Tuple ts _ _] v _ => cs.cm && tgB cs is ts && chk e .v cs v && noLC v && noTupE v
    | _ => false)
  | .par i j a b, cs, st => (match st with
    | .Assign [.Tuple [.Name x px, .Name y py] _ _] (.Tuple [v, w] _ _) _ => cs.cm && decide (i ≠ j) && ixB cs i x && ixB cs j y && locO cs x && locO cs y && noStarB v && noStarB w && !(foldedForSure 8 v && foldedForSure 8 w) && !(constantsAlone 8 v && constantsAlone 8 w) && chk a .v cs v && chk b .v cs w && (px.line == py.line)
    | _ => false)
  | .sto i k e, cs, st => (match st with
    | .Assign [.Subscript o s _] v _ => chk (.var i) .v cs o && noSlice s && chk k .v cs s && chk e .v cs v && noLC v
    | _ => false)
  | .dsto i k e, cs, st => (match st with
    | .Assign [.Subscript o s _] v _ => nmB cs i o && noSlice s && chk k .v cs s && chk e .v cs v && noLC v
    | _ => false)
  | .aug i op e, cs, st => (match st with
    | .AugAssign (.Name x _) op' v _ => decide (op = op') && ixB cs i x && locB cs x && chk e .v cs v
    | _ => false)
  | .augS i k op e, cs, st => (match st with
    | .AugAssign (.Subscript o s _) op' v _ => decide (op = op') && chk (.var i) .v cs o && noSlice s && chk k .v cs s && chk e .v cs v
    | _ => false)
  | .mut m i as, cs, st => (match st with
    | .Expr (.Call (.Attribute o f ap) es [] cp) _ => decide (f = mtN m) && okBase o && (ap.endLine == cp.line) && decide (es.length < 20) && chk (.var i) .v cs o && chks as cs es
    | _ => false)
  | .ret e, cs, st => (match st with
    | .Return (some v) _ => chk e .v cs v
    | _ => false)
  | .ret0, cs, st => (match st with
    | .Return none _ => true
    | _ => false)
  | .iff c a b, cs, st => (match st with
    | .If t x y _ => chk c .t cs t && chkB a cs x && chkB b cs y
    | _ => false)
  | .for tg one it body kill, cs, st => (match st with
    | .For t i bd [] _ => cs.cm && tgtB cs tg one t && chk it .i cs i && noSetE i && (!pairIt it || !one) && chkB body cs bd
    | _ => false)
  | .whl c body fuel kill, cs, st => (match st with
    | .While t bd [] _ => cs.cm && chk c .t cs t && chkB body cs bd
    | _ => false)
  | .bk, cs, st => (match st with
    | .Break _ => true
    | _ => false)
  | .ct, cs, st => (match st with
    | .Continue _ => true
    | _ => false)
  | .pass, cs, st => (match st with
    | .Pass _ => true
    | _ => false)
  | .doc, cs, st => (match st with
    | .Expr (.Constant (.str _) _ _) _ => true
    | _ => false)
  | .exp e, cs, st => (match st with
    | .Expr v _ => chk e .v cs v && noLC v
    | _ => false)
  | .raise c m, cs, st => (match st, m with
    | .Raise (some (.Call (.Name x _) [.Constant (.str _) _ _] [] _)) none _, .nil => cs.cm && gloB cs x && (cs.nm.rcs.any fun t => decide (t.1 = c) && decide (t.2 = x))
    | _, _ => false)
  | .try body c i named suite, cs, st => (match st with
    | .Try bd [.ExceptHandler (some (.Name x _)) (some n) (b₀ :: su) _] [] [] _ => cs.cm && ixB cs i n && locO cs n && gloB cs x && (cs.nm.exs.any fun t => decide (t.1 = c) && decide (t.2 = x)) && chkB body cs bd && chkB suite (calmOff cs) (b₀ :: su)
    | _ => false)
  | .nope, cs, st => true
  | _, _, _ => false
def chkB : XB → Cs → List Stmt → Bool
  | .nil, cs, sts => (match sts with
    | [] => true
    | _ => false)
  | .cons s t, cs, sts => if ghost s = true then chkB t cs sts else (match sts with
    | st :: rest => chkS s cs st && chkB t cs rest
    | [] => false)
end

/-- what an outcome wants -/
def OutP (kx : Kx) (xr : XR) (W : WX) (F0 H0 : Hp) (o : Out) (Z : Ends) : Prop := match o with
  | .nx env => ∀ F σ H, EnvOk kx F0 H0 env σ F H → Z.nx σ H
  | .bk env => ∀ F σ H, EnvOk kx F0 H0 env σ F H → Z.bk σ H
  | .ct env => ∀ F σ H, EnvOk kx F0 H0 env σ F H → Z.ct σ H
  | .rt r => ∀ F H v, Grow F0 H0 F H → PRok kx.K H0 F H r v → Z.rt v H
  | .ex c p env => ∀ F σ H cls d, EnvOk kx F0 H0 env σ F H → xr c p cls d F H → W cls d σ H
  | .no => False
structure Ws (X : Cx) (kx : Kx) (xr : XR) (W : WX) (cs : Cs) (tb : Tb) : Prop where
  w : Wd X kx xr W cs tb
  po : cs.cm = true → PassesOwn (model X.prog X.w) X.A X.env X.xe
  ew : cs.cm = true → ExW X.K X.mg xr cs.nm.exs cs.nm.rcs
  hs : cs.cm = true → X.stack = X.env :: X.outer ∧ X.env.frame = some X.env.locals
def SnS (tb : Tb) (p : XS) : Prop := ∀ {X : Cx} {kx : Kx} {xr : XR} {W : WX} {cs : Cs} (_ : Ws X kx xr W cs tb) {st : Stmt}, chkS p cs st = true → ∀ {env : SEnv} {σ : St} {F0 H0 F H : Hp} {Z : Ends},
  EnvOk kx F0 H0 env σ F H → OutP kx xr W F0 H0 (evS tb p env) Z → wS X st Z σ H
def SnB (tb : Tb) (p : XB) : Prop := ∀ {X : Cx} {kx : Kx} {xr : XR} {W : WX} {cs : Cs} (_ : Ws X kx xr W cs tb) {st : List Stmt}, chkB p cs st = true → ∀ {env : SEnv} {σ : St} {F0 H0 F H : Hp} {Z : Ends},
  EnvOk kx F0 H0 env σ F H → OutP kx xr W F0 H0 (evB tb p env) Z → wSs X st Z σ H
section
variable {X : Cx} {kx : Kx} {xr : XR} {W : WX} {cs : Cs} {tb : Tb} {K : PySem.W.Frag} {σ : St} {env : SEnv} {F0 H0 F H F' H' F2 H2 : Hp} {Z : Ends}
theorem EnvOk.gr (E : EnvOk kx F0 H0 env σ F H) : Grow F0 H0 F H := ⟨E.f0, E.h0, E.ok, E.nb⟩
/-- from an expression's outcome -/
theorem OutP.thn {α : Type} {r : Rs α} {f : α → Out} (E : EnvOk kx F0 H0 env σ F H) (h : OutP kx xr W F0 H0 (r.then env f) Z) : Pst xr W σ F H r (fun a F' H' => OutP kx xr W F0 H0 (f a) Z) := by
  cases r with
  | ok a => exact fun F' H' g => h
  | ex c p => exact fun F' H' cls d g x => h F' σ H' cls d (E.grow g) x
  | no => exact h
theorem OutP.opt {α : Type} {o : Option α} {f : α → Out} (h : OutP kx xr W F0 H0 (onOpt o f) Z) : ∃ a, o = some a ∧ OutP kx xr W F0 H0 (f a) Z := by
  cases o with
  | none => exact h.elim
  | some a => exact ⟨a, rfl, h⟩
theorem EnvOk.base {Fz Hz : Hp} {envz : SEnv} {σz : St} (Ez : EnvOk kx F0 H0 envz σz Fz Hz) (E : EnvOk kx Fz H0 env σ F H) : EnvOk kx F0 H0 env σ F H :=
  ⟨E.len, E.sl, E.dj, E.ok, Ez.f0.trans E.f0, E.h0, fun b e h => E.nb b (Ez.nb b e h) h⟩
theorem OutP.base {Fz Hz : Hp} {envz : SEnv} {σz : St} {o : Out} (Ez : EnvOk kx F0 H0 envz σz Fz Hz) (h : OutP kx xr W F0 H0 o Z) : OutP kx xr W Fz H0 o Z := by
  cases o with
  | nx e => exact fun F σ H E => h F σ H (Ez.base E)
  | bk e => exact fun F σ H E => h F σ H (Ez.base E)
  | ct e => exact fun F σ H E => h F σ H (Ez.base E)
  | rt r => exact fun F H v g p => h F H v ⟨Ez.f0.trans g.f, g.h, g.ok, fun b e hb => g.n b (Ez.nb b e hb) hb⟩ p
  | ex c p e => exact fun F σ H cls d E x => h F σ H cls d (Ez.base E) x
  | no => exact h
theorem EnvOk.frz1 (E : EnvOk kx F0 H0 env σ F H) (i : Nat) : ∃ F', Same F F' ∧ EnvOk kx F0 H0 (VL.frz1 i env) σ F' H := by
  unfold VL.frz1
  split
  · rename_i ds e
    exact E.freeze e
  · exact ⟨F, Same.refl F, E⟩
theorem EnvOk.frzAll (E : EnvOk kx F0 H0 env σ F H) : ∀ (is : List Nat), ∃ F', Same F F' ∧ EnvOk kx F0 H0 (VL.frzAll is env) σ F' H := fun is => by
  induction is generalizing env F with
  | nil => exact ⟨F, Same.refl F, E⟩
  | cons i is ih =>
    obtain ⟨F1, s1, E1⟩ := E.frz1 i
    obtain ⟨F2, s2, E2⟩ := ih E1
    exact ⟨F2, s1.trans s2, E2⟩
theorem frz1_own {i j : Nat} {env : SEnv} {ds : List D} (h : (frz1 i env)[j]? = some (.ow ds)) : env[j]? = some (.ow ds) ∧ j ≠ i := by
  unfold frz1 at h
  split at h
  · rename_i ds' e
    by_cases q : i = j
    · subst q
      rw [List.getElem?_set_self (List.getElem?_eq_some_iff.mp e).1] at h
      cases h
    · rw [List.getElem?_set_ne q] at h
      exact ⟨h, Ne.symm q⟩
  · rename_i hn
    refine ⟨h, fun q => ?_⟩
    subst q
    exact hn ds h
theorem frzAll_own : ∀ {is : List Nat} {j : Nat} {env : SEnv} {ds : List D}, (frzAll is env)[j]? = some (.ow ds) → env[j]? = some (.ow ds) ∧ j ∉ is
  | [], j, env, ds, h => ⟨h, by simp⟩
  | i :: is, j, env, ds, h => by
    obtain ⟨h1, h2⟩ := frzAll_own (is := is) h
    obtain ⟨h3, h4⟩ := frz1_own h1
    exact ⟨h3, by rw [List.mem_cons, not_or]; exact ⟨h4, h2⟩⟩
/-! ### swaps -/
theorem sw_no {v : Expr} {t : Option Expr} {l : Nat} {env : PySem.Env} (h : noLC v = true) : swapsWith v t l env = pure false := by
  cases v <;> first | rfl | (simp [noLC] at h)
theorem st_no {es : List Expr} {k : Nat} {p : Pos} {v : Expr} {env : PySem.Env} (h : noTupE v = true) : swappedStores [.Tuple es k p] v env = pure none := by
  cases v <;> first | rfl | (simp [noTupE] at h)
theorem locO_of (w : Wd X kx xr W cs tb) {x : Str} (h : locO cs x = true) : X.env.scope.names.lookup x = some .local := by
  unfold locO at h
  rw [w.sc]
  split at h
  · assumption
  · cases h
theorem sw_cell (w : Wd X kx xr W cs tb) {x : Str} {v : Expr} {p : Pos} {l : Nat} (h : celO cs x = true) (hv : ∃ e g s vp, v = .ListComp e g s vp) : swapsWith v (some (.Name x p)) l X.env = pure false := by
  obtain ⟨e, g, s, vp, rfl⟩ := hv
  unfold celO at h
  have hk : X.env.kindOf x = some .cell := by
    show X.env.scope.names.lookup x = some .cell
    rw [w.sc]
    split at h
    · assumption
    · cases h
  unfold swapsWith
  simp only [hk]
  have : ((some NameKind.cell : Option NameKind) == some NameKind.local) = false := by decide
  rw [this]
  simp
end
end VL
/-! the value layer, 19: statements do what they say -/
namespace VL
open PySem PySem.Spec L2
section
variable {X : Cx} {kx : Kx} {xr : XR} {W : WX} {cs : Cs} {tb : Tb} {K : PySem.W.Frag} {σ : St} {env : SEnv} {F0 H0 F H F' H' F2 H2 : Hp} {Z : Ends}
/-- a slot takes a result -/
theorem EnvOk.set (E : EnvOk kx F0 H0 env σ F H) (g : Grow F H F' H') {r : R} {v : V} {s : Slot} (e : toSlot r = some s) (h : RR kx.K σ env H F' H' r v) (i : Nat) : EnvOk kx F0 H0 (env.set i s) (σ.set i (some v)) F' H' := by
  cases r with
  | fz d => cases e; exact (E.grow g).setFz h i
  | nw ds =>
    cases e
    obtain ⟨a, xs, rfl, f, h0, hh, r⟩ := h
    refine (E.grow g).setOwn i ⟨a, xs, rfl, f, E.h0.free h0, hh, r⟩ fun j sj _ e o z => ?_
    obtain ⟨b, ob, e1, _, _, e2, _⟩ := E.at e o
    rw [z] at e1
    cases e1
    rw [h0] at e2
    cases e2
  | bw i ds => cases e
theorem asg_q {i : Nat} {e : PX} (w : Wd X kx xr W cs tb) (E : EnvOk kx F0 H0 env σ F H) (q : OutP kx xr W F0 H0 (evS tb (.asg i e) env) Z) :
    Pst xr W σ F H (ev tb e env) (fun r F' H' => ∀ v, RR X.K σ env H F' H' r v → (fun x H1 => gName i x σ H1 Z.nx) v H') := by
  simp only [evS] at q
  refine (OutP.thn E q).imp fun r F1 H1 _ g k v rv => ?_
  obtain ⟨s, es, k⟩ := k.opt
  exact k F1 _ H1 (E.set g es (by rw [w.kK]; exact rv) i)
theorem ss_asg (i : Nat) (e : PX) : SnS tb (.asg i e) := by
  intro X kx xr W cs w st h env σ F0 H0 F H Z E q
  simp only [chkS] at h
  split at h
  · rename_i x p v sp
    simp only [Bool.and_eq_true] at h
    obtain ⟨⟨⟨h1, h2⟩, h3⟩, h4⟩ := h
    have hN := ixB_of w.w h1
    obtain ⟨l1, l2⟩ := locB_of w.w h2
    have Q := asg_q w.w E q
    by_cases hlc : ∃ el g s vp, v = .ListComp el g s vp
    · obtain ⟨el, g, s, vp, rfl⟩ := hlc
      unfold swB at h4
      rw [Bool.or_eq_true] at h4
      rcases h4 with h4 | h4
      · simp only [Bool.and_eq_true] at h4
        obtain ⟨⟨⟨h5, h6⟩, h7⟩, h8⟩ := h4
        have hy := locO_of w.w h5
        cases e with
        | lcm elt tg one it cond scope =>
          simp only [chk, lf_v, Bool.true_and, Bool.and_eq_true] at h3
          obtain ⟨hcm, h3⟩ := h3
          have hc := w.w.cm hcm
          split at h3
          · rename_i x' t i' cd sc pos eq
            obtain ⟨rfl, rfl, rfl, rfl⟩ := Expr.ListComp.inj eq
            simp only [Bool.and_eq_true, decide_eq_true_eq] at h3
            obtain ⟨⟨⟨⟨⟨⟨⟨⟨e0, hb⟩, ho⟩, c1⟩, c2⟩, c3⟩, c4⟩, c5⟩, c6⟩ := h3
            subst e0
            have hb' := blkB_of hb
            rw [← w.w.N, ← w.w.sc] at hb'
            intro pins sh I
            have := ps_setLc (X := X) (i := i) (y := x) (py := p) (spos := sp) (elt := _) (tg := t) (iter := i') (ifs := cd) (pos := vp) (g := gT X.K tg one)
              (tt := fun σ H Q => ∀ (s' : Shared) (Hb : Hp) (C : Addr) (cl : List (Str × Addr)) (fp : List Addr), wTs (X.blk s' Hb s (compEnvC s cl C X.env) fp) cd σ H Q)
              (te := fun σ H Q => ∀ (s' : Shared) (Hb : Hp) (C : Addr) (cl : List (Str × Addr)) (fp : List Addr), wE (X.blk s' Hb s (compEnvC s cl C X.env) fp) el σ H Q) hc w.w.nd hN hy
              (sw_true I.ok.kind hy h6 (by simpa using h7)) (piW t i') hb'
              (fun s' Hb C cl fp => tgt_pg (w.w.blk hc) hc c2) (fun s' Hb C cl fp => ⟨fun pins s' σ H' Q I q => q _ Hb C cl fp pins s' I⟩) (fun s' Hb C cl fp => ⟨fun pins s' σ H' Q I q => q _ Hb C cl fp pins s' I⟩) (noSet_of c5)
            refine this.run pins sh σ H Z I ?_
            rw [w.w.N, ho]
            exact lc_core (sx tb elt).v (sx tb it).i (sxs tb cond) w.w hc c1 c2 c3 c4 (fun z => by simpa [z] using c6) E Q
          · cases h3
        | lcd elt tg one i' cond scope =>
          simp only [chk, lf_v, Bool.true_and, Bool.and_eq_true] at h3
          obtain ⟨hcm, h3⟩ := h3
          have hc := w.w.cm hcm
          split at h3
          · rename_i x' t o cd sc pos eq
            obtain ⟨rfl, rfl, rfl, rfl⟩ := Expr.ListComp.inj eq
            simp only [Bool.and_eq_true, decide_eq_true_eq] at h3
            obtain ⟨⟨⟨⟨⟨⟨e0, hb⟩, ho⟩, c1⟩, c2⟩, c3⟩, c4⟩ := h3
            subst e0
            have hb' := blkB_of hb
            rw [← w.w.N, ← w.w.sc] at hb'
            obtain ⟨xo, po, eo, n1, n2, n3, n4⟩ := nmB_of w.w c1
            have hns : noSetE o = true := by rw [eo]; rfl
            intro pins sh I
            have := ps_setLc (X := X) (i := i) (y := x) (py := p) (spos := sp) (elt := _) (tg := t) (iter := o) (ifs := cd) (pos := vp) (g := gT X.K tg one)
              (tt := fun σ H Q => ∀ (s' : Shared) (Hb : Hp) (C : Addr) (cl : List (Str × Addr)) (fp : List Addr), wTs (X.blk s' Hb s (compEnvC s cl C X.env) fp) cd σ H Q)
              (te := fun σ H Q => ∀ (s' : Shared) (Hb : Hp) (C : Addr) (cl : List (Str × Addr)) (fp : List Addr), wE (X.blk s' Hb s (compEnvC s cl C X.env) fp) el σ H Q) hc w.w.nd hN hy
              (sw_true I.ok.kind hy h6 (by simpa using h7)) (piW t o) hb'
              (fun s' Hb C cl fp => tgt_pg (w.w.blk hc) hc c2) (fun s' Hb C cl fp => ⟨fun pins s' σ H' Q I q => q _ Hb C cl fp pins s' I⟩) (fun s' Hb C cl fp => ⟨fun pins s' σ H' Q I q => q _ Hb C cl fp pins s' I⟩) (noSet_of hns)
            rw [w.w.N, ho] at this
            obtain ⟨a, ks, f3, hq⟩ := lcd_core (t := t) (sx tb elt).v (sxs tb cond) w.w hc c1 c3 c4 E Q
            exact (ps_lock this).run pins sh σ H Z I ⟨a, .dT ks, f3, trivial, fun od => hq od⟩
          · cases h3
        | _ => cases h8
      · exact (ps_set w.w.nd hN l1 (peW _) (sw_cell w.w h4 ⟨_, _, _, _, rfl⟩) l2).w ((sx tb e).v w.w h3 E Q)
    · have hn : noLC v = true := by
        unfold swB at h4
        split at h4
        · exact absurd ⟨_, _, _, _, rfl⟩ hlc
        · exact h4
      exact (ps_set w.w.nd hN l1 (peW v) (sw_no hn) l2).w ((sx tb e).v w.w h3 E Q)
  · cases h
theorem Grow.ownDict {p : Addr} {o : HO} (k : Ok F H) (h : H p = none) (t : NoT o) : Grow F H F (upd H p o) := Grow.own k h t
theorem ss_newT (i : Nat) : SnS tb (.newT i) := by
  intro X kx xr W cs w st h env σ F0 H0 F H Z E q
  simp only [chkS] at h
  split at h
  · rename_i x p dp sp
    simp only [Bool.and_eq_true] at h
    obtain ⟨l1, l2⟩ := locB_of w.w h.2
    simp only [evS] at q
    refine (ps_set w.w.nd (ixB_of w.w h.1) l1 pe_dnewT rfl l2).w ?_
    intro a ha
    have g := Grow.own E.ok ha (noT_dT (ks := []))
    refine q F _ _ ((E.grow g).setOwn i ⟨a, [], rfl, E.ok.sm.free ha, E.h0.free ha, upd_same, .nil⟩ fun j sj _ e o z => ?_)
    obtain ⟨b, ob, e1, _, _, e2, _⟩ := E.at e o
    rw [z] at e1
    cases e1
    rw [ha] at e2
    cases e2
  · cases h
theorem ss_newK (i : Nat) : SnS tb (.newK i) := by
  intro X kx xr W cs w st h env σ F0 H0 F H Z E q
  simp only [chkS] at h
  split at h
  · rename_i x p dp sp
    simp only [Bool.and_eq_true] at h
    obtain ⟨l1, l2⟩ := locB_of w.w h.2
    simp only [evS] at q
    refine (ps_set w.w.nd (ixB_of w.w h.1) l1 pe_dnewK rfl l2).w ?_
    intro a ha
    have g := Grow.own E.ok ha (noT_dK (ks := []))
    refine q F _ _ ((E.grow g).setOwn i ⟨a, [], rfl, E.ok.sm.free ha, E.h0.free ha, upd_same, .nil⟩ fun j sj _ e o z => ?_)
    obtain ⟨b, ob, e1, _, _, e2, _⟩ := E.at e o
    rw [z] at e1
    cases e1
    rw [ha] at e2
    cases e2
  · cases h
theorem ss_unp (is : List Nat) (e : PX) : SnS tb (.unp is e) := by
  intro X kx xr W cs w st h env σ F0 H0 F H Z E q
  simp only [chkS] at h
  split at h
  · rename_i ts k tp v sp
    simp only [Bool.and_eq_true] at h
    obtain ⟨⟨⟨⟨hcm, h1⟩, h2⟩, h3⟩, h4⟩ := h
    obtain ⟨p1, p2, p3⟩ := tgB_ok w.w h1
    simp only [evS] at q
    refine (ps_asg (peW v) (pg_tup (w.w.cm hcm) p1 p2 p3) (sw_no h3 : swapsWith v (some (.Tuple ts k tp)) sp.line X.env = pure false) (st_no h4)).w ?_
    refine (sx tb e).v w.w h2 E ((OutP.thn E q).imp fun r F1 H1 er g k v rv => ?_)
    split at k
    · rename_i ds ek
      obtain ⟨env', ee, k⟩ := k.opt
      obtain ⟨F2, g2, s2, r2⟩ := rv.keep g ek
      cases r2 with
      | @tup a xs _ q1 q2 =>
        refine ⟨a, xs, rfl, (q1.mono g2.ok.sm).seq, by rw [q2.length, setAll_len ee], ?_⟩
        exact gL_ok (kx := kx) ee (by rw [w.w.kK]; exact q2) (E.grow g2) fun σ' E' _ _ => k F2 σ' H1 E'
    · exact k.elim
  · cases h
theorem starN : ∀ (e : Expr), (match e with | .Starred .. => true | _ => false) = true → noStarB e = false := fun e => by
  cases e <;> first | (intro z; cases z; done) | (intro _; rfl)
theorem st_par {x y : Str} {px py p1 p2 : Pos} {k1 k2 : Nat} {v u : Expr} {env : PySem.Env} (hk : env.scope.kind = .function) (hx : env.scope.names.lookup x = some .local) (hy : env.scope.names.lookup y = some .local) (hl : (px.line == py.line) = true)
    (s1 : noStarB v = true) (s2 : noStarB u = true) (f1 : (foldedForSure 8 v && foldedForSure 8 u) = false) (f2 : (constantsAlone 8 v && constantsAlone 8 u) = false) (hne : x ≠ y) :
    swappedStores [.Tuple [.Name x px, .Name y py] k1 p1] (.Tuple [v, u] k2 p2) env = pure (some [x, y]) := by
  have hb : env.blockKind = .function := by unfold Env.blockKind; rw [hk]; rfl
  have kx' : env.kindOf x = some .local := hx
  have ky' : env.kindOf y = some .local := hy
  have hl' : (py.line == px.line) = true := by
    rw [beq_iff_eq] at hl ⊢
    exact hl.symm
  have hyx : (y == x) = false := by
    rw [beq_eq_false_iff_ne]; exact Ne.symm hne
  unfold swappedStores
  simp only [hb, kx', ky', List.length_cons, List.length_nil, List.all_cons, List.all_nil, Bool.and_true, f1, f2, List.head?_cons, Option.map_some, Option.getD_some, Expr.pos, List.filterMap_cons, List.filterMap_nil, beq_self_eq_true, hl', Bool.and_self]
  simp [List.eraseDups, List.eraseDupsBy, List.eraseDupsBy.loop, hyx]
  intro z
  rcases z with z | z
  · rw [starN _ z] at s1; cases s1
  · rw [starN _ z] at s2; cases s2
theorem ss_par (i j : Nat) (a b : PX) : SnS tb (.par i j a b) := by
  intro X kx xr W cs w st h env σ F0 H0 F H Z E q
  simp only [chkS] at h
  split at h
  · rename_i x px y py k1 p1 v u k2 p2 sp
    simp only [Bool.and_eq_true, decide_eq_true_eq, Bool.not_eq_true'] at h
    obtain ⟨⟨⟨⟨⟨⟨⟨⟨⟨⟨⟨⟨hcm, hij⟩, h1⟩, h2⟩, h3⟩, h4⟩, h5⟩, h6⟩, f1⟩, f2⟩, h7⟩, h8⟩, h9⟩ := h
    simp only [evS] at q
    have nx := ixB_of w.w h1
    have ny := ixB_of w.w h2
    have lx := locO_of w.w h3
    have ly := locO_of w.w h4
    have hne : x ≠ y := fun e => by
      subst e
      exact hij ((List.getElem?_inj (List.getElem?_eq_some_iff.mp nx).1 w.w.nd).mp (nx.trans ny.symm))
    intro pins sh I
    refine (ps_par (w.w.cm hcm) w.w.nd nx ny hij lx ly (pa_cons (peW v) (pa_cons (peW u) pa_nil (star_of h6)) (star_of h5)) (st_par I.ok.kind lx ly h9 h5 h6 f1 f2 hne) rfl).run pins sh σ H Z I ?_
    refine (sx tb a).v w.w h7 E ((OutP.thn E q).imp fun r F1 H1 er g k v1 rv => ?_)
    refine (sx tb b).v w.w h8 (E.grow g) ((OutP.thn (E.grow g) k).imp fun r2 F2 H2 er2 g2 k2 v2 rv2 => ?_)
    obtain ⟨d, ed, k2⟩ := k2.opt
    obtain ⟨d2, ed2, k2⟩ := k2.opt
    have rr : RRs X.K σ env H F2 H2 [r, r2] [v1, v2] := .cons (rv.grow g2) (.cons (rv2.back g.h) .nil)
    have ek : keepAll [r, r2] = some [d, d2] := by simp [keepAll, allOpt, ed, ed2]
    obtain ⟨F3, g3, rr3⟩ := rr.keep (g.trans g2) ek
    refine ⟨v1, v2, rfl, ?_⟩
    rw [← w.w.kK] at rr3
    cases rr3 with
    | cons q1 t =>
      cases t with
      | cons q2 _ => exact k2 F3 _ H2 (((E.grow g3).setFz q1 i).setFz q2 j)
  · cases h
/-- the list of a slot -/
theorem EnvOk.own (E : EnvOk kx F0 H0 env σ F H) {i : Nat} {ds : List D} (e : env[i]? = some (.ow ds)) : ∃ a xs, σ[i]? = some (some (.ref a)) ∧ F a = none ∧ H0 a = none ∧ H a = some (.lst xs) ∧ RpL kx.K F xs ds := E.sl i _ e
theorem RR.bwv {i : Nat} {ds : List D} {a : Addr} {v : V} (h : RR K σ env H F' H' (.bw i ds) v) (hs : σ[i]? = some (some (.ref a))) : v = .ref a := by
  obtain ⟨b, xs, rfl, s, _⟩ := h
  rw [hs] at s
  cases s
  rfl
theorem plainI {s : Expr} (h : noSlice s = true) {o : Expr} {p : Pos} {X : Cx} : ∀ v, assign (.Subscript o s p) X.env v = (do
      let ov ← holding [v] (eval o X.env)
      let iv ← holding [v, ov] (eval s X.env)
      standAt p
      holding [v, ov, iv] (setItem ov iv v)
      release [v, ov, iv] []) := by
  intro v
  cases s <;> first | rfl | (simp [noSlice] at h)
theorem ss_sto (i : Nat) (k e : PX) : SnS tb (.sto i k e) := by
  intro X kx xr W cs w st h env σ F0 H0 F H Z E q
  simp only [chkS] at h
  split at h
  · rename_i o s tp v sp
    simp only [Bool.and_eq_true] at h
    obtain ⟨⟨⟨⟨h1, h2⟩, h3⟩, h4⟩, h5⟩ := h
    simp only [evS] at q
    split at q
    · rename_i ds hd
      refine (ps_asg (peW v) (pg_sub (peW o) (peW s) set_list (plainI h2)) (sw_no h5 : swapsWith v (some (.Subscript o s tp)) sp.line X.env = pure false) rfl).w ?_
      refine (sx tb e).v w.w h4 E ((OutP.thn E q).imp fun r F1 H1 er g k1 vv rv => ?_)
      have E1 := E.grow g
      obtain ⟨a, xs, e1, f1, f2, f3, f4⟩ := E1.own hd
      refine (sn_var (tb := tb) i) w.w h1 E1 ?_
      simp only [ev, hd]
      intro F2 H2 g2 ov ro
      have eo := ro.bwv e1
      subst eo
      have E2 := E1.grow g2
      refine (sx tb k).v w.w h3 E2 ((OutP.thn E2 k1).imp fun r3 F3 H3 er3 g3 k3 kv rk => ?_)
      obtain ⟨vd, ek, k3⟩ := k3.opt
      split at k3
      · rename_i n en
        obtain ⟨j, ej, k3⟩ := k3.opt
        obtain ⟨F4, g4, s4, r4⟩ := (rv.grow (g2.trans g3)).keep ((g.trans g2).trans g3) ek
        have E4 := E.grow g4
        obtain ⟨a', xs', y1, y2, y3, y4, y5⟩ := E4.own hd
        rw [e1] at y1
        cases y1
        refine ⟨a, xs', n, j, rfl, rk.int_of en, y4, by rw [y5.length]; exact ej, ?_⟩
        exact k3 F4 σ _ (E4.write hd rfl e1 noT_lst ⟨a, _, rfl, y2, y3, upd_same, RpL.set (by rw [w.w.kK]; exact r4) _ y5⟩)
      · exact k3.elim
    · exact q.elim
  · cases h
theorem rpA_any {κ : Type} [DecidableEq κ] (c : κ) : ∀ {ks : List (κ × V)} {kvs : List (κ × D)}, RpA K F ks kvs → (ks.any fun kv => decide (kv.1 = c)) = kvs.any fun kv => decide (kv.1 = c)
  | _, _, .nil => rfl
  | _, _, .cons h t => by rw [List.any_cons, List.any_cons, rpA_any c t, h.1]
theorem rpA_map {κ : Type} [DecidableEq κ] (c : κ) {v : V} {d : D} (r : Rp K F v d) : ∀ {ks : List (κ × V)} {kvs : List (κ × D)}, RpA K F ks kvs → RpA K F (ks.map fun kv => if kv.1 = c then (kv.1, v) else kv) (kvs.map fun kv => if kv.1 = c then (kv.1, d) else kv)
  | _, _, .nil => .nil
  | (k, u) :: ks, (k', e) :: kvs, .cons ⟨h1, h2⟩ t => by
    have e0 : k = k' := h1
    subst e0
    rw [List.map_cons, List.map_cons]
    refine .cons ?_ (rpA_map c r t)
    by_cases q : k = c
    · simp only [if_pos q]; exact ⟨trivial, r⟩
    · simp only [if_neg q]; exact ⟨trivial, h2⟩
theorem rpA_app {κ : Type} {p : κ × V} {q : κ × D} (r : p.1 = q.1 ∧ Rp K F p.2 q.2) : ∀ {ks : List (κ × V)} {kvs : List (κ × D)}, RpA K F ks kvs → RpA K F (ks ++ [p]) (kvs ++ [q])
  | _, _, .nil => .cons r .nil
  | _, _, .cons h t => .cons h (rpA_app r t)
theorem put_rp {κ : Type} [DecidableEq κ] (c : κ) {v : V} {d : D} (r : Rp K F v d) {ks : List (κ × V)} {kvs : List (κ × D)} (h : RpA K F ks kvs) : RpA K F (putK ks c v) (putA c d kvs) := by
  unfold putK putA
  rw [rpA_any c h]
  split
  · exact rpA_map c r h
  · exact rpA_app ⟨rfl, r⟩ h
theorem ss_dsto (i : Nat) (k e : PX) : SnS tb (.dsto i k e) := by
  intro X kx xr W cs w st h env σ F0 H0 F H Z E q
  simp only [chkS] at h
  split at h
  · rename_i o s tp v sp
    simp only [Bool.and_eq_true] at h
    obtain ⟨⟨⟨⟨h1, h2⟩, h3⟩, h4⟩, h5⟩ := h
    simp only [evS] at q
    refine (ps_dput (by have := w.w.un; omega) (peW o) (peW s) (peW v) (sw_no h5 : swapsWith v (some (.Subscript o s tp)) sp.line X.env = pure false)).w ?_
    refine (sx tb e).v w.w h4 E ((OutP.thn E q).imp fun r F1 H1 er g k1 vv rv => ?_)
    split at k1
    · rename_i kvs hd
      have E1 := E.grow g
      obtain ⟨a, ks, e1, f1, f2, f3, f4⟩ := E1.sl i _ hd
      refine wE_nm w.w h1 e1 ?_
      refine (sx tb k).v w.w h3 E1 ((OutP.thn E1 k1).imp fun r3 F3 H3 er3 g3 k3 kv rk => ?_)
      obtain ⟨vd, ek, k3⟩ := k3.opt
      obtain ⟨c, ec, k3⟩ := k3.opt
      split at k3
      · rename_i hlen
        obtain ⟨F4, g4, s4, r4⟩ := (rv.grow g3).keep (g.trans g3) ek
        have E4 := E.grow g4
        obtain ⟨a', ks', y1, y2, y3, y4, y5⟩ := E4.sl i _ hd
        rw [e1] at y1
        cases y1
        obtain ⟨b, rfl, hb⟩ := keyT_at ec rk g3.ok
        have hl : ks'.length = kvs.length := Paired.length y5
        refine ⟨a, _, rfl, DPut.t y4 hb (by rw [hl]; exact Nat.lt_of_lt_of_le hlen (sizes (Nat.le_refl _))), ?_⟩
        exact k3 F4 σ _ (E4.write hd rfl e1 noT_dT ⟨a, _, rfl, y2, y3, upd_same, put_rp c (by rw [w.w.kK]; exact r4) y5⟩)
      · exact k3.elim
    · exact k1.elim
  · cases h
theorem plainA {s : Expr} (h : noSlice s = true) : ∀ ov iv new, augStore s ov iv new = (do holding [new, ov, iv] (setItem ov iv new); release [new, ov, iv] []; pure .next) := by
  intro ov iv new
  cases s <;> first | rfl | (simp [noSlice] at h)
theorem pip_of {op : Operator} : ∃ f : Int → Int → Int → Prop, PIp X op (fun x y H Q => ∃ i j, x = .int i ∧ y = .int j ∧ ∃ k, f i j k ∧ Q (.int k) H) ∧ (op = .Add → ∀ i j, f i j (i + j)) ∧ (op = .Sub → ∀ i j, f i j (i - j)) := by
  by_cases h1 : op = .Add
  · subst h1
    refine ⟨fun i j k => k = i + j, fun pins s σ H x y v u Q I r1 r2 h => ?_, fun _ i j => rfl, (fun e => by cases e)⟩
    obtain ⟨i, j, e1, e2, k, rfl, q⟩ := h
    exact ip_add pins s σ H x y v u Q I r1 r2 ⟨i, j, e1, e2, q⟩
  · by_cases h2 : op = .Sub
    · subst h2
      refine ⟨fun i j k => k = i - j, fun pins s σ H x y v u Q I r1 r2 h => ?_, (fun e => by cases e), fun _ i j => rfl⟩
      obtain ⟨i, j, e1, e2, k, rfl, q⟩ := h
      exact ip_sub pins s σ H x y v u Q I r1 r2 ⟨i, j, e1, e2, q⟩
    · refine ⟨fun _ _ _ => False, fun pins s σ H x y v u Q I r1 r2 h => ?_, fun e => absurd e h1, fun e => absurd e h2⟩
      obtain ⟨i, j, e1, e2, k, z, q⟩ := h
      exact z.elim
theorem ss_aug (i : Nat) (op : Operator) (e : PX) : SnS tb (.aug i op e) := by
  intro X kx xr W cs w st h env σ F0 H0 F H Z E q
  simp only [chkS] at h
  split at h
  · rename_i x p op' v sp
    simp only [Bool.and_eq_true, decide_eq_true_eq] at h
    obtain ⟨⟨⟨e0, h1⟩, h2⟩, h3⟩ := h
    subst e0
    obtain ⟨l1, l2⟩ := locB_of w.w h2
    simp only [evS] at q
    split at q
    · rename_i n en
      obtain ⟨v0, e1, r1⟩ := E.sl i _ en
      cases r1
      obtain ⟨f, pf, fa, fs⟩ := pip_of (X := X) (op := op)
      refine (ps_aug w.w.nd (ixB_of w.w h1) l1 (peW v) pf l2).w ?_
      refine ⟨.int n, e1, ?_⟩
      refine (sx tb e).v w.w h3 E ((OutP.thn E q).imp fun r F1 H1 er g k v1 rv => ?_)
      split at k
      · rename_i m em
        refine ⟨n, m, rfl, rv.int_of em, ?_⟩
        split at k
        · exact ⟨n + m, fa rfl n m, k F1 _ H1 ((E.grow g).setFz (.int _) i)⟩
        · exact ⟨n - m, fs rfl n m, k F1 _ H1 ((E.grow g).setFz (.int _) i)⟩
        · exact k.elim
      · exact k.elim
    · exact q.elim
  · cases h
def rGetL (K : PySem.W.Frag) : V → V → Hp → VK → Prop := fun o i H Q => ∃ p xs k v, o = .ref p ∧ i = .int k ∧ H p = some (.lst xs) ∧ atI xs k = some v ∧ Q v H
end
end VL
/-! the value layer, 20: lists changed, loops -/
namespace VL
open PySem PySem.Spec L2
section
variable {X : Cx} {kx : Kx} {xr : XR} {W : WX} {cs : Cs} {tb : Tb} {K : PySem.W.Frag} {σ : St} {env : SEnv} {F0 H0 F H F' H' F2 H2 : Hp} {Z : Ends}
theorem mt_facts (m : Mt) : PlainAttrs "list" ∧ PySem.Slot "list" (mtN m) (mtI m) ∧ typeOf (.builtin (mtI m)) = pure (.type "method_descriptor") := by
  cases m with
  | append => exact ⟨PySem.F.plainAttrs_list, PySem.F.slot_list_append, PySem.F.type_list_append⟩
  | extend => exact ⟨PySem.F.plainAttrs_list, PySem.F.slot_list_extend, PySem.F.type_list_extend⟩
  | insert => exact ⟨PySem.F.plainAttrs_list, PySem.F.slot_list_insert, PySem.F.type_list_insert⟩
  | remove => exact ⟨PySem.F.plainAttrs_list, PySem.F.slot_list_remove, PySem.F.type_list_remove⟩
  | reverse => exact ⟨PySem.F.plainAttrs_list, PySem.F.slot_list_reverse, PySem.F.type_list_reverse⟩
  | clear => exact ⟨PySem.F.plainAttrs_list, PySem.F.slot_list_clear, PySem.F.type_list_clear⟩
  | pop0 => exact ⟨PySem.F.plainAttrs_list, PySem.F.slot_list_pop, PySem.F.type_list_pop⟩
  | popat => exact ⟨PySem.F.plainAttrs_list, PySem.F.slot_list_pop, PySem.F.type_list_pop⟩
def RuleMu (X : Cx) (m : Mt) (ds : List D) (rs : List R) (ds' : List D) : Prop := ∃ ru : V → List V → Hp → VK → Prop, MtR X (mtI m) ru ∧ ∀ {σ : St} {env : SEnv} {F H F2 H2 : Hp} {a : Addr} {xs vs : List V} {Q : VK}, RRs X.K σ env H F2 H2 rs vs → Grow F H F2 H2 →
  H2 a = some (.lst xs) → RpL X.K F2 xs ds → (∀ F4 xs', Grow F H F4 H2 → RpL X.K F4 xs' ds' → Q .non (upd H2 a (.lst xs'))) → ru (.ref a) vs H2 Q
theorem mut_keep {m : Mt} {ds : List D} {rs : List R} {ds' : List D} (h : (keepAll rs).bind (mutL m ds) = some ds') : ∃ vs, keepAll rs = some vs ∧ mutL m ds vs = some ds' := by
  cases e : keepAll rs with
  | none => rw [e] at h; cases h
  | some vs => rw [e] at h; exact ⟨vs, rfl, h⟩
theorem RpL.one {v : List V} {d : D} (h : RpL K F v [d]) : ∃ x, v = [x] ∧ Rp K F x d := by
  cases h with
  | cons h t => cases t; exact ⟨_, rfl, h⟩
theorem RpL.two {v : List V} {d e : D} (h : RpL K F v [d, e]) : ∃ x y, v = [x, y] ∧ Rp K F x d ∧ Rp K F y e := by
  cases h with
  | cons h t =>
    obtain ⟨y, rfl, r⟩ := RpL.one t
    exact ⟨_, _, rfl, h, r⟩
theorem mut_rule {m : Mt} {ds : List D} {rs : List R} {ds' : List D} (h : mutR m ds rs = some ds') : RuleMu X m ds rs ds' := by
  unfold mutR at h
  split at h
  · rename_i ys
    split at h
    · rename_i c
      cases h
      refine ⟨_, mt_extend, fun {σ env F H F2 H2 a xs vs Q} rr g ha rx q => ?_⟩
      cases rr with
      | cons h1 t =>
        cases t
        obtain ⟨b, zs, rfl, f, h0, hh, r⟩ := h1
        exact ⟨a, b, xs, zs, rfl, rfl, ha, hh, by rw [rx.length, r.length]; exact sizes c, q F2 _ g (rx.append r)⟩
    · cases h
  · obtain ⟨ws, ek, h⟩ := mut_keep h
    unfold mutL at h
    split at h
    · rename_i x
      split at h
      · rename_i c
        cases h
        refine ⟨_, mt_append, fun {σ env F H F2 H2 a xs vs Q} rr g ha rx q => ?_⟩
        obtain ⟨F3, g3, s3, r3⟩ := rr.keepF ek g (Same.refl F2)
        obtain ⟨v, rfl, rv⟩ := RpL.one r3
        have := sizes (Nat.le_refl LIM)
        exact ⟨a, xs, v, rfl, rfl, ha, by rw [rx.length]; omega, q F3 _ g3 ((rx.mono s3).append (.cons rv .nil))⟩
      · cases h
    · rename_i i x _ _
      split at h
      · rename_i c
        cases h
        obtain ⟨c1, c2, c3⟩ := c
        refine ⟨_, mt_insert, fun {σ env F H F2 H2 a xs vs Q} rr g ha rx q => ?_⟩
        obtain ⟨F3, g3, s3, r3⟩ := rr.keepF ek g (Same.refl F2)
        obtain ⟨u, v, rfl, ru, rv⟩ := RpL.two r3
        cases ru
        have := sizes (Nat.le_refl LIM)
        have rx3 := rx.mono s3
        refine ⟨a, xs, i, v, rfl, rfl, ha, by rw [rx.length]; omega, c1, by omega, q F3 _ g3 ?_⟩
        have := ((rx3.take i.toNat).append (.cons rv .nil)).append (rx3.drop i.toNat)
        simpa using this
      · cases h
    · cases h
      refine ⟨_, mt_reverse, fun {σ env F H F2 H2 a xs vs Q} rr g ha rx q => ?_⟩
      obtain ⟨F3, g3, s3, r3⟩ := rr.keepF ek g (Same.refl F2)
      cases r3
      exact ⟨a, xs, rfl, rfl, ha, q F3 _ g3 (rx.mono s3).reverse⟩
    · cases h
      refine ⟨_, mt_clear, fun {σ env F H F2 H2 a xs vs Q} rr g ha rx q => ?_⟩
      obtain ⟨F3, g3, s3, r3⟩ := rr.keepF ek g (Same.refl F2)
      cases r3
      exact ⟨a, xs, rfl, rfl, ha, q F3 _ g3 .nil⟩
    · cases h
theorem ruleMu_any (m : Mt) (ds : List D) (o : Rs (List R)) : ∃ ru : V → List V → Hp → VK → Prop, MtR X (mtI m) ru ∧ ∀ (rs : List R) (ds' : List D), o = .ok rs → mutR m ds rs = some ds' → ∀ {σ : St} {env : SEnv} {F H F2 H2 : Hp} {a : Addr} {xs vs : List V} {Q : VK}, RRs X.K σ env H F2 H2 rs vs → Grow F H F2 H2 →
    H2 a = some (.lst xs) → RpL X.K F2 xs ds → (∀ F4 xs', Grow F H F4 H2 → RpL X.K F4 xs' ds' → Q .non (upd H2 a (.lst xs'))) → ru (.ref a) vs H2 Q := by
  have fls : MtR X (mtI m) (fun _ _ _ _ => False) := fun _ _ _ _ _ _ _ _ _ _ _ _ h => h.elim
  cases o with
  | ok rs =>
    cases e : mutR m ds rs with
    | some ds' =>
      obtain ⟨ru, h1, h2⟩ := mut_rule (X := X) e
      exact ⟨ru, h1, fun rs' ds'' e1 e2 => by cases e1; rw [e] at e2; cases e2; exact h2⟩
    | none => exact ⟨_, fls, fun rs' ds'' e1 e2 => by cases e1; rw [e] at e2; cases e2⟩
  | ex c p => exact ⟨_, fls, fun rs' ds'' e1 e2 => by cases e1⟩
  | no => exact ⟨_, fls, fun rs' ds'' e1 e2 => by cases e1⟩
theorem hfew_of {as : PXs} {e1 : Expr} {es : List Expr} {cp : Pos} {env : PySem.Env} (h6 : chks as cs (e1 :: es) = true) (h4 : (e1 :: es).length < 20) : ((backTo cp (starEach (e1 :: es) env)).all (fun x => !x.1) && (backToKw cp (keywordEach [] env)).all (fun x => x.1.isSome)
      && decide ((e1 :: es).length + ([] : List Keyword).length + (if ([] : List Keyword).isEmpty then 0 else 1) < 30)) = true := by
  have hp := hpl_of (env := env) (pos := cp) h6
  have : (backTo cp (starEach (e1 :: es) env)).all (fun x => !x.1) = true := by
    rw [List.all_eq_true]
    intro y hy
    have := List.any_eq_false.mp hp y hy
    simpa using this
  rw [this]
  simp [keywordEach, backToKw]
  simp at h4
  omega
theorem ss_mut (m : Mt) (i : Nat) (as : PXs) : SnS tb (.mut m i as) := by
  intro X kx xr W cs w st h env σ F0 H0 F H Z E q
  simp only [chkS] at h
  split at h
  · rename_i o f ap es cp ep
    simp only [Bool.and_eq_true, decide_eq_true_eq] at h
    obtain ⟨⟨⟨⟨⟨h1, h2⟩, h3⟩, h4⟩, h5⟩, h6⟩ := h
    subst h1
    simp only [evS] at q
    split at q
    · rename_i ds hd
      obtain ⟨m1, m2, m3⟩ := mt_facts m
      obtain ⟨ru, mr, hru⟩ := ruleMu_any (X := X) m ds (evs tb as env)
      obtain ⟨a, xs, e1, f1, f2, f3, f4⟩ := E.own hd
      have fin : ∀ {F2 H2 : Hp} {rs : List R} {vs : List V}, evs tb as env = .ok rs → Grow F H F2 H2 → RRs X.K σ env H F2 H2 rs vs → OutP kx xr W F0 H0 (onOpt (mutR m ds rs) fun ds' => .nx (env.set i (.ow ds'))) Z → ru (.ref a) vs H2 (fun _ H1 => Z.nx σ H1) := fun {F2 H2 rs vs} er g rr k => by
        obtain ⟨ds', em, k⟩ := k.opt
        obtain ⟨a', xs', y1, y2, y3, y4, y5⟩ := (E.grow g).own hd
        rw [e1] at y1
        cases y1
        refine hru rs ds' er em rr g y4 (by rw [← w.w.kK]; exact y5) fun F4 xs'' g4 r4 => ?_
        obtain ⟨a', xs', y1, z2, z3, z4, z5⟩ := (E.grow g4).own hd
        rw [e1] at y1
        cases y1
        exact k F4 σ _ ((E.grow g4).write hd rfl e1 noT_lst ⟨a, _, rfl, z2, z3, upd_same, by rw [w.w.kK]; exact r4⟩)
      cases es with
      | nil =>
        cases as with
        | cons _ _ => simp [chks] at h6
        | nil =>
          refine (ps_expr (pe_bm0 m1 m2 m3 mr (peW o) (okBase_of h2) h3) (sw_no rfl)).w ?_
          refine (sn_var (tb := tb) i) w.w h5 E ?_
          simp only [ev, hd]
          intro F2 H2 g2 ov ro
          have eo := ro.bwv e1
          subst eo
          refine ⟨.inl ⟨rfl, xs, .of (g2.h _ _ f3)⟩, ?_⟩
          simp only [evs] at q
          exact fin (by simp only [evs]) g2 .nil q
      | cons e es =>
        obtain ⟨s1, a0, as', e0, c0⟩ := chks_head h6
        refine (ps_expr (pe_bm m1 m2 m3 mr (peW o) (paW (e :: es)) (okBase_of h2) (hfew_of h6 h4) h3 (star_of s1) (hpl_of c0)) (sw_no rfl)).w ?_
        refine (sn_var (tb := tb) i) w.w h5 E ?_
        simp only [ev, hd]
        intro F2 H2 g2 ov ro
        have eo := ro.bwv e1
        subst eo
        refine ⟨.inl ⟨rfl, xs, .of (g2.h _ _ f3)⟩, ?_⟩
        refine (sxs tb as).a w.w h6 (E.grow g2) ((OutP.thn (E.grow g2) q).imp fun rs F3 H3 er g3 k vs rr => ?_)
        exact fin er (g2.trans g3) (rr.back g2.h) k
    · exact q.elim
  · cases h

/-! ### ends -/
theorem ss_ret (e : PX) : SnS tb (.ret e) := by
  intro X kx xr W cs w st h env σ F0 H0 F H Z E q
  simp only [chkS] at h
  split at h
  · rename_i v sp
    simp only [evS] at q
    refine (ps_ret (peW v)).w ?_
    refine (sx tb e).v w.w h E ((OutP.thn E q).imp fun r F1 H1 er g k v rv => ?_)
    obtain ⟨p, ep, k⟩ := k.opt
    refine k F1 H1 v (E.grow g).gr ?_
    rw [w.w.kK]
    cases r with
    | fz d => cases ep; exact rv
    | nw ds =>
      cases ep
      obtain ⟨a, xs, rfl, f, h0, hh, r⟩ := rv
      exact ⟨a, xs, rfl, f, E.h0.free h0, hh, r⟩
    | bw i ds =>
      cases ep
      obtain ⟨a, xs, rfl, s, z, f, hh, r⟩ := rv
      obtain ⟨b, ys, y1, y2, y3, y4, y5⟩ := (E.grow g).own z
      rw [s] at y1
      cases y1
      exact ⟨a, xs, rfl, f, y3, hh, r⟩
  · cases h
theorem ss_ret0 : SnS tb .ret0 := by
  intro X kx xr W cs w st h env σ F0 H0 F H Z E q
  simp only [chkS] at h
  split at h
  · simp only [evS] at q
    exact ps_retN.w (q F H .non E.gr .non)
  · cases h
theorem ss_iff {c : PX} {a b : XB} (ha : SnB tb a) (hb : SnB tb b) : SnS tb (.iff c a b) := by
  intro X kx xr W cs w st h env σ F0 H0 F H Z E q
  simp only [chkS] at h
  split at h
  · simp only [Bool.and_eq_true] at h
    obtain ⟨⟨h1, h2⟩, h3⟩ := h
    simp only [evS] at q
    refine (ps_if (ptW _) (pssW _) (pssW _)).w ?_
    refine (sx tb c).t w.w h1 E ((OutP.thn E q).imp fun r F1 H1 er g k => ?_)
    cases ed : r.d with
    | bool x =>
      rw [ed] at k
      show if x = true then _ else _
      cases x with
      | true => rw [if_pos rfl]; exact ha w h2 (E.grow g) k
      | false => rw [if_neg (by decide)]; exact hb w h3 (E.grow g) k
    | _ => rw [ed] at k; exact k.elim
  · cases h
theorem ss_bk : SnS tb .bk := by
  intro X kx xr W cs w st h env σ F0 H0 F H Z E q
  simp only [chkS] at h
  split at h
  · simp only [evS] at q
    exact ps_break.w (q F σ H E)
  · cases h
theorem ss_ct : SnS tb .ct := by
  intro X kx xr W cs w st h env σ F0 H0 F H Z E q
  simp only [chkS] at h
  split at h
  · simp only [evS] at q
    exact ps_continue.w (q F σ H E)
  · cases h
theorem ss_pass : SnS tb .pass := by
  intro X kx xr W cs w st h env σ F0 H0 F H Z E q
  simp only [chkS] at h
  split at h
  · simp only [evS] at q
    exact ps_pass.w (q F σ H E)
  · cases h
theorem ss_doc : SnS tb .doc := by
  intro X kx xr W cs w st h env σ F0 H0 F H Z E q
  simp only [chkS] at h
  split at h
  · simp only [evS] at q
    exact ps_doc.w (q F σ H E)
  · cases h
theorem ss_exp (e : PX) : SnS tb (.exp e) := by
  intro X kx xr W cs w st h env σ F0 H0 F H Z E q
  simp only [chkS] at h
  split at h
  · rename_i v sp
    rw [Bool.and_eq_true] at h
    simp only [evS] at q
    refine (ps_expr (peW v) (sw_no h.2)).w ?_
    exact (sx tb e).v w.w h.1 E ((OutP.thn E q).imp fun r F1 H1 er g k v rv => k F1 σ H1 (E.grow g))
  · cases h
theorem ss_nope : SnS tb .nope := by
  intro X kx xr W cs w st h env σ F0 H0 F H Z E q
  simp only [evS] at q
  exact q.elim
theorem ss_none {s : XS} (h : ∀ cs st, chkS s cs st = false) : SnS tb s := by
  intro X kx xr W cs w st hh
  rw [h] at hh
  cases hh

/-! ### blocks -/
theorem sb_nil : SnB tb .nil := by
  intro X kx xr W cs w st h env σ F0 H0 F H Z E q
  simp only [chkB] at h
  split at h
  · simp only [evB] at q
    exact pss_nil.w (q F σ H E)
  · cases h
theorem evS_ghost {s : XS} (h : ghost s = true) (E : EnvOk kx F0 H0 env σ F H) : ∃ env' F', Same F F' ∧ evS tb s env = .nx env' ∧ EnvOk kx F0 H0 env' σ F' H := by
  cases s with
  | frz i =>
    obtain ⟨F1, s1, E1⟩ := E.frz1 i
    exact ⟨_, F1, s1, by simp only [evS], E1⟩
  | kill is => exact ⟨_, F, Same.refl F, by simp only [evS], E.killS is⟩
  | _ => cases h
theorem sb_cons {s : XS} {t : XB} (hs : SnS tb s) (ht : SnB tb t) : SnB tb (.cons s t) := by
  intro X kx xr W cs w st h env σ F0 H0 F H Z E q
  simp only [chkB] at h
  simp only [evB] at q
  split at h
  · rename_i hg
    obtain ⟨env', F', s1, e1, E1⟩ := evS_ghost (tb := tb) hg E
    rw [e1] at q
    exact ht w h E1 q
  · split at h
    · rename_i st rest
      rw [Bool.and_eq_true] at h
      refine (pss_cons (psW st) (pssW rest)).w ?_
      refine hs w h.1 (Z := { Z with nx := wSs X rest Z }) E ?_
      cases eo : evS tb s env with
      | nx e => rw [eo] at q; exact fun F1 σ1 H1 E1 => ht w h.2 E1 q
      | bk e => rw [eo] at q; exact q
      | ct e => rw [eo] at q; exact q
      | rt e => rw [eo] at q; exact q
      | ex c p e => rw [eo] at q; exact q
      | no => rw [eo] at q; exact q
    · cases h
end
end VL
/-! the value layer, 21: loops; every statement -/
namespace VL
open PySem PySem.Spec L2
section
variable {X : Cx} {kx : Kx} {xr : XR} {W : WX} {cs : Cs} {tb : Tb} {K : PySem.W.Frag} {σ : St} {env : SEnv} {F0 H0 F H F' H' F2 H2 : Hp} {Z : Ends}
/-- what is walked is frozen -/
theorem freezeL : ∀ {L : List Addr} {F' : Hp}, (∀ a ∈ L, H' a ≠ none ∧ (F' a ≠ none ∨ H a = none)) → Grow F H F' H' → ∃ Fz, Grow F H Fz H' ∧ Same F' Fz ∧ ∀ a ∈ L, Fz a = H' a
  | [], F', h, g => ⟨F', g, Same.refl F', fun a ha => (List.not_mem_nil ha).elim⟩
  | a :: L, F', h, g => by
    obtain ⟨Fz, g1, s1, e1⟩ := freezeL (L := L) (fun b hb => h b (List.mem_cons_of_mem _ hb)) g
    obtain ⟨ha, hc⟩ := h a List.mem_cons_self
    have some_of : ∀ b, H' b ≠ none → ∃ o, H' b = some o := fun b hb => by
      cases z : H' b with
      | none => exact absurd z hb
      | some o => exact ⟨o, rfl⟩
    obtain ⟨o, ho⟩ := some_of a ha
    rcases hc with hc | hc
    · refine ⟨Fz, g1, s1, fun b hb => ?_⟩
      rcases List.mem_cons.mp hb with rfl | hb
      · cases z : Fz b with
        | none => exact absurd z (same_ne s1 hc)
        | some u => exact (g1.ok.sm b u z).symm
      · exact e1 b hb
    · obtain ⟨F2, g2, s2, e2⟩ := g1.freeze hc ho
      refine ⟨F2, g2, s1.trans s2, fun b hb => ?_⟩
      rcases List.mem_cons.mp hb with rfl | hb
      · rw [e2, ho]
      · have q := e1 b hb
        obtain ⟨u, hu⟩ := some_of b (h b (List.mem_cons_of_mem _ hb)).1
        rw [hu] at q ⊢
        exact s2 b u q
theorem ss_for {tg : List Nat} {one : Bool} {it : PX} {body : XB} {kill : List Nat} (hb : SnB tb body) : SnS tb (.for tg one it body kill) := by
  intro X kx xr W cs w st h env σ F0 H0 F H Z E q
  simp only [chkS] at h
  split at h
  · rename_i t i bd p
    simp only [Bool.and_eq_true] at h
    obtain ⟨⟨⟨⟨⟨hcm, h1⟩, h2⟩, h3⟩, h4⟩, h5⟩ := h
    simp only [evS] at q
    obtain ⟨F1, s1, E1⟩ := E.frzAll (bwOf it)
    have hc := w.w.cm hcm
    refine (ps_for (w.po hcm) hc (piW t i) (tgt_pg w.w hc h1) (pssW bd) (noSet_of h3)).w ?_
    refine (sx tb it).i w.w h2 (fun z => tgtB_tup h1 (by simpa [z] using h4)) E1 ((OutP.thn E1 q).imp fun ds F2 H2 ed g k J wk => ?_)
    obtain ⟨L, hL, wa⟩ := wk
    obtain ⟨Fz, gz, sz, ez⟩ := freezeL (fun a ha => ⟨(hL a ha).1, (hL a ha).2.elim .inl fun z => z.elim .inr fun ⟨j, dj, hj, ej, _⟩ => absurd hj (frzAll_own ej).2⟩) g
    have Ez := E1.grow gz
    have Ez' : EnvOk kx Fz H0 (frzIt it env) σ Fz H2 := ⟨Ez.len, Ez.sl, Ez.dj, Ez.ok, Same.refl Fz, Ez.h0, fun b e _ => e⟩
    refine ⟨fun i m σ' H' => m = ds.length - i ∧ i ≤ ds.length ∧ ∃ (Fc : Hp) (ec : SEnv), EnvOk kx Fz H0 ec σ' Fc H' ∧ OutP kx xr W Fz H0 (forLoop (takes tg one) (evB tb body) (killS kill) (ds.drop i) ec) Z,
      ⟨ds.length, by omega, Nat.zero_le _, Fz, _, Ez', by rw [List.drop_zero]; exact k.base Ez⟩, ?_⟩
    rintro i m σc Hc ⟨rfl, hile, Fc, ec, Ec, kc⟩
    have hLc : ∀ a ∈ L, Hc a = H2 a := fun a ha => by
      have q1 := ez a ha
      cases z : H2 a with
      | none => exact absurd z (hL a ha).1
      | some o =>
        rw [z] at q1
        exact Ec.ok.sm a o (Ec.f0 a o q1)
    obtain ⟨w1, w2, w3⟩ := wa Hc i hLc
    by_cases hi : i < ds.length
    · refine .inr ⟨w1 hi, fun σ' H' => (fun i m σ' H' => m = ds.length - i ∧ i ≤ ds.length ∧ ∃ (Fc : Hp) (ec : SEnv), EnvOk kx Fz H0 ec σ' Fc H' ∧ OutP kx xr W Fz H0 (forLoop (takes tg one) (evB tb body) (killS kill) (ds.drop i) ec) Z) (i + 1) (ds.length - (i + 1)) σ' H', fun σ' H' hn => ⟨_, by omega, hn⟩, fun v Hy y => ?_⟩
      obtain ⟨F3, d, edi, g3, rd⟩ := w3 v Hy Fc hi y Ec.ok (sz.trans Ec.f0)
      have edrop : ds.drop i = d :: ds.drop (i + 1) := by
        rw [List.drop_eq_getElem_cons hi]
        congr 1
        rw [List.getElem?_eq_getElem hi] at edi
        exact Option.some.inj edi
      rw [edrop] at kc
      unfold forLoop at kc
      split at kc
      · exact kc.elim
      · rename_i e1 etk
        rw [← w.w.kK]
        refine gT_ok etk (by rw [w.w.kK]; exact rd) ((Ec.grow g3).killS kill) fun σ2 E2 hl2 hj2 => ?_
        refine hb w h5 E2 ?_
        cases eo : evB tb body e1 with
        | nx e => rw [eo] at kc; exact fun F4 σ4 H4 E4 => ⟨rfl, hi, F4, e, E4, kc⟩
        | ct e => rw [eo] at kc; exact fun F4 σ4 H4 E4 => ⟨rfl, hi, F4, e, E4, kc⟩
        | bk e => rw [eo] at kc; exact fun F4 σ4 H4 E4 => kc F4 σ4 H4 (E4.killS kill)
        | rt r => rw [eo] at kc; exact kc
        | ex c p e => rw [eo] at kc; exact kc
        | no => rw [eo] at kc; exact kc
    · have e : i = ds.length := by omega
      subst e
      refine .inl ⟨w2 rfl, ?_⟩
      rw [List.drop_length] at kc
      exact kc Fc σc Hc (Ec.killS kill)
  · cases h
theorem ss_whl {c : PX} {body : XB} {fuel : Nat} {kill : List Nat} (hb : SnB tb body) : SnS tb (.whl c body fuel kill) := by
  intro X kx xr W cs w st h env σ F0 H0 F H Z E q
  simp only [chkS] at h
  split at h
  · rename_i t bd p
    simp only [Bool.and_eq_true] at h
    obtain ⟨⟨hcm, h1⟩, h2⟩ := h
    simp only [evS] at q
    refine (ps_while (w.po hcm) (ptW t) (pssW bd)).w ?_
    refine ⟨fun m σ H => ∃ (Fc : Hp) (ec : SEnv), EnvOk kx F0 H0 ec σ Fc H ∧ OutP kx xr W F0 H0 (whlLoop (fun e => (ev tb c e).bind fun x => Rs.of (toBool x.d)) (evB tb body) (killS kill) m ec) Z, ⟨fuel, F, env, E, q⟩, ?_⟩
    rintro m σc Hc ⟨Fc, ec, Ec, kc⟩
    cases m with
    | zero => unfold whlLoop at kc; exact kc.elim
    | succ n =>
      unfold whlLoop at kc
      refine (sx tb c).t w.w h1 (Ec.killS kill) ?_
      cases er : ev tb c (killS kill ec) with
      | no => rw [er] at kc; exact kc.elim
      | ex c' p' =>
        rw [er] at kc
        exact fun F' H' cls d g x => kc F' σc H' cls d ((Ec.killS kill).grow g) x
      | ok r =>
        rw [er] at kc
        simp only [Rs.bind] at kc
        cases eb : toBool r.d with
        | none => rw [eb] at kc; exact kc.elim
        | some b =>
          rw [eb] at kc
          intro F1 H1 g
          rw [toBool_d eb]
          have Ek := (Ec.killS kill).grow g
          show if b = true then _ else _
          cases b with
          | false =>
            rw [if_neg (by decide)]
            exact kc F1 σc H1 Ek
          | true =>
            rw [if_pos rfl]
            refine ⟨fun σ' H' => ∃ (Fc : Hp) (ec : SEnv), EnvOk kx F0 H0 ec σ' Fc H' ∧ OutP kx xr W F0 H0 (whlLoop (fun e => (ev tb c e).bind fun x => Rs.of (toBool x.d)) (evB tb body) (killS kill) n ec) Z, fun σ' H' hn => ⟨n, Nat.lt_succ_self n, hn⟩, ?_⟩
            refine hb w h2 Ek ?_
            simp only [Rs.of] at kc
            cases eo : evB tb body (killS kill ec) with
            | nx e => rw [eo] at kc; exact fun F4 σ4 H4 E4 => ⟨F4, e, E4, kc⟩
            | ct e => rw [eo] at kc; exact fun F4 σ4 H4 E4 => ⟨F4, e, E4, kc⟩
            | bk e => rw [eo] at kc; exact fun F4 σ4 H4 E4 => kc F4 σ4 H4 (E4.killS kill)
            | rt r => rw [eo] at kc; exact kc
            | ex c p e => rw [eo] at kc; exact kc
            | no => rw [eo] at kc; exact kc
  · cases h

/-! ### x[k] += e -/
theorem get_list (X : Cx) : PGet X (rGetL X.K) := by
  intro pins s σ H o i ov iv Q I ro ri h
  obtain ⟨p, xs, k, z, rfl, rfl, hp, he, q⟩ := h
  cases ro
  obtain ⟨t, rfl⟩ := ri
  obtain ⟨its, r, pl, hz⟩ := I.list (.of hp)
  obtain ⟨j, h1, h2, h3, h4, h5⟩ := atI_get he
  obtain ⟨w, ew, rw'⟩ := r.get h2
  have hl := r.length
  have hn := line63
  have fin : EP X pins σ Q w s := ⟨z, H, I, rw', q⟩
  by_cases h0 : 0 ≤ k
  · have hj : k.toNat = j := by
      rw [seqIndex_of h0 h5] at h1
      exact Option.some.inj h1
    exact PySem.wpAny_getItem_list pl.isList h0 (by omega) (by rw [hj]; simpa using ew) fin
  · have hj : (k + (its.toArray.size : Int)).toNat = j := by
      rw [seqIndex_neg (by omega) h4] at h1
      rw [List.size_toArray, ← hl]
      exact Option.some.inj h1
    exact PySem.wpAny_getItem_list_neg pl.isList (by omega) (by rw [List.size_toArray] <;> omega) (by omega) (by rw [hj]; simpa using ew) fin
theorem ss_augS (i : Nat) (k : PX) (op : Operator) (e : PX) : SnS tb (.augS i k op e) := by
  intro X kx xr W cs w st h env σ F0 H0 F H Z E q
  simp only [chkS] at h
  split at h
  · rename_i o s tp op' v sp
    simp only [Bool.and_eq_true, decide_eq_true_eq] at h
    obtain ⟨⟨⟨⟨e0, h1⟩, h2⟩, h3⟩, h4⟩ := h
    subst e0
    simp only [evS] at q
    split at q
    · rename_i ds hd
      obtain ⟨f, pf, fa, fs⟩ := pip_of (X := X) (op := op)
      refine (ps_augS (peW o) (peW s) (get_list X) (peW v) pf set_list (plainA h2)).w ?_
      obtain ⟨a, xs, e1, f1, f2, f3, f4⟩ := E.own hd
      refine (sn_var (tb := tb) i) w.w h1 E ?_
      simp only [ev, hd]
      intro F2 H2 g2 ov ro
      have eo := ro.bwv e1
      subst eo
      have E2 := E.grow g2
      refine (sx tb k).v w.w h3 E2 ((OutP.thn E2 q).imp fun r3 F3 H3 er3 g3 k3 kv rk => ?_)
      split at k3
      · rename_i n en
        obtain ⟨j, ej, k3⟩ := k3.opt
        split at k3
        · rename_i l el
          have E3 := E2.grow g3
          obtain ⟨a', xs', y1, y2, y3, y4, y5⟩ := E3.own hd
          rw [e1] at y1
          cases y1
          obtain ⟨u, eu, ru⟩ := y5.get el
          cases ru
          refine ⟨a, xs', n, .int l, rfl, rk.int_of en, y4, ?_, ?_⟩
          · unfold atI
            rw [y5.length, ej]
            exact eu
          refine (sx tb e).v w.w h4 E3 ((OutP.thn E3 k3).imp fun r4 F4 H4 er4 g4 k4 v4 rv4 => ?_)
          split at k4
          · rename_i m em
            have E4 := E3.grow g4
            obtain ⟨a', xs2, y1, z2, z3, z4, z5⟩ := E4.own hd
            rw [e1] at y1
            cases y1
            have fin : ∀ z : Int, OutP kx xr W F0 H0 (.nx (env.set i (.ow (ds.set j (.int z))))) Z → rSetL (.ref a) kv (.int z) H4 (fun H6 => Z.nx σ H6) := fun z kz =>
              ⟨a, xs2, n, j, rfl, rk.int_of en, z4, by rw [z5.length]; exact ej, kz F4 σ _ (E4.write hd rfl e1 noT_lst ⟨a, _, rfl, z2, z3, upd_same, RpL.set (.int z) _ z5⟩)⟩
            split at k4
            · exact ⟨l, m, rfl, rv4.int_of em, l + m, fa rfl l m, fin _ k4⟩
            · exact ⟨l, m, rfl, rv4.int_of em, l - m, fs rfl l m, fin _ k4⟩
            · exact k4.elim
          · exact k4.elim
        · exact k3.elim
      · exact k3.elim
    · exact q.elim
  · cases h
/-! ### exceptions -/
theorem ss_raise (c : Nat) (m : PXs) : SnS tb (.raise c m) := by
  intro X kx xr W cs w st h env σ F0 H0 F H Z E q
  simp only [chkS] at h
  split at h
  · rename_i x px s1 s2 s3 s4 s5
    simp only [Bool.and_eq_true, decide_eq_true_eq, List.any_eq_true] at h
    obtain ⟨⟨h1, h2⟩, ⟨t, ht, h3, h4⟩⟩ := h
    subst h3 h4
    obtain ⟨D, ed, hx⟩ := (w.ew h1).rs t ht
    obtain ⟨g1, g2, g3⟩ := gloB_of w.w h2
    simp only [evS, evs] at q
    refine (ps_raise (w.w.cm h1) w.w.tk (pmk_own PySem.F.excBase_ValueError ed.x ed.g ed.k (raises_own ed.b ed.t) g1 g2)).w ?_
    exact q F σ H (.ref D) none E (hx F H)
  · cases h
theorem unx_at (env : SEnv) (j : Nat) : (unx env)[j]? = (env[j]?).map fun | .xn _ _ => Slot.un | s => s := by first | (unfold unx; rw [List.getElem?_map]; rfl) | (unfold unx; rw [List.getElem?_map])
/-- caught exceptions are forgotten -/
theorem EnvOk.unx {k1 k2 : Kx} (hk : k1.K = k2.K) (E : EnvOk k1 F0 H0 env σ F H) : EnvOk k2 F0 H0 (VL.unx env) σ F H := by
  have key : ∀ (j : Nat) (s : Slot), (VL.unx env)[j]? = some s → s = .un ∨ (env[j]? = some s ∧ ∀ c p, s ≠ .xn c p) := fun j s e => by
    rw [unx_at] at e
    obtain ⟨s', e1, e2⟩ := Option.map_eq_some_iff.mp e
    cases s' with
    | xn c p => exact .inl e2.symm
    | _ => subst e2; exact .inr ⟨e1, fun _ _ z => nomatch z⟩
  refine ⟨by unfold VL.unx; rw [List.length_map]; exact E.len, fun j s e => ?_, fun j k3 sj sk a e1 e2 o1 o2 s1 s2 => ?_, E.ok, E.f0, E.h0, E.nb⟩
  · rcases key j s e with rfl | ⟨e1, hn⟩
    · trivial
    · have := E.sl j s e1
      cases s with
      | xn c p => exact absurd rfl (hn c p)
      | un => trivial
      | fz d => rw [SlotOk, ← hk]; exact this
      | ow ds => rw [SlotOk, ← hk]; exact this
      | dt ds => rw [SlotOk, ← hk]; exact this
      | dk ds => rw [SlotOk, ← hk]; exact this
      | dl ds => rw [SlotOk, ← hk]; exact this
  · rcases key j sj e1 with rfl | ⟨e1, _⟩
    · cases o1
    · rcases key k3 sk e2 with rfl | ⟨e2, _⟩
      · cases o2
      · exact E.dj j k3 sj sk a e1 e2 o1 o2 s1 s2
/-- a slot takes a caught exception -/
theorem EnvOk.setXn {k1 k2 : Kx} (hk : k1.K = k2.K) (hn : ∀ c p b F, ¬ k1.xa c p b F) (E : EnvOk k1 F0 H0 env σ F H) (i : Nat) {c : Nat} {p : Option D} {a : Addr} (hx : k2.xa c p a F) : EnvOk k2 F0 H0 (env.set i (.xn c p)) (σ.set i (some (.ref a))) F H := by
  refine ⟨by simp [E.len], fun j s e => ?_, fun j k3 sj sk b e1 e2 o1 o2 s1 s2 => ?_, E.ok, E.f0, E.h0, E.nb⟩
  · by_cases q : i = j
    · subst q
      by_cases l : i < env.length
      · rw [List.getElem?_set_self l] at e
        cases e
        exact ⟨a, by rw [List.getElem?_set_self (by rw [← E.len]; exact l)], hx⟩
      · rw [List.getElem?_eq_none (by simpa using l)] at e; cases e
    · rw [List.getElem?_set_ne q] at e
      rw [List.getElem?_set_ne q]
      have := E.sl j s e
      cases s with
      | xn c p => obtain ⟨b, _, z⟩ := this; exact absurd z (hn _ _ _ _)
      | un => trivial
      | fz d => rw [SlotOk, ← hk]; exact this
      | ow ds => rw [SlotOk, ← hk]; exact this
      | dt ds => rw [SlotOk, ← hk]; exact this
      | dk ds => rw [SlotOk, ← hk]; exact this
      | dl ds => rw [SlotOk, ← hk]; exact this
  · have nj : i ≠ j := fun q => by
      subst q
      by_cases l : i < env.length
      · rw [List.getElem?_set_self l] at e1; cases e1; simp [isOwn] at o1
      · rw [List.getElem?_eq_none (by simpa using l)] at e1; cases e1
    have nk : i ≠ k3 := fun q => by
      subst q
      by_cases l : i < env.length
      · rw [List.getElem?_set_self l] at e2; cases e2; simp [isOwn] at o2
      · rw [List.getElem?_eq_none (by simpa using l)] at e2; cases e2
    rw [List.getElem?_set_ne nj] at e1 s1
    rw [List.getElem?_set_ne nk] at e2 s2
    exact E.dj j k3 sj sk b e1 e2 o1 o2 s1 s2
/-- how the exception at a, of the class cls, lies -/
def kxS (kx : Kx) (xr : XR) (a : Addr) (cls : Value) (d : Option Addr) : Kx := ⟨kx.K, fun c p b _ => b = a ∧ ∃ Fz Hz, xr c p cls d Fz Hz, fun _ _ _ _ _ h _ => h⟩
theorem kitAny_of {K : PySem.W.Frag} {mg : Str → Option Value} {C : Value} {exs : List (Nat × Str)} {f : Nat → Bool} (h : ∀ t ∈ exs, ∀ T, mg t.2 = some (.ref T) → PySem.W.kitOne K C (.ref T) = some (f t.1)) : ∀ {ts : List (Nat × Str)} {Ts : List Addr}, (∀ t ∈ ts, t ∈ exs) →
    Paired (fun (t : Nat × Str) (T : Addr) => mg t.2 = some (.ref T)) ts Ts → PySem.W.kitAny K C (Ts.map Value.ref) = some ((ts.map (·.1)).any f)
  | _, _, _, .nil => rfl
  | t :: ts, T :: Ts, hm, .cons m p => by
    have h1 := h t (hm t List.mem_cons_self) T m
    have ih := kitAny_of h (ts := ts) (Ts := Ts) (fun u hu => hm u (List.mem_cons_of_mem _ hu)) p
    rw [List.map_cons, List.map_cons, List.any_cons]
    unfold PySem.W.kitAny
    rw [h1]
    cases f t.1 with
    | true => rfl
    | false => exact ih
def rIsET (K : PySem.W.Frag) (D a : Addr) : List V → Hp → VK → Prop := fun xs H Q => ∃ (tp : Addr) (Ts : List Addr) (b : Bool), xs = [.ref a, .ref tp] ∧ H tp = some (.tup (Ts.map V.ref)) ∧ PySem.W.kitAny K (.ref D) (Ts.map Value.ref) = some b ∧ Q (.bl b) H
theorem vals_refs' : ∀ {Ts : List Addr} {us : List Value}, Vals (Ts.map V.ref) us → us = Ts.map Value.ref
  | [], _, h => by cases h; rfl
  | T :: Ts, _, h => by
    cases h with
    | cons r t =>
      cases r
      rw [vals_refs' t]; rfl
theorem call_isET {X : Cx} {a D : Addr} {oe : Obj} {pn : List (Addr × Obj)} (C : ExcC X.K D) (hz : Zc (.ref D) none oe) (hf : ∃ vs, oe.data = .fields vs) : CallR (X.suite a ((a, oe) :: pn)) (.builtin "isinstance") (rIsET X.K D a) := by
  intro pins s σ H xs us Q I r h
  obtain ⟨tp, Ts, b, rfl, hT, e, q⟩ := h
  obtain ⟨u1, u2, rfl, r1, r2⟩ := vals2 r
  cases r1
  cases (show u2 = Value.ref tp from r2)
  obtain ⟨hget, _⟩ := I.pin (a, oe) (List.mem_append.mpr (.inl List.mem_cons_self))
  obtain ⟨vs, hv⟩ := hf
  have J : PySem.W.InstAt s.heap a oe D none := by
    obtain ⟨oc, od, oda, osl⟩ := oe
    obtain ⟨h1, h2⟩ := hz
    dsimp only at h1 h2 hv
    subst h1 h2 hv
    exact ⟨hget, rfl, rfl, trivial⟩
  obtain ⟨_, its, rv, o, h1, h2, n, h3⟩ := (show ObjOk X.prog X.w H s.heap tp (.tup (Ts.map V.ref)) from I.hok tp _ hT)
  have e3 := vals_refs' rv
  subst e3
  obtain ⟨oc, od, dt, sl⟩ := o
  simp only at h2 h3
  subst h2 h3
  exact PySem.W.kia_tup (PySem.W.handS_kitx_exc C.hg C.hk C.hs C.hd C.ha C.hn C.ht C.hm) I.kIn J h1 e (fun z => nomatch z) fun tk => ⟨.bl b, H, I.kept (t' := tk) fun _ _ z => z, rfl, q⟩
theorem ss_try {body suite : XB} {c i : Nat} {named : Bool} (hb : SnB tb body) (hsu : SnB tb suite) : SnS tb (.try body c i named suite) := by
  intro X kx xr W cs w st h env σ F0 H0 F H Z E q
  simp only [chkS] at h
  split at h
  · rename_i bd x px n b0 su p1 p2
    simp only [Bool.and_eq_true, decide_eq_true_eq, List.any_eq_true] at h
    obtain ⟨⟨⟨⟨⟨⟨hcm, h1⟩, h2⟩, h3⟩, ⟨t, ht, h4, h5⟩⟩, h6⟩, h7⟩ := h
    subst h4 h5
    have hN := ixB_of w.w h1
    have hln : X.env.kindOf n = some .local := locO_of w.w h2
    obtain ⟨g1, g2, g3⟩ := gloB_of w.w h3
    obtain ⟨T, mT⟩ := w.w.xg t ht
    have ew := w.ew hcm
    obtain ⟨hst, hfr⟩ := w.hs hcm
    have hnx := w.w.nx (w.w.cm hcm)
    refine (ps_try_as (i := i) (tb := fun W' D σ H => ∃ F0 H0 F env, EnvOk kx F0 H0 env σ F H ∧ OutP kx xr W' F0 H0 (evB tb body env) D)
      (ts := fun a cls d D σ H => ∃ F0 H0 F env, EnvOk (kxS kx xr a cls d) F0 H0 env σ F H ∧ OutP (kxS kx xr a cls d) xr (fun _ _ _ _ => False) F0 H0 (evB tb suite env) D)
      hst hfr w.w.nd hN hln ⟨g1, g2, .inl mT⟩ w.w.tk (fun W' pn xe tk po => ⟨fun pins s σ H D I h => ?_⟩) (fun a oe cls d pn hz hf => ⟨fun pins s σ H D I h => ?_⟩)).w ?_
    · obtain ⟨F0, H0, F, env, E, q⟩ := h
      have w' : Ws (X.tr pn xe) kx xr W' cs tb := ⟨⟨w.w.kK, w.w.N, w.w.sc, w.w.nd, w.w.cm, w.w.un, tk, w.w.st, w.w.fn, w.w.gl, w.w.bi, w.w.dp, w.w.xg, fun c p b F hx => absurd hx (hnx c p b F), w.w.nx, w.w.kf⟩, fun _ => po, w.ew, w.hs⟩
      exact hb w' h6 E q pins s I
    · obtain ⟨F0, H0, F, env, E, q⟩ := h
      have w' : Ws (X.suite a ((a, oe) :: pn)) (kxS kx xr a cls d) xr (fun _ _ _ _ => False) (calmOff cs) tb := by
        have no : ∀ {p : Prop}, (calmOff cs).cm = true → p := fun z => Bool.noConfusion (show false = true from z)
        have no2 : ∀ {p : Prop}, (X.suite a ((a, oe) :: pn)).calm = true → p := fun z => Bool.noConfusion (show false = true from z)
        refine ⟨⟨w.w.kK, w.w.N, w.w.sc, w.w.nd, no, w.w.un, takes0, w.w.st, (fun t ht => absurd (show t ∈ ([] : List (Nat × Str × Nat × List PyData)) from ht) (by simp)), w.w.gl, w.w.bi, w.w.dp, w.w.xg, fun c p b F hx => ?_, no2, (fun z hz => absurd (show z ∈ ([] : List Str) from hz) (by simp))⟩, no, no, no⟩
        obtain ⟨rfl, Fz, Hz, hx⟩ := hx
        obtain ⟨rfl, D, rfl, xc, kv, xt⟩ := ew.xf _ _ _ _ _ _ hx
        refine ⟨fun t ht T mT => ?_, ?_, fun ts Ts hts hp => ?_⟩
        · refine fun pins s σ H xs us Q I r hh => call_isE xc hz hf pins s σ H xs us Q I r ?_
          obtain ⟨rfl, hq⟩ := hh
          exact ⟨.ref T, .ref T, _, rfl, fun u hu => hu, (xt t ht T mT).1, hq⟩
        · refine fun pins s σ H xs us Q I r hh => call_isE xc hz hf pins s σ H xs us Q I r ?_
          obtain ⟨rfl, hq⟩ := hh
          exact ⟨.ty "ValueError", .type "ValueError", _, rfl, fun u hu => hu, kv, hq⟩
        · refine fun pins s σ H xs us Q I r hh => call_isET xc hz hf pins s σ H xs us Q I r ?_
          obtain ⟨tp, rfl, ht, hq⟩ := hh
          exact ⟨tp, Ts, _, rfl, ht, kitAny_of (fun t h T m => (xt t h T m).1) hts hp, hq⟩
      exact hsu w' h7 E q pins s I
    · refine ⟨F0, H0, F, env, E, ?_⟩
      simp only [evS] at q
      cases eo : evB tb body env with
      | nx e => rw [eo] at q; exact q
      | rt r => rw [eo] at q; exact q
      | bk e => rw [eo] at q; exact q.elim
      | ct e => rw [eo] at q; exact q.elim
      | no => rw [eo] at q; exact q.elim
      | ex c' p e =>
        rw [eo] at q
        intro F2 σ2 H2 cls d E2 hx
        obtain ⟨hd0, D, hcls, xc, kv, xt⟩ := ew.xf _ _ _ _ _ _ hx
        refine ⟨isaB c' t.1, by rw [hcls]; exact (xt t ht T mT).2, fun hy a na => ?_, fun hn => ?_⟩
        · simp only [hy, if_true] at q
          refine ⟨F0, H0, F2, e.set i (.xn c' p), EnvOk.setXn (k1 := kx) (k2 := kxS kx xr a cls d) rfl hnx E2 i ⟨rfl, F2, H2, hx⟩, ?_⟩
          cases es : evB tb suite (e.set i (.xn c' p)) with
          | nx e' =>
            rw [es] at q
            intro F3 σ3 H3 E3
            refine q F3 (σ3.set i none) H3 ?_
            have E4 : EnvOk kx F0 H0 (VL.unx e') σ3 F3 H3 := EnvOk.unx (k1 := kxS kx xr a cls d) (k2 := kx) rfl E3
            have E5 := E4.setUn i
            have eu : VL.unx (e'.set i .un) = (VL.unx e').set i .un := by unfold VL.unx; rw [List.map_set]
            rw [eu]
            refine ⟨by simp [E4.len], fun j s ej => ?_, fun j k3 sj sk b e1 e2 o1 o2 s1 s2 => ?_, E4.ok, E4.f0, E4.h0, E4.nb⟩
            · by_cases q' : i = j
              · subst q'
                by_cases l : i < (VL.unx e').length
                · rw [List.getElem?_set_self l] at ej
                  cases ej
                  trivial
                · rw [List.getElem?_eq_none (by simpa using l)] at ej; cases ej
              · rw [List.getElem?_set_ne q']
                exact E5.sl j s ej
            · have nj : i ≠ j := fun q => by
                subst q
                by_cases l : i < (VL.unx e').length
                · rw [List.getElem?_set_self l] at e1; cases e1; simp [isOwn] at o1
                · rw [List.getElem?_eq_none (by simpa using l)] at e1; cases e1
              have nk : i ≠ k3 := fun q => by
                subst q
                by_cases l : i < (VL.unx e').length
                · rw [List.getElem?_set_self l] at e2; cases e2; simp [isOwn] at o2
                · rw [List.getElem?_eq_none (by simpa using l)] at e2; cases e2
              rw [List.getElem?_set_ne nj] at s1
              rw [List.getElem?_set_ne nk] at s2
              exact E5.dj j k3 sj sk b e1 e2 o1 o2 s1 s2
          | rt r => rw [es] at q; exact q
          | bk e' => rw [es] at q; exact q.elim
          | ct e' => rw [es] at q; exact q.elim
          | ex c2 p2 e' => rw [es] at q; exact q.elim
          | no => rw [es] at q; exact q.elim
        · simp only [hn] at q
          exact q F2 σ2 H2 cls d E2 hx
  · cases h
mutual
theorem ss (tb : Tb) : (s : XS) → SnS tb s
  | .asg i e => ss_asg i e
  | .newT i => ss_newT i
  | .newK i => ss_newK i
  | .unp is e => ss_unp is e
  | .par i j a b => ss_par i j a b
  | .sto i k e => ss_sto i k e
  | .dsto i k e => ss_dsto i k e
  | .aug i op e => ss_aug i op e
  | .augS i k op e => ss_augS i k op e
  | .mut m i as => ss_mut m i as
  | .ret e => ss_ret e
  | .ret0 => ss_ret0
  | .iff c a b => ss_iff (sb tb a) (sb tb b)
  | .for tg one it body kill => ss_for (sb tb body)
  | .whl c body fuel kill => ss_whl (sb tb body)
  | .bk => ss_bk
  | .ct => ss_ct
  | .pass => ss_pass
  | .doc => ss_doc
  | .exp e => ss_exp e
  | .nope => ss_nope
  | .pops j i as => ss_none fun cs st => by simp only [chkS]
  | .raise c m => ss_raise c m
  | .try b c i n s => ss_try (sb tb b) (sb tb s)
  | .frz i => ss_none fun cs st => by simp only [chkS]
  | .kill is => ss_none fun cs st => by simp only [chkS]
theorem sb (tb : Tb) : (s : XB) → SnB tb s
  | .nil => sb_nil
  | .cons s t => sb_cons (ss tb s) (sb tb t)
end
end
end VL
/-! the value layer, 22: functions, the table -/
namespace VL
open PySem PySem.Spec L2

structure Ent where
  id : Nat
  x : Str
  qual : Str
  st : Stmt
  N : List Str
  np : Nat
  dd : List D
  body : XB
def Ent.ps (e : Ent) : List Str := e.N.take e.np
def Ent.code (e : Ent) : Code := ⟨e.N.length, e.body⟩
def Ent.cs (e : Ent) (nm : Nm) : Cs := ⟨e.N, defScope e.st, defScope e.st, true, nm⟩
def nodupB : List Str → Bool
  | [] => true
  | x :: xs => !(xs.any fun y => decide (y = x)) && nodupB xs
def scopeB (N ps : List Str) (sc : Scope) : Bool :=
  (match sc.kind with | .function => true | _ => false) && !sc.isCoroutine && !sc.isGenerator && nodupB N &&
  (ps.all fun x => match sc.names.lookup x with | some .local => true | some .cell => true | _ => false) &&
  (sc.names.all fun y => match y.2 with | .free => false | _ => true)
def Ent.ok (e : Ent) (nm : Nm) : Bool := scopeB e.N e.ps (defScope e.st) && decide (e.np ≤ e.N.length) && chkB e.body (e.cs nm) (defBody e.st)
/-- def f(p): return (len(p), p) -/
def sizeE (e : Ent) : Bool := match e.N with
  | [pn] => decide (e.np = 1) && scopeB [pn] [pn] (defScope e.st) && sizeB pn e.st
  | _ => false
def nmOf (T : List Ent) (gls : List Str) (exs : List (Nat × Str)) (rcs : List (Nat × Str) := []) : Nm := ⟨T.map fun e => (e.id, e.x, e.np, e.dd), gls, exs, (T.filter sizeE).map (·.x), rcs⟩
/-- the functions, by how deep they may go -/
def fnF (cd : Nat → Option Code) (gl : List D) : Nat → Nat → List D → Rs PR
  | 0, _, _ => .no
  | k + 1, id, ds => match cd id with
    | some c => run ⟨fnF cd gl k, gl⟩ c ds
    | none => .no
theorem nodupB_of : ∀ {N : List Str}, nodupB N = true → N.Nodup
  | [], _ => List.nodup_nil
  | x :: xs, h => by
    unfold nodupB at h
    rw [Bool.and_eq_true] at h
    refine List.nodup_cons.mpr ⟨fun hm => ?_, nodupB_of h.2⟩
    have := h.1
    rw [Bool.not_eq_true', List.any_eq_false] at this
    exact this x hm (decide_eq_true rfl)
theorem scope_of {N : List Str} {n : Nat} {sc : Scope} (hn : n ≤ N.length) (h : scopeB N (N.take n) sc = true) : FnScope N (N.take n) sc := by
  unfold scopeB at h
  simp only [Bool.and_eq_true, List.all_eq_true] at h
  obtain ⟨⟨⟨⟨⟨h1, h2⟩, h3⟩, h4⟩, h5⟩, h6⟩ := h
  refine ⟨?_, by simpa using h2, by simpa using h3, nodupB_of h4, ?_, fun x hx => ?_, fun y hy e => ?_⟩
  · split at h1
    · assumption
    · cases h1
  · rw [List.length_take, Nat.min_eq_left hn]
  · have := h5 x hx
    split at this
    · rename_i q; exact .inl q
    · rename_i q; exact .inr q
    · cases this
  · have := h6 y hy
    rw [e] at this
    cases this
section
variable {P : Program} {w : World} {K : PySem.W.Frag} {mg : Str → Option Value} {base : Heap}
/-- a def that may be made a function by its body -/
def FnMk (P : Program) (w : World) (K : PySem.W.Frag) (mg : Str → Option Value) (base : Heap) (e : Ent) (f : Addr) (fd : FuncData) : Prop :=
  ∀ (k : Nat) (sp : Sp), FnScope e.N e.ps (defScope e.st) → (∀ vs H Q E, sp vs H Q E → vs.length = e.ps.length) →
    (∀ (cdv : Value) (A : Around) (outer : List PySem.Env) (s : Shared) (H : Hp) (vs : List V) (Q : VK) (E : XK), Room k (A.deeper (PyProof.Rows.envOfC e.qual (defScope e.st) s.heap.objs.size f cdv)) → sp vs H Q E →
      ∃ t, PSs (cxOf (L2.CX P w) P w K mg base e.N e.qual (defScope e.st) f cdv A outer s H E) (defBody e.st) t ∧ t { nx := fun _ H' => Q .non H', rt := Q } (L2.start e.N vs) H) →
    FnOk P w K mg base (L2.CX P w) (k + 1) f fd e.ps sp
theorem fnMk_of {e : Ent} {f : Addr} {fd : FuncData} (F : L2.Fun K e.x e.qual e.st f fd) : FnMk P w K mg base e f fd := fun k sp S len hb => F.okX S len hb
theorem fnMk_ofD {e : Ent} {f : Addr} {fd : FuncData} {dvs : List V} {kws : List (Str × V)} (F : FunD K e.x e.qual (defArgs e.st) (defBody e.st) (defScope e.st) dvs kws f fd) : FnMk P w K mg base e f fd := fun k sp S len hb => F.ok S len hb
/-- what the text gives of a function -/
def EntAt (P : Program) (w : World) (K : PySem.W.Frag) (mg : Str → Option Value) (base : Heap) (e : Ent) : Prop := ∃ f fd, FnMk P w K mg base e f fd ∧ mg e.x = some (.ref f) ∧ PySem.W.keepIn K (.ref f) = true ∧
  (∀ j, j ≤ e.dd.length → ∃ dvs ds, Binds K fd e.ps ds ∧ Vals dvs ds ∧ ∀ H, RpL K H dvs (e.dd.drop (e.dd.length - j))) ∧ (sizeE e = true → SizeF K f)
def FnE (P : Program) (w : World) (K : PySem.W.Frag) (mg : Str → Option Value) (base : Heap) (xr : XR) (m : Nat → List D → Rs PR) (k : Nat) (e : Ent) (f : Addr) (fd : FuncData) : Prop := FnOk P w K mg base (L2.CX P w) k f fd e.ps (spM K xr e.np (m e.id))
theorem start_get {N : List Str} {vs : List V} {i : Nat} : i < vs.length → (L2.start N vs)[i]? = (vs[i]?).map some := fun hi => by
  unfold L2.start
  rw [List.getElem?_append_left (by simpa using hi), List.getElem?_map]
theorem start_ok {kx : Kx} {F H : Hp} {N : List Str} {vs : List V} {ds : List D} (ok : Ok F H) (hl : vs.length ≤ N.length) (r : RpL kx.K F vs ds) : EnvOk kx F H (start' N.length ds) (L2.start N vs) F H := by
  have hl2 := r.length
  have key : ∀ (i : Nat) (s : Slot), (start' N.length ds)[i]? = some s → s = .un ∨ ∃ d, ds[i]? = some d ∧ s = .fz d := fun i s e => by
    unfold start' at e
    by_cases hi : i < ds.length
    · rw [List.getElem?_append_left (by simpa using hi), List.getElem?_map] at e
      cases q : ds[i]? with
      | none => rw [q] at e; cases e
      | some d => rw [q] at e; exact .inr ⟨d, rfl, (Option.some.inj e).symm⟩
    · rw [List.getElem?_append_right (by simpa using hi), List.getElem?_replicate] at e
      split at e
      · exact .inl (Option.some.inj e).symm
      · cases e
  refine ⟨?_, fun i s e => ?_, fun i j si sj a e1 e2 o1 o2 s1 s2 => ?_, ok, Same.refl F, Same.refl H, fun b e _ => e⟩
  · unfold start' L2.start
    simp only [List.length_append, List.length_map, List.length_replicate]
    omega
  · rcases key i s e with rfl | ⟨d, e1, rfl⟩
    · trivial
    · obtain ⟨v, e2, rv⟩ := r.get e1
      have hi : i < vs.length := (List.getElem?_eq_some_iff.mp e2).1
      exact ⟨v, by rw [start_get hi, e2]; rfl, rv⟩
  · rcases key i si e1 with rfl | ⟨d, _, rfl⟩ <;> cases o1
theorem fn_step {kx : Kx} {xr : XR} {nm : Nm} {tb : Tb} {e : Ent} {f : Addr} {fd : FuncData} {k : Nat} (hk : kx.K = K) (hnx : ∀ c p b F, ¬ kx.xa c p b F) (ho : e.ok nm = true) (M : FnMk P w K mg base e f fd)
    (hfn : ∀ A : Around, Room k A → ∀ t ∈ nm.fns, ∃ k' f fd ps, FnOk P w K mg base (L2.CX P w) k' f fd ps (spM K xr t.2.2.1 (tb.fn t.1)) ∧ Room k' A ∧ mg t.2.1 = some (.ref f) ∧ PySem.W.keepIn K (.ref f) = true ∧
      ∀ j, j ≤ t.2.2.2.length → ∃ dvs ds, Binds K fd ps ds ∧ Vals dvs ds ∧ ∀ H, RpL K H dvs (t.2.2.2.drop (t.2.2.2.length - j)))
    (hgl : ∀ (g : Nat) (x : Str) (d : D), nm.gls[g]? = some x → tb.gl[g]? = some d → ∃ v u, mg x = some u ∧ RelV v u ∧ ∀ H, Rp K H v d)
    (hbi : ∀ x : Str, x ∈ blts → mg x = none) (hkf : ∀ z ∈ nm.kfs, ∃ f, mg z = some (.ref f) ∧ SizeF K f) (hew : ExW K mg xr nm.exs nm.rcs) : FnOk P w K mg base (L2.CX P w) (k + 1) f fd e.ps (spM K xr e.np (run tb e.code)) := by
  unfold Ent.ok at ho
  simp only [Bool.and_eq_true, decide_eq_true_eq] at ho
  obtain ⟨⟨h1, h2⟩, h3⟩ := ho
  have S : FnScope e.N e.ps (defScope e.st) := scope_of h2 h1
  have hpl : e.ps.length = e.np := by unfold Ent.ps; rw [List.length_take, Nat.min_eq_left h2]
  refine M k _ S (fun vs H Q E h => by rw [hpl]; exact h.1) fun cdv A outer s H vs Q E hr hsp => ?_
  obtain ⟨hl, F, ds, ok, rp, hm⟩ := hsp
  refine ⟨_, pssW _, ?_⟩
  have ws : Ws (cxOf (L2.CX P w) P w K mg base e.N e.qual (defScope e.st) f cdv A outer s H E) kx xr (fun cls d _ H' => E cls d H') (e.cs nm) tb := by
    refine ⟨⟨hk, rfl, rfl, S.nd, fun _ => rfl, ?_, takes_of rfl rfl rfl rfl, fun x h => ?_, fun t ht => hfn _ hr t ht, hgl, hbi, hr.depth, hew.xg, fun c p b F hx => absurd hx (hnx c p b F), fun _ => hnx, hkf⟩, fun _ => passes_of rfl, fun _ => hew, fun _ => ⟨rfl, rfl⟩⟩
    · have := hr.un
      show (A.deeper (PyProof.Rows.envOfC e.qual (defScope e.st) s.heap.objs.size f cdv)).units + 65 < cLine
      omega
    · refine ⟨?_, .inl rfl⟩
      have h : (match (defScope e.st).names.lookup x with | some .local => true | some .cell => true | _ => false) = true := h
      split at h
      · rename_i q; exact .inl q
      · rename_i q; exact .inr q
      · cases h
  have rp' : RpL kx.K F vs ds := by rw [hk]; exact rp
  refine sb tb e.body ws h3 (start_ok ok (by omega) rp') ?_
  unfold run at hm
  show OutP kx xr _ F H (evB tb e.body (start' e.N.length ds)) _
  have hm : (match (match evB tb e.body (start' e.N.length ds) with | .rt r => Rs.ok r | .nx _ => .ok (.v .none) | .ex c p _ => .ex c p | _ => .no) with
    | .ok r => QP K F H r Q
    | .ex c p => ∀ F' H' cls d, Grow F H F' H' → xr c p cls d F' H' → E cls d H'
    | .no => False) := hm
  cases eo : evB tb e.body (start' e.N.length ds) with
  | nx env => rw [eo] at hm; exact fun F' σ H' E' => hm F' H' .non E'.gr .non
  | rt r => rw [eo] at hm; exact fun F' H' v g p => hm F' H' v g (by rw [← hk]; exact p)
  | ex c p env => rw [eo] at hm; exact fun F' σ H' cls d E' x => hm F' H' cls d E'.gr x
  | bk env => rw [eo] at hm; exact hm.elim
  | ct env => rw [eo] at hm; exact hm.elim
  | no => rw [eo] at hm; exact hm.elim
theorem kfs_of {T : List Ent} {gls : List Str} {exs rcs : List (Nat × Str)} (FT : ∀ e ∈ T, EntAt P w K mg base e) : ∀ z ∈ (nmOf T gls exs rcs).kfs, ∃ f, mg z = some (.ref f) ∧ SizeF K f := fun z hz => by
  obtain ⟨e, he, rfl⟩ := List.mem_map.mp hz
  obtain ⟨h1, h2⟩ := List.mem_filter.mp he
  obtain ⟨f, fd, _, m, _, _, s⟩ := FT e h1
  exact ⟨f, m, s h2⟩
/-- every function of the table, to every depth -/
theorem fns_ok {kx : Kx} {xr : XR} {T : List Ent} {gls : List Str} {exs rcs : List (Nat × Str)} {gl : List D} {cd : Nat → Option Code} (hk : kx.K = K) (hnx : ∀ c p b F, ¬ kx.xa c p b F) (hew : ExW K mg xr exs rcs)
    (ho : ∀ e ∈ T, e.ok (nmOf T gls exs rcs) = true) (hc : ∀ e ∈ T, cd e.id = some e.code) (FT : ∀ e ∈ T, EntAt P w K mg base e)
    (hgl : ∀ (g : Nat) (x : Str) (d : D), gls[g]? = some x → gl[g]? = some d → ∃ v u, mg x = some u ∧ RelV v u ∧ ∀ H, Rp K H v d) (hbi : ∀ x : Str, x ∈ blts → mg x = none) :
    ∀ (k : Nat), ∀ e ∈ T, ∃ f fd, FnOk P w K mg base (L2.CX P w) k f fd e.ps (spM K xr e.np (fnF cd gl k e.id)) ∧ mg e.x = some (.ref f) ∧ PySem.W.keepIn K (.ref f) = true ∧
      ∀ j, j ≤ e.dd.length → ∃ dvs ds, Binds K fd e.ps ds ∧ Vals dvs ds ∧ ∀ H, RpL K H dvs (e.dd.drop (e.dd.length - j)) := by
  intro k
  induction k with
  | zero =>
    intro e he
    obtain ⟨f, fd, _, h2, h3, h4, _⟩ := FT e he
    refine ⟨f, fd, ⟨fun vs H Q E h => ?_, fun A outer s H args us vs Q E hr he hb hv h => ?_⟩, h2, h3, h4⟩
    · obtain ⟨_, _, _, _, _, z⟩ := h
      exact z.elim
    · obtain ⟨_, _, _, _, _, z⟩ := h
      exact z.elim
  | succ k ih =>
    intro e he
    obtain ⟨f, fd, h1, h2, h3, h4, _⟩ := FT e he
    refine ⟨f, fd, ?_, h2, h3, h4⟩
    have := fn_step (P := P) (w := w) (mg := mg) (base := base) (tb := ⟨fnF cd gl k, gl⟩) (xr := xr) hk hnx (ho e he) h1 (fun A hr t ht => by
      obtain ⟨e', he', rfl⟩ := List.mem_map.mp ht
      obtain ⟨f', fd', q1, q2, q3, q4⟩ := ih e' he'
      exact ⟨k, f', fd', e'.ps, q1, hr, q2, q3, q4⟩) hgl hbi (kfs_of FT) hew
    have e1 : fnF cd gl (k + 1) e.id = run ⟨fnF cd gl k, gl⟩ e.code := by
      funext ds
      show (match cd e.id with | some c => run ⟨fnF cd gl k, gl⟩ c ds | none => .no) = _
      rw [hc e he]
    rw [e1]
    exact this
end
end VL
/-! the value layer, 23: a law's own head -/
namespace VL
open PySem PySem.Spec L2
def xr0 : XR := fun _ _ _ _ _ _ => False
def kx0 (K : PySem.W.Frag) : Kx := ⟨K, fun _ _ _ _ => False, fun _ _ _ _ _ h _ => h⟩
section
variable {P : Program} {w : World} {K : PySem.W.Frag} {mg : Str → Option Value} {base : Heap}
theorem fn_eq {cd : Nat → Option Code} {gl : List D} {k id : Nat} {c : Code} (h : cd id = some c) : fnF cd gl (k + 1) id = run ⟨fnF cd gl k, gl⟩ c := by
  funext ds
  show (match cd id with | some c => run ⟨fnF cd gl k, gl⟩ c ds | none => .no) = _
  rw [h]
theorem law_ok {kx : Kx} {xr : XR} {T : List Ent} {gls : List Str} {exs rcs : List (Nat × Str)} {gl : List D} {cd : Nat → Option Code} {e : Ent} {f : Addr} {fd : FuncData} (hk : kx.K = K) (hnx : ∀ c p b F, ¬ kx.xa c p b F) (hew : ExW K mg xr exs rcs)
    (ho : ∀ e ∈ T, e.ok (nmOf T gls exs rcs) = true) (hc : ∀ e ∈ T, cd e.id = some e.code) (FT : ∀ e ∈ T, EntAt P w K mg base e)
    (hgl : ∀ (g : Nat) (x : Str) (d : D), gls[g]? = some x → gl[g]? = some d → ∃ v u, mg x = some u ∧ RelV v u ∧ ∀ H, Rp K H v d) (hbi : ∀ x : Str, x ∈ blts → mg x = none)
    (he : e ∈ T) (M : FnMk P w K mg base e f fd) (k : Nat) : FnOk P w K mg base (L2.CX P w) (k + 1) f fd e.ps (spM K xr e.np (fnF cd gl (k + 1) e.id)) := by
  rw [fn_eq (hc e he)]
  exact fn_step (tb := ⟨fnF cd gl k, gl⟩) hk hnx (ho e he) M (fun A hr t ht => by
    obtain ⟨e', he', rfl⟩ := List.mem_map.mp ht
    obtain ⟨f', fd', q1, q2, q3, q4⟩ := fns_ok (P := P) (w := w) (base := base) (xr := xr) hk hnx hew ho hc FT hgl hbi k e' he'
    exact ⟨k, f', fd', e'.ps, q1, hr, q2, q3, q4⟩) hgl hbi (kfs_of FT) hew
theorem cx_no {P : Program} {w : World} {H : Hp} {s : Shared} {e : Value} {s' : Shared} (h : L2.CX P w [] H s (fun _ _ _ => False) e s') : False := by
  obtain ⟨_, _, _, _, _, _, _, _, _, _, _, _, z⟩ := h
  exact z
/-- no classes -/
theorem ew0 : ExW K mg xr0 [] [] := ⟨(fun t ht => nomatch ht), (fun t ht => nomatch ht), fun _ _ _ _ _ _ h => False.elim (show False from h)⟩
theorem nx0 (K : PySem.W.Frag) : ∀ c p b F, ¬ (kx0 K).xa c p b F := fun _ _ _ _ h => h
/-- how the exceptions of the classes at ca lie -/
def xrT (ca : Nat → Option Addr) : XR := fun c p cls d _ _ => p = none ∧ d = none ∧ ∃ D, ca c = some D ∧ cls = .ref D
/-- what is told of all: ca the raised ones' places; ea all ones' -/
theorem ewT {ca : Nat → Option Addr} {exs rcs : List (Nat × Str)} (xg : ∀ t ∈ exs, ∃ T, mg t.2 = some (.ref T)) (rs : ∀ t ∈ rcs, ∃ D, ca t.1 = some D ∧ ExD K mg t.2 D)
    (xf : ∀ c D, ca c = some D → ExcC K D ∧ PySem.W.kitOne K (.ref D) (.type "ValueError") = some true ∧ ∀ t ∈ exs, ∀ T, mg t.2 = some (.ref T) → PySem.W.kitOne K (.ref D) (.ref T) = some (isaB c t.1) ∧ PySem.W.exmOne K (.ref D) (.ref T) = some (isaB c t.1)) : ExW K mg (xrT ca) exs rcs :=
  ⟨xg, fun t ht => by
    obtain ⟨D, h1, h2⟩ := rs t ht
    exact ⟨D, h2, fun F H => ⟨rfl, rfl, D, h1, rfl⟩⟩, fun c p cls d F H h => by
    obtain ⟨rfl, rfl, D, h1, rfl⟩ := h
    obtain ⟨a, b, q⟩ := xf c D h1
    exact ⟨rfl, D, rfl, a, b, q⟩⟩
/-- a promise that no exception leaves -/
def spL (K : PySem.W.Frag) (n : Nat) (m : List D → Rs PR) : Sp := fun vs H Q E => vs.length = n ∧ ∃ F ds, Ok F H ∧ RpL K F vs ds ∧ ∃ r, m ds = .ok r ∧ QP K F H r Q
theorem spL_imp {xr : XR} {n : Nat} {m : List D → Rs PR} {vs : List V} {H : Hp} {Q : VK} {E : XK} (h : spL K n m vs H Q E) : spM K xr n m vs H Q E := by
  obtain ⟨h1, F, ds, h2, h3, r, h4, h5⟩ := h
  refine ⟨h1, F, ds, h2, h3, ?_⟩
  rw [h4]
  exact h5
theorem spL_law {m : List D → Rs PR} {H : Hp} {a : Addr} {ns : List Int} (hm : m [.list (ns.map .int)] = .ok (.v (.bool true))) (hS : SqL K H a (ns.map V.int)) : spL K 1 m [.ref a] H (fun v _ => v = .bl true) (fun _ _ _ => False) := by
  refine ⟨rfl, H, _, Ok.refl H, .cons (.lst hS RpL.ofInts) .nil, _, hm, fun F' H' v g p => ?_⟩
  cases p
  rfl
/-- a tuple of the module -/
theorem rp_ktup {K : PySem.W.Frag} {a : Addr} {d : Option Addr} {l : List Value} {n : Nat} {s : Array (Option Value)} {xs : List V} {ds : List D} (h : K.lookup a = some ⟨.type "tuple", d, .seq (List.toArray l) n, s⟩) (hp : pairD ds = false) (hl : l.length < 1000)
    (hv : Vals xs l) (hr : ∀ H, RpL K H xs ds) : ∀ H, Rp K H (.ref a) (.tuple ds) := fun H =>
  .tup (.inr ⟨hp, _, _, _, h, rfl, rfl, by simpa using small_size hl, by simpa using hv⟩) (hr H)
/-- the law's promise -/
theorem sp_law {xr : XR} {m : List D → Rs PR} {H : Hp} {a : Addr} {ns : List Int} (hm : m [.list (ns.map .int)] = .ok (.v (.bool true))) (hS : SqL K H a (ns.map V.int)) : spM K xr 1 m [.ref a] H (fun v _ => v = .bl true) (fun _ _ _ => False) := by
  refine ⟨rfl, H, _, Ok.refl H, .cons (.lst hS RpL.ofInts) .nil, ?_⟩
  rw [hm]
  intro F' H' v g p
  cases p
  rfl
theorem ent_at {e : Ent} {f : Addr} {fd : FuncData} (F : L2.Fun K e.x e.qual e.st f fd) (hm : mg e.x = some (.ref f)) (hd : e.dd = []) (hb : Binds K fd e.ps []) : EntAt P w K mg base e := by
  refine ⟨f, fd, fnMk_of F, hm, F.kp, fun j hj => ⟨[], [], hb, .nil, fun H => ?_⟩, fun hs => ?_⟩
  · rw [hd]
    rw [List.drop_nil]
    exact .nil
  · unfold sizeE at hs
    split at hs
    · rename_i pn eN
      simp only [Bool.and_eq_true, decide_eq_true_eq] at hs
      obtain ⟨⟨h1, h2⟩, h3⟩ := hs
      have ep : e.ps = [pn] := by unfold Ent.ps; rw [eN, h1]; rfl
      rw [ep] at hb
      exact ⟨e.x, e.qual, e.st, fd, pn, F, hb, h3, scope_of (N := [pn]) (n := 1) (Nat.le_refl _) h2⟩
    · cases hs
theorem ent_atD {f : Addr} {fd : FuncData} {e : Ent} {dvs : List V} (F : FunD K e.x e.qual (defArgs e.st) (defBody e.st) (defScope e.st) dvs [] f fd) (hm : mg e.x = some (.ref f)) (hr : ∀ H, RpL K H dvs e.dd)
    (hb : ∀ j, j ≤ e.dd.length → ∃ ds, Vals (dvs.drop (e.dd.length - j)) ds ∧ Binds K fd e.ps ds) (hs : sizeE e = false) : EntAt P w K mg base e := by
  refine ⟨f, fd, fnMk_ofD F, hm, F.kp, fun j hj => ?_, fun z => by rw [hs] at z; cases z⟩
  obtain ⟨ds, h1, h2⟩ := hb j hj
  exact ⟨dvs.drop (e.dd.length - j), ds, h2, h1, fun H => RpL.drop _ (hr H)⟩
theorem bi_of {l : List Str} (h : l.all (fun x => decide (mg x = none)) = true) : ∀ x : Str, x ∈ l → mg x = none := fun x hx => of_decide_eq_true (List.all_eq_true.mp h x hx)
end
end VL
/-! the value layer, 24: rows for reckoning with codes -/
namespace VL
open PySem PySem.Spec L2
theorem eqv_int (a b : Int) : PyData.eqv (.int a) (.int b) = decide (a = b) := by
  by_cases h : a = b
  · subst h; simp [PyData.eqv]
  · simp [PyData.eqv, h]
theorem c_lt (a b : Int) : cmpD .Lt (.int a) (.int b) = some (decide (a < b)) := rfl
theorem c_gt (a b : Int) : cmpD .Gt (.int a) (.int b) = some (decide (b < a)) := rfl
theorem c_le (a b : Int) : cmpD .LtE (.int a) (.int b) = some (decide (a ≤ b)) := by
  have : decide (a ≤ b) = !decide (b < a) := by rw [← decide_not]; congr 1; simp
  rw [this]; rfl
theorem c_ge (a b : Int) : cmpD .GtE (.int a) (.int b) = some (decide (b ≤ a)) := by
  have : decide (b ≤ a) = !decide (a < b) := by rw [← decide_not]; congr 1; simp
  rw [this]; rfl
theorem c_eq (a b : Int) : cmpD .Eq (.int a) (.int b) = some (decide (a = b)) := by
  show eqD _ _ = _
  unfold eqD
  rw [if_pos ⟨rfl, rfl⟩, eqv_int]
theorem c_ne (a b : Int) : cmpD .NotEq (.int a) (.int b) = some (decide (a ≠ b)) := by
  have : eqD (.int a) (.int b) = some (decide (a = b)) := c_eq a b
  unfold cmpD
  simp only [this]
  show some (!decide (a = b)) = _
  rw [← decide_not]
theorem c_is (d : D) : cmpD .Is d .none = some (isNone d) := rfl
theorem c_isnot (d : D) : cmpD .IsNot d .none = some (!isNone d) := rfl
theorem cmp_eq {d e : D} (h1 : sh 30 d = true) (h2 : sh 30 e = true) : cmpD .Eq d e = some (PyData.eqv d e) := by
  unfold cmpD eqD
  rw [if_pos ⟨h1, h2⟩]
theorem cmp_ne {d e : D} (h1 : sh 30 d = true) (h2 : sh 30 e = true) : cmpD .NotEq d e = some (!PyData.eqv d e) := by
  unfold cmpD eqD
  rw [if_pos ⟨h1, h2⟩]; rfl
theorem sh_int (n : Nat) (i : Int) : sh n (.int i) = true := by cases n <;> rfl
theorem sh_ints (n : Nat) (l : List Int) : (l.map PyData.int).all (sh n) = true := by
  rw [List.all_eq_true]
  intro x hx
  obtain ⟨i, _, rfl⟩ := List.mem_map.mp hx
  exact sh_int n i
theorem sh_lst {n : Nat} {xs : List D} (h : xs.all (sh n) = true) : sh (n + 1) (.list xs) = true := by rw [sh]; exact h
theorem sh_tpl {n : Nat} {xs : List D} (h : xs.all (sh n) = true) : sh (n + 1) (.tuple xs) = true := by rw [sh]; exact h
/-! ### sizes -/
theorem log_lt {n k : Nat} (hk : 0 < k) (h : n < 2 ^ k) : n.log2 < k := by
  by_cases h0 : n = 0
  · subst h0; simpa using hk
  · exact (Nat.log2_lt h0).mpr h
theorem mul_ok {i j : Int} (k : Nat) (hk : 0 < k ∧ k ≤ 400000) (hi : i.natAbs < 2 ^ k) (hj : j.natAbs < 2 ^ k) : mulOk i j = true := by
  unfold mulOk
  have h1 := log_lt hk.1 hi
  have h2 := log_lt hk.1 hj
  exact decide_eq_true (by omega)
theorem cutL_nat {α : Type} (xs : List α) (a b : Nat) : cutL xs (some (a : Int)) (some (b : Int)) = (xs.drop a).take (b - a) := by
  unfold cutL
  rw [HT.sIx_nat, HT.sIx_nat]
  rcases Nat.le_total a xs.length with h | h
  · rw [Nat.min_eq_left h]
    rcases Nat.le_total b xs.length with h2 | h2
    · rw [Nat.min_eq_left h2]
    · rw [Nat.min_eq_right h2, List.take_of_length_le (Nat.le_of_eq (by rw [List.length_drop])), List.take_of_length_le (by rw [List.length_drop]; omega)]
  · rw [Nat.min_eq_right h, List.drop_of_length_le h, List.drop_of_length_le (Nat.le_refl _)]
    simp
theorem cutL_to {α : Type} (xs : List α) (b : Nat) : cutL xs none (some (b : Int)) = xs.take b := by
  unfold cutL
  rw [HT.sIx_none, HT.sIx_nat, List.drop_zero, Nat.sub_zero]
  rcases Nat.le_total b xs.length with h2 | h2
  · rw [Nat.min_eq_left h2]
  · rw [Nat.min_eq_right h2, List.take_of_length_le (Nat.le_refl _), List.take_of_length_le h2]
theorem cutL_from {α : Type} (xs : List α) (a : Nat) : cutL xs (some (a : Int)) none = xs.drop a := by
  unfold cutL
  rw [HT.sIx_none, HT.sIx_nat]
  rcases Nat.le_total a xs.length with h | h
  · rw [Nat.min_eq_left h, List.take_of_length_le (Nat.le_of_eq (by rw [List.length_drop]))]
  · rw [Nat.min_eq_right h, List.drop_of_length_le h, List.drop_of_length_le (Nat.le_refl _)]
    simp
/-- range upwards -/
theorem rng_up {a b c : Int} (ha : 0 ≤ a ∧ a ≤ 1000000) (hb : 0 ≤ b ∧ b ≤ 1000000) (hc : 1 ≤ c ∧ c ≤ 1000000) : ∃ n : Nat, rngD [.int a, .int b, .int c] = some ((List.range n).map fun (i : Nat) => PyData.int (a + i * c)) ∧ ∀ i : Nat, i < n → a + i * c < b := by
  have h2 : a < b → 0 ≤ (b - a - 1) / c := fun h => Int.ediv_nonneg (by omega) (by omega)
  have h1 : a < b → (b - a - 1) / c ≤ b - a - 1 := fun h => Int.ediv_le_self _ (by omega)
  have h3 : (b - a - 1) / c * c ≤ b - a - 1 := Int.ediv_mul_le _ (by omega)
  have hz : Builtin.Range.rangeSize a b c = if a < b then (b - a - 1) / c + 1 else 0 := by
    unfold Builtin.Range.rangeSize
    rw [if_pos (show c > 0 by omega)]
  have fit : ∀ i : Int, 0 ≤ i → i ≤ 10000000 → Builtin.Range.rangeFitsLong i = true := fun i h0 h1 => by
    unfold Builtin.Range.rangeFitsLong
    simp only [Bool.and_eq_true, decide_eq_true_eq]
    omega
  have hs : Builtin.Range.small a b c = true := by
    unfold Builtin.Range.small
    rw [hz, if_pos (show c > 0 by omega), fit a ha.1 (by omega), fit b hb.1 (by omega), fit c (by omega) (by omega), fit (b + (c - 1)) (by omega) (by omega), Bool.or_true]
    split
    · rename_i h
      rw [fit _ (by have := h2 h; omega) (by have := h1 h; omega)]; rfl
    · rfl
  refine ⟨(Builtin.Range.rangeSize a b c).toNat, ?_, fun i hi => ?_⟩
  · show rngStep a b c = _
    unfold rngStep
    rw [if_pos ⟨by omega, by omega, hs⟩]
  · rw [hz] at hi
    split at hi
    · rename_i h
      have e : (i : Int) ≤ (b - a - 1) / c := by have := h2 h; omega
      have : (i : Int) * c ≤ (b - a - 1) / c * c := Int.mul_le_mul_of_nonneg_right e (by omega)
      omega
    · simp at hi
/-! ### loops, turn by turn -/
theorem for_nil {tk : D → SEnv → Option SEnv} {B : SEnv → Out} {kl : SEnv → SEnv} {env : SEnv} : forLoop tk B kl [] env = .nx (kl env) := rfl
theorem for_nx {tk : D → SEnv → Option SEnv} {B : SEnv → Out} {kl : SEnv → SEnv} {d : D} {ds : List D} {env e1 e2 : SEnv} (h1 : tk d (kl env) = some e1) (h2 : B e1 = .nx e2) : forLoop tk B kl (d :: ds) env = forLoop tk B kl ds e2 := by
  rw [forLoop, h1]
  simp only [h2]
theorem for_rt {tk : D → SEnv → Option SEnv} {B : SEnv → Out} {kl : SEnv → SEnv} {d : D} {ds : List D} {env e1 : SEnv} {r : PR} (h1 : tk d (kl env) = some e1) (h2 : B e1 = .rt r) : forLoop tk B kl (d :: ds) env = .rt r := by
  rw [forLoop, h1]
  simp only [h2]
theorem for_ct {tk : D → SEnv → Option SEnv} {B : SEnv → Out} {kl : SEnv → SEnv} {d : D} {ds : List D} {env e1 e2 : SEnv} (h1 : tk d (kl env) = some e1) (h2 : B e1 = .ct e2) : forLoop tk B kl (d :: ds) env = forLoop tk B kl ds e2 := by
  rw [forLoop, h1]
  simp only [h2]
theorem for_bk {tk : D → SEnv → Option SEnv} {B : SEnv → Out} {kl : SEnv → SEnv} {d : D} {ds : List D} {env e1 e2 : SEnv} (h1 : tk d (kl env) = some e1) (h2 : B e1 = .bk e2) : forLoop tk B kl (d :: ds) env = .nx (kl e2) := by
  rw [forLoop, h1]
  simp only [h2]
theorem lc_map {tk : D → Option SEnv} {test : SEnv → Rs Bool} {elt : SEnv → Rs R} (g : D → D) : ∀ {ds : List D}, (∀ d ∈ ds, ∃ e r, tk d = some e ∧ test e = .ok true ∧ elt e = .ok r ∧ keepR r = some (g d)) → lcLoop tk test elt ds = .ok (ds.map g)
  | [], _ => rfl
  | d :: ds, h => by
    obtain ⟨e, r, h1, h2, h3, h4⟩ := h d List.mem_cons_self
    rw [lcLoop, h1]
    simp only [h2, h3, h4, lc_map g (ds := ds) fun x hx => h x (List.mem_cons_of_mem _ hx), List.map_cons]
theorem ev_rng {tb : Tb} {as : PXs} {env : SEnv} {rs : List R} {l : List D} (h : evs tb as env = .ok rs) (h2 : rngD (rs.map R.d) = some l) : evI tb (.rng as) env = .ok l := by
  simp only [evI, h, Rs.bind, h2, Rs.of]
/-! ### builtins -/
section
variable (xs : List D) (a b : Int) (n : Nat)
theorem p_lenl : priD .len [.list xs] = some (.v (.int xs.length)) := rfl
theorem p_lent : priD .len [.tuple xs] = some (.v (.int xs.length)) := rfl
theorem p_min2 : priD .min2 [.int a, .int b] = some (.v (.int (min a b))) := by
  have : (if b < a then b else a) = min a b := by split <;> omega
  rw [← this]; rfl
theorem p_max2 : priD .max2 [.int a, .int b] = some (.v (.int (max a b))) := by
  have : (if b > a then b else a) = max a b := by split <;> omega
  rw [← this]; rfl
theorem p_min12 : priD .min1 [.tuple [.int a, .int b]] = some (.v (.int (min a b))) := rfl
theorem p_max12 : priD .max1 [.tuple [.int a, .int b]] = some (.v (.int (max a b))) := rfl
theorem p_tuplel : priD .tuple [.list xs] = some (.v (.tuple xs)) := rfl
theorem p_tuplet : priD .tuple [.tuple xs] = some (.v (.tuple xs)) := rfl
theorem p_listl : priD .list [.list xs] = some (.l xs) := rfl
theorem p_listt : priD .list [.tuple xs] = some (.l xs) := rfl
theorem allOpt_ints (ns : List Int) : allOpt toInt (ns.map PyData.int) = some ns := by
  induction ns with
  | nil => rfl
  | cons n ns ih => rw [List.map_cons, allOpt, ih]; rfl
theorem allOpt_bools (ns : List Bool) : allOpt VL.toBool (ns.map PyData.bool) = some ns := by
  induction ns with
  | nil => rfl
  | cons n ns ih => rw [List.map_cons, allOpt, ih]; rfl
theorem p_sum (ns : List Int) : priD .sum [.list (ns.map .int)] = some (.v (.int ns.sum)) := by
  show (do let ns ← allOpt toInt (ns.map .int); some (PR.v (.int ns.sum))) = _
  rw [allOpt_ints]; rfl
theorem p_any (ns : List Bool) : priD .any [.list (ns.map .bool)] = some (.v (.bool (ns.any id))) := by
  show (do let ns ← allOpt VL.toBool (ns.map .bool); some (PR.v (.bool (ns.any id)))) = _
  rw [allOpt_bools]; rfl
theorem p_all (ns : List Bool) : priD .all [.list (ns.map .bool)] = some (.v (.bool (ns.all id))) := by
  show (do let ns ← allOpt VL.toBool (ns.map .bool); some (PR.v (.bool (ns.all id)))) = _
  rw [allOpt_bools]; rfl
theorem p_sorted (h : srtOk xs = true) : priD .sorted [.list xs] = some (.l (sortD PySem.W.dataLt xs)) := by
  show (do let ys ← itemsOf (.list xs); if srtOk ys = true then some (PR.l (sortD PySem.W.dataLt ys)) else none) = _
  show (if srtOk xs = true then some (PR.l (sortD PySem.W.dataLt xs)) else none) = _
  rw [if_pos h]
theorem p_abs : priD .abs [.int a] = some (.v (.int (if a < 0 then -a else a))) := rfl
theorem p_inti : priD .int [.int a] = some (.v (.int a)) := rfl
theorem p_intb (k : Bool) : priD .int [.bool k] = some (.v (.int (if k = true then 1 else 0))) := rfl
theorem o_add : binD .Add (.int a) (.int b) = some (.v (.int (a + b))) := rfl
theorem o_sub : binD .Sub (.int a) (.int b) = some (.v (.int (a - b))) := rfl
theorem o_mul (h : mulOk a b = true) : binD .Mult (.int a) (.int b) = some (.v (.int (a * b))) := by
  show (binI .Mult a b).map _ = _
  unfold binI
  simp only [h, if_true]; rfl
theorem o_fdiv (h : 0 < b) (h2 : b < 2 ^ 250) : binD .FloorDiv (.int a) (.int b) = some (.v (.int (a / b))) := by
  show (binI .FloorDiv a b).map _ = _
  unfold binI
  simp only [h, h2, if_true]; rfl
theorem o_mod (h : 0 < b) : binD .Mod (.int a) (.int b) = some (.v (.int (a % b))) := by
  show (binI .Mod a b).map _ = _
  unfold binI
  simp only [h, if_true]; rfl
theorem o_and : binD .BitAnd (.int a) (.int b) = some (.v (.int (Builtin.bitAnd a b))) := rfl
theorem o_shr (h : 0 ≤ b) : binD .RShift (.int a) (.int b) = some (.v (.int (a / 2 ^ b.toNat))) := by
  show (binI .RShift a b).map _ = _
  unfold binI
  simp only [h, if_true]; rfl
theorem o_catl (ys : List D) (h : xs.length + ys.length ≤ LIM) : binD .Add (.list xs) (.list ys) = some (.l (xs ++ ys)) := by
  show (if xs.length + ys.length ≤ LIM then some (PR.l (xs ++ ys)) else none) = _
  rw [if_pos h]
theorem o_catt (ys : List D) (h : xs.length + ys.length ≤ LIM) : binD .Add (.tuple xs) (.tuple ys) = some (.v (.tuple (xs ++ ys))) := by
  show (if xs.length + ys.length ≤ LIM then some (PR.v (.tuple (xs ++ ys))) else none) = _
  rw [if_pos h]
theorem o_rep (h : 0 ≤ a ∧ a ≤ 1000000 ∧ xs.length * a.toNat ≤ LIM) : binD .Mult (.list xs) (.int a) = some (.l (List.replicate a.toNat xs).flatten) := by
  show (if 0 ≤ a ∧ a ≤ 1000000 ∧ xs.length * a.toNat ≤ LIM then some (PR.l (List.replicate a.toNat xs).flatten) else none) = _
  rw [if_pos h]
theorem i_l : idxD (.list xs) (.int a) = L2.atI xs a := rfl
theorem i_t : idxD (.tuple xs) (.int a) = L2.atI xs a := rfl
theorem s_l (lo hi : Option Int) : slcD (.list xs) lo hi = some (.l (cutL xs lo hi)) := rfl
theorem s_t (lo hi : Option Int) : slcD (.tuple xs) lo hi = some (.v (.tuple (cutL xs lo hi))) := rfl
theorem at_nat (k : Nat) : L2.atI xs (k : Int) = xs[k]? := by
  unfold L2.atI L2.ixN
  rw [if_pos (by omega)]
  by_cases h : (k : Int) < xs.length
  · rw [if_pos h]; simp
  · rw [if_neg h]
    have : xs.length ≤ k := by omega
    simp [this]
theorem r_1 (h : a ≤ LIM ∧ -1000000 ≤ a) : rngD [.int a] = some (rngL 0 a) := by
  show (if a ≤ LIM ∧ -1000000 ≤ a then some (rngL 0 a) else none) = _
  rw [if_pos h]
theorem r_2 (h : b ≤ LIM ∧ -1000000 ≤ b ∧ -1000000 ≤ a ∧ a ≤ LIM) : rngD [.int a, .int b] = some (rngL a b) := by
  show (if b ≤ LIM ∧ -1000000 ≤ b ∧ -1000000 ≤ a ∧ a ≤ LIM then some (rngL a b) else none) = _
  rw [if_pos h]
end
/-! ### equal data -/
theorem eqv_refl : ∀ (n : Nat) (d : D), sh n d = true → PyData.eqv d d = true := by
  intro n
  induction n with
  | zero =>
    intro d h
    cases d <;> first | (simp [sh] at h; done) | simp [PyData.eqv]
  | succ n ih =>
    have all : ∀ xs : List D, xs.all (sh n) = true → PyData.eqvAll xs xs = true := fun xs h => by
      induction xs with
      | nil => simp [PyData.eqvAll]
      | cons x xs ih2 =>
        rw [List.all_cons, Bool.and_eq_true] at h
        simp [PyData.eqvAll, ih x h.1, ih2 h.2]
    intro d h
    cases d with
    | list xs => simp only [sh] at h; simp [PyData.eqv, all xs h]
    | tuple xs => simp only [sh] at h; simp [PyData.eqv, all xs h]
    | dict kvs => simp [sh] at h
    | _ => simp [PyData.eqv]
end VL
/-! the value layer, 25: sorted rows of whole numbers; polynomials -/
namespace VL
open PySem PySem.W L2
open PyProof.Rows (itemOrd)

/-! ### insertion sort -/
section
variable {α β : Type}
def insL (lt : α → α → Bool) (x : α) : List α → List α
  | [] => [x]
  | y :: ys => if lt x y = true then x :: y :: ys else y :: insL lt x ys
def sortL (lt : α → α → Bool) (l : List α) : List α := l.foldl (fun acc x => insL lt x acc) []
theorem insL_map {lt : α → α → Bool} {f : α → D} {dl : D → D → Bool} (h : ∀ a b, dl (f a) (f b) = lt a b) (x : α) : ∀ l : List α, insD dl (f x) (l.map f) = (insL lt x l).map f
  | [] => rfl
  | y :: ys => by
    rw [List.map_cons, insD, insL, h]
    split
    · rfl
    · rw [List.map_cons, insL_map h x ys]
theorem sortL_map' {lt : α → α → Bool} {f : α → D} {dl : D → D → Bool} (h : ∀ a b, dl (f a) (f b) = lt a b) : ∀ (l acc : List α), (l.map f).foldl (fun acc x => insD dl x acc) (acc.map f) = (l.foldl (fun acc x => insL lt x acc) acc).map f
  | [], acc => rfl
  | x :: l, acc => by
    rw [List.map_cons, List.foldl_cons, List.foldl_cons, insL_map h, sortL_map' h l]
theorem sortL_map {lt : α → α → Bool} {f : α → D} {dl : D → D → Bool} (h : ∀ a b, dl (f a) (f b) = lt a b) (l : List α) : sortD dl (l.map f) = (sortL lt l).map f := sortL_map' h l []
theorem insL_perm (lt : α → α → Bool) (x : α) : ∀ l : List α, (insL lt x l).Perm (x :: l)
  | [] => .refl _
  | y :: ys => by
    unfold insL
    split
    · exact .refl _
    · exact ((insL_perm lt x ys).cons y).trans (.swap ..)
theorem sortL_perm' (lt : α → α → Bool) : ∀ (l acc : List α), (l.foldl (fun acc x => insL lt x acc) acc).Perm (l ++ acc)
  | [], acc => .refl _
  | x :: l, acc => by
    rw [List.foldl_cons, List.cons_append]
    refine (sortL_perm' lt l (insL lt x acc)).trans ?_
    refine (List.Perm.append_left l (insL_perm lt x acc)).trans ?_
    exact List.perm_middle
theorem sortL_perm (lt : α → α → Bool) (l : List α) : (sortL lt l).Perm l := by
  have := sortL_perm' lt l []
  rwa [List.append_nil] at this
/-- a strict total order -/
structure Sto (lt : α → α → Bool) : Prop where
  irr : ∀ a, lt a a = false
  tr : ∀ a b c, lt a b = true → lt b c = true → lt a c = true
  tot : ∀ a b, lt a b = false → lt b a = false → a = b
def Srt (lt : α → α → Bool) (l : List α) : Prop := l.Pairwise fun a b => lt b a = false
theorem Sto.asym {lt : α → α → Bool} (o : Sto lt) {a b : α} (h : lt a b = true) : lt b a = false := by
  cases q : lt b a with
  | false => rfl
  | true => exact absurd (o.tr a b a h q) (by rw [o.irr]; decide)
theorem Sto.le_tr {lt : α → α → Bool} (o : Sto lt) {a b c : α} (h1 : lt b a = false) (h2 : lt c b = false) : lt c a = false := by
  cases q : lt c a with
  | false => rfl
  | true =>
    cases q2 : lt a b with
    | true => rw [o.tr c a b q q2] at h2; cases h2
    | false =>
      have := o.tot a b q2 h1
      subst this
      rw [q] at h2; cases h2
theorem insL_srt {lt : α → α → Bool} (o : Sto lt) (x : α) : ∀ l : List α, Srt lt l → Srt lt (insL lt x l)
  | [], _ => by unfold insL; exact List.pairwise_singleton _ _
  | y :: ys, h => by
    obtain ⟨h1, h2⟩ := List.pairwise_cons.mp h
    unfold insL
    split
    · rename_i c
      refine List.pairwise_cons.mpr ⟨fun z hz => ?_, h⟩
      rcases List.mem_cons.mp hz with rfl | hz
      · exact o.asym c
      · exact o.le_tr (o.asym c) (h1 z hz)
    · rename_i c
      refine List.pairwise_cons.mpr ⟨fun z hz => ?_, insL_srt o x ys h2⟩
      rcases List.mem_cons.mp ((insL_perm lt x ys).mem_iff.mp hz) with rfl | hz
      · cases q : lt z y with
        | false => rfl
        | true => exact absurd q c
      · exact h1 z hz
theorem sortL_srt' {lt : α → α → Bool} (o : Sto lt) : ∀ (l acc : List α), Srt lt acc → Srt lt (l.foldl (fun acc x => insL lt x acc) acc)
  | [], _, h => h
  | x :: l, acc, h => sortL_srt' o l _ (insL_srt o x acc h)
theorem sortL_srt {lt : α → α → Bool} (o : Sto lt) (l : List α) : Srt lt (sortL lt l) := sortL_srt' o l [] List.Pairwise.nil
theorem srt_unique {lt : α → α → Bool} (o : Sto lt) : ∀ {l m : List α}, Srt lt l → Srt lt m → l.Perm m → l = m
  | [], m, _, _, p => by rw [List.Perm.eq_nil p.symm]
  | x :: l, [], _, _, p => by have := p.length_eq; simp at this
  | x :: l, y :: m, h1, h2, p => by
    obtain ⟨a1, a2⟩ := List.pairwise_cons.mp h1
    obtain ⟨b1, b2⟩ := List.pairwise_cons.mp h2
    have e : x = y := by
      rcases List.mem_cons.mp (p.mem_iff.mp List.mem_cons_self) with e | hx
      · exact e
      · rcases List.mem_cons.mp (p.mem_iff.mpr List.mem_cons_self) with e | hy
        · exact e.symm
        · exact o.tot x y (b1 x hx) (a1 y hy)
    subst e
    rw [srt_unique o a2 b2 (List.perm_cons x |>.mp p)]
theorem sortL_eq {lt : α → α → Bool} (o : Sto lt) {l m : List α} (p : l.Perm m) : sortL lt l = sortL lt m :=
  srt_unique o (sortL_srt o l) (sortL_srt o m) ((sortL_perm lt l).trans (p.trans (sortL_perm lt m).symm))
theorem sortL_self {lt : α → α → Bool} (o : Sto lt) {l : List α} (h : Srt lt l) : sortL lt l = l := srt_unique o (sortL_srt o l) h (sortL_perm lt l)
theorem sortL_filter {lt : α → α → Bool} (o : Sto lt) (p : α → Bool) (l : List α) : (sortL lt l).filter p = sortL lt (l.filter p) :=
  srt_unique o ((sortL_srt o l).filter p) (sortL_srt o _) (((sortL_perm lt l).filter p).trans (sortL_perm lt _).symm)
end

/-! ### rows of whole numbers -/
def lexI : List Int → List Int → Bool
  | [], [] => false
  | [], _ :: _ => true
  | _ :: _, [] => false
  | x :: xs, y :: ys => if x = y then lexI xs ys else decide (x < y)
def tI (xs : List Int) : D := .tuple (xs.map .int)
theorem toks_lt : ∀ xs ys : List Int, PyProof.Rows.lexLt itemOrd (keyToksAll (xs.map .int)) (keyToksAll (ys.map .int)) = lexI xs ys
  | [], [] => by decide
  | [], y :: ys => by
    simp only [List.map_nil, List.map_cons, keyToksAll]
    rw [PyProof.Rows.lex_diff (O := itemOrd) (by decide)]
    rfl
  | x :: xs, [] => by
    simp only [List.map_nil, List.map_cons, keyToksAll]
    rw [PyProof.Rows.lex_diff (O := itemOrd) (by decide)]
    rfl
  | x :: xs, y :: ys => by
    simp only [List.map_cons, keyToksAll, keyToks, List.cons_append, List.nil_append]
    rw [PyProof.Rows.lex_self (O := itemOrd), lexI]
    split
    · rename_i e
      subst e
      rw [PyProof.Rows.lex_self (O := itemOrd)]
      exact toks_lt xs ys
    · rename_i e
      rw [PyProof.Rows.lex_diff (O := itemOrd) (fun q => e (Sum.inl.inj q))]
      rfl
theorem lt_tI (xs ys : List Int) : dataLt (tI xs) (tI ys) = lexI xs ys := by
  unfold tI
  rw [dataLt_tuple, toks_lt]
theorem alike_ints : ∀ xs ys : List Int, alikeAll (xs.map .int) (ys.map .int) = true
  | [], _ => by simp [alikeAll]
  | _ :: _, [] => by simp [alikeAll]
  | x :: xs, y :: ys => by simp [alikeAll, alike, alike_ints xs ys]
theorem alike_tI (xs ys : List Int) : alike (tI xs) (tI ys) = true := by
  unfold tI
  rw [alike, alike_ints]
theorem sh_tI (n : Nat) (xs : List Int) : sh (n + 1) (tI xs) = true := sh_tpl (sh_ints n xs)
theorem lex_sto : Sto lexI := by
  have irr : ∀ a, lexI a a = false := fun a => by
    induction a with
    | nil => rfl
    | cons x xs ih => rw [lexI, if_pos rfl]; exact ih
  have tr : ∀ a b c, lexI a b = true → lexI b c = true → lexI a c = true := by
    intro a
    induction a with
    | nil =>
      intro b c h1 h2
      cases b with
      | nil => cases h1
      | cons y ys =>
        cases c with
        | nil => cases h2
        | cons z zs => rfl
    | cons x xs ih =>
      intro b c h1 h2
      cases b with
      | nil => cases h1
      | cons y ys =>
        cases c with
        | nil => cases h2
        | cons z zs =>
          rw [lexI] at h1 h2 ⊢
          split at h1
          · rename_i e
            subst e
            split at h2
            · rename_i e2; subst e2; rw [if_pos rfl]; exact ih _ _ h1 h2
            · rename_i e2; rw [if_neg e2]; exact h2
          · rename_i e
            split at h2
            · rename_i e2; subst e2; rw [if_neg e]; exact h1
            · rename_i e2
              simp only [decide_eq_true_eq] at h1 h2
              rw [if_neg (by omega)]
              simp only [decide_eq_true_eq]
              omega
  refine ⟨irr, tr, fun a => ?_⟩
  induction a with
  | nil =>
    intro b h1 h2
    cases b with
    | nil => rfl
    | cons y ys => cases h1
  | cons x xs ih =>
    intro b h1 h2
    cases b with
    | nil => cases h2
    | cons y ys =>
      rw [lexI] at h1 h2
      by_cases e : x = y
      · subst e
        rw [if_pos rfl] at h1 h2
        rw [ih ys h1 h2]
      · rw [if_neg e] at h1
        rw [if_neg (Ne.symm e)] at h2
        simp only [decide_eq_false_iff_not] at h1 h2
        omega
theorem srtOk_tI (l : List (List Int)) (h : ∀ x ∈ l, x ≠ []) : srtOk (l.map tI) = true := by
  unfold srtOk alikeAllP
  rw [Bool.and_eq_true]
  refine ⟨?_, ?_⟩
  · rw [List.all_eq_true]
    intro d hd
    obtain ⟨x, hx, rfl⟩ := List.mem_map.mp hd
    have : ((l.map tI).all fun y => alike (tI x) y) = true := by
      rw [List.all_eq_true]
      intro e he
      obtain ⟨y, _, rfl⟩ := List.mem_map.mp he
      exact alike_tI x y
    rw [this, sh_tI]
    rfl
  · rw [Bool.or_eq_true, Bool.or_eq_true]
    refine .inl (.inl ?_)
    rw [List.all_eq_true]
    intro d hd
    obtain ⟨x, hx, rfl⟩ := List.mem_map.mp hd
    cases x with
    | nil => exact absurd rfl (h [] hx)
    | cons a as => rfl
theorem p_sortedT (l : List (List Int)) (h : ∀ x ∈ l, x ≠ []) : priD .sorted [.list (l.map tI)] = some (.l ((sortL lexI l).map tI)) := by
  show (if srtOk (l.map tI) = true then some (PR.l (sortD dataLt (l.map tI))) else none) = _
  rw [if_pos (srtOk_tI l h), sortL_map lt_tI]
theorem eqv_tI (xs ys : List Int) : PyData.eqv (tI xs) (tI ys) = decide (xs = ys) := by
  unfold tI
  rw [PyData.eqv]
  induction xs generalizing ys with
  | nil => cases ys <;> simp [PyData.eqvAll]
  | cons x xs ih =>
    cases ys with
    | nil => simp [PyData.eqvAll]
    | cons y ys =>
      rw [List.map_cons, List.map_cons, PyData.eqvAll, ih ys]
      by_cases e : x = y
      · subst e; simp [PyData.eqv]
      · simp [PyData.eqv, e]

/-! ### tables of powers -/
abbrev Mn := (Int × Int) × Int
def kk (p : Int × Int) : List Key := [.inl p.1, .inl p.2]
theorem kk_inj {p q : Int × Int} (h : kk p = kk q) : p = q := by
  unfold kk at h
  simp only [List.cons.injEq, Sum.inl.injEq, and_true] at h
  exact Prod.ext h.1 h.2
def enc (m : List Mn) : List (List Key × D) := m.map fun q => (kk q.1, .int q.2)
def lookM (k : Int × Int) : List Mn → Option Int
  | [] => none
  | (c, v) :: r => if c = k then some v else lookM k r
def putM (k : Int × Int) (v : Int) (m : List Mn) : List Mn := if (m.any fun q => decide (q.1 = k)) = true then m.map (fun q => if q.1 = k then (q.1, v) else q) else m ++ [(k, v)]
theorem look_enc (k : Int × Int) : ∀ m : List Mn, lookA (kk k) (enc m) = (lookM k m).map .int
  | [] => rfl
  | (c, v) :: r => by
    have ih := look_enc k r
    unfold enc at ih ⊢
    rw [List.map_cons, lookA, lookM]
    by_cases e : c = k
    · subst e; rw [if_pos rfl, if_pos rfl]; rfl
    · rw [if_neg e, if_neg (fun z => e (kk_inj z)), ih]
theorem put_enc (k : Int × Int) (v : Int) (m : List Mn) : putA (kk k) (.int v) (enc m) = enc (putM k v m) := by
  have e1 : ((enc m).any fun kv => decide (kv.1 = kk k)) = m.any fun q => decide (q.1 = k) := by
    unfold enc
    rw [List.any_map]
    congr 1
    funext q
    by_cases e : q.1 = k
    · simp [e]
    · have : ¬ kk q.1 = kk k := fun z => e (kk_inj z)
      simp [e, this]
  unfold putA putM
  rw [e1]
  split
  · unfold enc
    rw [List.map_map, List.map_map]
    refine List.map_congr_left fun q _ => ?_
    by_cases e : q.1 = k
    · simp [e]
    · have : ¬ kk q.1 = kk k := fun z => e (kk_inj z)
      simp [e, this]
  · unfold enc; simp
def prT (p : Int × Int) : D := .tuple [.int p.1, .int p.2]
theorem keyT_pr (p : Int × Int) : keyT (prT p) = some (kk p) := rfl
theorem keysD_enc (m : List Mn) : keysD (enc m) = (m.map (·.1)).map prT := by
  unfold keysD enc
  rw [List.map_map, List.map_map]
  rfl
def accM (m : List Mn) (t : Mn) : List Mn := putM t.1 ((lookM t.1 m).getD 0 + t.2) m
def gath (ts : List Mn) : List Mn := ts.foldl accM []
def coef (k : Int × Int) (ts : List Mn) : Int := (ts.map fun t => if t.1 = k then t.2 else 0).sum
theorem look_put (k c : Int × Int) (v : Int) : ∀ m : List Mn, lookM k (putM c v m) = if c = k then some v else lookM k m := by
  have hmap : ∀ m : List Mn, lookM k (m.map fun q => if q.1 = c then (q.1, v) else q) = if c = k ∧ (m.any fun q => decide (q.1 = c)) = true then some v else lookM k m := by
    intro m
    induction m with
    | nil => simp [lookM]
    | cons q m ih =>
      obtain ⟨a, u⟩ := q
      rw [List.map_cons, List.any_cons]
      by_cases e : a = c
      · subst e
        simp only [if_true, lookM]
        by_cases e2 : a = k
        · simp [e2]
        · rw [if_neg e2, ih]
          simp [e2]
      · simp only [if_neg e, lookM]
        rw [ih]
        have : decide (a = c) = false := by simpa using e
        rw [this, Bool.false_or]
        by_cases e2 : a = k
        · subst e2
          have : ¬ (c = a ∧ (m.any fun q => decide (q.1 = c)) = true) := fun z => e z.1.symm
          rw [if_pos rfl, if_neg this, if_pos rfl]
        · rw [if_neg e2, if_neg e2]
  have hnew : ∀ m : List Mn, (m.any fun q => decide (q.1 = c)) = false → lookM k (m ++ [(c, v)]) = if c = k then some v else lookM k m := by
    intro m
    induction m with
    | nil => intro _; simp [lookM]
    | cons q m ih =>
      intro h
      obtain ⟨a, u⟩ := q
      rw [List.any_cons, Bool.or_eq_false_iff] at h
      have e : a ≠ c := by simpa using h.1
      rw [List.cons_append, lookM, lookM, ih h.2]
      by_cases e2 : a = k
      · subst e2
        rw [if_pos rfl, if_neg (Ne.symm e), if_pos rfl]
      · rw [if_neg e2, if_neg e2]
  intro m
  unfold putM
  split
  · rename_i h
    rw [hmap m, h]
    simp
  · rename_i h
    exact hnew m (by cases z : (m.any fun q => decide (q.1 = c)) with | false => rfl | true => exact absurd z h)
theorem look_gath' (k : Int × Int) : ∀ (ts m : List Mn), (lookM k (ts.foldl accM m)) = if k ∈ ts.map (·.1) then some ((lookM k m).getD 0 + coef k ts) else lookM k m
  | [], m => by simp
  | t :: ts, m => by
    rw [List.foldl_cons, look_gath' k ts (accM m t)]
    unfold accM
    rw [look_put]
    unfold coef
    rw [List.map_cons, List.map_cons, List.sum_cons]
    by_cases e : t.1 = k
    · subst e
      simp only [if_true, Option.getD_some, List.mem_cons, true_or]
      split
      · congr 1; omega
      · rename_i hn
        have : (ts.map fun t' => if t'.1 = t.1 then t'.2 else 0).sum = 0 := by
          have hz : (ts.map fun t' => if t'.1 = t.1 then t'.2 else 0) = ts.map fun _ => (0 : Int) := List.map_congr_left fun t' ht => by
            rw [if_neg]
            exact fun z => hn (by rw [← z]; exact List.mem_map_of_mem ht)
          rw [hz]
          clear hz hn
          induction ts with
          | nil => rfl
          | cons _ _ ih => rw [List.map_cons, List.sum_cons, ih]; rfl
        rw [this]
        congr 1; omega
    · simp only [if_neg e, List.mem_cons, Ne.symm e, false_or]
      split
      · congr 1; omega
      · rfl
theorem look_gath (k : Int × Int) (ts : List Mn) : lookM k (gath ts) = if k ∈ ts.map (·.1) then some (coef k ts) else none := by
  unfold gath
  rw [look_gath']
  simp [lookM]
theorem put_keys (k : Int × Int) (v : Int) (m : List Mn) : (putM k v m).map (·.1) = if k ∈ m.map (·.1) then m.map (·.1) else m.map (·.1) ++ [k] := by
  have e1 : ((m.any fun q => decide (q.1 = k)) = true) ↔ k ∈ m.map (·.1) := by
    rw [List.any_eq_true, List.mem_map]
    simp
  unfold putM
  by_cases h : k ∈ m.map (·.1)
  · rw [if_pos h, if_pos (e1.mpr h), List.map_map]
    refine List.map_congr_left fun q _ => ?_
    by_cases e : q.1 = k <;> simp [e]
  · rw [if_neg h, if_neg (fun z => h (e1.mp z))]
    simp
theorem gath_keys' : ∀ (ts m : List Mn), (m.map (·.1)).Nodup → ((ts.foldl accM m).map (·.1)).Nodup ∧ ∀ k, k ∈ (ts.foldl accM m).map (·.1) ↔ k ∈ ts.map (·.1) ∨ k ∈ m.map (·.1)
  | [], m, h => ⟨h, fun k => by simp⟩
  | t :: ts, m, h => by
    have hk := put_keys t.1 ((lookM t.1 m).getD 0 + t.2) m
    have hn : ((accM m t).map (·.1)).Nodup := by
      unfold accM
      rw [hk]
      split
      · exact h
      · rename_i hh
        rw [List.nodup_append]
        refine ⟨h, by simp, fun a ha b hb => ?_⟩
        rw [List.mem_singleton.mp hb]
        exact fun z => hh (z ▸ ha)
    obtain ⟨a1, a2⟩ := gath_keys' ts (accM m t) hn
    refine ⟨a1, fun k => ?_⟩
    rw [List.foldl_cons, a2 k]
    unfold accM
    rw [hk, List.map_cons, List.mem_cons]
    split
    · rename_i hh
      constructor
      · rintro (q | q)
        · exact .inl (.inr q)
        · exact .inr q
      · rintro ((q | q) | q)
        · exact .inr (q ▸ hh)
        · exact .inl q
        · exact .inr q
    · rw [List.mem_append, List.mem_singleton]
      constructor
      · rintro (q | q | q)
        · exact .inl (.inr q)
        · exact .inr q
        · exact .inl (.inl q)
      · rintro ((q | q) | q)
        · exact .inr (.inr q)
        · exact .inl q
        · exact .inr (.inl q)
theorem gath_keys (ts : List Mn) : ((gath ts).map (·.1)).Nodup ∧ ∀ k, k ∈ (gath ts).map (·.1) ↔ k ∈ ts.map (·.1) := by
  obtain ⟨a, b⟩ := gath_keys' ts [] (by simp)
  exact ⟨a, fun k => by rw [gath, b k]; simp⟩
def ltP (a b : Int × Int) : Bool := lexI [a.1, a.2] [b.1, b.2]
theorem ltP_sto : Sto ltP := ⟨fun a => lex_sto.irr _, fun a b c => lex_sto.tr _ _ _, fun a b h1 h2 => by
  have := lex_sto.tot _ _ h1 h2
  simp only [List.cons.injEq, and_true] at this
  exact Prod.ext this.1 this.2⟩
/-- the polynomial of terms: powers in their order, no times 0 -/
def polyOf (ts : List Mn) : List Mn := ((sortL ltP ((gath ts).map (·.1))).filter fun k => decide (coef k ts ≠ 0)).map fun k => (k, coef k ts)
theorem sum_perm {xs ys : List Int} (p : xs.Perm ys) : xs.sum = ys.sum := by
  induction p with
  | nil => rfl
  | cons x _ ih => rw [List.sum_cons, List.sum_cons, ih]
  | swap x y l => simp only [List.sum_cons]; omega
  | trans _ _ h1 h2 => rw [h1, h2]
theorem coef_perm (k : Int × Int) {ts us : List Mn} (p : ts.Perm us) : coef k ts = coef k us := sum_perm (p.map _)
theorem nodup_perm {l m : List (Int × Int)} (h1 : l.Nodup) (h2 : m.Nodup) (h : ∀ k, k ∈ l ↔ k ∈ m) : l.Perm m := (List.perm_ext_iff_of_nodup h1 h2).mpr h
theorem polyOf_perm {ts us : List Mn} (p : ts.Perm us) : polyOf ts = polyOf us := by
  unfold polyOf
  have e1 : sortL ltP ((gath ts).map (·.1)) = sortL ltP ((gath us).map (·.1)) := by
    refine sortL_eq ltP_sto (nodup_perm (gath_keys ts).1 (gath_keys us).1 fun k => ?_)
    rw [(gath_keys ts).2, (gath_keys us).2]
    exact (p.map (·.1)).mem_iff
  rw [e1]
  simp only [coef_perm _ p]

/-! ### loops -/
theorem for_eq {tk : D → SEnv → Option SEnv} {B : SEnv → Out} {kl : SEnv → SEnv} (G : Nat → SEnv) : ∀ {l : List D} {env : SEnv} (j : Nat), kl env = G j →
    (∀ i d, l[i]? = some d → ∃ e1 e2, tk d (G (j + i)) = some e1 ∧ B e1 = .nx e2 ∧ kl e2 = G (j + i + 1)) → forLoop tk B kl l env = .nx (G (j + l.length))
  | [], env, j, h0, _ => by rw [for_nil, h0]; rfl
  | d :: l, env, j, h0, hs => by
    obtain ⟨e1, e2, h1, h2, h3⟩ := hs 0 d rfl
    rw [for_nx (by rw [h0]; exact h1) h2, for_eq G (j + 1) h3 fun i d hd => ?_]
    · rw [List.length_cons, Nat.add_assoc, Nat.add_comm 1]
    · have := hs (i + 1) d (by simpa using hd)
      rw [show j + 1 + i = j + (i + 1) by omega]
      exact this
theorem for_fold {α τ : Type} {tk : D → SEnv → Option SEnv} {B : SEnv → Out} {kl : SEnv → SEnv} (st : τ → SEnv) (step : τ → α → τ) (f : α → D) (I : τ → Prop) : ∀ {xs : List α} {s : τ} {env : SEnv}, kl env = st s → I s →
    (∀ s x, x ∈ xs → I s → ∃ e1 e2, tk (f x) (st s) = some e1 ∧ B e1 = .nx e2 ∧ kl e2 = st (step s x) ∧ I (step s x)) → forLoop tk B kl (xs.map f) env = .nx (st (xs.foldl step s))
  | [], s, env, h0, _, _ => by rw [List.map_nil, for_nil, h0]; rfl
  | x :: xs, s, env, h0, hi, hs => by
    obtain ⟨e1, e2, h1, h2, h3, h4⟩ := hs s x List.mem_cons_self hi
    rw [List.map_cons, for_nx (by rw [h0]; exact h1) h2, for_fold st step f I h3 h4 fun s x hx => hs s x (List.mem_cons_of_mem _ hx)]
    rfl
theorem lc_of {α : Type} {tk : D → Option SEnv} {test : SEnv → Rs Bool} {elt : SEnv → Rs R} (f g : α → D) : ∀ {l : List α}, (∀ x ∈ l, ∃ e r, tk (f x) = some e ∧ test e = .ok true ∧ elt e = .ok r ∧ keepR r = some (g x)) → lcLoop tk test elt (l.map f) = .ok (l.map g)
  | [], _ => rfl
  | d :: ds, h => by
    obtain ⟨e, r, h1, h2, h3, h4⟩ := h d List.mem_cons_self
    rw [List.map_cons, lcLoop, h1]
    simp only [h2, h3, h4, lc_of f g (l := ds) fun x hx => h x (List.mem_cons_of_mem _ hx), List.map_cons]
theorem lc_filt {α : Type} {tk : D → Option SEnv} {test : SEnv → Rs Bool} {elt : SEnv → Rs R} (p : α → Bool) (f g : α → D) : ∀ {l : List α}, (∀ x ∈ l, ∃ e, tk (f x) = some e ∧ test e = .ok (p x) ∧ (p x = true → ∃ r, elt e = .ok r ∧ keepR r = some (g x))) → lcLoop tk test elt (l.map f) = .ok ((l.filter p).map g)
  | [], _ => rfl
  | d :: ds, h => by
    obtain ⟨e, h1, h2, h3⟩ := h d List.mem_cons_self
    have ih := lc_filt p f g (l := ds) fun x hx => h x (List.mem_cons_of_mem _ hx)
    rw [List.map_cons, lcLoop, h1]
    cases q : p d with
    | true =>
      obtain ⟨r, h4, h5⟩ := h3 q
      rw [q] at h2
      rw [List.filter_cons_of_pos q]
      simp only [h2, h4, h5, ih, List.map_cons]
    | false =>
      rw [q] at h2
      rw [List.filter_cons_of_neg (by rw [q]; decide)]
      simp only [h2, ih]
theorem rng0 (n : Nat) : rngL 0 (n : Int) = (List.range n).map fun i : Nat => PyData.int (i : Int) := by
  unfold rngL
  rw [show ((n : Int) - 0).toNat = n by omega]
  refine List.map_congr_left fun i _ => ?_
  rw [show (0 : Int) + i = i by omega]

/-! ### how large -/
def Bd (k : Nat) (i : Int) : Prop := i.natAbs < 2 ^ k
theorem Bd.mono {k m : Nat} {i : Int} (h : Bd k i) (hk : k ≤ m) : Bd m i := Nat.lt_of_lt_of_le h (Nat.pow_le_pow_right (by omega) hk)
theorem Bd.mul {k m : Nat} {i j : Int} (h : Bd k i) (h2 : Bd m j) : Bd (k + m) (i * j) := by
  unfold Bd at *
  rw [Int.natAbs_mul, Nat.pow_add]
  exact Nat.mul_lt_mul'' h h2
theorem Bd.add {k : Nat} {i j : Int} (h : Bd k i) (h2 : Bd k j) : Bd (k + 1) (i + j) := by
  unfold Bd at *
  have := Int.natAbs_add_le i j
  rw [Nat.pow_succ]
  omega
theorem Bd.neg {k : Nat} {i : Int} (h : Bd k i) : Bd k (-i) := by unfold Bd at *; rwa [Int.natAbs_neg]
theorem Bd.pow {k : Nat} {i : Int} (h : Bd k i) : ∀ n : Nat, Bd (k * n + 1) (i ^ n)
  | 0 => by unfold Bd; simp
  | n + 1 => by
    rw [Int.pow_succ]
    exact ((Bd.pow h n).mul h).mono (by rw [Nat.mul_succ]; omega)
theorem Bd.ok {k m : Nat} {i j : Int} (h : Bd k i) (h2 : Bd m j) (hk : k < 400000) (hm : m < 400000) : mulOk i j = true :=
  mul_ok (i := i) (j := j) 400000 (by decide) (h.mono (by omega)) (h2.mono (by omega))
theorem Bd.sum {k : Nat} : ∀ {l : List Int}, (∀ x ∈ l, Bd k x) → Bd (k + l.length + 1) l.sum
  | [], _ => by unfold Bd; simp; exact Nat.pos_of_ne_zero (by simp)
  | x :: l, h => by
    rw [List.sum_cons]
    have h1 := (h x List.mem_cons_self).mono (m := k + l.length + 1) (by omega)
    exact (h1.add (Bd.sum fun y hy => h y (List.mem_cons_of_mem _ hy))).mono (by simp; omega)

/-! ### terms -/
def trT (t : Mn) : D := .tuple [.int t.1.1, .int t.1.2, .int t.2]
def pow2 (x : Int) (i : Int) : Int := x ^ i.toNat
def worth (ts : List Mn) (x y : Int) : Int := (ts.map fun t => t.2 * pow2 x t.1.1 * pow2 y t.1.2).sum
def okM (k : Nat) (t : Mn) : Prop := (0 ≤ t.1.1 ∧ t.1.1 ≤ 60) ∧ (0 ≤ t.1.2 ∧ t.1.2 ≤ 60) ∧ Bd k t.2
theorem coef_bd {k : Nat} {q : Int × Int} {ts : List Mn} (h : ∀ t ∈ ts, okM k t) : Bd (k + ts.length + 1) (coef q ts) := by
  unfold coef
  have := Bd.sum (k := k) (l := ts.map fun t => if t.1 = q then t.2 else 0) fun x hx => by
    obtain ⟨t, ht, rfl⟩ := List.mem_map.mp hx
    split
    · exact (h t ht).2.2
    · unfold Bd; simp; exact Nat.pos_of_ne_zero (by simp)
  rwa [List.length_map] at this
theorem gath_len (ts : List Mn) : ∀ m : List Mn, (ts.foldl accM m).length ≤ m.length + ts.length := by
  induction ts with
  | nil => intro m; simp
  | cons t ts ih =>
    intro m
    have h1 := ih (accM m t)
    have h2 : (accM m t).length ≤ m.length + 1 := by
      unfold accM putM
      split
      · rw [List.length_map]; omega
      · simp
    rw [List.foldl_cons, List.length_cons]
    omega
theorem polyOf_mem {ts : List Mn} {p : Mn} (h : p ∈ polyOf ts) : p.1 ∈ ts.map (·.1) ∧ p.2 = coef p.1 ts ∧ coef p.1 ts ≠ 0 := by
  unfold polyOf at h
  obtain ⟨k, hk, rfl⟩ := List.mem_map.mp h
  obtain ⟨h1, h2⟩ := List.mem_filter.mp hk
  refine ⟨?_, rfl, by simpa using h2⟩
  have := (sortL_perm ltP _).mem_iff.mp h1
  exact ((gath_keys ts).2 k).mp this
theorem polyOf_ok {k : Nat} {ts : List Mn} (h : ∀ t ∈ ts, okM k t) : ∀ p ∈ polyOf ts, okM (k + ts.length + 1) p := fun p hp => by
  obtain ⟨h1, h2, _⟩ := polyOf_mem hp
  obtain ⟨t, ht, e⟩ := List.mem_map.mp h1
  have := h t ht
  unfold okM
  rw [h2]
  exact ⟨e ▸ this.1, e ▸ this.2.1, coef_bd h⟩
theorem polyOf_len (ts : List Mn) : (polyOf ts).length ≤ ts.length := by
  unfold polyOf
  rw [List.length_map]
  have h1 := List.length_filter_le (fun k => decide (coef k ts ≠ 0)) (sortL ltP ((gath ts).map (·.1)))
  have h2 := (sortL_perm ltP ((gath ts).map (·.1))).length_eq
  have h3 := gath_len ts []
  unfold gath at h1 h2 ⊢
  simp at h2 h3
  omega
theorem prT_tI (p : Int × Int) : prT p = tI [p.1, p.2] := rfl
theorem p_sortedP (l : List (Int × Int)) : priD .sorted [.list (l.map prT)] = some (.l ((sortL ltP l).map prT)) := by
  have e : l.map prT = (l.map fun p => [p.1, p.2]).map tI := by rw [List.map_map]; rfl
  show (if srtOk (l.map prT) = true then some (PR.l (sortD dataLt (l.map prT))) else none) = _
  rw [if_pos (by rw [e]; exact srtOk_tI _ fun x hx => by obtain ⟨p, _, rfl⟩ := List.mem_map.mp hx; simp), sortL_map (fun a b => lt_tI [a.1, a.2] [b.1, b.2])]
  rfl
theorem srtOk_P (l : List (Int × Int)) : srtOk (l.map prT) = true := by
  have e : l.map prT = (l.map fun p => [p.1, p.2]).map tI := by rw [List.map_map]; rfl
  rw [e]
  exact srtOk_tI _ fun x hx => by obtain ⟨p, _, rfl⟩ := List.mem_map.mp hx; simp
theorem sortD_P (l : List (Int × Int)) : sortD dataLt (l.map prT) = (sortL ltP l).map prT := sortL_map (fun a b => lt_tI [a.1, a.2] [b.1, b.2]) l

/-! ### comprehensions, loops of codes -/
theorem ev_lcd {tb : Tb} {elt : PX} {tg : List Nat} {one : Bool} {i : Nat} {cond : PXs} {sc : Scope} {env : SEnv} {kvs : List (List Key × D)} {xs : List D} (h : env[i]? = some (.dt kvs)) (hl : (keysD kvs).length < LIM)
    (hlc : lcLoop (fun d => takes tg one d (killS tg (env.set i (.dl kvs)))) (fun e => testR tb cond e) (fun e => ev tb elt e) (keysD kvs) = .ok xs) : ev tb (.lcd elt tg one i cond sc) env = .ok (.nw xs) := by
  have hl' : ¬ LIM ≤ (keysD kvs).length := by omega
  simp only [ev, h, if_neg hl']
  show Rs.bind (lcLoop (fun d => takes tg one d (killS tg (env.set i (.dl kvs)))) (fun e => testR tb cond e) (fun e => ev tb elt e) (keysD kvs)) _ = _
  rw [hlc]
  rfl
theorem ev_lcm {tb : Tb} {elt : PX} {tg : List Nat} {one : Bool} {it : PX} {cond : PXs} {sc : Scope} {env : SEnv} {ds xs : List D} (h : evI tb it env = .ok ds) (hl : ds.length < LIM)
    (hlc : lcLoop (fun d => takes tg one d (killS tg env)) (fun e => testR tb cond e) (fun e => ev tb elt e) ds = .ok xs) : ev tb (.lcm elt tg one it cond sc) env = .ok (.nw xs) := by
  have hl' : ¬ LIM ≤ ds.length := by omega
  simp only [ev]
  rw [h]
  simp only [Rs.bind, if_neg hl']
  show Rs.bind (lcLoop (fun d => takes tg one d (killS tg env)) (fun e => testR tb cond e) (fun e => ev tb elt e) ds) _ = _
  rw [hlc]
  rfl
theorem bwt (tb : Tb) (e : SEnv) : testR tb .nil e = .ok true := by unfold testR; simp only [evs]; rfl
theorem getD_enc (k : Int × Int) (m : List Mn) : (lookA (kk k) (enc m)).getD (.int 0) = .int ((lookM k m).getD 0) := by
  rw [look_enc]
  cases lookM k m <;> rfl
theorem put_acc (t : Mn) (m : List Mn) : putA (kk t.1) (.int ((lookM t.1 m).getD 0 + t.2)) (enc m) = enc (accM m t) := put_enc _ _ _
theorem look_at {k : Int × Int} {ts : List Mn} (h : k ∈ (gath ts).map (·.1)) : lookA (kk k) (enc (gath ts)) = some (.int (coef k ts)) := by
  rw [look_enc, look_gath, if_pos (((gath_keys ts).2 k).mp h)]
  rfl
theorem keysD_len (m : List Mn) : (keysD (enc m)).length = m.length := by
  unfold keysD enc
  rw [List.length_map, List.length_map]
theorem enc_len (m : List Mn) : (enc m).length = m.length := by
  unfold enc
  rw [List.length_map]
theorem gath_le (ts : List Mn) : (gath ts).length ≤ ts.length := by
  have := gath_len ts []
  unfold gath
  simpa using this
theorem fold_take {α β : Type} (f : β → α → β) (b : β) (l : List α) (i : Nat) (x : α) (h : l[i]? = some x) : (l.take (i + 1)).foldl f b = f ((l.take i).foldl f b) x := by
  rw [List.take_add_one, h, List.foldl_append]
  rfl
theorem LIM_eq : LIM = 16000000 := rfl
theorem o_pow (a b : Int) (h : 0 ≤ b ∧ b ≤ 1000 ∧ a.natAbs < 2 ^ 64) : binD .Pow (.int a) (.int b) = some (.v (.int (a ^ b.toNat))) := by
  show (binI .Pow a b).map _ = _
  unfold binI
  rw [if_pos h]
  rfl
end VL
/-! the value layer, 26: polynomials in the one form -/
namespace VL
open PySem PySem.W L2
structure Can (ps : List Mn) : Prop where
  ris : (ps.map (·.1)).Pairwise fun a b => ltP a b = true
  nz : ∀ p ∈ ps, p.2 ≠ 0
theorem ltP_ne {a b : Int × Int} (h : ltP a b = true) : a ≠ b := fun e => by rw [e, ltP_sto.irr] at h; cases h
theorem Can.nodup {ps : List Mn} (h : Can ps) : (ps.map (·.1)).Nodup := h.ris.imp fun q => ltP_ne q
theorem coef_out {k : Int × Int} : ∀ {ts : List Mn}, k ∉ ts.map (·.1) → coef k ts = 0
  | [], _ => rfl
  | t :: ts, h => by
    rw [List.map_cons, List.mem_cons, not_or] at h
    unfold coef
    rw [List.map_cons, List.sum_cons, if_neg (Ne.symm h.1)]
    have := coef_out h.2
    unfold coef at this
    rw [this]; rfl
theorem coef_cons (k : Int × Int) (t : Mn) (ts : List Mn) : coef k (t :: ts) = (if t.1 = k then t.2 else 0) + coef k ts := by
  unfold coef
  rw [List.map_cons, List.sum_cons]
theorem coef_append (k : Int × Int) : ∀ ts us : List Mn, coef k (ts ++ us) = coef k ts + coef k us
  | [], us => by simp [coef]
  | t :: ts, us => by rw [List.cons_append, coef_cons, coef_cons, coef_append k ts us]; omega
theorem coef_at : ∀ {ts : List Mn}, (ts.map (·.1)).Nodup → ∀ {p : Mn}, p ∈ ts → coef p.1 ts = p.2
  | t :: ts, nd, p, h => by
    rw [List.map_cons, List.nodup_cons] at nd
    rw [coef_cons]
    rcases List.mem_cons.mp h with rfl | h
    · rw [if_pos rfl, coef_out nd.1]; omega
    · have : t.1 ≠ p.1 := fun e => nd.1 (by rw [e]; exact List.mem_map_of_mem h)
      rw [if_neg this, coef_at nd.2 h]; omega
theorem polyOf_can (ts : List Mn) : Can (polyOf ts) := by
  constructor
  · unfold polyOf
    rw [List.map_map]
    have e : (((·.1) : Mn → Int × Int) ∘ fun k => (k, coef k ts)) = id := rfl
    rw [e, List.map_id]
    refine List.Pairwise.filter _ ?_
    have h1 := sortL_srt ltP_sto ((gath ts).map (·.1))
    have h2 : (sortL ltP ((gath ts).map (·.1))).Nodup := (sortL_perm ltP _).nodup_iff.mpr (gath_keys ts).1
    unfold Srt at h1
    unfold List.Nodup at h2
    refine (h1.and h2).imp fun {a b} q => ?_
    cases z : ltP a b with
    | true => rfl
    | false => exact absurd (ltP_sto.tot a b z q.1) q.2
  · intro p hp
    obtain ⟨_, h2, h3⟩ := polyOf_mem hp
    rw [h2]; exact h3
theorem polyOf_iff (ts : List Mn) (p : Mn) : p ∈ polyOf ts ↔ p.2 = coef p.1 ts ∧ p.2 ≠ 0 := by
  constructor
  · intro h
    obtain ⟨_, h2, h3⟩ := polyOf_mem h
    exact ⟨h2, by rw [h2]; exact h3⟩
  · rintro ⟨h1, h2⟩
    unfold polyOf
    refine List.mem_map.mpr ⟨p.1, List.mem_filter.mpr ⟨?_, ?_⟩, ?_⟩
    · refine (sortL_perm ltP _).mem_iff.mpr (((gath_keys ts).2 _).mpr ?_)
      refine Classical.byContradiction fun hn => h2 ?_
      rw [h1, coef_out hn]
    · rw [← h1]; simpa using h2
    · rw [← h1]
theorem pairwise_map {α β : Type} {f : α → β} {R : β → β → Prop} : ∀ {l : List α}, (l.map f).Pairwise R ↔ l.Pairwise fun a b => R (f a) (f b) := by
  intro l
  exact List.pairwise_map
theorem nodup_of_map {α β : Type} {f : α → β} {l : List α} (h : (l.map f).Nodup) : l.Nodup := by
  unfold List.Nodup at *
  rw [List.pairwise_map] at h
  exact h.imp fun q e => q (by rw [e])
theorem can_ext {ps qs : List Mn} (h1 : Can ps) (h2 : Can qs) (h : ∀ p, p ∈ ps ↔ p ∈ qs) : ps = qs := by
  have sto : Sto fun a b : Mn => lexI [a.1.1, a.1.2, a.2] [b.1.1, b.1.2, b.2] := ⟨fun a => lex_sto.irr _, fun a b c => lex_sto.tr _ _ _, fun a b q1 q2 => by
    have := lex_sto.tot _ _ q1 q2
    simp only [List.cons.injEq, and_true] at this
    exact Prod.ext (Prod.ext this.1 this.2.1) this.2.2⟩
  have srt : ∀ {l : List Mn}, Can l → Srt (fun a b : Mn => lexI [a.1.1, a.1.2, a.2] [b.1.1, b.1.2, b.2]) l := fun {l} c => by
    have := c.ris
    rw [List.pairwise_map] at this
    refine this.imp fun {a b} q => ?_
    refine sto.asym ?_
    have q : lexI [a.1.1, a.1.2] [b.1.1, b.1.2] = true := q
    simp only [lexI] at q ⊢
    split
    · rename_i e
      rw [if_pos e] at q
      split
      · rename_i e2; rw [if_pos e2] at q; cases q
      · rename_i e2; rw [if_neg e2] at q; exact q
    · rename_i e; rw [if_neg e] at q; exact q
  refine srt_unique sto (srt h1) (srt h2) ?_
  exact (List.perm_ext_iff_of_nodup (nodup_of_map h1.nodup) (nodup_of_map h2.nodup)).mpr h
theorem can_mem {ps : List Mn} (h : Can ps) (p : Mn) : p ∈ ps ↔ p.2 = coef p.1 ps ∧ p.2 ≠ 0 := by
  constructor
  · intro hp
    exact ⟨(coef_at h.nodup hp).symm, h.nz p hp⟩
  · rintro ⟨h1, h2⟩
    refine Classical.byContradiction fun hn => ?_
    by_cases hk : p.1 ∈ ps.map (·.1)
    · obtain ⟨q, hq, e⟩ := List.mem_map.mp hk
      have := coef_at h.nodup hq
      rw [e] at this
      exact hn (by
        have e2 : p = q := Prod.ext e.symm (by rw [h1, this])
        rw [e2]; exact hq)
    · rw [coef_out hk] at h1
      exact h2 h1
theorem can_eq {ps qs : List Mn} (h1 : Can ps) (h2 : Can qs) (h : ∀ k, coef k ps = coef k qs) : ps = qs :=
  can_ext h1 h2 fun p => by rw [can_mem h1, can_mem h2, h]
theorem coef_polyOf (k : Int × Int) (ts : List Mn) : coef k (polyOf ts) = coef k ts := by
  by_cases h : coef k ts = 0
  · rw [h]
    refine coef_out fun hk => ?_
    obtain ⟨p, hp, e⟩ := List.mem_map.mp hk
    obtain ⟨h1, h2⟩ := (polyOf_iff ts p).mp hp
    rw [e, h] at h1
    exact h2 h1
  · exact coef_at (polyOf_can ts).nodup ((polyOf_iff ts (k, coef k ts)).mpr ⟨rfl, h⟩)
theorem polyOf_self {ps : List Mn} (h : Can ps) : polyOf ps = ps := can_eq (polyOf_can ps) h fun k => coef_polyOf k ps
theorem polyOf_ext {ts us : List Mn} (h : ∀ k, coef k ts = coef k us) : polyOf ts = polyOf us := can_eq (polyOf_can ts) (polyOf_can us) fun k => by rw [coef_polyOf, coef_polyOf, h]
/-- what has its powers once, and no times 0 -/
theorem polyOf_good {ts : List Mn} (nd : (ts.map (·.1)).Nodup) (nz : ∀ t ∈ ts, t.2 ≠ 0) : (polyOf ts).Perm ts := by
  refine (List.perm_ext_iff_of_nodup (nodup_of_map (polyOf_can ts).nodup) (nodup_of_map nd)).mpr fun p => ?_
  rw [polyOf_iff]
  constructor
  · rintro ⟨h1, h2⟩
    refine Classical.byContradiction fun hn => ?_
    by_cases hk : p.1 ∈ ts.map (·.1)
    · obtain ⟨q, hq, e⟩ := List.mem_map.mp hk
      have := coef_at nd hq
      rw [e] at this
      exact hn (by
        have e2 : p = q := Prod.ext e.symm (by rw [h1, this])
        rw [e2]; exact hq)
    · rw [coef_out hk] at h1
      exact h2 h1
  · intro hp
    exact ⟨(coef_at nd hp).symm, nz p hp⟩
theorem worth_perm {ts us : List Mn} (x y : Int) (p : ts.Perm us) : worth ts x y = worth us x y := sum_perm (p.map _)
def swM (t : Mn) : Mn := ((t.1.2, t.1.1), t.2)
theorem worth_sw (ts : List Mn) (x y : Int) : worth (ts.map swM) y x = worth ts x y := by
  unfold worth
  rw [List.map_map]
  congr 1
  refine List.map_congr_left fun t _ => ?_
  show t.2 * pow2 y t.1.2 * pow2 x t.1.1 = t.2 * pow2 x t.1.1 * pow2 y t.1.2
  rw [Int.mul_right_comm]
theorem keys_sw (ts : List Mn) (h : (ts.map (·.1)).Nodup) : ((ts.map swM).map (·.1)).Nodup := by
  rw [List.map_map]
  unfold List.Nodup at *
  rw [List.pairwise_map] at h ⊢
  refine h.imp fun {a b} q e => q ?_
  have e : (a.1.2, a.1.1) = (b.1.2, b.1.1) := e
  simp only [Prod.mk.injEq] at e
  exact Prod.ext e.2 e.1
/-! ### sorted terms -/
def lt3 (a b : Mn) : Bool := lexI [a.1.1, a.1.2, a.2] [b.1.1, b.1.2, b.2]
theorem lt3_sto : Sto lt3 := ⟨fun a => lex_sto.irr _, fun a b c => lex_sto.tr _ _ _, fun a b q1 q2 => by
    have := lex_sto.tot _ _ q1 q2
    simp only [List.cons.injEq, and_true] at this
    exact Prod.ext (Prod.ext this.1 this.2.1) this.2.2⟩
theorem can_srt3 {l : List Mn} (c : Can l) : Srt lt3 l := by
  have := c.ris
  rw [List.pairwise_map] at this
  refine this.imp fun {a b} q => ?_
  refine lt3_sto.asym ?_
  have q : lexI [a.1.1, a.1.2] [b.1.1, b.1.2] = true := q
  unfold lt3
  simp only [lexI] at q ⊢
  split
  · rename_i e
    rw [if_pos e] at q
    split
    · rename_i e2; rw [if_pos e2] at q; cases q
    · rename_i e2; rw [if_neg e2] at q; exact q
  · rename_i e; rw [if_neg e] at q; exact q
theorem polyOf_sort {ts : List Mn} (nd : (ts.map (·.1)).Nodup) (nz : ∀ t ∈ ts, t.2 ≠ 0) : sortL lt3 ts = polyOf ts :=
  srt_unique lt3_sto (sortL_srt lt3_sto ts) (can_srt3 (polyOf_can ts)) ((sortL_perm lt3 ts).trans (polyOf_good nd nz).symm)
theorem p_sorted3 (l : List Mn) : priD .sorted [.list (l.map trT)] = some (.l ((sortL lt3 l).map trT)) := by
  have e : l.map trT = (l.map fun p => [p.1.1, p.1.2, p.2]).map tI := by rw [List.map_map]; rfl
  show (if srtOk (l.map trT) = true then some (PR.l (sortD dataLt (l.map trT))) else none) = _
  rw [if_pos (by rw [e]; exact srtOk_tI _ fun x hx => by obtain ⟨p, _, rfl⟩ := List.mem_map.mp hx; simp), sortL_map (fun a b => lt_tI [a.1.1, a.1.2, a.2] [b.1.1, b.1.2, b.2])]
  rfl
theorem sh_tr (n : Nat) (t : Mn) : sh (n + 1) (trT t) = true := sh_tI n [t.1.1, t.1.2, t.2]
theorem sh_poly (l : List Mn) : sh 30 (.tuple (l.map trT)) = true := by
  refine sh_tpl ?_
  rw [List.all_eq_true]
  intro d hd
  obtain ⟨t, _, rfl⟩ := List.mem_map.mp hd
  exact sh_tr 28 t
theorem sh_terms (l : List Mn) : sh 30 (.list (l.map trT)) = true := by
  refine sh_lst ?_
  rw [List.all_eq_true]
  intro d hd
  obtain ⟨t, _, rfl⟩ := List.mem_map.mp hd
  exact sh_tr 28 t
theorem poly_ne (l : List Mn) : cmpD .NotEq (.tuple (l.map trT)) (.tuple (l.map trT)) = some false := by
  rw [cmp_ne (sh_poly l) (sh_poly l), eqv_refl 30 _ (sh_poly l)]; rfl
theorem poly_eq (l : List Mn) : cmpD .Eq (.tuple (l.map trT)) (.tuple (l.map trT)) = some true := by
  rw [cmp_eq (sh_poly l) (sh_poly l), eqv_refl 30 _ (sh_poly l)]
theorem terms_ne (l : List Mn) : cmpD .NotEq (.list (l.map trT)) (.list (l.map trT)) = some false := by
  rw [cmp_ne (sh_terms l) (sh_terms l), eqv_refl 30 _ (sh_terms l)]; rfl
/-- .. >= .. of pairs -/
theorem ge_pr (a b : Int × Int) : cmpD .GtE (prT a) (prT b) = some (!ltP a b) := by
  show (ltD (prT a) (prT b)).map _ = _
  have : ltD (prT a) (prT b) = some (ltP a b) := by
    show (if alike (prT a) (prT b) = true ∧ isNone (prT a) = false ∧ sh 30 (prT a) = true ∧ sh 30 (prT b) = true then some (dataLt (prT a) (prT b)) else none) = _
    rw [if_pos ⟨alike_tI [a.1, a.2] [b.1, b.2], rfl, sh_tI 29 [a.1, a.2], sh_tI 29 [b.1, b.2]⟩, prT_tI, prT_tI, lt_tI]
    rfl
  rw [this]; rfl

theorem for_inv {tk : D → SEnv → Option SEnv} {B : SEnv → Out} {kl : SEnv → SEnv} (P : Nat → SEnv → Prop) : ∀ {l : List D} {env : SEnv} (j : Nat), P j (kl env) →
    (∀ i d E, l[i]? = some d → P (j + i) E → ∃ e1 e2, tk d E = some e1 ∧ B e1 = .nx e2 ∧ P (j + i + 1) (kl e2)) → ∃ E, forLoop tk B kl l env = .nx E ∧ P (j + l.length) E
  | [], env, j, h0, _ => ⟨kl env, for_nil, h0⟩
  | d :: l, env, j, h0, hs => by
    obtain ⟨e1, e2, h1, h2, h3⟩ := hs 0 d (kl env) rfl h0
    obtain ⟨E, q1, q2⟩ := for_inv (tk := tk) (B := B) (kl := kl) P (l := l) (env := e2) (j + 1) h3 fun i d E hd hp => by
      have := hs (i + 1) d E (by simpa using hd)
      rw [show j + 1 + i = j + (i + 1) by omega] at hp ⊢
      exact this hp
    refine ⟨E, by rw [for_nx h1 h2]; exact q1, ?_⟩
    rw [List.length_cons, show j + (l.length + 1) = j + 1 + l.length by omega]
    exact q2
theorem nl_tr (t : Mn) : nl 29 (trT t) = true := rfl
theorem nl_poly (l : List Mn) : nl 30 (.tuple (l.map trT)) = true := by
  show (l.map trT).all (nl 29) = true
  rw [List.all_eq_true]
  intro d hd
  obtain ⟨t, _, rfl⟩ := List.mem_map.mp hd
  exact nl_tr t
theorem terms_none {l : List Mn} : cmpD .NotEq (.list (l.map trT)) (.list []) = some (!l.isEmpty) := by
  rw [cmp_ne (sh_terms l) rfl]
  cases l <;> rfl
theorem at_last (xs : List D) (y : D) : L2.atI (xs ++ [y]) (-1) = some y := by
  unfold L2.atI L2.ixN
  rw [List.length_append, List.length_singleton, if_neg (by decide), if_pos (by omega)]
  rw [show (-1 + ((xs.length + 1 : Nat) : Int)).toNat = xs.length by omega]
  simp
theorem p_lrev (xs : List D) : priD .lrev [.list xs] = some (.l xs.reverse) := rfl
end VL
/-! the value layer, 27: products of polynomials -/
namespace VL
open PySem PySem.W L2
/-! ### sums over terms -/
def lin (f : Int × Int → Int) (ts : List Mn) : Int := (ts.map fun t => t.2 * f t.1).sum
theorem lin_cons (f : Int × Int → Int) (t : Mn) (ts : List Mn) : lin f (t :: ts) = t.2 * f t.1 + lin f ts := by
  unfold lin
  rw [List.map_cons, List.sum_cons]
theorem lin_app (f : Int × Int → Int) : ∀ ts us : List Mn, lin f (ts ++ us) = lin f ts + lin f us
  | [], us => by simp [lin]
  | t :: ts, us => by rw [List.cons_append, lin_cons, lin_cons, lin_app f ts us]; omega
theorem lin_split (f : Int × Int → Int) (p : Mn → Bool) : ∀ ts : List Mn, lin f ts = lin f (ts.filter p) + lin f (ts.filter fun t => !p t)
  | [] => rfl
  | t :: ts => by
    have ih := lin_split f p ts
    rw [lin_cons, ih]
    cases q : p t with
    | true => rw [List.filter_cons_of_pos q, List.filter_cons_of_neg (by rw [q]; decide), lin_cons]; omega
    | false => rw [List.filter_cons_of_neg (by rw [q]; decide), List.filter_cons_of_pos (by rw [q]; decide), lin_cons]; omega
theorem lin_key (f : Int × Int → Int) (k : Int × Int) : ∀ ts : List Mn, lin f (ts.filter fun t => decide (t.1 = k)) = coef k ts * f k
  | [] => by simp [lin, coef]
  | t :: ts => by
    have ih := lin_key f k ts
    rw [coef_cons]
    by_cases e : t.1 = k
    · rw [List.filter_cons_of_pos (by simpa using e), lin_cons, ih, if_pos e, e, Int.add_mul]
    · rw [List.filter_cons_of_neg (by simpa using e), ih, if_neg e, Int.zero_add]
theorem coef_filter (k c : Int × Int) : ∀ ts : List Mn, coef k (ts.filter fun t => !decide (t.1 = c)) = if k = c then 0 else coef k ts
  | [] => by simp [coef]
  | t :: ts => by
    have ih := coef_filter k c ts
    rw [coef_cons]
    by_cases e : t.1 = c
    · rw [List.filter_cons_of_neg (by simpa using e), ih]
      by_cases e2 : k = c
      · rw [if_pos e2, if_pos e2]
      · rw [if_neg e2, if_neg e2, if_neg (by rw [e]; exact fun z => e2 z.symm)]; omega
    · rw [List.filter_cons_of_pos (by simpa using e), coef_cons, ih]
      by_cases e2 : k = c
      · rw [if_pos e2, if_pos e2, if_neg (by rw [e2]; exact e)]; rfl
      · rw [if_neg e2, if_neg e2]
theorem lin_zero (f : Int × Int → Int) : ∀ (n : Nat) (ts : List Mn), ts.length ≤ n → (∀ k, coef k ts = 0) → lin f ts = 0
  | _, [], _, _ => rfl
  | 0, t :: ts, h, _ => by simp at h
  | n + 1, t :: ts, h, hz => by
    rw [lin_split f (fun u => decide (u.1 = t.1)), lin_key, hz, Int.zero_mul, Int.zero_add]
    refine lin_zero f n _ ?_ fun k => ?_
    · rw [List.filter_cons_of_neg (by simp)]
      have := List.length_filter_le (fun u => !decide (u.1 = t.1)) ts
      rw [List.length_cons] at h
      omega
    · rw [coef_filter, hz]; simp
theorem lin_ext (f : Int × Int → Int) {ts us : List Mn} (h : ∀ k, coef k ts = coef k us) : lin f ts = lin f us := by
  have neg1 : ∀ us : List Mn, lin f (us.map fun t => (t.1, -t.2)) = -lin f us := by
    intro us
    induction us with
    | nil => rfl
    | cons t us ih =>
      rw [List.map_cons, lin_cons, lin_cons, ih]
      show -t.2 * f t.1 + -lin f us = _
      rw [Int.neg_mul]; omega
  have neg2 : ∀ (k : Int × Int) (us : List Mn), coef k (us.map fun t => (t.1, -t.2)) = -coef k us := by
    intro k us
    induction us with
    | nil => rfl
    | cons t us ih =>
      rw [List.map_cons, coef_cons, coef_cons, ih]
      split <;> omega
  have := lin_zero f _ (ts ++ us.map fun t => (t.1, -t.2)) (Nat.le_refl _) fun k => by rw [coef_append, neg2, h]; omega
  rw [lin_app, neg1] at this
  omega
theorem worth_lin (ts : List Mn) (x y : Int) : worth ts x y = lin (fun a => pow2 x a.1 * pow2 y a.2) ts := by
  unfold worth lin
  congr 1
  exact List.map_congr_left fun t _ => by rw [Int.mul_assoc]
theorem worth_polyOf (ts : List Mn) (x y : Int) : worth (polyOf ts) x y = worth ts x y := by
  rw [worth_lin, worth_lin]
  exact lin_ext _ fun k => coef_polyOf k ts
/-! ### products -/
def mulM (t u : Mn) : Mn := ((t.1.1 + u.1.1, t.1.2 + u.1.2), t.2 * u.2)
def prodT (ts us : List Mn) : List Mn := ts.flatMap fun t => us.map fun u => mulM t u
theorem prodT_cons (t : Mn) (ts us : List Mn) : prodT (t :: ts) us = us.map (mulM t) ++ prodT ts us := rfl
theorem coef_row (k : Int × Int) (t : Mn) : ∀ us : List Mn, coef k (us.map (mulM t)) = t.2 * coef (k.1 - t.1.1, k.2 - t.1.2) us
  | [] => by simp [coef]
  | u :: us => by
    rw [List.map_cons, coef_cons, coef_row k t us, coef_cons, Int.mul_add]
    congr 1
    have e : ((mulM t u).1 = k) ↔ u.1 = (k.1 - t.1.1, k.2 - t.1.2) := by
      unfold mulM
      constructor
      · intro z
        have z1 := congrArg Prod.fst z
        have z2 := congrArg Prod.snd z
        simp only at z1 z2
        exact Prod.ext (by show u.1.1 = k.1 - t.1.1; omega) (by show u.1.2 = k.2 - t.1.2; omega)
      · intro z
        have z1 : u.1.1 = k.1 - t.1.1 := congrArg Prod.fst z
        have z2 : u.1.2 = k.2 - t.1.2 := congrArg Prod.snd z
        exact Prod.ext (by show t.1.1 + u.1.1 = k.1; omega) (by show t.1.2 + u.1.2 = k.2; omega)
    by_cases q : u.1 = (k.1 - t.1.1, k.2 - t.1.2)
    · rw [if_pos q, if_pos (e.mpr q)]; rfl
    · rw [if_neg q, if_neg (fun z => q (e.mp z)), Int.mul_zero]
theorem coef_prod (k : Int × Int) (us : List Mn) : ∀ ts : List Mn, coef k (prodT ts us) = lin (fun a => coef (k.1 - a.1, k.2 - a.2) us) ts
  | [] => rfl
  | t :: ts => by rw [prodT_cons, coef_append, coef_row, coef_prod k us ts, lin_cons]
theorem prod_congr {ts ts' us us' : List Mn} (h1 : ∀ k, coef k ts = coef k ts') (h2 : ∀ k, coef k us = coef k us') (k : Int × Int) : coef k (prodT ts us) = coef k (prodT ts' us') := by
  rw [coef_prod, coef_prod]
  have e : (fun a : Int × Int => coef (k.1 - a.1, k.2 - a.2) us) = fun a => coef (k.1 - a.1, k.2 - a.2) us' := funext fun a => h2 _
  rw [e]
  exact lin_ext _ h1
theorem mulM_assoc (t u v : Mn) : mulM (mulM t u) v = mulM t (mulM u v) := by
  unfold mulM
  simp only [Prod.mk.injEq]
  exact ⟨⟨by omega, by omega⟩, Int.mul_assoc _ _ _⟩
theorem mulM_comm (t u : Mn) : mulM t u = mulM u t := by
  unfold mulM
  simp only [Prod.mk.injEq]
  exact ⟨⟨by omega, by omega⟩, Int.mul_comm _ _⟩
theorem prodT_app (ts ts' us : List Mn) : prodT (ts ++ ts') us = prodT ts us ++ prodT ts' us := by
  unfold prodT
  rw [List.flatMap_append]
theorem prodT_row (t : Mn) (vs : List Mn) : ∀ us : List Mn, prodT (us.map (mulM t)) vs = (prodT us vs).map (mulM t)
  | [] => rfl
  | u :: us => by
    rw [List.map_cons, prodT_cons, prodT_cons, prodT_row t vs us, List.map_append, List.map_map]
    congr 1
    exact List.map_congr_left fun v _ => mulM_assoc t u v
theorem prodT_assoc (us vs : List Mn) : ∀ ts : List Mn, prodT (prodT ts us) vs = prodT ts (prodT us vs)
  | [] => rfl
  | t :: ts => by rw [prodT_cons, prodT_app, prodT_row, prodT_assoc us vs ts, prodT_cons]
theorem coef_prod_comm (k : Int × Int) (us : List Mn) : ∀ ts : List Mn, coef k (prodT ts us) = coef k (prodT us ts)
  | [] => by
    have : prodT us [] = [] := by unfold prodT; simp
    rw [this]; rfl
  | t :: ts => by
    rw [prodT_cons, coef_append, coef_prod_comm k us ts]
    have : ∀ us : List Mn, coef k (prodT us (t :: ts)) = coef k (us.map (mulM t)) + coef k (prodT us ts) := by
      intro us
      induction us with
      | nil => rfl
      | cons u us ih => rw [prodT_cons, prodT_cons, coef_append, coef_append, ih, List.map_cons, List.map_cons, coef_cons, coef_cons, mulM_comm u t]; omega
    rw [this]
theorem prodT_len (us : List Mn) : ∀ ts : List Mn, (prodT ts us).length = ts.length * us.length
  | [] => by simp [prodT]
  | t :: ts => by rw [prodT_cons, List.length_append, List.length_map, prodT_len us ts, List.length_cons, Nat.succ_mul]; omega
/-- powers up to e, times of k signs -/
def okB (e k : Nat) (t : Mn) : Prop := (0 ≤ t.1.1 ∧ t.1.1 ≤ e) ∧ (0 ≤ t.1.2 ∧ t.1.2 ≤ e) ∧ Bd k t.2
theorem okB.m {e k : Nat} {t : Mn} (h : okB e k t) (he : e ≤ 60) (hk : k ≤ 1000) : okM 1000 t := ⟨⟨h.1.1, by have := h.1.2; omega⟩, ⟨h.2.1.1, by have := h.2.1.2; omega⟩, h.2.2.mono hk⟩
theorem okB.mono {e k e' k' : Nat} {t : Mn} (h : okB e k t) (he : e ≤ e') (hk : k ≤ k') : okB e' k' t := ⟨⟨h.1.1, by have := h.1.2; omega⟩, ⟨h.2.1.1, by have := h.2.1.2; omega⟩, h.2.2.mono hk⟩
theorem prodT_mem {ts us : List Mn} {p : Mn} (h : p ∈ prodT ts us) : ∃ t ∈ ts, ∃ u ∈ us, p = mulM t u := by
  unfold prodT at h
  obtain ⟨t, ht, h⟩ := List.mem_flatMap.mp h
  obtain ⟨u, hu, rfl⟩ := List.mem_map.mp h
  exact ⟨t, ht, u, hu, rfl⟩
theorem prodT_ok {e e' k k' : Nat} {ts us : List Mn} (h1 : ∀ t ∈ ts, okB e k t) (h2 : ∀ t ∈ us, okB e' k' t) : ∀ p ∈ prodT ts us, okB (e + e') (k + k') p := fun p hp => by
  obtain ⟨t, ht, u, hu, rfl⟩ := prodT_mem hp
  obtain ⟨a1, a2, a3⟩ := h1 t ht
  obtain ⟨b1, b2, b3⟩ := h2 u hu
  exact ⟨⟨by show 0 ≤ t.1.1 + u.1.1; omega, by show t.1.1 + u.1.1 ≤ ((e + e' : Nat) : Int); omega⟩, ⟨by show 0 ≤ t.1.2 + u.1.2; omega, by show t.1.2 + u.1.2 ≤ ((e + e' : Nat) : Int); omega⟩, a3.mul b3⟩
theorem sum_bd {k : Nat} : ∀ {l : List Int}, (∀ x ∈ l, Bd k x) → l.sum.natAbs ≤ l.length * 2 ^ k
  | [], _ => by simp
  | x :: l, h => by
    rw [List.sum_cons, List.length_cons, Nat.succ_mul]
    have h1 := h x List.mem_cons_self
    have h2 := sum_bd (k := k) (l := l) fun y hy => h y (List.mem_cons_of_mem _ hy)
    have := Int.natAbs_add_le x l.sum
    unfold Bd at h1
    omega
theorem coef_bd2 {e k L : Nat} {q : Int × Int} {ts : List Mn} (h : ∀ t ∈ ts, okB e k t) (hl : ts.length < 2 ^ L) : Bd (k + L) (coef q ts) := by
  unfold coef
  have := sum_bd (k := k) (l := ts.map fun t => if t.1 = q then t.2 else 0) fun x hx => by
    obtain ⟨t, ht, rfl⟩ := List.mem_map.mp hx
    split
    · exact (h t ht).2.2
    · unfold Bd; simp; exact Nat.pos_of_ne_zero (by simp)
  rw [List.length_map] at this
  unfold Bd
  refine Nat.lt_of_le_of_lt this ?_
  rw [Nat.pow_add, Nat.mul_comm (2 ^ k)]
  exact Nat.mul_lt_mul_of_pos_right hl (Nat.pos_of_ne_zero (by simp))
theorem polyOf_ok2 {e k L : Nat} {ts : List Mn} (h : ∀ t ∈ ts, okB e k t) (hl : ts.length < 2 ^ L) : ∀ p ∈ polyOf ts, okB e (k + L) p := fun p hp => by
  obtain ⟨h1, h2, _⟩ := polyOf_mem hp
  obtain ⟨t, ht, q⟩ := List.mem_map.mp h1
  have := h t ht
  unfold okB
  rw [h2]
  exact ⟨q ▸ this.1, q ▸ this.2.1, coef_bd2 h hl⟩
theorem nodup_lt : ∀ (n : Nat) {l : List Nat}, l.Nodup → (∀ x ∈ l, x < n) → l.length ≤ n
  | 0, l, _, h => by
    cases l with
    | nil => simp
    | cons x l => exact absurd (h x List.mem_cons_self) (by omega)
  | n + 1, l, nd, h => by
    have h1 := nodup_lt n (l := l.erase n) (nd.erase n) fun x hx => by
      have := h x (List.mem_of_mem_erase hx)
      have ne : x ≠ n := fun e => by
        rw [e] at hx
        exact nd.not_mem_erase hx
      omega
    rw [List.length_erase] at h1
    split at h1 <;> omega
/-- as many terms as powers -/
theorem can_len {e k : Nat} {ps : List Mn} (hc : Can ps) (h : ∀ p ∈ ps, okB e k p) : ps.length ≤ (e + 1) * (e + 1) := by
  have nd : (ps.map fun p => p.1.1.toNat * (e + 1) + p.1.2.toNat).Nodup := by
    have := hc.nodup
    unfold List.Nodup at *
    rw [List.pairwise_map] at this ⊢
    refine List.Pairwise.imp_of_mem (fun {a b} ha hb q z => q ?_) this
    obtain ⟨⟨a1, a2⟩, ⟨a3, a4⟩, _⟩ := h a ha
    obtain ⟨⟨b1, b2⟩, ⟨b3, b4⟩, _⟩ := h b hb
    have m1 : a.1.2.toNat < e + 1 := by omega
    have m2 : b.1.2.toNat < e + 1 := by omega
    have d1 := Nat.div_eq_of_lt m1
    have d2 := Nat.div_eq_of_lt m2
    have q1 : (a.1.1.toNat * (e + 1) + a.1.2.toNat) / (e + 1) = a.1.1.toNat := by
      rw [Nat.mul_comm, Nat.mul_add_div (by omega), d1, Nat.add_zero]
    have q2 : (b.1.1.toNat * (e + 1) + b.1.2.toNat) / (e + 1) = b.1.1.toNat := by
      rw [Nat.mul_comm, Nat.mul_add_div (by omega), d2, Nat.add_zero]
    have e1 : a.1.1.toNat = b.1.1.toNat := by rw [← q1, ← q2, z]
    have e2 : a.1.2.toNat = b.1.2.toNat := by rw [e1] at z; omega
    exact Prod.ext (by omega) (by omega)
  have := nodup_lt ((e + 1) * (e + 1)) nd fun x hx => by
    obtain ⟨p, hp, rfl⟩ := List.mem_map.mp hx
    obtain ⟨⟨a1, a2⟩, ⟨a3, a4⟩, _⟩ := h p hp
    have m1 : p.1.1.toNat ≤ e := by omega
    have m2 : p.1.2.toNat < e + 1 := by omega
    have := Nat.mul_le_mul_right (e + 1) m1
    rw [Nat.succ_mul e (e + 1)]
    omega
  rwa [List.length_map] at this
theorem pow2_add (x : Int) {i j : Int} (hi : 0 ≤ i) (hj : 0 ≤ j) : pow2 x (i + j) = pow2 x i * pow2 x j := by
  unfold pow2
  rw [Int.toNat_add hi hj, Int.pow_add]
theorem worth_prod {e e' k k' : Nat} {us : List Mn} (x y : Int) (h2 : ∀ t ∈ us, okB e' k' t) : ∀ {ts : List Mn}, (∀ t ∈ ts, okB e k t) → worth (prodT ts us) x y = worth ts x y * worth us x y
  | [], _ => by simp [prodT, worth]
  | t :: ts, h1 => by
    have ih := worth_prod x y h2 (ts := ts) fun u hu => h1 u (List.mem_cons_of_mem _ hu)
    rw [worth_lin] at ih ⊢
    rw [prodT_cons, lin_app, ih, worth_lin (t :: ts), worth_lin ts, lin_cons, Int.add_mul]
    congr 1
    have ht := h1 t List.mem_cons_self
    rw [worth_lin]
    clear ih h1
    induction us with
    | nil => simp [lin]
    | cons u us ih2 =>
      have hu := h2 u List.mem_cons_self
      rw [List.map_cons, lin_cons, ih2 (fun v hv => h2 v (List.mem_cons_of_mem _ hv)), lin_cons, Int.mul_add]
      congr 1
      show t.2 * u.2 * (pow2 x (t.1.1 + u.1.1) * pow2 y (t.1.2 + u.1.2)) = _
      rw [pow2_add x ht.1.1 hu.1.1, pow2_add y ht.2.1.1 hu.2.1.1]
      simp only [Int.mul_assoc, Int.mul_left_comm, Int.mul_comm]
/-- to a power -/
def one1 : List Mn := [((0, 0), 1)]
def mulP (ps qs : List Mn) : List Mn := polyOf (prodT ps qs)
def pwr (ps : List Mn) : Nat → List Mn
  | 0 => one1
  | j + 1 => mulP (pwr ps j) ps
theorem one_can : Can one1 := ⟨by simp [one1], by simp [one1]⟩
theorem tp_can (ps : List Mn) : ∀ j, Can (pwr ps j)
  | 0 => one_can
  | j + 1 => polyOf_can _
theorem prodT_one (ps : List Mn) : prodT one1 ps = ps := by
  unfold prodT one1
  simp only [List.flatMap_cons, List.flatMap_nil, List.append_nil]
  refine (List.map_congr_left fun u _ => ?_).trans (List.map_id' ps)
  unfold mulM
  simp
theorem prodT_one' : ∀ ps : List Mn, prodT ps one1 = ps
  | [] => rfl
  | p :: ps => by
    rw [prodT_cons, prodT_one' ps]
    show mulM p ((0, 0), 1) :: ([] ++ ps) = _
    unfold mulM
    simp
theorem tp_one {ps : List Mn} (h : Can ps) : pwr ps 1 = ps := by
  show polyOf (prodT one1 ps) = ps
  rw [prodT_one, polyOf_self h]
theorem tp_add (ps : List Mn) (a : Nat) : ∀ b, mulP (pwr ps a) (pwr ps b) = pwr ps (a + b)
  | 0 => by
    show polyOf (prodT (pwr ps a) one1) = pwr ps a
    rw [prodT_one', polyOf_self (tp_can ps a)]
  | b + 1 => by
    have ih := tp_add ps a b
    show polyOf (prodT (pwr ps a) (polyOf (prodT (pwr ps b) ps))) = polyOf (prodT (pwr ps (a + b)) ps)
    rw [← ih]
    refine polyOf_ext fun k => ?_
    rw [prod_congr (ts' := pwr ps a) (us' := prodT (pwr ps b) ps) (fun _ => rfl) (fun k => coef_polyOf k _), ← prodT_assoc]
    exact prod_congr (fun k => (coef_polyOf k _).symm) (fun _ => rfl) k
theorem tp_nil (j : Nat) : pwr [] (j + 1) = [] := by
  show polyOf (prodT (pwr [] j) []) = []
  have : prodT (pwr [] j) [] = [] := by unfold prodT; simp
  rw [this]; rfl
end VL
/-! the value layer, 28: webs, rows of places -/
namespace VL
open PySem PySem.W L2

def isInt : D → Bool
  | .int _ => true
  | _ => false
/-! ### webs -/
def srt (p : Int × Int) : Int × Int := (min p.1 p.2, max p.1 p.2)
def okT (n : Int) (p : Int × Int) : Prop := (0 ≤ p.1 ∧ p.1 < n) ∧ (0 ≤ p.2 ∧ p.2 < n)
def Wb (n : Int) (ts : List (Int × Int)) : D := .tuple [.int n, .tuple (ts.map prT)]
structure Web (n : Int) (ts : List (Int × Int)) : Prop where
  n1 : 1 ≤ n
  n9 : n ≤ 9
  ok : ∀ p ∈ ts, okT n p
  srt : ∀ p ∈ ts, p.1 ≤ p.2
  len : ts.length ≤ 8
theorem srt_of {p : Int × Int} (h : p.1 ≤ p.2) : VL.srt p = p := by
  unfold VL.srt
  rw [Int.min_eq_left h, Int.max_eq_right h]
theorem srt_le (p : Int × Int) : (VL.srt p).1 ≤ (VL.srt p).2 := by unfold VL.srt; simp only; omega
theorem srt_ok {n : Int} {p : Int × Int} (h : okT n p) : okT n (VL.srt p) := by unfold okT VL.srt at *; simp only; omega
theorem sh_prT (n : Nat) (p : Int × Int) : sh (n + 1) (prT p) = true := by
  unfold prT
  refine sh_tpl ?_
  simp [sh_int]
theorem sh_prTs (n : Nat) (l : List (Int × Int)) : (l.map prT).all (sh (n + 1)) = true := by
  rw [List.all_eq_true]
  intro x hx
  obtain ⟨p, _, rfl⟩ := List.mem_map.mp hx
  exact sh_prT n p
theorem sh_Wb (m : Int) (l : List (Int × Int)) : sh 30 (Wb m l) = true := by
  unfold Wb
  refine sh_tpl ?_
  simp only [List.all_cons, sh_int, sh_tpl (sh_prTs 27 l), List.all_nil, Bool.and_self]
theorem same_Wb (n : Int) (ts : List (Int × Int)) : cmpD .NotEq (Wb n ts) (Wb n ts) = some false := by
  rw [cmp_ne (sh_Wb n ts) (sh_Wb n ts), eqv_refl 30 _ (sh_Wb n ts)]; rfl
theorem same_Wb' (n : Int) (ts : List (Int × Int)) : cmpD .Eq (Wb n ts) (Wb n ts) = some true := by
  rw [cmp_eq (sh_Wb n ts) (sh_Wb n ts), eqv_refl 30 _ (sh_Wb n ts)]
theorem ne_of {d : D} (h : sh 30 d = true) : cmpD .NotEq d d = some false := by
  rw [cmp_ne h h, eqv_refl 30 _ h]; rfl
theorem eq_of {d : D} (h : sh 30 d = true) : cmpD .Eq d d = some true := by
  rw [cmp_eq h h, eqv_refl 30 _ h]
theorem idx_pr (ts : List (Int × Int)) (j : Nat) (p : Int × Int) (hp : ts[j]? = some p) : idxD (.tuple (ts.map prT)) (.int j) = some (prT p) := by
  rw [i_t, at_nat, List.getElem?_map, hp]; rfl
theorem nl_Wb (n : Int) (ts : List (Int × Int)) : nl 30 (Wb n ts) = true := by
  unfold Wb
  show ([PyData.int n, .tuple (ts.map prT)]).all (nl 29) = true
  rw [List.all_cons, List.all_cons]
  have h1 : nl 29 (.int n) = true := rfl
  have h2 : nl 29 (.tuple (ts.map prT)) = true := by
    show (ts.map prT).all (nl 28) = true
    rw [List.all_eq_true]
    intro d hd
    obtain ⟨t, _, rfl⟩ := List.mem_map.mp hd
    rfl
  rw [h1, h2]
  rfl

/-! ### whole numbers sorted -/
def ltZ (a b : Int) : Bool := decide (a < b)
theorem ltZ_sto : Sto ltZ := ⟨fun a => by unfold ltZ; simp, fun a b c h1 h2 => by unfold ltZ at *; simp only [decide_eq_true_eq] at *; omega, fun a b h1 h2 => by unfold ltZ at *; simp only [decide_eq_false_iff_not] at *; omega⟩
theorem lt_Z (a b : Int) : dataLt (.int a) (.int b) = ltZ a b := dataLt_int a b
theorem srtOk_Z (l : List Int) : srtOk (l.map .int) = true := by
  unfold srtOk alikeAllP
  rw [Bool.and_eq_true]
  refine ⟨?_, ?_⟩
  · rw [List.all_eq_true]
    intro d hd
    obtain ⟨x, hx, rfl⟩ := List.mem_map.mp hd
    have : ((l.map PyData.int).all fun y => alike (.int x) y) = true := by
      rw [List.all_eq_true]
      intro e he
      obtain ⟨y, _, rfl⟩ := List.mem_map.mp he
      simp [alike]
    rw [this, sh_int]
    rfl
  · rw [Bool.or_eq_true, Bool.or_eq_true]
    refine .inl (.inr ?_)
    rw [List.all_eq_true]
    intro e he
    obtain ⟨y, _, rfl⟩ := List.mem_map.mp he
    rfl
theorem p_sortedZ (l : List Int) : priD .sorted [.list (l.map .int)] = some (.l ((sortL ltZ l).map .int)) := by
  show (if srtOk (l.map PyData.int) = true then some (PR.l (sortD dataLt (l.map PyData.int))) else none) = _
  rw [if_pos (srtOk_Z l), sortL_map lt_Z]
theorem p_sortedZt (l : List Int) : priD .sorted [.tuple (l.map .int)] = some (.l ((sortL ltZ l).map .int)) := by
  show (if srtOk (l.map PyData.int) = true then some (PR.l (sortD dataLt (l.map PyData.int))) else none) = _
  rw [if_pos (srtOk_Z l), sortL_map lt_Z]

/-! ### rows of places -/
def rI (r : List Nat) : List D := r.map fun i : Nat => PyData.int (i : Int)
theorem rI_len (r : List Nat) : (rI r).length = r.length := by unfold rI; rw [List.length_map]
theorem rI_at (r : List Nat) (j : Nat) : (rI r)[j]? = (r[j]?).map fun i : Nat => PyData.int (i : Int) := by unfold rI; rw [List.getElem?_map]
theorem rI_cons (x : Nat) (r : List Nat) : rI (x :: r) = PyData.int (x : Int) :: rI r := rfl
theorem rI_app (r s : List Nat) : rI (r ++ s) = rI r ++ rI s := by unfold rI; rw [List.map_append]
theorem rI_Z (r : List Nat) : rI r = (r.map fun i : Nat => (i : Int)).map PyData.int := by unfold rI; rw [List.map_map]; rfl
theorem rI_rng (n : Nat) : rngL 0 (n : Int) = rI (List.range n) := rng0 n
theorem rI_inj : ∀ {r s : List Nat}, rI r = rI s → r = s
  | [], [], _ => rfl
  | [], _ :: _, h => nomatch h
  | _ :: _, [], h => nomatch h
  | x :: r, y :: s, h => by
    rw [rI_cons, rI_cons] at h
    injection h with h1 h2
    injection h1 with h1
    rw [rI_inj h2, show x = y by omega]
theorem sh_rI (n : Nat) (r : List Nat) : (rI r).all (sh n) = true := by rw [rI_Z]; exact sh_ints n _
theorem nl_rI (n : Nat) (r : List Nat) : (rI r).all (nl n) = true := by
  rw [List.all_eq_true]
  intro d hd
  unfold rI at hd
  obtain ⟨t, _, rfl⟩ := List.mem_map.mp hd
  cases n <;> rfl
theorem eqv_rI : ∀ (r s : List Nat), PyData.eqvAll (rI r) (rI s) = decide (r = s)
  | [], [] => by simp [rI, PyData.eqvAll]
  | [], y :: s => by simp [rI, PyData.eqvAll]
  | x :: r, [] => by simp [rI, PyData.eqvAll]
  | x :: r, y :: s => by
    rw [rI_cons, rI_cons, PyData.eqvAll, eqv_rI r s, eqv_int]
    by_cases h : x = y
    · subst h; simp
    · have : ¬ ((x : Int) = (y : Int)) := by omega
      simp [h, this]
theorem eq_rIl (r s : List Nat) : cmpD .Eq (.list (rI r)) (.list (rI s)) = some (decide (r = s)) := by
  rw [cmp_eq (sh_lst (sh_rI 29 r)) (sh_lst (sh_rI 29 s)), PyData.eqv, eqv_rI]
theorem ne_rIl (r s : List Nat) : cmpD .NotEq (.list (rI r)) (.list (rI s)) = some (!decide (r = s)) := by
  rw [cmp_ne (sh_lst (sh_rI 29 r)) (sh_lst (sh_rI 29 s)), PyData.eqv, eqv_rI]
theorem eq_rIt (r s : List Nat) : cmpD .Eq (.tuple (rI r)) (.tuple (rI s)) = some (decide (r = s)) := by
  rw [cmp_eq (sh_tpl (sh_rI 29 r)) (sh_tpl (sh_rI 29 s)), PyData.eqv, eqv_rI]
theorem ne_rIt (r s : List Nat) : cmpD .NotEq (.tuple (rI r)) (.tuple (rI s)) = some (!decide (r = s)) := by
  rw [cmp_ne (sh_tpl (sh_rI 29 r)) (sh_tpl (sh_rI 29 s)), PyData.eqv, eqv_rI]
/-- an order of so many things -/
def Pm (n : Nat) (r : List Nat) : Prop := r.Perm (List.range n)
theorem Pm.len {n : Nat} {r : List Nat} (h : Pm n r) : r.length = n := by rw [h.length_eq, List.length_range]
theorem Pm.lt {n : Nat} {r : List Nat} (h : Pm n r) {i : Nat} (hi : i ∈ r) : i < n := List.mem_range.mp (h.mem_iff.mp hi)
theorem Pm.nd {n : Nat} {r : List Nat} (h : Pm n r) : r.Nodup := h.nodup_iff.mpr List.nodup_range
theorem Pm.refl (n : Nat) : Pm n (List.range n) := List.Perm.refl _
theorem Pm.has {n : Nat} {r : List Nat} (h : Pm n r) {i : Nat} (hi : i < n) : i ∈ r := h.mem_iff.mpr (List.mem_range.mpr hi)
theorem srt_range (n : Nat) : Srt ltZ ((List.range n).map fun i : Nat => (i : Int)) := by
  unfold Srt
  rw [List.pairwise_map]
  refine List.pairwise_lt_range.imp fun {a b} h => ?_
  unfold ltZ
  simp only [decide_eq_false_iff_not]
  omega
theorem Pm.sorted {n : Nat} {r : List Nat} (h : Pm n r) : (sortL ltZ (r.map fun i : Nat => (i : Int))).map PyData.int = rI (List.range n) := by
  rw [rI_Z, sortL_eq ltZ_sto (h.map _), sortL_self ltZ_sto (srt_range n)]
theorem Pm.sortedl {n : Nat} {r : List Nat} (h : Pm n r) : priD .sorted [.list (rI r)] = some (.l (rI (List.range n))) := by
  rw [rI_Z r, p_sortedZ, h.sorted]
theorem Pm.sortedt {n : Nat} {r : List Nat} (h : Pm n r) : priD .sorted [.tuple (rI r)] = some (.l (rI (List.range n))) := by
  rw [rI_Z r, p_sortedZt, h.sorted]
/-- put in at a place -/
def putAt (i k : Nat) (r : List Nat) : List Nat := r.take i ++ k :: r.drop i
theorem putAt_perm (i k : Nat) (r : List Nat) : (putAt i k r).Perm (k :: r) := by
  unfold putAt
  refine List.perm_middle.trans ?_
  rw [List.take_append_drop]
theorem putAt_pm {i n : Nat} {r : List Nat} (h : Pm n r) : Pm (n + 1) (putAt i n r) := by
  unfold Pm
  rw [List.range_succ]
  refine (putAt_perm i n r).trans ?_
  refine (List.Perm.cons n h).trans ?_
  exact (List.perm_append_singleton n (List.range n)).symm
theorem rI_put (i k : Nat) (r : List Nat) : rI (putAt i k r) = (rI r).take i ++ PyData.int (k : Int) :: (rI r).drop i := by
  unfold putAt rI
  rw [List.map_append, List.map_cons, List.map_take, List.map_drop]
theorem ins_rI {i : Int} {k : Nat} {r : List Nat} (h : 0 ≤ i ∧ i < 1000000000) (hl : r.length < 1000000) : mutR .insert (rI r) [.fz (.int i), .fz (.int (k : Int))] = some (rI (putAt i.toNat k r)) := by
  show (keepAll [.fz (.int i), .fz (.int (k : Int))]).bind (mutL .insert (rI r)) = _
  show (if 0 ≤ i ∧ i < 1000000000 ∧ (rI r).length < LIM then some ((rI r).take i.toNat ++ PyData.int (k : Int) :: (rI r).drop i.toNat) else none) = _
  rw [if_pos ⟨h.1, h.2, by rw [rI_len, LIM_eq]; omega⟩, rI_put]
/-- where a thing stands -/
def gt (r : List Nat) (x : Int) : Int := ((r[x.toNat]?.getD 0 : Nat) : Int)
theorem idx_gtl {r : List Nat} {x : Int} (h0 : 0 ≤ x) (h : x < r.length) : idxD (.list (rI r)) (.int x) = some (.int (gt r x)) := by
  obtain ⟨k, rfl⟩ := Int.eq_ofNat_of_zero_le h0
  rw [i_l, at_nat, rI_at]
  have hk : k < r.length := by omega
  unfold gt
  rw [Int.toNat_natCast, List.getElem?_eq_getElem hk]
  rfl
theorem idx_gtt {r : List Nat} {x : Int} (h0 : 0 ≤ x) (h : x < r.length) : idxD (.tuple (rI r)) (.int x) = some (.int (gt r x)) := by
  rw [i_t, ← i_l]
  exact idx_gtl h0 h
theorem gt_ok {n : Nat} {r : List Nat} (h : Pm n r) {x : Int} (h0 : 0 ≤ x) (h1 : x < n) : 0 ≤ gt r x ∧ gt r x < n := by
  obtain ⟨k, rfl⟩ := Int.eq_ofNat_of_zero_le h0
  have hk : k < r.length := by rw [h.len]; omega
  unfold gt
  rw [Int.toNat_natCast, List.getElem?_eq_getElem hk]
  have := h.lt (List.getElem_mem hk)
  simp only [Option.getD_some]
  omega
/-- the other way round -/
def back (r : List Nat) : List Nat := (List.range r.length).map fun i => r.idxOf i
theorem back_len (r : List Nat) : (back r).length = r.length := by unfold back; simp
theorem idxOf_at {r : List Nat} (hd : r.Nodup) {k : Nat} (hk : k < r.length) : r.idxOf r[k] = k := hd.idxOf_getElem k hk
theorem back_at {n : Nat} {r : List Nat} (h : Pm n r) {k : Nat} (hk : k < n) : ∃ i, r[k]? = some i ∧ i < n ∧ (back r)[i]? = some k := by
  have hk' : k < r.length := by rw [h.len]; exact hk
  have hi := h.lt (List.getElem_mem hk')
  refine ⟨r[k], List.getElem?_eq_getElem hk', hi, ?_⟩
  unfold back
  rw [List.getElem?_map, List.getElem?_range (by rw [h.len]; exact hi)]
  simp only [Option.map_some]
  rw [idxOf_at h.nd hk']
theorem nodup_map {α β : Type} {f : α → β} : ∀ {l : List α}, (∀ a, a ∈ l → ∀ b, b ∈ l → f a = f b → a = b) → l.Nodup → (l.map f).Nodup
  | [], _, _ => List.nodup_nil
  | x :: l, h, hd => by
    rw [List.nodup_cons] at hd
    rw [List.map_cons, List.nodup_cons]
    refine ⟨fun hm => ?_, nodup_map (fun a ha b hb => h a (List.mem_cons_of_mem _ ha) b (List.mem_cons_of_mem _ hb)) hd.2⟩
    obtain ⟨y, hy, e⟩ := List.mem_map.mp hm
    have := h y (List.mem_cons_of_mem _ hy) x List.mem_cons_self e
    subst this
    exact hd.1 hy
theorem back_pm {n : Nat} {r : List Nat} (h : Pm n r) : Pm n (back r) := by
  have hn : (back r).Nodup := by
    unfold back
    refine nodup_map ?_ List.nodup_range
    intro i hi j hj e
    rw [List.mem_range, h.len] at hi hj
    have a := List.getElem_idxOf (List.idxOf_lt_length_of_mem (h.has hi))
    have b := List.getElem_idxOf (List.idxOf_lt_length_of_mem (h.has hj))
    rw [← a, ← b]
    simp only [e]
  unfold Pm
  rw [List.perm_ext_iff_of_nodup hn List.nodup_range]
  intro a
  rw [List.mem_range]
  constructor
  · intro ha
    unfold back at ha
    obtain ⟨i, hi, rfl⟩ := List.mem_map.mp ha
    rw [List.mem_range, h.len] at hi
    have := List.idxOf_lt_length_of_mem (h.has hi)
    rw [h.len] at this
    exact this
  · intro ha
    obtain ⟨i, _, _, h3⟩ := back_at h ha
    exact List.mem_of_getElem? h3
theorem gt_back {n : Nat} {r : List Nat} (h : Pm n r) {x : Int} (h0 : 0 ≤ x) (h1 : x < n) : gt (back r) (gt r x) = x := by
  obtain ⟨k, rfl⟩ := Int.eq_ofNat_of_zero_le h0
  obtain ⟨i, a1, a2, a3⟩ := back_at h (k := k) (by omega)
  unfold gt
  have e1 : ((k : Int)).toNat = k := Int.toNat_natCast k
  have e2 : ((i : Int)).toNat = i := Int.toNat_natCast i
  simp only [e1, a1, Option.getD_some, e2, a3]
/-- the points renumbered -/
def renT (r : List Nat) (p : Int × Int) : Int × Int := VL.srt (gt r p.1, gt r p.2)
theorem renT_back {n : Nat} {r : List Nat} (h : Pm n r) {p : Int × Int} (ho : okT n p) (hs : p.1 ≤ p.2) : renT (back r) (renT r p) = p := by
  have a1 := gt_back h ho.1.1 ho.1.2
  have a2 := gt_back h ho.2.1 ho.2.2
  unfold renT VL.srt
  simp only
  have key : (gt (back r) (min (gt r p.1) (gt r p.2)) = p.1 ∧ gt (back r) (max (gt r p.1) (gt r p.2)) = p.2) ∨ (gt (back r) (min (gt r p.1) (gt r p.2)) = p.2 ∧ gt (back r) (max (gt r p.1) (gt r p.2)) = p.1) := by
    rcases Int.le_total (gt r p.1) (gt r p.2) with q | q
    · rw [Int.min_eq_left q, Int.max_eq_right q, a1, a2]; exact .inl ⟨rfl, rfl⟩
    · rw [Int.min_eq_right q, Int.max_eq_left q, a1, a2]; exact .inr ⟨rfl, rfl⟩
  have e : p = (p.1, p.2) := rfl
  rcases key with ⟨k1, k2⟩ | ⟨k1, k2⟩
  · rw [k1, k2, Int.min_eq_left hs, Int.max_eq_right hs]
  · rw [k1, k2, Int.min_eq_right hs, Int.max_eq_left hs]
theorem web_ren {n : Nat} {ts : List (Int × Int)} (w : Web n ts) {r : List Nat} (h : Pm n r) : Web n (ts.map (renT r)) := by
  refine ⟨w.n1, w.n9, fun p hp => ?_, fun p hp => ?_, by rw [List.length_map]; exact w.len⟩
  · obtain ⟨q, hq, rfl⟩ := List.mem_map.mp hp
    have ho := w.ok q hq
    exact srt_ok ⟨gt_ok h ho.1.1 ho.1.2, gt_ok h ho.2.1 ho.2.2⟩
  · obtain ⟨q, hq, rfl⟩ := List.mem_map.mp hp
    exact srt_le _
/-- the ties in another order -/
def reoT (r : List Nat) (ts : List (Int × Int)) : List (Int × Int) := r.map fun k => ts[k]?.getD (0, 0)
theorem reo_mem {r : List Nat} {ts : List (Int × Int)} (h : Pm ts.length r) {p : Int × Int} (hp : p ∈ reoT r ts) : p ∈ ts := by
  unfold reoT at hp
  obtain ⟨k, hk, rfl⟩ := List.mem_map.mp hp
  have hk := h.lt hk
  rw [List.getElem?_eq_getElem hk]
  exact List.getElem_mem hk
theorem web_reo {n : Int} {ts : List (Int × Int)} (w : Web n ts) {r : List Nat} (h : Pm ts.length r) : Web n (reoT r ts) :=
  ⟨w.n1, w.n9, fun p hp => w.ok p (reo_mem h hp), fun p hp => w.srt p (reo_mem h hp), by unfold reoT; rw [List.length_map, h.len]; exact w.len⟩
theorem reo_len (r : List Nat) (ts : List (Int × Int)) : (reoT r ts).length = r.length := by unfold reoT; rw [List.length_map]
theorem reo_back {ts : List (Int × Int)} {r : List Nat} (h : Pm ts.length r) : reoT (back r) (reoT r ts) = ts := by
  refine List.ext_getElem? fun i => ?_
  unfold reoT
  rw [List.getElem?_map]
  by_cases hi : i < ts.length
  · have hb := back_pm h
    have hib : i < (back r).length := by rw [hb.len]; exact hi
    rw [List.getElem?_eq_getElem hib, Option.map_some]
    have e : (back r)[i] = r.idxOf i := by simp [back]
    have hm := h.has hi
    have hl := List.idxOf_lt_length_of_mem hm
    rw [e, List.getElem?_map, List.getElem?_eq_getElem hl, Option.map_some, Option.getD_some, List.getElem_idxOf hl, List.getElem?_eq_getElem hi]
    rfl
  · rw [List.getElem?_eq_none (l := back r) (by rw [back_len, h.len]; omega), List.getElem?_eq_none (l := ts) (by omega)]
    rfl
theorem reo_range (ts : List (Int × Int)) : reoT (List.range ts.length) ts = ts := by
  refine List.ext_getElem? fun i => ?_
  unfold reoT
  rw [List.getElem?_map]
  by_cases hi : i < ts.length
  · rw [List.getElem?_range hi, List.getElem?_eq_getElem hi]
    simp [List.getElem?_eq_getElem hi]
  · rw [List.getElem?_eq_none (l := List.range ts.length) (by simp; omega), List.getElem?_eq_none (l := ts) (by omega)]
    rfl
/-! ### small rows -/
theorem p_lrng (n : Nat) (h : n ≤ 1000) : priD .lrng [.int (n : Int)] = some (.l (rI (List.range n))) := by
  show (if (n : Int) ≤ LIM ∧ -1000000 ≤ (n : Int) then some (PR.l (rngL 0 n)) else none) = _
  rw [if_pos ⟨by rw [LIM_eq]; omega, by omega⟩, rI_rng]
theorem p_trng (n : Nat) (h : n ≤ 1000) : priD .trng [.int (n : Int)] = some (.v (.tuple (rI (List.range n)))) := by
  show (if (n : Int) ≤ LIM ∧ -1000000 ≤ (n : Int) then some (PR.v (.tuple (rngL 0 n))) else none) = _
  rw [if_pos ⟨by rw [LIM_eq]; omega, by omega⟩, rI_rng]
theorem prs_none {l : List (Int × Int)} : cmpD .NotEq (.list (l.map prT)) (.list []) = some (!l.isEmpty) := by
  rw [cmp_ne (sh_lst (sh_prTs 28 l)) rfl]
  cases l <;> rfl
theorem enumL_at : ∀ (n : Nat) (ds : List D) (i : Nat), (enumL n ds)[i]? = (ds[i]?).map fun d => .tuple [.int ((n + i : Nat) : Int), d]
  | _, [], _ => rfl
  | n, d :: ds, 0 => rfl
  | n, d :: ds, i + 1 => by
    rw [enumL, List.getElem?_cons_succ, List.getElem?_cons_succ, enumL_at (n + 1) ds i]
    rw [show n + 1 + i = n + (i + 1) by omega]
end VL
/-! the value layer, 29: what hangs together; ranks -/
namespace VL
open PySem PySem.W L2

/-! ### relations -/
abbrev Rl := Nat → Nat → Prop
structure Eqv (R : Rl) : Prop where
  r : ∀ x, R x x
  s : ∀ x y, R x y → R y x
  t : ∀ x y z, R x y → R y z → R x z
/-- a and b drawn together -/
def Mg (a b : Nat) (R : Rl) : Rl := fun x y => R x y ∨ ((R x a ∨ R x b) ∧ (R y a ∨ R y b))
theorem Eqv.mg {R : Rl} (h : Eqv R) (a b : Nat) : Eqv (Mg a b R) := by
  refine ⟨fun x => .inl (h.r x), fun x y q => ?_, fun x y z q1 q2 => ?_⟩
  · rcases q with q | ⟨q1, q2⟩
    · exact .inl (h.s _ _ q)
    · exact .inr ⟨q2, q1⟩
  · rcases q1 with q1 | ⟨q1, q1'⟩
    · rcases q2 with q2 | ⟨q2, q2'⟩
      · exact .inl (h.t _ _ _ q1 q2)
      · refine .inr ⟨?_, q2'⟩
        rcases q2 with q2 | q2
        · exact .inl (h.t _ _ _ q1 q2)
        · exact .inr (h.t _ _ _ q1 q2)
    · rcases q2 with q2 | ⟨q2, q2'⟩
      · refine .inr ⟨q1, ?_⟩
        rcases q1' with q | q
        · exact .inl (h.t _ _ _ (h.s _ _ q2) q)
        · exact .inr (h.t _ _ _ (h.s _ _ q2) q)
      · exact .inr ⟨q1, q2'⟩
theorem mg_self {R : Rl} (h : Eqv R) (a b : Nat) : Mg a b R a b := .inr ⟨.inl (h.r a), .inr (h.r b)⟩
theorem mg_le {R S : Rl} (hR : Eqv R) (hS : Eqv S) (a b : Nat) : (∀ x y, Mg a b R x y → S x y) ↔ (∀ x y, R x y → S x y) ∧ S a b := by
  constructor
  · intro h
    exact ⟨fun x y q => h x y (.inl q), h a b (mg_self hR a b)⟩
  · rintro ⟨h1, h2⟩ x y q
    rcases q with q | ⟨q1, q2⟩
    · exact h1 x y q
    · have ha : S x a := by
        rcases q1 with q | q
        · exact h1 _ _ q
        · exact hS.t _ _ _ (h1 _ _ q) (hS.s _ _ h2)
      have hb : S y a := by
        rcases q2 with q | q
        · exact h1 _ _ q
        · exact hS.t _ _ _ (h1 _ _ q) (hS.s _ _ h2)
      exact hS.t _ _ _ ha (hS.s _ _ hb)
/-- by ties put in one behind another -/
def Mgs (ps : List (Nat × Nat)) (R : Rl) : Rl := ps.foldl (fun R p => Mg p.1 p.2 R) R
theorem Eqv.mgs : ∀ {ps : List (Nat × Nat)} {R : Rl}, Eqv R → Eqv (Mgs ps R)
  | [], _, h => h
  | p :: ps, _, h => Eqv.mgs (ps := ps) (h.mg p.1 p.2)
theorem mgs_le {S : Rl} (hS : Eqv S) : ∀ {ps : List (Nat × Nat)} {R : Rl}, Eqv R → ((∀ x y, Mgs ps R x y → S x y) ↔ (∀ x y, R x y → S x y) ∧ ∀ p ∈ ps, S p.1 p.2)
  | [], R, _ => ⟨fun h => ⟨h, fun p hp => nomatch hp⟩, fun h => h.1⟩
  | p :: ps, R, h => by
    have ih := mgs_le hS (ps := ps) (h.mg p.1 p.2)
    have e : Mgs (p :: ps) R = Mgs ps (Mg p.1 p.2 R) := rfl
    rw [e, ih, mg_le h hS]
    constructor
    · rintro ⟨⟨h1, h2⟩, h3⟩
      refine ⟨h1, fun q hq => ?_⟩
      rcases List.mem_cons.mp hq with rfl | hq
      · exact h2
      · exact h3 q hq
    · rintro ⟨h1, h2⟩
      exact ⟨⟨h1, h2 p List.mem_cons_self⟩, fun q hq => h2 q (List.mem_cons_of_mem _ hq)⟩
theorem mgs_mono {R : Rl} (h : Eqv R) {ps qs : List (Nat × Nat)} (hs : ∀ p ∈ ps, p ∈ qs) {x y : Nat} (q : Mgs ps R x y) : Mgs qs R x y :=
  ((mgs_le h.mgs h).mpr ⟨((mgs_le h.mgs h).mp fun _ _ z => z).1, fun p hp => ((mgs_le h.mgs h).mp fun _ _ z => z).2 p (hs p hp)⟩) x y q
theorem mgs_perm {R : Rl} (h : Eqv R) {ps qs : List (Nat × Nat)} (hp : ps.Perm qs) : Mgs ps R = Mgs qs R := by
  funext x y
  exact propext ⟨mgs_mono h fun p q => hp.mem_iff.mp q, mgs_mono h fun p q => hp.mem_iff.mpr q⟩
theorem mgs_app (ps qs : List (Nat × Nat)) (R : Rl) : Mgs (ps ++ qs) R = Mgs qs (Mgs ps R) := by
  unfold Mgs
  rw [List.foldl_append]
theorem mg_triv {R : Rl} (h : Eqv R) {a b : Nat} (q : R a b) : Mg a b R = R := by
  funext x y
  refine propext ⟨fun z => (mg_le h h a b).mpr ⟨fun _ _ w => w, q⟩ x y z, fun z => .inl z⟩

/-! ### marks -/
def Sm (l : List Nat) : Rl := fun x y => l[x]? = l[y]?
theorem sm_eqv (l : List Nat) : Eqv (Sm l) := ⟨fun _ => rfl, fun _ _ h => h.symm, fun _ _ _ h g => h.trans g⟩
/-- mark u becomes v -/
def mk (u v : Nat) (l : List Nat) : List Nat := l.map fun m => if m = u then v else m
theorem mk_len (u v : Nat) (l : List Nat) : (mk u v l).length = l.length := by unfold mk; rw [List.length_map]
theorem mk_at (u v : Nat) (l : List Nat) (x : Nat) : (mk u v l)[x]? = (l[x]?).map fun m => if m = u then v else m := by unfold mk; rw [List.getElem?_map]
theorem sm_mk {l : List Nat} {a b u v : Nat} (h : (l[a]? = some u ∧ l[b]? = some v) ∨ (l[a]? = some v ∧ l[b]? = some u)) : Sm (mk u v l) = Mg a b (Sm l) := by
  funext x y
  unfold Sm Mg
  rw [mk_at, mk_at]
  apply propext
  have key : ∀ X Y : Option Nat, ((X.map fun m => if m = u then v else m) = Y.map fun m => if m = u then v else m) ↔ (X = Y ∨ ((X = some u ∨ X = some v) ∧ (Y = some u ∨ Y = some v))) := by
    intro X Y
    cases X with
    | none => cases Y <;> simp
    | some m =>
      cases Y with
      | none => simp
      | some k =>
        simp only [Option.map_some, Option.some.injEq]
        by_cases h1 : m = u <;> by_cases h2 : k = u <;> simp [h1, h2] <;> omega
  rw [key]
  show l[x]? = l[y]? ∨ ((l[x]? = some u ∨ l[x]? = some v) ∧ (l[y]? = some u ∨ l[y]? = some v)) ↔ l[x]? = l[y]? ∨ ((l[x]? = l[a]? ∨ l[x]? = l[b]?) ∧ (l[y]? = l[a]? ∨ l[y]? = l[b]?))
  rcases h with ⟨h1, h2⟩ | ⟨h1, h2⟩
  · rw [h1, h2]
  · rw [h1, h2]
    constructor
    · rintro (q | ⟨q1, q2⟩)
      · exact .inl q
      · exact .inr ⟨q1.symm, q2.symm⟩
    · rintro (q | ⟨q1, q2⟩)
      · exact .inl q
      · exact .inr ⟨q1.symm, q2.symm⟩

/-! ### how many marks -/
def dd (l : List Nat) : List Nat := l.foldl (fun acc x => if x ∈ acc then acc else acc ++ [x]) []
theorem dd_snoc (l : List Nat) (x : Nat) : dd (l ++ [x]) = if x ∈ dd l then dd l else dd l ++ [x] := by unfold dd; rw [List.foldl_append]; rfl
theorem snoc_ind {P : List Nat → Prop} (h0 : P []) (h1 : ∀ l x, P l → P (l ++ [x])) (l : List Nat) : P l := by
  have : ∀ m : List Nat, P m.reverse := fun m => by
    induction m with
    | nil => exact h0
    | cons x m ih => rw [List.reverse_cons]; exact h1 _ _ ih
  have := this l.reverse
  rwa [List.reverse_reverse] at this
theorem dd_mem (l : List Nat) : ∀ x, x ∈ dd l ↔ x ∈ l := by
  induction l using snoc_ind with
  | h0 => intro x; rfl
  | h1 l y ih =>
    intro x
    rw [dd_snoc]
    split
    · rename_i h
      rw [ih, List.mem_append, List.mem_singleton]
      constructor
      · exact .inl
      · rintro (q | rfl)
        · exact q
        · exact (ih x).mp h
    · rw [List.mem_append, List.mem_append, ih]
theorem dd_nd (l : List Nat) : (dd l).Nodup := by
  induction l using snoc_ind with
  | h0 => exact List.nodup_nil
  | h1 l y ih =>
    rw [dd_snoc]
    split
    · exact ih
    · rename_i h
      rw [List.nodup_append]
      refine ⟨ih, by simp, fun a ha b hb => ?_⟩
      rw [List.mem_singleton.mp hb]
      exact fun z => h (z ▸ ha)
theorem nd_eq {l m : List Nat} (h1 : l.Nodup) (h2 : m.Nodup) (h : ∀ k, k ∈ l ↔ k ∈ m) : l.length = m.length := ((List.perm_ext_iff_of_nodup h1 h2).mpr h).length_eq
theorem dd_self {l : List Nat} (h : l.Nodup) : (dd l).length = l.length := nd_eq (dd_nd l) h (dd_mem l)
theorem mk_mem {u v : Nat} {l : List Nat} (hu : u ≠ v) (hv : v ∈ l) (x : Nat) : x ∈ mk u v l ↔ x ∈ l ∧ x ≠ u := by
  unfold mk
  rw [List.mem_map]
  constructor
  · rintro ⟨m, hm, rfl⟩
    split
    · exact ⟨hv, fun z => hu z.symm⟩
    · rename_i h; exact ⟨hm, h⟩
  · rintro ⟨h1, h2⟩
    exact ⟨x, h1, by rw [if_neg h2]⟩
/-- two marks become one -/
theorem dd_mk {u v : Nat} {l : List Nat} (huv : u ≠ v) (hu : u ∈ l) (hv : v ∈ l) : (dd (mk u v l)).length + 1 = (dd l).length := by
  have h1 : (u :: dd (mk u v l)).Nodup := by
    rw [List.nodup_cons]
    refine ⟨fun z => ?_, dd_nd _⟩
    rw [dd_mem, mk_mem huv hv] at z
    exact z.2 rfl
  have := nd_eq h1 (dd_nd l) fun k => by
    rw [List.mem_cons, dd_mem, dd_mem, mk_mem huv hv]
    constructor
    · rintro (rfl | h)
      · exact hu
      · exact h.1
    · intro h
      by_cases q : k = u
      · exact .inl q
      · exact .inr ⟨h, q⟩
  simpa using this
theorem mk_same (u : Nat) (l : List Nat) : mk u u l = l := by
  unfold mk
  have : (fun m => if m = u then u else m) = id := by funext m; simp only [id]; split <;> omega
  rw [this, List.map_id]
/-- as many marks, where the same hang together -/
theorem dd_sm : ∀ {l m : List Nat}, l.length = m.length → Sm l = Sm m → (dd l).length = (dd m).length := by
  intro l
  induction l using snoc_ind with
  | h0 =>
    intro m h _
    cases m with
    | nil => rfl
    | cons x m => simp at h
  | h1 l x ih =>
    intro m h e
    rcases List.eq_nil_or_concat m with q | ⟨m', y, q⟩
    · subst q; simp at h
    · rw [List.concat_eq_append] at q
      subst q
      have hl : l.length = m'.length := by simpa using h
      have e' : ∀ i j, Sm (l ++ [x]) i j ↔ Sm (m' ++ [y]) i j := fun i j => by rw [e]
      have el : Sm l = Sm m' := by
        funext i j
        apply propext
        have := e' i j
        unfold Sm at this ⊢
        by_cases hi : i < l.length
        · by_cases hj : j < l.length
          · rwa [List.getElem?_append_left hi, List.getElem?_append_left hj, List.getElem?_append_left (by omega), List.getElem?_append_left (by omega)] at this
          · rw [List.getElem?_eq_getElem hi, List.getElem?_eq_getElem (l := m') (i := i) (by omega), List.getElem?_eq_none (l := l) (i := j) (by omega), List.getElem?_eq_none (l := m') (i := j) (by omega)]
            simp
        · by_cases hj : j < l.length
          · rw [List.getElem?_eq_getElem hj, List.getElem?_eq_getElem (l := m') (i := j) (by omega), List.getElem?_eq_none (l := l) (i := i) (by omega), List.getElem?_eq_none (l := m') (i := i) (by omega)]
            simp
          · rw [List.getElem?_eq_none (l := l) (i := i) (by omega), List.getElem?_eq_none (l := l) (i := j) (by omega), List.getElem?_eq_none (l := m') (i := i) (by omega), List.getElem?_eq_none (l := m') (i := j) (by omega)]
      have hx : x ∈ dd l ↔ y ∈ dd m' := by
        rw [dd_mem, dd_mem, List.mem_iff_getElem?, List.mem_iff_getElem?]
        have last1 : (l ++ [x])[l.length]? = some x := by simp
        have last2 : (m' ++ [y])[l.length]? = some y := by rw [hl]; simp
        constructor
        · rintro ⟨i, hi⟩
          have hil := (List.getElem?_eq_some_iff.mp hi).1
          refine ⟨i, ?_⟩
          have := (e' i l.length).mp (by unfold Sm; rw [last1, List.getElem?_append_left hil, hi])
          unfold Sm at this
          rw [last2, List.getElem?_append_left (by omega)] at this
          exact this
        · rintro ⟨i, hi⟩
          have hil := (List.getElem?_eq_some_iff.mp hi).1
          refine ⟨i, ?_⟩
          have := (e' i l.length).mpr (by unfold Sm; rw [last2, List.getElem?_append_left hil, hi])
          unfold Sm at this
          rw [last1, List.getElem?_append_left (by omega)] at this
          exact this
      have ih' := ih hl el
      rw [dd_snoc, dd_snoc]
      by_cases q : x ∈ dd l
      · rw [if_pos q, if_pos (hx.mp q)]; exact ih'
      · rw [if_neg q, if_neg (fun z => q (hx.mpr z))]
        simp [ih']

/-! ### ranks -/
def tN (ts : List (Int × Int)) (k : Nat) : Nat × Nat := (((ts[k]?).getD (0, 0)).1.toNat, ((ts[k]?).getD (0, 0)).2.toNat)
def at' (l : List Nat) (x : Nat) : Nat := (l[x]?).getD 0
/-- the program's marks -/
def mkP (ts : List (Int × Int)) (l : List Nat) (k : Nat) : List Nat := mk (max (at' l (tN ts k).1) (at' l (tN ts k).2)) (min (at' l (tN ts k).1) (at' l (tN ts k).2)) l
def marksP (n : Nat) (ts : List (Int × Int)) (pick : List Nat) : List Nat := pick.foldl (mkP ts) (List.range n)
/-- the law's marks, and how often two were drawn together -/
def mkL (ts : List (Int × Int)) (s : List Nat × Nat) (k : Nat) : List Nat × Nat :=
  if at' s.1 (tN ts k).1 ≠ at' s.1 (tN ts k).2 then (mk (at' s.1 (tN ts k).2) (at' s.1 (tN ts k).1) s.1, s.2 + 1) else s
def marksL (n : Nat) (ts : List (Int × Int)) (pick : List Nat) : List Nat × Nat := pick.foldl (mkL ts) (List.range n, 0)
/-- the rank -/
def rk (n : Nat) (ts : List (Int × Int)) (pick : List Nat) : Nat := (marksL n ts pick).2
def pairs (ts : List (Int × Int)) (pick : List Nat) : List (Nat × Nat) := pick.map (tN ts)
/-- ends that are points -/
def okP (n : Nat) (ts : List (Int × Int)) (pick : List Nat) : Prop := ∀ k ∈ pick, (tN ts k).1 < n ∧ (tN ts k).2 < n
theorem at_some {l : List Nat} {x : Nat} (h : x < l.length) : l[x]? = some (at' l x) := by unfold at'; rw [List.getElem?_eq_getElem h]; rfl
theorem mkP_sm {ts : List (Int × Int)} {l : List Nat} {k : Nat} (h1 : (tN ts k).1 < l.length) (h2 : (tN ts k).2 < l.length) : Sm (mkP ts l k) = Mg (tN ts k).1 (tN ts k).2 (Sm l) := by
  unfold mkP
  refine sm_mk ?_
  rw [at_some h1, at_some h2]
  rcases Nat.le_total (at' l (tN ts k).1) (at' l (tN ts k).2) with q | q
  · rw [Nat.max_eq_right q, Nat.min_eq_left q]; exact .inr ⟨rfl, rfl⟩
  · rw [Nat.max_eq_left q, Nat.min_eq_right q]; exact .inl ⟨rfl, rfl⟩
theorem mkP_len (ts : List (Int × Int)) (l : List Nat) (k : Nat) : (mkP ts l k).length = l.length := mk_len _ _ _
theorem mkL_len (ts : List (Int × Int)) (s : List Nat × Nat) (k : Nat) : (mkL ts s k).1.length = s.1.length := by
  unfold mkL
  split
  · exact mk_len _ _ _
  · rfl
theorem mkL_sm {ts : List (Int × Int)} {s : List Nat × Nat} {k : Nat} (h1 : (tN ts k).1 < s.1.length) (h2 : (tN ts k).2 < s.1.length) : Sm (mkL ts s k).1 = Mg (tN ts k).1 (tN ts k).2 (Sm s.1) := by
  unfold mkL
  split
  · exact sm_mk (.inr ⟨at_some h1, at_some h2⟩)
  · rename_i h
    have e : at' s.1 (tN ts k).1 = at' s.1 (tN ts k).2 := Decidable.not_not.mp h
    refine (mg_triv (sm_eqv _) ?_).symm
    unfold Sm
    rw [at_some h1, at_some h2, e]
theorem marksP_ok {n : Nat} {ts : List (Int × Int)} : ∀ {pick l : List Nat}, l.length = n → okP n ts pick → (pick.foldl (mkP ts) l).length = n ∧ Sm (pick.foldl (mkP ts) l) = Mgs (pairs ts pick) (Sm l)
  | [], l, hl, _ => ⟨hl, rfl⟩
  | k :: pick, l, hl, h => by
    have hk := h k List.mem_cons_self
    have := marksP_ok (pick := pick) (l := mkP ts l k) (by rw [mkP_len, hl]) fun j hj => h j (List.mem_cons_of_mem _ hj)
    rw [mkP_sm (by rw [hl]; exact hk.1) (by rw [hl]; exact hk.2)] at this
    exact this
theorem marksL_ok {n : Nat} {ts : List (Int × Int)} : ∀ {pick : List Nat} {s : List Nat × Nat}, s.1.length = n → okP n ts pick →
    (pick.foldl (mkL ts) s).1.length = n ∧ Sm (pick.foldl (mkL ts) s).1 = Mgs (pairs ts pick) (Sm s.1) ∧ (dd (pick.foldl (mkL ts) s).1).length + (pick.foldl (mkL ts) s).2 = (dd s.1).length + s.2
  | [], s, hl, _ => ⟨hl, rfl, rfl⟩
  | k :: pick, s, hl, h => by
    have hk := h k List.mem_cons_self
    obtain ⟨a1, a2, a3⟩ := marksL_ok (pick := pick) (s := mkL ts s k) (by rw [mkL_len, hl]) fun j hj => h j (List.mem_cons_of_mem _ hj)
    rw [mkL_sm (by rw [hl]; exact hk.1) (by rw [hl]; exact hk.2)] at a2
    refine ⟨a1, a2, a3.trans ?_⟩
    unfold mkL
    split
    · rename_i q
      have m1 : at' s.1 (tN ts k).1 ∈ s.1 := List.mem_of_getElem? (at_some (by rw [hl]; exact hk.1))
      have m2 : at' s.1 (tN ts k).2 ∈ s.1 := List.mem_of_getElem? (at_some (by rw [hl]; exact hk.2))
      have := dd_mk (Ne.symm q) m2 m1
      show (dd (mk _ _ s.1)).length + (s.2 + 1) = _
      omega
    · rfl
theorem range_at (n x : Nat) (h : x < n) : (List.range n)[x]? = some x := List.getElem?_range h
theorem rk_marks {n : Nat} {ts : List (Int × Int)} {pick : List Nat} (h : okP n ts pick) : (dd (marksL n ts pick).1).length + rk n ts pick = n := by
  obtain ⟨_, _, a3⟩ := marksL_ok (n := n) (ts := ts) (pick := pick) (s := (List.range n, 0)) (by simp) h
  have e : (dd (List.range n)).length = n := by rw [dd_self List.nodup_range, List.length_range]
  unfold rk marksL
  rw [a3, e]
  rfl
theorem marks_rel {n : Nat} {ts : List (Int × Int)} {pick : List Nat} (h : okP n ts pick) : Sm (marksP n ts pick) = Mgs (pairs ts pick) (Sm (List.range n)) ∧ Sm (marksL n ts pick).1 = Mgs (pairs ts pick) (Sm (List.range n)) ∧ (marksP n ts pick).length = n ∧ (marksL n ts pick).1.length = n := by
  obtain ⟨a1, a2, _⟩ := marksL_ok (n := n) (ts := ts) (pick := pick) (s := (List.range n, 0)) (by simp) h
  obtain ⟨b1, b2⟩ := marksP_ok (n := n) (ts := ts) (pick := pick) (l := List.range n) (by simp) h
  exact ⟨b2, a2, b1, a1⟩
/-- the program's rank is the law's -/
theorem rk_prog {n : Nat} {ts : List (Int × Int)} {pick : List Nat} (h : okP n ts pick) : (dd (marksP n ts pick)).length + rk n ts pick = n := by
  obtain ⟨a, b, c, d⟩ := marks_rel h
  rw [dd_sm (c.trans d.symm) (a.trans b.symm)]
  exact rk_marks h
theorem okP_perm {n : Nat} {ts : List (Int × Int)} {p q : List Nat} (hp : p.Perm q) (h : okP n ts p) : okP n ts q := fun k hk => h k (hp.mem_iff.mpr hk)
/-- of like relations the rank is alike -/
theorem rk_rel {n : Nat} {ts us : List (Int × Int)} {p q : List Nat} (hp : okP n ts p) (hq : okP n us q) (e : Mgs (pairs ts p) (Sm (List.range n)) = Mgs (pairs us q) (Sm (List.range n))) : rk n ts p = rk n us q := by
  obtain ⟨_, b, _, d⟩ := marks_rel hp
  obtain ⟨_, b', _, d'⟩ := marks_rel hq
  have := dd_sm (d.trans d'.symm) (b.trans (e.trans b'.symm))
  have h1 := rk_marks hp
  have h2 := rk_marks hq
  omega
theorem rk_perm {n : Nat} {ts : List (Int × Int)} {p q : List Nat} (hp : p.Perm q) (h : okP n ts p) : rk n ts p = rk n ts q :=
  rk_rel h (okP_perm hp h) (mgs_perm (sm_eqv _) (hp.map _))
theorem rk_snoc (n : Nat) (ts : List (Int × Int)) (p : List Nat) (k : Nat) : marksL n ts (p ++ [k]) = mkL ts (marksL n ts p) k := by unfold marksL; rw [List.foldl_append]; rfl
theorem rk_step (n : Nat) (ts : List (Int × Int)) (p : List Nat) (k : Nat) : rk n ts (p ++ [k]) = rk n ts p ∨ rk n ts (p ++ [k]) = rk n ts p + 1 := by
  unfold rk
  rw [rk_snoc]
  unfold mkL
  split
  · exact .inr rfl
  · exact .inl rfl
theorem rk_le_len (n : Nat) (ts : List (Int × Int)) (p : List Nat) : rk n ts p ≤ p.length := by
  induction p using snoc_ind with
  | h0 => exact Nat.le_refl _
  | h1 p k ih =>
    rw [List.length_append]
    rcases rk_step n ts p k with q | q <;> rw [q] <;> simp <;> omega
/-- the ties that drew two together -/
def greedy (n : Nat) (ts : List (Int × Int)) : List Nat → List Nat
  | [] => []
  | k :: r => if at' (marksL n ts r.reverse).1 (tN ts k).1 ≠ at' (marksL n ts r.reverse).1 (tN ts k).2 then greedy n ts r ++ [k] else greedy n ts r
theorem greedy_ok (n : Nat) (ts : List (Int × Int)) : ∀ r : List Nat, marksL n ts (greedy n ts r) = marksL n ts r.reverse ∧ (greedy n ts r).length = rk n ts r.reverse ∧ (greedy n ts r).Sublist r.reverse
  | [] => ⟨rfl, rfl, List.Sublist.refl _⟩
  | k :: r => by
    obtain ⟨a, b, c⟩ := greedy_ok n ts r
    unfold rk at b ⊢
    rw [List.reverse_cons, rk_snoc]
    unfold greedy mkL
    split
    · rename_i h
      refine ⟨?_, ?_, c.append (List.Sublist.refl _)⟩
      · rw [rk_snoc, a]
        unfold mkL
        rw [if_pos h]
      · rw [List.length_append, b]; rfl
    · exact ⟨a, b, c.trans (List.sublist_append_left _ _)⟩
end VL
/-! the value layer, 30: picks -/
namespace VL
open PySem PySem.W L2

def tupR (r : List Nat) : D := .tuple (rI r)
theorem sh_tupR (n : Nat) (r : List Nat) : sh (n + 1) (tupR r) = true := sh_tpl (sh_rI n r)
theorem all_sh_tupR (n : Nat) (l : List (List Nat)) : (l.map tupR).all (sh (n + 1)) = true := by
  rw [List.all_eq_true]
  intro d hd
  obtain ⟨r, _, rfl⟩ := List.mem_map.mp hd
  exact sh_tupR n r
/-! ### the numbers of a mask's bits -/
def bits (mask m : Nat) : List Nat := (List.range m).filter fun k => mask.testBit k
theorem bits_sub (mask m : Nat) : (bits mask m).Sublist (List.range m) := List.filter_sublist
theorem bits_mem {mask m k : Nat} : k ∈ bits mask m ↔ k < m ∧ mask.testBit k = true := by unfold bits; rw [List.mem_filter, List.mem_range]
theorem bits_inj {m a b : Nat} (ha : a < 2 ^ m) (hb : b < 2 ^ m) (h : bits a m = bits b m) : a = b := by
  refine Nat.eq_of_testBit_eq fun k => ?_
  by_cases hk : k < m
  · have : k ∈ bits a m ↔ k ∈ bits b m := by rw [h]
    rw [bits_mem, bits_mem] at this
    cases qa : a.testBit k <;> cases qb : b.testBit k <;> simp_all
  · rw [Nat.testBit_lt_two_pow (Nat.lt_of_lt_of_le ha (Nat.pow_le_pow_right (by omega) (by omega))), Nat.testBit_lt_two_pow (Nat.lt_of_lt_of_le hb (Nat.pow_le_pow_right (by omega) (by omega)))]
theorem mask_of (p : Nat → Bool) : ∀ m : Nat, ∃ mask, mask < 2 ^ m ∧ ∀ k, k < m → mask.testBit k = p k
  | 0 => ⟨0, by simp, fun k hk => absurd hk (Nat.not_lt_zero k)⟩
  | m + 1 => by
    obtain ⟨a, h1, h2⟩ := mask_of p m
    cases q : p m with
    | false =>
      refine ⟨a, Nat.lt_of_lt_of_le h1 (Nat.pow_le_pow_right (by omega) (by omega)), fun k hk => ?_⟩
      by_cases e : k = m
      · subst e; rw [q, Nat.testBit_lt_two_pow h1]
      · exact h2 k (by omega)
    | true =>
      refine ⟨2 ^ m + a, by rw [Nat.pow_succ]; omega, fun k hk => ?_⟩
      by_cases e : k = m
      · subst e
        rw [q, Nat.testBit_two_pow_add_eq, Nat.testBit_lt_two_pow h1]
        rfl
      · rw [Nat.testBit_two_pow_add_gt (by omega)]
        exact h2 k (by omega)
theorem sub_filter : ∀ {l s : List Nat}, l.Nodup → s.Sublist l → s = l.filter fun k => decide (k ∈ s)
  | [], s, _, h => by cases h; rfl
  | x :: l, s, hd, h => by
    rw [List.nodup_cons] at hd
    cases h with
    | cons _ h =>
      have hx : x ∉ s := fun z => hd.1 (h.subset z)
      rw [List.filter_cons_of_neg (by simpa using hx)]
      exact sub_filter hd.2 h
    | cons_cons _ h =>
      rename_i s'
      rw [List.filter_cons_of_pos (by simp)]
      have ih := sub_filter hd.2 h
      refine congrArg (x :: ·) (ih.trans (List.filter_congr fun k hk => ?_))
      have hkx : k ≠ x := fun z => hd.1 (z ▸ hk)
      simp [hkx]
theorem bits_has {m : Nat} {s : List Nat} (h : s.Sublist (List.range m)) : ∃ mask, mask < 2 ^ m ∧ bits mask m = s := by
  obtain ⟨a, h1, h2⟩ := mask_of (fun k => decide (k ∈ s)) m
  refine ⟨a, h1, ?_⟩
  rw [sub_filter List.nodup_range h]
  unfold bits
  exact List.filter_congr fun k hk => h2 k (List.mem_range.mp hk)
/-- rising -/
abbrev Ris (r : List Nat) : Prop := r.Pairwise (· < ·)
theorem bits_ris (mask m : Nat) : Ris (bits mask m) := List.pairwise_lt_range.sublist (bits_sub mask m)
theorem sub_ris {m : Nat} {s : List Nat} (h : s.Sublist (List.range m)) : Ris s := List.pairwise_lt_range.sublist h
theorem sub_lt {m : Nat} {s : List Nat} (h : s.Sublist (List.range m)) {k : Nat} (hk : k ∈ s) : k < m := List.mem_range.mp (h.subset hk)
def picks (m : Nat) : List (List Nat) := (List.range (2 ^ m)).map fun a => bits a m
theorem picks_mem {m : Nat} {s : List Nat} : s ∈ picks m ↔ s.Sublist (List.range m) := by
  unfold picks
  rw [List.mem_map]
  constructor
  · rintro ⟨a, _, rfl⟩
    exact bits_sub a m
  · intro h
    obtain ⟨a, h1, h2⟩ := bits_has h
    exact ⟨a, List.mem_range.mpr h1, h2⟩
theorem picks_nd (m : Nat) : (picks m).Nodup := by
  unfold picks
  refine nodup_map (fun a ha b hb h => bits_inj (List.mem_range.mp ha) (List.mem_range.mp hb) h) List.nodup_range
theorem picks_len (m : Nat) : (picks m).length = 2 ^ m := by unfold picks; simp

/-! ### their order -/
def lexN (a b : List Nat) : Bool := lexI (a.map fun i : Nat => (i : Int)) (b.map fun i : Nat => (i : Int))
theorem map_cast_inj {a b : List Nat} (h : a.map (fun i : Nat => (i : Int)) = b.map fun i : Nat => (i : Int)) : a = b := by
  have := congrArg (List.map PyData.int) h
  rw [← rI_Z, ← rI_Z] at this
  exact rI_inj this
theorem lexN_sto : Sto lexN := ⟨fun a => lex_sto.irr _, fun a b c => lex_sto.tr _ _ _, fun a b h1 h2 => map_cast_inj (lex_sto.tot _ _ h1 h2)⟩
theorem tupR_tI (r : List Nat) : tupR r = tI (r.map fun i : Nat => (i : Int)) := by unfold tupR tI; rw [rI_Z]
theorem lt_tupR (a b : List Nat) : dataLt (tupR a) (tupR b) = lexN a b := by rw [tupR_tI, tupR_tI, lt_tI]; rfl
theorem eqv_tupR (a b : List Nat) : PyData.eqv (tupR a) (tupR b) = decide (a = b) := by unfold tupR; rw [PyData.eqv, eqv_rI]
def szN (a b : List Nat) : Bool := if a.length = b.length then lexN a b else decide (a.length < b.length)
theorem szN_sto : Sto szN := by
  refine ⟨fun a => ?_, fun a b c h1 h2 => ?_, fun a b h1 h2 => ?_⟩
  · unfold szN; rw [if_pos rfl]; exact lexN_sto.irr a
  · unfold szN at *
    split at h1
    · rename_i e1
      split at h2
      · rename_i e2
        rw [if_pos (e1.trans e2)]
        exact lexN_sto.tr _ _ _ h1 h2
      · rename_i e2
        rw [if_neg (by omega)]
        simp only [decide_eq_true_eq] at *
        omega
    · rename_i e1
      simp only [decide_eq_true_eq] at h1
      split at h2
      · rename_i e2
        rw [if_neg (by omega)]
        simp only [decide_eq_true_eq]
        omega
      · simp only [decide_eq_true_eq] at h2
        rw [if_neg (by omega)]
        simp only [decide_eq_true_eq]
        omega
  · unfold szN at *
    by_cases e : a.length = b.length
    · rw [if_pos e] at h1
      rw [if_pos e.symm] at h2
      exact lexN_sto.tot _ _ h1 h2
    · rw [if_neg e] at h1
      rw [if_neg (fun z => e z.symm)] at h2
      simp only [decide_eq_false_iff_not] at h1 h2
      omega
theorem isTI_tupR (r : List Nat) : isTI (tupR r) = true := by
  show (rI r).all dInt = true
  rw [List.all_eq_true]
  intro d hd
  unfold rI at hd
  obtain ⟨i, _, rfl⟩ := List.mem_map.mp hd
  rfl
theorem key_tupR (r : List Nat) : szKey (tupR r) = .tuple [.int (r.length : Int), tupR r] := by
  show PyData.tuple [.int (rI r).length, .tuple (rI r)] = _
  rw [rI_len]
  rfl
theorem lt_key (a b : List Nat) : dataLt (.tuple [.int (a.length : Int), tupR a]) (.tuple [.int (b.length : Int), tupR b]) = szN a b := by
  have hal : alike (tupR a) (tupR b) = true := by rw [tupR_tI, tupR_tI]; exact alike_tI _ _
  rw [dataLt_tuple]
  unfold szN
  by_cases e : a.length = b.length
  · rw [if_pos e, dataLt_all_yes (by simp [alike]) (by rw [eqv_int, e]; simp)]
    by_cases q : a = b
    · subst q
      rw [dataLt_all_yes hal (by rw [eqv_tupR]; simp), lexN_sto.irr]
      rfl
    · rw [dataLt_all_no hal (by rw [eqv_tupR]; simp [q]), lt_tupR]
  · have e' : ¬ (a.length : Int) = (b.length : Int) := by omega
    rw [if_neg e, dataLt_all_no (by simp [alike]) (by rw [eqv_int]; simp [e'])]
    rw [dataLt_int]
    have : ((a.length : Int) < (b.length : Int)) ↔ a.length < b.length := by omega
    simp only [this]
theorem szLt_tupR (a b : List Nat) : szLt (tupR a) (tupR b) = szN a b := by unfold szLt; rw [key_tupR, key_tupR, lt_key]
theorem sort_tupR (l : List (List Nat)) : sortD szLt (l.map tupR) = (sortL szN l).map tupR := sortL_map szLt_tupR l
theorem sh_keyR (r : List Nat) : sh 30 (.tuple [.int (r.length : Int), tupR r]) = true := by
  refine sh_tpl ?_
  simp only [List.all_cons, sh_int, sh_tupR, List.all_nil, Bool.and_self]
theorem cmp_key (a b : List Nat) : cmpD .LtE (.tuple [.int (a.length : Int), tupR a]) (.tuple [.int (b.length : Int), tupR b]) = some (!szN b a) := by
  have hal : alike (.tuple [.int (b.length : Int), tupR b]) (.tuple [.int (a.length : Int), tupR a]) = true := by
    have h1 : alike (tupR b) (tupR a) = true := by rw [tupR_tI, tupR_tI]; exact alike_tI _ _
    simp [alike, alikeAll, h1]
  show (if alike (.tuple [.int (b.length : Int), tupR b]) (.tuple [.int (a.length : Int), tupR a]) = true ∧ isNone (.tuple [.int (b.length : Int), tupR b]) = false ∧ sh 30 (.tuple [.int (b.length : Int), tupR b]) = true ∧ sh 30 (.tuple [.int (a.length : Int), tupR a]) = true then some (dataLt (.tuple [.int (b.length : Int), tupR b]) (.tuple [.int (a.length : Int), tupR a])) else none).map (!·) = _
  rw [if_pos ⟨hal, rfl, sh_keyR b, sh_keyR a⟩, lt_key]
  rfl
/-- all picks, sorted -/
def allP (m : Nat) : List (List Nat) := sortL szN (picks m)
theorem allP_perm (m : Nat) : (allP m).Perm (picks m) := sortL_perm _ _
theorem allP_mem {m : Nat} {s : List Nat} : s ∈ allP m ↔ s.Sublist (List.range m) := by rw [(allP_perm m).mem_iff, picks_mem]
theorem allP_len (m : Nat) : (allP m).length = 2 ^ m := by rw [(allP_perm m).length_eq, picks_len]
theorem allP_nd (m : Nat) : (allP m).Nodup := (allP_perm m).nodup_iff.mpr (picks_nd m)
theorem strict {α : Type} {lt : α → α → Bool} (o : Sto lt) : ∀ {l : List α}, Srt lt l → l.Nodup → l.Pairwise fun a b => lt a b = true
  | [], _, _ => List.Pairwise.nil
  | x :: l, h1, h2 => by
    obtain ⟨a1, a2⟩ := List.pairwise_cons.mp h1
    rw [List.nodup_cons] at h2
    refine List.pairwise_cons.mpr ⟨fun y hy => ?_, strict o a2 h2.2⟩
    cases q : lt x y with
    | true => rfl
    | false => exact absurd (o.tot x y q (a1 y hy)) fun z => h2.1 (z ▸ hy)
theorem allP_strict (m : Nat) : (allP m).Pairwise fun a b => szN a b = true := strict szN_sto (sortL_srt szN_sto _) (allP_nd m)

/-! ### bits, reckoned -/
theorem o_shl (k : Nat) (h : k ≤ 1000) : binD .LShift (.int 1) (.int (k : Int)) = some (.v (.int ((2 ^ k : Nat) : Int))) := by
  show (binI .LShift 1 (k : Int)).map _ = _
  unfold binI
  have : (0 : Int) ≤ (k : Int) ∧ (k : Int) ≤ 1000 ∧ (1 : Int).natAbs < 2 ^ 64 := ⟨by omega, by omega, by decide⟩
  simp only [this, if_true, and_self, Int.toNat_natCast, Int.one_mul]
  show some (PR.v (.int ((2 : Int) ^ k))) = _
  rw [show ((2 ^ k : Nat) : Int) = (2 : Int) ^ k by rw [Int.natCast_pow]; rfl]
theorem o_shrN (a k : Nat) : binD .RShift (.int (a : Int)) (.int (k : Int)) = some (.v (.int ((a / 2 ^ k : Nat) : Int))) := by
  rw [o_shr _ _ (by omega), Int.toNat_natCast, Int.natCast_ediv, Int.natCast_pow]
  rfl
theorem o_and1 (a : Nat) : binD .BitAnd (.int (a : Int)) (.int 1) = some (.v (.int ((a % 2 : Nat) : Int))) := by
  rw [o_and]
  have : Builtin.bitAnd (a : Int) 1 = ((a % 2 : Nat) : Int) := by
    unfold Builtin.bitAnd
    have h1 : decide ((0 : Int) ≤ (a : Int)) = true := by simp
    have h2 : decide ((0 : Int) ≤ 1) = true := rfl
    rw [h1, h2]
    show (((a : Int).toNat &&& (1 : Int).toNat : Nat) : Int) = _
    rw [Int.toNat_natCast, show (1 : Int).toNat = 1 from rfl, Nat.and_one_is_mod]
  rw [this]
theorem bit_dec (a k : Nat) : decide (((a / 2 ^ k % 2 : Nat) : Int) = 1) = a.testBit k := by
  rw [Nat.testBit_eq_decide_div_mod_eq]
  have : (((a / 2 ^ k % 2 : Nat) : Int) = 1) ↔ a / 2 ^ k % 2 = 1 := by omega
  simp only [this]

/-! ### webs of the laws of points 2 to 7 -/
def num (c : Int) : Int := ((c % 2147483647) * (c % 2147483647) + 48271 * (c % 2147483647) + 5) % 2147483629
def tieOf (p c : Int) : Int × Int := if num c / 1792 % 4 = 0 then (num c / 7 % p, num c / 7 % p) else (num c / 7 % p, num c / 112 % p)
theorem tieOf_ok {p : Int} (hp : 1 ≤ p) (c : Int) : okT p (tieOf p c) := by
  have h := fun x : Int => And.intro (Int.emod_nonneg x (show p ≠ 0 by omega)) (Int.emod_lt_of_pos x (show 0 < p by omega))
  unfold tieOf okT
  split <;> simp only <;> exact ⟨h _, h _⟩
def ptsOf : List Int → Int
  | [] => 1
  | c :: _ => if c / 9 % 2 = 1 then 1 + c / 18 % 4 else 1 + c % 9
def tiesOf (m : Nat) : List Int → List (Int × Int)
  | [] => []
  | c :: cs => (cs.take m).map (tieOf (ptsOf (c :: cs)))
theorem pts_ok (cs : List Int) : 1 ≤ ptsOf cs ∧ ptsOf cs ≤ 9 := by
  cases cs with
  | nil => decide
  | cons c cs =>
    unfold ptsOf
    split <;> omega
theorem ties_ok (m : Nat) (cs : List Int) : ∀ p ∈ tiesOf m cs, okT (ptsOf cs) p := by
  cases cs with
  | nil => exact fun p hp => nomatch hp
  | cons c cs =>
    intro p hp
    obtain ⟨x, _, rfl⟩ := List.mem_map.mp hp
    exact tieOf_ok (pts_ok _).1 x
theorem ties_len (m : Nat) (cs : List Int) : (tiesOf m cs).length ≤ m := by
  cases cs with
  | nil => exact Nat.zero_le _
  | cons c cs => unfold tiesOf; rw [List.length_map, List.length_take]; omega
theorem web_srt {n : Int} {ts : List (Int × Int)} (hn : 1 ≤ n ∧ n ≤ 9) (h : ∀ p ∈ ts, okT n p) (hl : ts.length ≤ 8) : Web n (ts.map VL.srt) := by
  refine ⟨hn.1, hn.2, fun p hp => ?_, fun p hp => ?_, by rw [List.length_map]; exact hl⟩
  · obtain ⟨q, hq, rfl⟩ := List.mem_map.mp hp
    exact srt_ok (h q hq)
  · obtain ⟨q, hq, rfl⟩ := List.mem_map.mp hp
    exact srt_le q
end VL
/-! the value layer, 31: trees; what a loop finds first -/
namespace VL
open PySem PySem.W L2

/-! ### ranks of a web's picks -/
/-- numbers of its ties -/
def inT (m : Nat) (p : List Nat) : Prop := ∀ k ∈ p, k < m
theorem web_okP {n : Nat} {ts : List (Int × Int)} (w : Web n ts) {p : List Nat} (h : inT ts.length p) : okP n ts p := fun k hk => by
  have hk' := h k hk
  have ho := w.ok ts[k] (List.getElem_mem hk')
  unfold tN
  rw [List.getElem?_eq_getElem hk']
  unfold okT at ho
  simp only [Option.getD_some]
  omega
theorem sub_in {m : Nat} {p : List Nat} (h : p.Sublist (List.range m)) : inT m p := fun k hk => sub_lt h hk
theorem tN_at {ts : List (Int × Int)} {k : Nat} (h : k < ts.length) : tN ts k = (ts[k].1.toNat, ts[k].2.toNat) := by
  unfold tN
  rw [List.getElem?_eq_getElem h]
  rfl
theorem idx_tie {ts : List (Int × Int)} {k : Nat} (h : k < ts.length) : idxD (.tuple (ts.map prT)) (.int (k : Int)) = some (.tuple [.int ts[k].1, .int ts[k].2]) :=
  idx_pr ts k ts[k] (List.getElem?_eq_getElem h)
theorem idx_mark {l : List Nat} {x : Int} (h0 : 0 ≤ x) (h : x < l.length) : idxD (.list (rI l)) (.int x) = some (.int (at' l x.toNat : Int)) := idx_gtl h0 h
theorem dedup_dd (l : List Nat) : dedupI (l.map fun i : Nat => (i : Int)) = (dd l).map fun i : Nat => (i : Int) := by
  induction l using snoc_ind with
  | h0 => rfl
  | h1 l x ih =>
    unfold dedupI at ih ⊢
    rw [List.map_append, List.foldl_append, ih, dd_snoc]
    show PyProof.Rows.step_dedup ((dd l).map fun i : Nat => (i : Int)) (x : Int) = _
    unfold PyProof.Rows.step_dedup
    have e : (((dd l).map fun i : Nat => (i : Int)).any (· == (x : Int)) = true) ↔ x ∈ dd l := by
      rw [List.any_eq_true]
      constructor
      · rintro ⟨y, hy, q⟩
        obtain ⟨z, hz, rfl⟩ := List.mem_map.mp hy
        have : (z : Int) = (x : Int) := by simpa using q
        have : z = x := by omega
        exact this ▸ hz
      · intro h
        exact ⟨(x : Int), List.mem_map_of_mem h, by simp⟩
    by_cases h : x ∈ dd l
    · rw [if_pos (e.mpr h), if_pos h]
    · rw [if_neg (fun z => h (e.mp z)), if_neg h, List.map_append]; rfl
theorem p_lenset (l : List Nat) (h : l.length < 60) : priD .lenset [.list (rI l)] = some (.v (.int ((dd l).length : Int))) := by
  show (do let ns ← allOpt toInt (rI l); if ns.length < 60 then some (PR.v (.int ((dedupI ns).length : Int))) else none) = _
  rw [rI_Z, allOpt_ints]
  show (if (l.map fun i : Nat => (i : Int)).length < 60 then some (PR.v (.int ((dedupI (l.map fun i : Nat => (i : Int))).length : Int))) else none) = _
  rw [if_pos (by rw [List.length_map]; exact h), dedup_dd, List.length_map]

/-! ### sorted numbers -/
def ltN (a b : Nat) : Bool := decide (a < b)
theorem sortN_Z (l : List Nat) : (sortL ltZ (l.map fun i : Nat => (i : Int))).map PyData.int = rI (sortL ltN l) := by
  have h : ∀ (l acc : List Nat), (l.map fun i : Nat => (i : Int)).foldl (fun acc x => insL ltZ x acc) (acc.map fun i : Nat => (i : Int)) = (l.foldl (fun acc x => insL ltN x acc) acc).map fun i : Nat => (i : Int) := by
    have hi : ∀ (x : Nat) (acc : List Nat), insL ltZ (x : Int) (acc.map fun i : Nat => (i : Int)) = (insL ltN x acc).map fun i : Nat => (i : Int) := fun x acc => by
      induction acc with
      | nil => rfl
      | cons y ys ih =>
        rw [List.map_cons, insL, insL]
        have : ltZ (x : Int) (y : Int) = ltN x y := by unfold ltZ ltN; simp
        rw [this]
        split
        · rfl
        · rw [ih]; rfl
    intro l
    induction l with
    | nil => intro acc; rfl
    | cons x l ih => intro acc; rw [List.map_cons, List.foldl_cons, List.foldl_cons, hi, ih]
  have := h l []
  rw [rI_Z]
  unfold sortL
  rw [← this]
  rfl
theorem p_sortedN (l : List Nat) : priD .sorted [.list (rI l)] = some (.l (rI (sortL ltN l))) := by
  rw [rI_Z l, p_sortedZ, sortN_Z]
theorem in_rIt (x : Nat) (l : List Nat) : cmpD .In (.int (x : Int)) (.tuple (rI l)) = some (decide (x ∈ l)) := by
  show (if sh 30 (.int (x : Int)) = true ∧ (rI l).all (sh 30) = true then some ((rI l).any fun z => PyData.eqv z (.int (x : Int))) else none) = _
  rw [if_pos ⟨sh_int _ _, sh_rI 30 l⟩]
  congr 1
  induction l with
  | nil => rfl
  | cons y l ih =>
    rw [rI_cons, List.any_cons, ih, eqv_int]
    by_cases h : y = x
    · subst h; simp
    · have : ¬ ((y : Int) = (x : Int)) := by omega
      simp [this, Ne.symm h]
theorem in_rIl (x : Nat) (l : List Nat) : cmpD .In (.int (x : Int)) (.list (rI l)) = some (decide (x ∈ l)) := in_rIt x l
theorem nin_rIt (x : Nat) (l : List Nat) : cmpD .NotIn (.int (x : Int)) (.tuple (rI l)) = some (!decide (x ∈ l)) := by
  show (inD (.int (x : Int)) (.tuple (rI l))).map (!·) = _
  have := in_rIt x l
  have e : inD (.int (x : Int)) (.tuple (rI l)) = some (decide (x ∈ l)) := this
  rw [e]; rfl
theorem nin_rIl (x : Nat) (l : List Nat) : cmpD .NotIn (.int (x : Int)) (.list (rI l)) = some (!decide (x ∈ l)) := nin_rIt x l
theorem ixc {x y : Nat} {l : List Nat} (h : y ≠ x) : (y :: l).idxOf x = l.idxOf x + 1 := by
  rw [List.idxOf_cons]
  have : (y == x) = false := by simpa using h
  rw [this]
  rfl
theorem ix_rI (x : Nat) : ∀ l : List Nat, x ∈ l → firstIx (.int (x : Int)) (rI l) = some (l.idxOf x)
  | [], h => nomatch h
  | y :: l, h => by
    rw [rI_cons, firstIx, eqv_int]
    by_cases e : y = x
    · subst e
      rw [if_pos (by simp)]
      simp
    · have : ¬ ((y : Int) = (x : Int)) := by omega
      rw [if_neg (by simp [this])]
      rcases List.mem_cons.mp h with h | h
      · exact absurd h.symm e
      · rw [ix_rI x l h, Option.map_some, ixc e]
theorem m_index {x : Nat} {l : List Nat} (h : x ∈ l) : mthD .index (.list (rI l)) [.int (x : Int)] = some (.v (.int (l.idxOf x : Int))) := by
  show (if sh 30 (.int (x : Int)) = true ∧ (rI l).all (sh 30) = true then (firstIx (.int (x : Int)) (rI l)).map fun i : Nat => PR.v (.int (i : Int)) else none) = _
  rw [if_pos ⟨sh_int _ _, sh_rI 30 l⟩, ix_rI x l h]
  rfl
theorem take_rIl (l : List Nat) (j : Nat) : slcD (.list (rI l)) none (some (j : Int)) = some (.l (rI (l.take j))) := by
  rw [s_l, cutL_to]
  unfold rI
  rw [List.map_take]
theorem drop_rIl (l : List Nat) (j : Nat) : slcD (.list (rI l)) (some (j : Int)) none = some (.l (rI (l.drop j))) := by
  rw [s_l, cutL_from]
  unfold rI
  rw [List.map_drop]
theorem cat_rI (l r : List Nat) (h : l.length + r.length ≤ 1000000) : binD .Add (.list (rI l)) (.list (rI r)) = some (.l (rI (l ++ r))) := by
  rw [o_catl _ _ (by rw [rI_len, rI_len, LIM_eq]; omega), rI_app]
theorem app_rI {l : List Nat} {x : Nat} (h : l.length < 1000000) : mutR .append (rI l) [.fz (.int (x : Int))] = some (rI (l ++ [x])) := by
  show (if (rI l).length < LIM then some (rI l ++ [.int (x : Int)]) else none) = _
  rw [if_pos (by rw [rI_len, LIM_eq]; omega), rI_app]
  rfl
theorem p_tupleR (l : List Nat) : priD .tuple [.list (rI l)] = some (.v (tupR l)) := rfl
theorem p_listR (l : List Nat) : priD .list [tupR l] = some (.l (rI l)) := rfl
theorem p_lenR (l : List Nat) : priD .len [tupR l] = some (.v (.int (l.length : Int))) := by
  show some (PR.v (.int (rI l).length)) = _
  rw [rI_len]
theorem p_lenrI (l : List Nat) : priD .len [.list (rI l)] = some (.v (.int (l.length : Int))) := by rw [p_lenl, rI_len]
theorem eq_tupR (a b : List Nat) : cmpD .Eq (tupR a) (tupR b) = some (decide (a = b)) := eq_rIt a b
theorem ne_tupR (a b : List Nat) : cmpD .NotEq (tupR a) (tupR b) = some (!decide (a = b)) := ne_rIt a b
theorem nl_tupR (l : List Nat) : nl 30 (tupR l) = true := nl_rI 29 l

/-! ### what a loop finds first -/
theorem for_find {α : Type} {tk : D → SEnv → Option SEnv} {B : SEnv → Out} {kl : SEnv → SEnv} {st : SEnv} (f : α → D) (e1 hit : α → SEnv) (P : α → Bool) : ∀ {l : List α} {env : SEnv}, kl env = st →
    (∀ x ∈ l, tk (f x) st = some (e1 x) ∧ (P x = true → B (e1 x) = .bk (hit x)) ∧ (P x = false → ∃ e2, B (e1 x) = .nx e2 ∧ kl e2 = st)) →
    forLoop tk B kl (l.map f) env = .nx (match l.find? P with | some x => kl (hit x) | none => st)
  | [], env, h0, _ => by rw [List.map_nil, for_nil, h0]; rfl
  | x :: l, env, h0, h => by
    obtain ⟨h1, h2, h3⟩ := h x List.mem_cons_self
    rw [List.map_cons]
    cases q : P x with
    | true =>
      rw [for_bk (by rw [h0]; exact h1) (h2 q), List.find?_cons_of_pos q]
    | false =>
      obtain ⟨e2, h4, h5⟩ := h3 q
      rw [for_nx (by rw [h0]; exact h1) h4, for_find f e1 hit P h5 fun y hy => h y (List.mem_cons_of_mem _ hy), List.find?_cons_of_neg (by rw [q]; decide)]
theorem find_all {P : Nat → Bool} {g : Nat} (hP : P g = true) : ∀ {row : List Nat}, g ∈ row → (row.find? P = some g ↔ (row.take (row.idxOf g)).all (fun x => !P x) = true)
  | [], h => nomatch h
  | x :: row, h => by
    by_cases e : x = g
    · subst e
      rw [List.find?_cons_of_pos hP]
      simp
    · have hg : g ∈ row := by
        rcases List.mem_cons.mp h with h | h
        · exact absurd h.symm e
        · exact h
      rw [ixc e, List.take_succ_cons, List.all_cons]
      cases q : P x with
      | true => rw [List.find?_cons_of_pos q]; simp [e]
      | false => rw [List.find?_cons_of_neg (by rw [q]; decide), find_all hP hg]; simp
theorem take_ne {row : List Nat} {g x : Nat} : x ∈ row.take (row.idxOf g) → x ≠ g := by
  induction row with
  | nil => intro h; simp at h
  | cons y row ih =>
    intro h
    by_cases e : y = g
    · subst e; simp at h
    · rw [ixc e, List.take_succ_cons] at h
      rcases List.mem_cons.mp h with h | h
      · rw [h]; exact e
      · exact ih h
theorem fold_filter {α : Type} (p : α → Bool) : ∀ (l acc : List α), l.foldl (fun acc x => if p x = true then acc ++ [x] else acc) acc = acc ++ l.filter p
  | [], acc => by simp
  | x :: l, acc => by
    rw [List.foldl_cons, fold_filter p l, List.filter_cons]
    split <;> simp

/-! ### trees -/
def isTr (n : Nat) (ts : List (Int × Int)) (w : Nat) (r : List Nat) : Bool := decide (r.length = w) && decide (rk n ts r = w)
def whole (n : Nat) (ts : List (Int × Int)) : Nat := rk n ts (List.range ts.length)
def trees (n : Nat) (ts : List (Int × Int)) : List (List Nat) := sortL lexN ((picks ts.length).filter (isTr n ts (whole n ts)))
theorem trees_mem {n : Nat} {ts : List (Int × Int)} {r : List Nat} : r ∈ trees n ts ↔ r.Sublist (List.range ts.length) ∧ r.length = whole n ts ∧ rk n ts r = whole n ts := by
  unfold trees
  rw [(sortL_perm lexN _).mem_iff, List.mem_filter, picks_mem]
  unfold isTr
  simp
theorem trees_some (n : Nat) (ts : List (Int × Int)) : trees n ts ≠ [] := by
  obtain ⟨a, b, c⟩ := greedy_ok n ts (List.range ts.length).reverse
  rw [List.reverse_reverse] at a b c
  have hm : greedy n ts (List.range ts.length).reverse ∈ trees n ts := by
    rw [trees_mem]
    refine ⟨c, b, ?_⟩
    unfold rk at b ⊢
    rw [a]
    rfl
  intro z
  rw [z] at hm
  cases hm
theorem trees_nd (n : Nat) (ts : List (Int × Int)) : (trees n ts).Nodup := (sortL_perm lexN _).nodup_iff.mpr ((picks_nd _).filter _)
theorem trees_all (n : Nat) (ts : List (Int × Int)) : (allP ts.length).filter (isTr n ts (whole n ts)) = trees n ts := by
  refine srt_unique lexN_sto ?_ (sortL_srt lexN_sto _) (((allP_perm _).filter _).trans (sortL_perm lexN _).symm)
  have h : Srt szN ((allP ts.length).filter (isTr n ts (whole n ts))) := (sortL_srt szN_sto _).filter _
  refine List.Pairwise.imp_of_mem (fun {a b} ha hb q => ?_) h
  have la := (List.mem_filter.mp ha).2
  have lb := (List.mem_filter.mp hb).2
  unfold isTr at la lb
  simp only [Bool.and_eq_true, decide_eq_true_eq] at la lb
  unfold szN at q
  rw [if_pos (by rw [la.1, lb.1])] at q
  exact q
theorem alike_tupR (l : List (List Nat)) : alikeAllP (l.map tupR) = true := by
  unfold alikeAllP
  rw [List.all_eq_true]
  intro d hd
  obtain ⟨x, hx, rfl⟩ := List.mem_map.mp hd
  have : ((l.map tupR).all fun y => alike (tupR x) y) = true := by
    rw [List.all_eq_true]
    intro e he
    obtain ⟨y, _, rfl⟩ := List.mem_map.mp he
    rw [tupR_tI, tupR_tI]
    exact alike_tI _ _
  rw [this, sh_tupR]
  rfl
theorem p_sortedR {l : List (List Nat)} (h : (∀ r ∈ l, r ≠ []) ∨ l = [[]]) : priD .sorted [.list (l.map tupR)] = some (.l ((sortL lexN l).map tupR)) := by
  have so : srtOk (l.map tupR) = true := by
    unfold srtOk
    rw [Bool.and_eq_true]
    refine ⟨alike_tupR l, ?_⟩
    rcases h with h | h
    · rw [Bool.or_eq_true, Bool.or_eq_true]
      refine .inl (.inl ?_)
      rw [List.all_eq_true]
      intro d hd
      obtain ⟨r, hr, rfl⟩ := List.mem_map.mp hd
      cases r with
      | nil => exact absurd rfl (h [] hr)
      | cons x r => rfl
    · subst h; rfl
  show (if srtOk (l.map tupR) = true then some (PR.l (sortD dataLt (l.map tupR))) else none) = _
  rw [if_pos so, sortL_map lt_tupR]
/-- picks of one size -/
theorem one_size {m w : Nat} {l : List (List Nat)} (hnd : l.Nodup) (h : ∀ r ∈ l, r.length = w) (hne : l ≠ []) : (∀ r ∈ l, r ≠ []) ∨ l = [[]] := by
  by_cases hw : w = 0
  · refine .inr ?_
    cases l with
    | nil => exact absurd rfl hne
    | cons x l =>
      have hx : x = [] := List.length_eq_zero_iff.mp (by rw [h x List.mem_cons_self, hw])
      cases l with
      | nil => rw [hx]
      | cons y l =>
        have hy : y = [] := List.length_eq_zero_iff.mp (by rw [h y (by simp), hw])
        rw [hx, hy] at hnd
        simp at hnd
  · refine .inl fun r hr z => hw ?_
    rw [← h r hr, z]
    rfl
end VL
/-! the value layer, 32: inner and outer ties -/
namespace VL
open PySem PySem.W L2

theorem for_ivc {tk : D → SEnv → Option SEnv} {B : SEnv → Out} {kl : SEnv → SEnv} (P : Nat → SEnv → Prop) : ∀ {l : List D} {env : SEnv} (j : Nat), P j (kl env) →
    (∀ i d E, l[i]? = some d → P (j + i) E → ∃ e1 e2, tk d E = some e1 ∧ (B e1 = .nx e2 ∨ B e1 = .ct e2) ∧ P (j + i + 1) (kl e2)) → ∃ E, forLoop tk B kl l env = .nx E ∧ P (j + l.length) E
  | [], env, j, h0, _ => ⟨kl env, for_nil, h0⟩
  | d :: l, env, j, h0, hs => by
    obtain ⟨e1, e2, h1, h2, h3⟩ := hs 0 d (kl env) rfl h0
    obtain ⟨E, q1, q2⟩ := for_ivc (tk := tk) (B := B) (kl := kl) P (l := l) (env := e2) (j + 1) h3 fun i d E hd hp => by
      have := hs (i + 1) d E (by simpa using hd)
      rw [show j + 1 + i = j + (i + 1) by omega] at hp ⊢
      exact this hp
    refine ⟨E, ?_, ?_⟩
    · rcases h2 with h2 | h2
      · rw [for_nx h1 h2]; exact q1
      · rw [for_ct h1 h2]; exact q1
    · rw [List.length_cons, show j + (l.length + 1) = j + 1 + l.length by omega]
      exact q2
/-- the tree's other ties with one put in -/
def chg (tree : List Nat) (gone come : Nat) : List Nat := tree.filter (fun k => decide (k ≠ gone)) ++ [come]
def mkS (n : Nat) (ts : List (Int × Int)) (tree : List Nat) (gone come : Nat) : Bool := decide (rk n ts (chg tree gone come) = tree.length)
def tp (n : Nat) (ts : List (Int × Int)) (tree : List Nat) (gone come : Nat) : Bool := if come = gone then true else if come ∈ tree then false else mkS n ts tree gone come
theorem chg_in {m : Nat} {tree : List Nat} (h : inT m tree) {gone come : Nat} (hc : come < m) : inT m (chg tree gone come) := fun k hk => by
  unfold chg at hk
  rcases List.mem_append.mp hk with hk | hk
  · exact h k (List.mem_filter.mp hk).1
  · rw [List.mem_singleton.mp hk]; exact hc
theorem chg_len {tree : List Nat} {gone come : Nat} : (chg tree gone come).length ≤ tree.length + 1 := by
  unfold chg
  rw [List.length_append, List.length_singleton]
  have := List.length_filter_le (fun k => decide (k ≠ gone)) tree
  omega
def inner (n : Nat) (ts : List (Int × Int)) (tree row : List Nat) : List Nat := tree.filter fun g => (row.take (row.idxOf g)).all fun c => !tp n ts tree g c
def innerL (n : Nat) (ts : List (Int × Int)) (tree row : List Nat) : List Nat := tree.filter fun g => !((row.take (row.idxOf g)).filter fun c => !decide (c ∈ tree)).any fun c => mkS n ts tree g c
theorem inner_eq (n : Nat) (ts : List (Int × Int)) (tree row : List Nat) : inner n ts tree row = innerL n ts tree row := by
  unfold inner innerL
  refine List.filter_congr fun g hg => ?_
  have h : ∀ c ∈ row.take (row.idxOf g), tp n ts tree g c = (!decide (c ∈ tree) && mkS n ts tree g c) := fun c hc => by
    unfold tp
    rw [if_neg (take_ne hc)]
    by_cases q : c ∈ tree <;> simp [q]
  generalize row.take (row.idxOf g) = l at *
  induction l with
  | nil => rfl
  | cons c l ih =>
    rw [List.all_cons, List.filter_cons, ih fun x hx => h x (List.mem_cons_of_mem _ hx), h c List.mem_cons_self]
    by_cases q : c ∈ tree <;> simp [q]
def ouP (n : Nat) (ts : List (Int × Int)) (tree : List Nat) (c g : Nat) : Bool := decide (g = c) || (decide (g ∈ tree) && tp n ts tree g c)
def outer (n : Nat) (ts : List (Int × Int)) (tree row : List Nat) : List Nat := (List.range ts.length).filter fun c => !decide (c ∈ tree) && (row.take (row.idxOf c)).all fun g => !ouP n ts tree c g
def outerL (n : Nat) (ts : List (Int × Int)) (tree row : List Nat) : List Nat := (List.range ts.length).filter fun c => !decide (c ∈ tree) && !((row.take (row.idxOf c)).filter fun g => decide (g ∈ tree)).any fun g => mkS n ts tree g c
theorem outer_eq (n : Nat) (ts : List (Int × Int)) (tree row : List Nat) : outer n ts tree row = outerL n ts tree row := by
  unfold outer outerL
  refine List.filter_congr fun c hc => ?_
  by_cases q : c ∈ tree
  · simp [q]
  · have h : ∀ g ∈ row.take (row.idxOf c), ouP n ts tree c g = (decide (g ∈ tree) && mkS n ts tree g c) := fun g hg => by
      have hne := take_ne hg
      unfold ouP tp
      rw [if_neg (Ne.symm hne), if_neg q]
      simp [hne]
    congr 1
    generalize row.take (row.idxOf c) = l at *
    induction l with
    | nil => rfl
    | cons g l ih =>
      rw [List.all_cons, List.filter_cons, ih fun x hx => h x (List.mem_cons_of_mem _ hx), h g List.mem_cons_self]
      by_cases q' : g ∈ tree <;> simp [q']
theorem filter_snoc {α : Type} (p : α → Bool) (l : List α) (i : Nat) (x : α) (h : l[i]? = some x) : (l.take (i + 1)).filter p = (l.take i).filter p ++ if p x = true then [x] else [] := by
  rw [List.take_add_one, h, List.filter_append]
  congr 1
  show List.filter p [x] = _
  rw [List.filter_cons]
  split <;> rfl
theorem tp_self (n : Nat) (ts : List (Int × Int)) (tree : List Nat) (g : Nat) : tp n ts tree g g = true := by unfold tp; rw [if_pos rfl]
theorem ouP_self (n : Nat) (ts : List (Int × Int)) (tree : List Nat) (c : Nat) : ouP n ts tree c c = true := by unfold ouP; simp
end VL
/-! the value layer, 33: rising picks -/
namespace VL
open PySem PySem.W L2

theorem ltN_sto : Sto ltN := ⟨fun a => by unfold ltN; simp, fun a b c h1 h2 => by unfold ltN at *; simp only [decide_eq_true_eq] at *; omega, fun a b h1 h2 => by unfold ltN at *; simp only [decide_eq_false_iff_not] at *; omega⟩
theorem ris_srt {l : List Nat} (h : Ris l) : Srt ltN l := List.Pairwise.imp (fun {a b} q => by unfold ltN; simp only [decide_eq_false_iff_not]; omega) h
theorem ris_nd {l : List Nat} (h : Ris l) : l.Nodup := List.Pairwise.imp (fun {a b} q => by omega) h
theorem sort_ris {l : List Nat} (h : l.Nodup) : Ris (sortL ltN l) := by
  have := strict ltN_sto (sortL_srt ltN_sto l) ((sortL_perm ltN l).nodup_iff.mpr h)
  exact List.Pairwise.imp (fun {a b} q => by unfold ltN at q; simpa using q) this
theorem ris_sub {m : Nat} {l : List Nat} (h : Ris l) (hm : inT m l) : l.Sublist (List.range m) := by
  have e : l = (List.range m).filter fun k => decide (k ∈ l) := by
    refine srt_unique ltN_sto (ris_srt h) ((ris_srt List.pairwise_lt_range).filter _) ?_
    refine (List.perm_ext_iff_of_nodup (ris_nd h) (List.nodup_range.filter _)).mpr fun k => ?_
    rw [List.mem_filter, List.mem_range]
    constructor
    · intro q; exact ⟨hm k q, by simpa using q⟩
    · intro q; simpa using q.2
  rw [e]
  exact List.filter_sublist
theorem sort_sub {m : Nat} {l : List Nat} (h : l.Nodup) (hm : inT m l) : (sortL ltN l).Sublist (List.range m) :=
  ris_sub (sort_ris h) fun k hk => hm k ((sortL_perm ltN l).mem_iff.mp hk)
theorem in_tupRs (p : List Nat) (L : List (List Nat)) : cmpD .In (tupR p) (.list (L.map tupR)) = some (decide (p ∈ L)) := by
  show (if sh 30 (tupR p) = true ∧ (L.map tupR).all (sh 30) = true then some ((L.map tupR).any fun z => PyData.eqv z (tupR p)) else none) = _
  rw [if_pos ⟨sh_tupR 29 p, all_sh_tupR 29 L⟩]
  congr 1
  induction L with
  | nil => rfl
  | cons x L ih =>
    rw [List.map_cons, List.any_cons, ih, eqv_tupR]
    by_cases h : x = p
    · subst h; simp
    · simp [h, Ne.symm h]
theorem ne_tupRs (L : List (List Nat)) : cmpD .NotEq (.list (L.map tupR)) (.list (L.map tupR)) = some false := ne_of (sh_lst (all_sh_tupR 28 L))
theorem isTr_mem {n : Nat} {ts : List (Int × Int)} {p : List Nat} (h : p.Sublist (List.range ts.length)) : isTr n ts (whole n ts) p = decide (p ∈ trees n ts) := by
  unfold isTr
  by_cases q : p ∈ trees n ts
  · have := trees_mem.mp q
    simp [q, this.2.1, this.2.2]
  · have : ¬ (p.length = whole n ts ∧ rk n ts p = whole n ts) := fun z => q (trees_mem.mpr ⟨h, z.1, z.2⟩)
    rw [decide_eq_false q]
    rw [Bool.and_eq_false_iff]
    by_cases a : p.length = whole n ts
    · exact .inr (decide_eq_false fun b => this ⟨a, b⟩)
    · exact .inl (decide_eq_false a)
theorem at_idx {L : List (List Nat)} {j : Nat} (h : j < L.length) : idxD (.list (L.map tupR)) (.int (j : Int)) = some (tupR L[j]) := by
  rw [i_l, at_nat, List.getElem?_map, List.getElem?_eq_getElem h]; rfl
end VL
/-! the value layer, 34: trees exchanged -/
namespace VL
open PySem PySem.W L2

/-- what hangs together by a pick -/
def Rel (n : Nat) (ts : List (Int × Int)) (p : List Nat) : Rl := Mgs (pairs ts p) (Sm (List.range n))
theorem rel_eqv (n : Nat) (ts : List (Int × Int)) (p : List Nat) : Eqv (Rel n ts p) := (sm_eqv _).mgs
theorem rel_perm {n : Nat} {ts : List (Int × Int)} {p q : List Nat} (h : p.Perm q) : Rel n ts p = Rel n ts q := mgs_perm (sm_eqv _) (h.map _)
theorem rel_mono {n : Nat} {ts : List (Int × Int)} {p q : List Nat} (h : ∀ k ∈ p, k ∈ q) {x y : Nat} (r : Rel n ts p x y) : Rel n ts q x y :=
  mgs_mono (sm_eqv _) (fun z hz => by
    obtain ⟨k, hk, rfl⟩ := List.mem_map.mp hz
    exact List.mem_map_of_mem (h k hk)) r
theorem rel_mem {n : Nat} {ts : List (Int × Int)} {p : List Nat} {k : Nat} (h : k ∈ p) : Rel n ts p (tN ts k).1 (tN ts k).2 :=
  ((mgs_le (rel_eqv n ts p) (sm_eqv _)).mp fun _ _ z => z).2 _ (List.mem_map_of_mem h)
theorem rel_le {n : Nat} {ts : List (Int × Int)} {p q : List Nat} (h : ∀ k ∈ p, Rel n ts q (tN ts k).1 (tN ts k).2) {x y : Nat} (r : Rel n ts p x y) : Rel n ts q x y :=
  (mgs_le (rel_eqv n ts q) (sm_eqv _)).mpr ⟨((mgs_le (rel_eqv n ts q) (sm_eqv _)).mp fun _ _ z => z).1, fun z hz => by
    obtain ⟨k, hk, rfl⟩ := List.mem_map.mp hz
    exact h k hk⟩ x y r
theorem rel_snoc (n : Nat) (ts : List (Int × Int)) (p : List Nat) (k : Nat) : Rel n ts (p ++ [k]) = Mg (tN ts k).1 (tN ts k).2 (Rel n ts p) := by
  unfold Rel pairs
  rw [List.map_append, mgs_app]
  rfl
theorem okP_app {n : Nat} {ts : List (Int × Int)} {p q : List Nat} (h : okP n ts (p ++ q)) : okP n ts p := fun k hk => h k (List.mem_append.mpr (.inl hk))
theorem rk_add {n : Nat} {ts : List (Int × Int)} {p : List Nat} {k : Nat} (h : okP n ts (p ++ [k])) : (Rel n ts p (tN ts k).1 (tN ts k).2 → rk n ts (p ++ [k]) = rk n ts p) ∧ (¬ Rel n ts p (tN ts k).1 (tN ts k).2 → rk n ts (p ++ [k]) = rk n ts p + 1) := by
  obtain ⟨_, b, _, d⟩ := marks_rel (okP_app h)
  have hk := h k (by simp)
  have e : Rel n ts p (tN ts k).1 (tN ts k).2 ↔ at' (marksL n ts p).1 (tN ts k).1 = at' (marksL n ts p).1 (tN ts k).2 := by
    show Mgs (pairs ts p) (Sm (List.range n)) _ _ ↔ _
    rw [← b]
    unfold Sm
    rw [at_some (by rw [d]; exact hk.1), at_some (by rw [d]; exact hk.2)]
    simp
  unfold rk
  rw [rk_snoc]
  unfold mkL
  refine ⟨fun r => ?_, fun r => ?_⟩
  · rw [if_neg (fun z => z (e.mp r))]
  · rw [if_pos (fun z => r (e.mpr z))]
theorem rk_app (n : Nat) (ts : List (Int × Int)) (p q : List Nat) : rk n ts p ≤ rk n ts (p ++ q) := by
  induction q using snoc_ind with
  | h0 => rw [List.append_nil]; exact Nat.le_refl _
  | h1 q k ih =>
    rw [← List.append_assoc]
    rcases rk_step n ts (p ++ q) k with e | e <;> omega
theorem perm_rest : ∀ {p q : List Nat}, p.Nodup → q.Nodup → (∀ k ∈ p, k ∈ q) → q.Perm (p ++ q.filter fun k => !decide (k ∈ p)) := fun {p q} h1 h2 h => by
  refine (List.perm_ext_iff_of_nodup h2 ?_).mpr fun k => ?_
  · rw [List.nodup_append]
    refine ⟨h1, h2.filter _, fun a ha b hb => ?_⟩
    have := (List.mem_filter.mp hb).2
    intro e
    subst e
    simp [ha] at this
  · rw [List.mem_append, List.mem_filter]
    by_cases q' : k ∈ p
    · simp [q', h k q']
    · simp [q']
theorem rk_mono {n : Nat} {ts : List (Int × Int)} {p q : List Nat} (h1 : p.Nodup) (h2 : q.Nodup) (h : ∀ k ∈ p, k ∈ q) (ok : okP n ts q) : rk n ts p ≤ rk n ts q := by
  rw [rk_perm (perm_rest h1 h2 h) ok]
  exact rk_app n ts p _
/-- without one -/
def less (p : List Nat) (k : Nat) : List Nat := p.filter fun j => decide (j ≠ k)
theorem less_mem {p : List Nat} {k j : Nat} : j ∈ less p k ↔ j ∈ p ∧ j ≠ k := by unfold less; rw [List.mem_filter]; simp
theorem less_nd {p : List Nat} (h : p.Nodup) (k : Nat) : (less p k).Nodup := h.filter _
theorem less_perm {p : List Nat} (h : p.Nodup) {k : Nat} (hk : k ∈ p) : p.Perm (less p k ++ [k]) := by
  refine (List.perm_ext_iff_of_nodup h ?_).mpr fun j => ?_
  · rw [List.nodup_append]
    refine ⟨less_nd h k, by simp, fun a ha b hb => ?_⟩
    rw [List.mem_singleton.mp hb]
    exact (less_mem.mp ha).2
  · rw [List.mem_append, less_mem, List.mem_singleton]
    by_cases e : j = k
    · subst e; simp [hk]
    · simp [e]
theorem less_len {p : List Nat} (h : p.Nodup) {k : Nat} (hk : k ∈ p) : (less p k).length + 1 = p.length := by
  have := (less_perm h hk).length_eq
  rw [List.length_append, List.length_singleton] at this
  omega
/-- no ring: each less one has one rank less, and does not join its ends -/
theorem indep {n : Nat} {ts : List (Int × Int)} {p : List Nat} (h : p.Nodup) (ok : okP n ts p) (hi : rk n ts p = p.length) {k : Nat} (hk : k ∈ p) : rk n ts (less p k) = (less p k).length ∧ ¬ Rel n ts (less p k) (tN ts k).1 (tN ts k).2 := by
  have hp := less_perm h hk
  have hl := less_len h hk
  have ok' := okP_perm hp ok
  rw [rk_perm hp ok] at hi
  have hle := rk_le_len n ts (less p k)
  obtain ⟨a, b⟩ := rk_add ok'
  by_cases r : Rel n ts (less p k) (tN ts k).1 (tN ts k).2
  · rw [a r] at hi; omega
  · rw [b r] at hi
    exact ⟨by omega, r⟩
/-- as few as join u and v -/
theorem fewest {n : Nat} {ts : List (Int × Int)} {u v : Nat} : ∀ (m : Nat) {L : List Nat}, L.length ≤ m → L.Nodup → Rel n ts L u v → ∃ S, (∀ k ∈ S, k ∈ L) ∧ S.Nodup ∧ Rel n ts S u v ∧ ∀ k ∈ S, ¬ Rel n ts (less S k) u v
  | 0, L, hm, hd, r => ⟨L, fun k hk => hk, hd, r, fun k hk => by
    have : L = [] := List.length_eq_zero_iff.mp (by omega)
    subst this
    cases hk⟩
  | m + 1, L, hm, hd, r => by
    by_cases q : ∃ k ∈ L, Rel n ts (less L k) u v
    · obtain ⟨k, hk, rk'⟩ := q
      have hl := less_len hd hk
      obtain ⟨S, s1, s2, s3, s4⟩ := fewest m (by omega) (less_nd hd k) rk'
      exact ⟨S, fun j hj => (less_mem.mp (s1 j hj)).1, s2, s3, s4⟩
    · exact ⟨L, fun k hk => hk, hd, r, fun k hk z => q ⟨k, hk, z⟩⟩
section
variable {n : Nat} {ts : List (Int × Int)}
theorem tree_facts (w : Web n ts) {T : List Nat} (hT : T ∈ trees n ts) : T.Nodup ∧ inT ts.length T ∧ okP n ts T ∧ rk n ts T = T.length ∧ T.length = whole n ts := by
  obtain ⟨a, b, c⟩ := trees_mem.mp hT
  exact ⟨a.nodup List.nodup_range, sub_in a, web_okP w (sub_in a), by omega, b⟩
/-- a tree joins what the web does -/
theorem spans (w : Web n ts) {T : List Nat} (hT : T ∈ trees n ts) {k : Nat} (hk : k < ts.length) : Rel n ts T (tN ts k).1 (tN ts k).2 := by
  obtain ⟨a, b, c, d, e⟩ := tree_facts w hT
  by_cases hm : k ∈ T
  · exact rel_mem hm
  · refine Classical.byContradiction fun r => ?_
    have ok : okP n ts (T ++ [k]) := web_okP w fun j hj => by
      rcases List.mem_append.mp hj with hj | hj
      · exact b j hj
      · rw [List.mem_singleton.mp hj]; exact hk
    have h1 := (rk_add ok).2 r
    have hnd : (T ++ [k]).Nodup := by
      rw [List.nodup_append]
      refine ⟨a, by simp, fun x hx y hy => ?_⟩
      rw [List.mem_singleton.mp hy]
      exact fun z => hm (z ▸ hx)
    have h2 := rk_mono hnd (List.nodup_range (n := ts.length)) (fun j hj => by
      rcases List.mem_append.mp hj with hj | hj
      · exact List.mem_range.mpr (b j hj)
      · rw [List.mem_singleton.mp hj]; exact List.mem_range.mpr hk) (web_okP w fun j hj => List.mem_range.mp hj)
    have h3 : rk n ts (List.range ts.length) = whole n ts := rfl
    omega
/-- a tree with one exchanged, sorted -/
def exT (tree : List Nat) (gone come : Nat) : List Nat := sortL ltN (chg tree gone come)
theorem chg_less (tree : List Nat) (gone come : Nat) : chg tree gone come = less tree gone ++ [come] := rfl
theorem ex_tree (w : Web n ts) {T : List Nat} (hT : T ∈ trees n ts) {gone come : Nat} (hg : gone ∈ T) (hc : come < ts.length) (hn : come ∉ T) (r : ¬ Rel n ts (less T gone) (tN ts come).1 (tN ts come).2) : exT T gone come ∈ trees n ts := by
  obtain ⟨a, b, c, d, e⟩ := tree_facts w hT
  have hi := (indep a c d hg).1
  have hl := less_len a hg
  have hnd : (chg T gone come).Nodup := by
    rw [chg_less, List.nodup_append]
    refine ⟨less_nd a gone, by simp, fun x hx y hy => ?_⟩
    rw [List.mem_singleton.mp hy]
    exact fun z => hn (z ▸ (less_mem.mp hx).1)
  have hin := chg_in b (gone := gone) hc
  have ok := web_okP w hin
  have hp := sortL_perm ltN (chg T gone come)
  have h1 : rk n ts (chg T gone come) = rk n ts (less T gone) + 1 := by
    rw [chg_less] at ok ⊢
    exact (rk_add ok).2 r
  unfold exT
  rw [trees_mem]
  refine ⟨sort_sub hnd hin, ?_, ?_⟩
  · rw [hp.length_eq, chg_less, List.length_append, List.length_singleton]; omega
  · rw [rk_perm hp (okP_perm hp.symm ok), h1]; omega
/-- two trees: ties that change places -/
theorem exchange (w : Web n ts) {S T : List Nat} (hS : S ∈ trees n ts) (hT : T ∈ trees n ts) {g : Nat} (hg : g ∈ S) (hn : g ∉ T) : ∃ f, f ∈ T ∧ f ∉ S ∧ exT S g f ∈ trees n ts ∧ exT T f g ∈ trees n ts := by
  obtain ⟨a1, b1, c1, d1, e1⟩ := tree_facts w hS
  obtain ⟨a2, b2, c2, d2, e2⟩ := tree_facts w hT
  have hgm := b1 g hg
  have hA := (indep a1 c1 d1 hg).2
  obtain ⟨M, m1, m2, m3, m4⟩ := fewest (n := n) (ts := ts) T.length (Nat.le_refl _) a2 (spans w hT hgm)
  have hf : ∃ f ∈ M, ¬ Rel n ts (less S g) (tN ts f).1 (tN ts f).2 := by
    refine Classical.byContradiction fun z => hA (rel_le (fun k hk => ?_) m3)
    exact Classical.byContradiction fun y => z ⟨k, hk, y⟩
  obtain ⟨f, hfM, hfr⟩ := hf
  have hfT := m1 f hfM
  have hfS : f ∉ S := fun z => by
    have hne : f ≠ g := fun e => hn (e ▸ hfT)
    exact hfr (rel_mem (less_mem.mpr ⟨z, hne⟩))
  refine ⟨f, hfT, hfS, ex_tree w hS hg (b2 f hfT) hfS hfr, ex_tree w hT hfT hgm hn fun r => ?_⟩
  -- the ends of f would hang together in T without f
  have hsub : ∀ k ∈ less M f, k ∈ less T f := fun k hk => less_mem.mpr ⟨m1 k (less_mem.mp hk).1, (less_mem.mp hk).2⟩
  have hM : Rel n ts (less M f ++ [f]) (tN ts g).1 (tN ts g).2 := by rw [← rel_perm (less_perm m2 hfM)]; exact m3
  rw [rel_snoc] at hM
  have E := rel_eqv n ts (less T f)
  have key : Rel n ts (less T f) (tN ts f).1 (tN ts f).2 := by
    rcases hM with q | ⟨q1, q2⟩
    · exact absurd q (m4 f hfM)
    · have up : ∀ x y, Rel n ts (less M f) x y → Rel n ts (less T f) x y := fun x y q => rel_mono hsub q
      rcases q1 with q1 | q1
      · rcases q2 with q2 | q2
        · exact absurd ((rel_eqv n ts (less M f)).t _ _ _ q1 ((rel_eqv n ts (less M f)).s _ _ q2)) (m4 f hfM)
        · exact E.t _ _ _ (E.s _ _ (up _ _ q1)) (E.t _ _ _ r (up _ _ q2))
      · rcases q2 with q2 | q2
        · exact E.s _ _ (E.t _ _ _ (E.s _ _ (up _ _ q1)) (E.t _ _ _ r (up _ _ q2)))
        · exact absurd ((rel_eqv n ts (less M f)).t _ _ _ q1 ((rel_eqv n ts (less M f)).s _ _ q2)) (m4 f hfM)
  exact (indep a2 c2 d2 hfT).2 key
end
end VL
/-! plain law, 35: ranks of ties whichever end is first; kinds -/
namespace VL
open PySem PySem.Spec
theorem mg_comm (a b : Nat) (R : Rl) : Mg a b R = Mg b a R := by
  funext x y
  refine propext ⟨fun h => ?_, fun h => ?_⟩
  all_goals
    rcases h with h | ⟨h1, h2⟩
    · exact .inl h
    · exact .inr ⟨h1.symm, h2.symm⟩
theorem mgs_swap {f g : Nat → Nat × Nat} : ∀ {p : List Nat} {R : Rl}, (∀ k ∈ p, f k = g k ∨ f k = ((g k).2, (g k).1)) → Mgs (p.map f) R = Mgs (p.map g) R
  | [], _, _ => rfl
  | k :: p, R, h => by
    have ih := fun R => mgs_swap (p := p) (R := R) fun j hj => h j (List.mem_cons_of_mem _ hj)
    show Mgs (p.map f) (Mg (f k).1 (f k).2 R) = Mgs (p.map g) (Mg (g k).1 (g k).2 R)
    rw [ih]
    rcases h k List.mem_cons_self with e | e
    · rw [e]
    · rw [e]
      show Mgs (p.map g) (Mg (g k).2 (g k).1 R) = _
      rw [mg_comm]
theorem okT_okP {n : Nat} {ts : List (Int × Int)} (h : ∀ p ∈ ts, okT n p) {p : List Nat} (hp : inT ts.length p) : okP n ts p := fun k hk => by
  have hk' := hp k hk
  have := h ts[k] (List.getElem_mem hk')
  rw [tN_at hk']
  unfold okT at this
  simp only
  omega
theorem rk_srt {n : Nat} {ts : List (Int × Int)} (h : ∀ p ∈ ts, okT n p) {p : List Nat} (hp : inT ts.length p) : rk n (ts.map VL.srt) p = rk n ts p := by
  have hp' : inT (ts.map VL.srt).length p := by rw [List.length_map]; exact hp
  refine rk_rel (okT_okP (fun q hq => ?_) hp') (okT_okP h hp) (mgs_swap fun k hk => ?_)
  · obtain ⟨o, ho, rfl⟩ := List.mem_map.mp hq
    exact srt_ok (h o ho)
  · have hk' := hp k hk
    have hk2 := hp' k hk
    rw [tN_at hk2, tN_at hk', List.getElem_map]
    have := h ts[k] (List.getElem_mem hk')
    unfold okT at this
    unfold VL.srt
    simp only [Prod.mk.injEq]
    omega
theorem idx_tieL {ts : List (Int × Int)} {k : Nat} (h : k < ts.length) : idxD (.list (ts.map prT)) (.int (k : Int)) = some (.tuple [.int ts[k].1, .int ts[k].2]) := by
  rw [i_l, at_nat, List.getElem?_map, List.getElem?_eq_getElem h]; rfl
/-- the kind of a tie -/
def kindS (n : Nat) (ts : List (Int × Int)) (k : Nat) : Str :=
  if ((ts[k]?).getD (0, 0)).1 = ((ts[k]?).getD (0, 0)).2 then Str.ofString "curl" else if rk n ts (less (List.range ts.length) k) < rk n ts (List.range ts.length) then Str.ofString "bridge" else Str.ofString "plain"
theorem less_in (m k : Nat) : inT m (less (List.range m) k) := fun j hj => List.mem_range.mp (less_mem.mp hj).1
theorem range_in (m : Nat) : inT m (List.range m) := fun j hj => List.mem_range.mp hj
theorem kind_srt {n : Nat} {ts : List (Int × Int)} (h : ∀ p ∈ ts, okT n p) {k : Nat} (hk : k < ts.length) : kindS n (ts.map VL.srt) k = kindS n ts k := by
  unfold kindS
  rw [List.length_map, rk_srt h (less_in _ _), rk_srt h (range_in _), List.getElem?_map, List.getElem?_eq_getElem hk]
  show (if (VL.srt ts[k]).1 = (VL.srt ts[k]).2 then _ else _) = (if ts[k].1 = ts[k].2 then _ else _)
  have : ((VL.srt ts[k]).1 = (VL.srt ts[k]).2) ↔ (ts[k].1 = ts[k].2) := by unfold VL.srt; simp only; omega
  simp only [this]
end VL
/-! plain law, 36: tables of sizes and ranks -/
namespace VL
open PySem PySem.Spec
/-! ### what is put together, all times above nought -/
theorem lookM_mem {k : Int × Int} {v : Int} : ∀ {m : List Mn}, lookM k m = some v → (k, v) ∈ m
  | [], h => by cases h
  | (c, u) :: r, h => by
    unfold lookM at h
    by_cases e : c = k
    · rw [if_pos e] at h
      cases h
      subst e
      exact List.mem_cons_self
    · rw [if_neg e] at h
      exact List.mem_cons_of_mem _ (lookM_mem h)
theorem coef_nn {k : Int × Int} : ∀ {ts : List Mn}, (∀ t ∈ ts, 0 < t.2) → 0 ≤ coef k ts
  | [], _ => by unfold coef; simp
  | t :: ts, h => by
    rw [coef_cons]
    have h1 := h t List.mem_cons_self
    have h2 := coef_nn (k := k) (ts := ts) fun u hu => h u (List.mem_cons_of_mem _ hu)
    split <;> omega
theorem coef_pos {k : Int × Int} : ∀ {ts : List Mn}, (∀ t ∈ ts, 0 < t.2) → k ∈ ts.map (·.1) → 0 < coef k ts
  | [], _, hk => by cases hk
  | t :: ts, h, hk => by
    rw [coef_cons]
    have h1 := h t List.mem_cons_self
    have hh : ∀ u ∈ ts, 0 < u.2 := fun u hu => h u (List.mem_cons_of_mem _ hu)
    have h2 := coef_nn (k := k) hh
    rw [List.map_cons] at hk
    rcases List.mem_cons.mp hk with e | hk
    · rw [if_pos e.symm]; omega
    · have := coef_pos hh hk
      split <;> omega
theorem coef_gath (k : Int × Int) (ts : List Mn) : coef k (gath ts) = coef k ts := by
  by_cases h : k ∈ ts.map (·.1)
  · have hl := look_gath k ts
    rw [if_pos h] at hl
    exact coef_at (gath_keys ts).1 (lookM_mem hl)
  · rw [coef_out h]
    refine coef_out fun z => h (((gath_keys ts).2 k).mp z)
theorem gath_pos {ts : List Mn} (h : ∀ t ∈ ts, 0 < t.2) : ∀ t ∈ gath ts, t.2 ≠ 0 := fun t ht => by
  have h1 := coef_at (gath_keys ts).1 ht
  rw [coef_gath] at h1
  have := coef_pos h (((gath_keys ts).2 t.1).mp (List.mem_map_of_mem ht))
  omega
theorem sort_gath {ts : List Mn} (h : ∀ t ∈ ts, 0 < t.2) : sortL lt3 (gath ts) = polyOf ts := by
  rw [polyOf_sort (gath_keys ts).1 (gath_pos h)]
  exact polyOf_ext fun k => coef_gath k ts
theorem polyOf_pos {ts : List Mn} (h : ∀ t ∈ ts, 0 < t.2) : polyOf ts = (sortL ltP ((gath ts).map (·.1))).map fun k => (k, coef k ts) := by
  unfold polyOf
  congr 1
  rw [List.filter_eq_self]
  intro k hk
  have hk' := ((gath_keys ts).2 k).mp ((sortL_perm ltP _).mem_iff.mp hk)
  have := coef_pos h hk'
  rw [decide_eq_true_eq]
  omega
theorem itemsT_enc (m : List Mn) : itemsT (enc m) = m.map fun q => PyData.tuple [prT q.1, .int q.2] := by
  unfold itemsT enc
  rw [List.map_map]
  rfl
theorem ev_lci {tb : Tb} {elt : PX} {tg : List Nat} {i : Nat} {cond : PXs} {sc : Scope} {env : SEnv} {kvs : List (List L2.Key × D)} {xs : List D} (h : env[i]? = some (.dt kvs)) (hl : (itemsT kvs).length < LIM)
    (hlc : lcLoop (fun d => takes tg false d (killS tg (env.set i (.dl kvs)))) (fun e => testR tb cond e) (fun e => ev tb elt e) (itemsT kvs) = .ok xs) : ev tb (.lci elt tg i cond sc) env = .ok (.nw xs) := by
  have hl' : ¬ LIM ≤ (itemsT kvs).length := by omega
  simp only [ev, h, if_neg hl']
  show Rs.bind (lcLoop (fun d => takes tg false d (killS tg (env.set i (.dl kvs)))) (fun e => testR tb cond e) (fun e => ev tb elt e) (itemsT kvs)) _ = _
  rw [hlc]
  rfl
theorem itemsT_len (m : List Mn) : (itemsT (enc m)).length = m.length := by rw [itemsT_enc, List.length_map]
theorem nl_int (i : Int) : nl 30 (.int i) = true := rfl
/-! ### tables -/
def cT (n : Nat) (ts : List (Int × Int)) (p : List Nat) : Mn := (((p.length : Int), (rk n ts p : Int)), 1)
def rowsT (n : Nat) (ts : List (Int × Int)) (l : List (List Nat)) : List Mn := l.map (cT n ts)
theorem rows_pos (n : Nat) (ts : List (Int × Int)) (l : List (List Nat)) : ∀ t ∈ rowsT n ts l, 0 < t.2 := fun t ht => by
  obtain ⟨p, _, rfl⟩ := List.mem_map.mp ht
  show (0 : Int) < 1
  decide
def tabl (n : Nat) (ts : List (Int × Int)) : List Mn := polyOf (rowsT n ts (picks ts.length))
theorem tabl_all (n : Nat) (ts : List (Int × Int)) : polyOf (rowsT n ts (allP ts.length)) = tabl n ts := polyOf_perm ((allP_perm _).map _)
theorem rows_len (n : Nat) (ts : List (Int × Int)) (l : List (List Nat)) : (rowsT n ts l).length = l.length := by unfold rowsT; rw [List.length_map]
theorem tabl_srt {n : Nat} {ts : List (Int × Int)} (h : ∀ p ∈ ts, okT n p) : tabl n (ts.map VL.srt) = tabl n ts := by
  unfold tabl rowsT
  rw [List.length_map]
  congr 1
  refine List.map_congr_left fun p hp => ?_
  unfold cT
  rw [rk_srt h (sub_in (picks_mem.mp hp))]
theorem terms_eq' (l : List Mn) : cmpD .NotEq (.list (l.map trT)) (.list (l.map trT)) = some false := terms_ne l
/-- bits, one by one -/
theorem bits_succ (a m : Nat) : bits a (m + 1) = bits a m ++ if a.testBit m = true then [m] else [] := by
  unfold bits
  rw [List.range_succ, List.filter_append]
  congr 1
  cases h : a.testBit m <;> simp [h]
theorem tabl_bd (n : Nat) (ts : List (Int × Int)) (h : ts.length ≤ 8) : (tabl n ts).length ≤ 256 := by
  have h1 := polyOf_len (rowsT n ts (picks ts.length))
  rw [rows_len, picks_len] at h1
  have := Nat.pow_le_pow_right (n := 2) (by omega) h
  unfold tabl
  omega
end VL
/-! plain law, 37: a tie left out, a tie drawn together -/
namespace VL
open PySem PySem.Spec
/-! ### all sublists, whatever the order -/
def subs : List Nat → List (List Nat)
  | [] => [[]]
  | x :: l => subs l ++ (subs l).map (x :: ·)
theorem subs_mem : ∀ {l s : List Nat}, s ∈ subs l ↔ s.Sublist l
  | [], s => by
    show s ∈ [[]] ↔ _
    rw [List.mem_singleton, List.sublist_nil]
  | x :: l, s => by
    show s ∈ subs l ++ (subs l).map (x :: ·) ↔ _
    rw [List.mem_append, subs_mem, List.mem_map]
    constructor
    · rintro (h | ⟨t, ht, rfl⟩)
      · exact h.cons x
      · exact (subs_mem.mp ht).cons₂ x
    · intro h
      cases h with
      | cons _ h => exact .inl h
      | cons_cons _ h => exact .inr ⟨_, subs_mem.mpr h, rfl⟩
theorem subs_nd : ∀ {l : List Nat}, l.Nodup → (subs l).Nodup
  | [], _ => by simp [subs]
  | x :: l, h => by
    rw [List.nodup_cons] at h
    show (subs l ++ (subs l).map (x :: ·)).Nodup
    rw [List.nodup_append]
    refine ⟨subs_nd h.2, ?_, fun a ha b hb e => ?_⟩
    · exact List.Pairwise.map _ (fun a b q z => q (List.cons.inj z).2) (subs_nd h.2)
    · obtain ⟨t, _, rfl⟩ := List.mem_map.mp hb
      rw [e] at ha
      exact h.1 ((subs_mem.mp ha).subset List.mem_cons_self)
theorem picks_subs (m : Nat) : (picks m).Perm (subs (List.range m)) :=
  (List.perm_ext_iff_of_nodup (picks_nd m) (subs_nd List.nodup_range)).mpr fun s => by rw [picks_mem, subs_mem]
theorem subs_map (f : Nat → Nat) : ∀ l : List Nat, subs (l.map f) = (subs l).map (List.map f)
  | [] => rfl
  | x :: l => by
    show subs (l.map f) ++ (subs (l.map f)).map (f x :: ·) = (subs l ++ (subs l).map (x :: ·)).map (List.map f)
    rw [subs_map f l, List.map_append, List.map_map, List.map_map]
    rfl
/-- what doesn't look at the order of a pick -/
def NoOrd {β : Type} (P : Nat → Prop) (f : List Nat → β) : Prop := ∀ p q : List Nat, p.Perm q → (∀ x ∈ p, P x) → f p = f q
theorem NoOrd.cons {β : Type} {P : Nat → Prop} {f : List Nat → β} (h : NoOrd P f) {x : Nat} (hx : P x) : NoOrd P fun p => f (x :: p) := fun p q hp ho =>
  h _ _ (hp.cons x) fun y hy => by
    rcases List.mem_cons.mp hy with rfl | hy
    · exact hx
    · exact ho y hy
theorem subs_perm {β : Type} {P : Nat → Prop} {l l' : List Nat} (hp : l.Perm l') : ∀ {f : List Nat → β}, NoOrd P f → (∀ x ∈ l, P x) → ((subs l).map f).Perm ((subs l').map f) := by
  induction hp with
  | nil => exact fun _ _ => List.Perm.refl _
  | cons x h ih =>
    intro f hf hl
    have h1 := ih hf fun y hy => hl y (List.mem_cons_of_mem _ hy)
    have h2 := ih (hf.cons (hl x List.mem_cons_self)) fun y hy => hl y (List.mem_cons_of_mem _ hy)
    rename_i l1 l2
    show ((subs l1 ++ (subs l1).map (x :: ·)).map f).Perm ((subs l2 ++ (subs l2).map (x :: ·)).map f)
    rw [List.map_append, List.map_append, List.map_map, List.map_map]
    exact h1.append h2
  | swap x y l =>
    intro f hf hl
    have e : ∀ s ∈ subs l, f (y :: x :: s) = f (x :: y :: s) := fun s hs => hf _ _ (List.Perm.swap x y s) fun z hz => by
      have hsub := (subs_mem.mp hs).subset
      rcases List.mem_cons.mp hz with rfl | hz
      · exact hl _ List.mem_cons_self
      · rcases List.mem_cons.mp hz with rfl | hz
        · exact hl _ (List.mem_cons_of_mem _ List.mem_cons_self)
        · exact hl _ (List.mem_cons_of_mem _ (List.mem_cons_of_mem _ (hsub hz)))
    show (((subs l ++ (subs l).map (x :: ·)) ++ (subs l ++ (subs l).map (x :: ·)).map (y :: ·)).map f).Perm (((subs l ++ (subs l).map (y :: ·)) ++ (subs l ++ (subs l).map (y :: ·)).map (x :: ·)).map f)
    simp only [List.map_append, List.map_map]
    have e2 : (subs l).map (f ∘ (fun s => y :: s) ∘ fun s => x :: s) = (subs l).map (f ∘ (fun s => x :: s) ∘ fun s => y :: s) := List.map_congr_left fun s hs => e s hs
    rw [e2]
    generalize (subs l).map (f ∘ (fun s => x :: s) ∘ fun s => y :: s) = D
    generalize (subs l).map (f ∘ fun s => x :: s) = B
    generalize (subs l).map (f ∘ fun s => y :: s) = C
    generalize (subs l).map f = A
    rw [List.append_assoc, List.append_assoc]
    refine List.Perm.append_left A ?_
    rw [← List.append_assoc, ← List.append_assoc]
    exact List.Perm.append_right D List.perm_append_comm
  | trans h1 h2 i1 i2 =>
    intro f hf hl
    exact (i1 hf hl).trans (i2 hf fun x hx => hl x (h1.mem_iff.mpr hx))
/-! ### a tie left out -/
def up (k j : Nat) : Nat := if j < k then j else j + 1
theorem up_rest (m k : Nat) (h : k < m) : (List.range m).Perm (k :: (List.range (m - 1)).map (up k)) := by
  have hi : ∀ a b : Nat, up k a = up k b → a = b := fun a b e => by unfold up at e; split at e <;> split at e <;> omega
  refine (List.perm_ext_iff_of_nodup List.nodup_range ?_).mpr fun x => ?_
  · rw [List.nodup_cons]
    refine ⟨fun z => ?_, nodup_map (fun a _ b _ e => hi a b e) List.nodup_range⟩
    obtain ⟨j, _, e⟩ := List.mem_map.mp z
    unfold up at e
    split at e <;> omega
  · rw [List.mem_range, List.mem_cons, List.mem_map]
    constructor
    · intro hx
      by_cases e : x = k
      · exact .inl e
      · refine .inr ?_
        by_cases hl : x < k
        · exact ⟨x, List.mem_range.mpr (by omega), by unfold up; rw [if_pos hl]⟩
        · exact ⟨x - 1, List.mem_range.mpr (by omega), by unfold up; rw [if_neg (by omega)]; omega⟩
    · rintro (rfl | ⟨j, hj, rfl⟩)
      · exact h
      · have := List.mem_range.mp hj
        unfold up
        split <;> omega
theorem tN_up (ts : List (Int × Int)) (k j : Nat) : tN (ts.eraseIdx k) j = tN ts (up k j) := by
  unfold tN up
  rw [List.getElem?_eraseIdx]
  split <;> rfl
theorem mk_up (ts : List (Int × Int)) (k : Nat) : ∀ (p : List Nat) (s : List Nat × Nat), (p.map (up k)).foldl (mkL ts) s = p.foldl (mkL (ts.eraseIdx k)) s
  | [], _ => rfl
  | j :: p, s => by
    have e : mkL ts s (up k j) = mkL (ts.eraseIdx k) s j := by unfold mkL; rw [tN_up]
    rw [List.map_cons, List.foldl_cons, List.foldl_cons, e, mk_up ts k p]
theorem rk_up (n : Nat) (ts : List (Int × Int)) (k : Nat) (p : List Nat) : rk n ts (p.map (up k)) = rk n (ts.eraseIdx k) p := by unfold rk marksL; rw [mk_up]
/-- a curl adds nothing -/
theorem rk_curl (n : Nat) {ts : List (Int × Int)} {k : Nat} (h : (tN ts k).1 = (tN ts k).2) (p : List Nat) : rk n ts (k :: p) = rk n ts p := by
  unfold rk marksL
  rw [List.foldl_cons]
  have : mkL ts (List.range n, 0) k = (List.range n, 0) := by unfold mkL; rw [h]; simp
  rw [this]
/-! ### drawn together -/
def mv (lo hi x : Nat) : Nat := if x = hi then lo else if hi < x then x - 1 else x
theorem mv_lt {lo hi n x : Nat} (h1 : lo < hi) (h2 : hi < n) (h : x < n) : mv lo hi x < n - 1 := by
  unfold mv
  split
  · omega
  · split <;> omega
theorem mv_onto {lo hi n y : Nat} (h1 : lo < hi) (h2 : hi < n) (h : y < n - 1) : ∃ x, x < n ∧ mv lo hi x = y := by
  by_cases e : y < hi
  · exact ⟨y, by omega, by unfold mv; rw [if_neg (by omega), if_neg (by omega)]⟩
  · exact ⟨y + 1, by omega, by unfold mv; rw [if_neg (by omega), if_pos (by omega)]; omega⟩
theorem sm_range {n x y : Nat} (hx : x < n) (hy : y < n) : Sm (List.range n) x y ↔ x = y := by
  unfold Sm
  rw [range_at n x hx, range_at n y hy]
  constructor
  · intro e; cases e; rfl
  · intro e; rw [e]
theorem con_base {lo hi n : Nat} (h1 : lo < hi) (h2 : hi < n) {x y : Nat} (hx : x < n) (hy : y < n) : Mg lo hi (Sm (List.range n)) x y ↔ Sm (List.range (n - 1)) (mv lo hi x) (mv lo hi y) := by
  rw [sm_range (mv_lt h1 h2 hx) (mv_lt h1 h2 hy)]
  unfold Mg
  rw [sm_range hx hy, sm_range hx (by omega : lo < n), sm_range hx h2, sm_range hy (by omega : lo < n), sm_range hy h2]
  unfold mv
  split <;> split <;> (try split) <;> (try split) <;> omega
theorem con_mgs {lo hi n : Nat} : ∀ {ps qs : List (Nat × Nat)} {R S : Rl}, (∀ x y, x < n → y < n → (R x y ↔ S (mv lo hi x) (mv lo hi y))) → (∀ p ∈ ps, p.1 < n ∧ p.2 < n) → qs = ps.map (fun p => (mv lo hi p.1, mv lo hi p.2)) →
    ∀ x y, x < n → y < n → (Mgs ps R x y ↔ Mgs qs S (mv lo hi x) (mv lo hi y))
  | [], _, R, S, h, _, rfl => h
  | p :: ps, _, R, S, h, hp, rfl => by
    refine con_mgs (ps := ps) (R := Mg p.1 p.2 R) (S := Mg (mv lo hi p.1) (mv lo hi p.2) S) (fun x y hx hy => ?_) (fun q hq => hp q (List.mem_cons_of_mem _ hq)) rfl
    obtain ⟨c1, c2⟩ := hp p List.mem_cons_self
    unfold Mg
    rw [h x y hx hy, h x p.1 hx c1, h x p.2 hx c2, h y p.1 hy c1, h y p.2 hy c2]
def mvI (lo hi : Nat) (t : Int × Int) : Int × Int := ((mv lo hi t.1.toNat : Nat), (mv lo hi t.2.toNat : Nat))
theorem dd_pull {n : Nat} {f : Nat → Nat} {l l' : List Nat} {m : Nat} (hl : l.length = n) (hl' : l'.length = m) (hf : ∀ x, x < n → f x < m) (ho : ∀ y, y < m → ∃ x, x < n ∧ f x = y) (h : ∀ x y, x < n → y < n → (Sm l x y ↔ Sm l' (f x) (f y))) : (dd l).length = (dd l').length := by
  have h2 : (dd ((List.range n).map fun x => at' l' (f x))).length = (dd l).length := by
    refine dd_sm (by rw [List.length_map, List.length_range, hl]) ?_
    funext x y
    have sl : ∀ x, ((List.range n).map fun x => at' l' (f x))[x]? = if x < n then l'[f x]? else none := fun x => by
      rw [List.getElem?_map]
      by_cases hx : x < n
      · rw [range_at n x hx, if_pos hx, at_some (l := l') (by rw [hl']; exact hf x hx)]; rfl
      · rw [List.getElem?_eq_none (by simpa using hx), if_neg hx]; rfl
    have sn : ∀ x, ¬ x < n → l[x]? = none := fun x hx => List.getElem?_eq_none (by omega)
    have ss : ∀ x, x < n → ∃ v, l[x]? = some v := fun x hx => ⟨_, List.getElem?_eq_getElem (by omega)⟩
    have ss' : ∀ x, x < n → ∃ v, l'[f x]? = some v := fun x hx => ⟨_, List.getElem?_eq_getElem (by rw [hl']; exact hf x hx)⟩
    unfold Sm
    rw [sl, sl]
    by_cases hx : x < n
    · by_cases hy : y < n
      · rw [if_pos hx, if_pos hy]
        exact propext (h x y hx hy).symm
      · rw [if_pos hx, if_neg hy, sn y hy]
        obtain ⟨v, hv⟩ := ss x hx
        obtain ⟨v', hv'⟩ := ss' x hx
        rw [hv, hv']
        simp
    · by_cases hy : y < n
      · rw [if_neg hx, if_pos hy, sn x hx]
        obtain ⟨v, hv⟩ := ss y hy
        obtain ⟨v', hv'⟩ := ss' y hy
        rw [hv, hv']
        simp
      · rw [if_neg hx, if_neg hy, sn x hx, sn y hy]
  rw [← h2]
  refine nd_eq (dd_nd _) (dd_nd _) fun k => ?_
  rw [dd_mem, dd_mem, List.mem_map]
  constructor
  · rintro ⟨x, hx, rfl⟩
    have hx' := List.mem_range.mp hx
    have := at_some (l := l') (x := f x) (by rw [hl']; exact hf x hx')
    exact List.mem_of_getElem? this
  · intro hk
    obtain ⟨y, hy⟩ := List.mem_iff_getElem?.mp hk
    have hy' := (List.getElem?_eq_some_iff.mp hy).1
    obtain ⟨x, hx, e⟩ := ho y (by omega)
    refine ⟨x, List.mem_range.mpr hx, ?_⟩
    rw [e]
    unfold at'
    rw [hy]; rfl
/-- drawn together at k, the ties not sorted -/
def conU (lo hi : Nat) (k : Nat) (ts : List (Int × Int)) : List (Int × Int) := (ts.eraseIdx k).map (mvI lo hi)
theorem conU_len {lo hi k : Nat} {ts : List (Int × Int)} (h : k < ts.length) : (conU lo hi k ts).length = ts.length - 1 := by unfold conU; rw [List.length_map, List.length_eraseIdx_of_lt h]
theorem er_mem {ts : List (Int × Int)} {k : Nat} {p : Int × Int} (h : p ∈ ts.eraseIdx k) : p ∈ ts := List.mem_of_mem_eraseIdx h
theorem conU_ok {n : Nat} {ts : List (Int × Int)} (ok : ∀ p ∈ ts, okT n p) {lo hi k : Nat} (h1 : lo < hi) (h2 : hi < n) : ∀ p ∈ conU lo hi k ts, okT ((n - 1 : Nat) : Int) p := fun p hp => by
  obtain ⟨q, hq, rfl⟩ := List.mem_map.mp hp
  have := ok q (er_mem hq)
  unfold okT at *
  have a1 := mv_lt (x := q.1.toNat) h1 h2 (by omega)
  have a2 := mv_lt (x := q.2.toNat) h1 h2 (by omega)
  unfold mvI
  simp only
  omega
theorem tN_con {ts : List (Int × Int)} {lo hi k j : Nat} (h : j < (ts.eraseIdx k).length) : tN (conU lo hi k ts) j = (mv lo hi (tN ts (up k j)).1, mv lo hi (tN ts (up k j)).2) := by
  rw [← tN_up]
  have h2 : j < (conU lo hi k ts).length := by unfold conU; rw [List.length_map]; exact h
  have e : (conU lo hi k ts)[j]'h2 = mvI lo hi (ts.eraseIdx k)[j] := List.getElem_map _
  rw [tN_at h2, tN_at h, e]
  unfold mvI
  simp
theorem rk_con {n : Nat} {ts : List (Int × Int)} (ok : ∀ p ∈ ts, okT n p) {k : Nat} (hk : k < ts.length) {lo hi : Nat} (h1 : lo < hi) (ht : tN ts k = (lo, hi)) {p : List Nat} (hp : inT (ts.length - 1) p) :
    rk n ts (k :: p.map (up k)) = rk (n - 1) (conU lo hi k ts) p + 1 := by
  have hin : inT ts.length (k :: p.map (up k)) := fun j hj => by
    rcases List.mem_cons.mp hj with rfl | hj
    · exact hk
    · obtain ⟨i, hi', rfl⟩ := List.mem_map.mp hj
      have := hp i hi'
      unfold up
      split <;> omega
  have ok1 := okT_okP ok hin
  have h2 : hi < n := by have := (ok1 k List.mem_cons_self).2; rw [ht] at this; exact this
  have ok2 := okT_okP (conU_ok ok (k := k) h1 h2) (p := p) (by rw [conU_len hk]; exact hp)
  have r1 := rk_marks ok1
  have r2 := rk_marks ok2
  have m1 := marks_rel ok1
  have m2 := marks_rel ok2
  have l1 := (marksL_ok (s := (List.range n, 0)) (by simp) ok1).1
  have l2 := (marksL_ok (s := (List.range (n - 1), 0)) (by simp) ok2).1
  have hd := dd_pull (f := mv lo hi) (l := (marksL n ts (k :: p.map (up k))).1) (l' := (marksL (n - 1) (conU lo hi k ts) p).1) l1 l2 (fun x hx => mv_lt h1 h2 hx) (fun y hy => mv_onto h1 h2 hy) (fun x y hx hy => by
    rw [m1.2.1, m2.2.1]
    have e : pairs ts (k :: p.map (up k)) = (lo, hi) :: (p.map (up k)).map (tN ts) := by unfold pairs; rw [List.map_cons, ht]
    rw [e]
    refine con_mgs (ps := (p.map (up k)).map (tN ts)) (R := Mg lo hi (Sm (List.range n))) (S := Sm (List.range (n - 1))) (fun x y hx hy => con_base h1 h2 hx hy) (fun q hq => ?_) ?_ x y hx hy
    · obtain ⟨j, hj, rfl⟩ := List.mem_map.mp hq
      exact ok1 j (List.mem_cons_of_mem _ hj)
    · unfold pairs
      rw [List.map_map, List.map_map]
      refine List.map_congr_left fun j hj => ?_
      rw [tN_con (by rw [List.length_eraseIdx_of_lt hk]; exact hp j hj)]
      rfl)
  omega
/-! ### the table at a tie -/
def shT (d e : Int) (t : Mn) : Mn := ((t.1.1 + d, t.1.2 + e), t.2)
theorem coef_sh (d e : Int) (k : Int × Int) : ∀ ts : List Mn, coef k (ts.map (shT d e)) = coef (k.1 - d, k.2 - e) ts
  | [] => rfl
  | t :: ts => by
    rw [List.map_cons, coef_cons, coef_cons, coef_sh d e k ts]
    congr 1
    have : ((shT d e t).1 = k) ↔ (t.1 = (k.1 - d, k.2 - e)) := by
      unfold shT
      constructor
      · intro h; rw [← h]; simp
      · intro h; rw [h]; simp
    simp only [this]
    rfl
theorem noOrd_cT {n : Nat} {ts : List (Int × Int)} (ok : ∀ p ∈ ts, okT n p) : NoOrd (· < ts.length) (cT n ts) := fun p q hp ho => by
  unfold cT
  rw [hp.length_eq, rk_perm hp (okT_okP ok ho)]
theorem rows_split {n : Nat} {ts : List (Int × Int)} (ok : ∀ p ∈ ts, okT n p) {k : Nat} (hk : k < ts.length) {ns us : List (Int × Int)} {n' : Nat} {e : Int} (hu : us.length = ts.length - 1) (h1 : ∀ p, inT (ts.length - 1) p → ((rk n ts (k :: p.map (up k)) : Nat) : Int) = (rk n' us p : Nat) + e) (key : Int × Int) :
    coef key (rowsT n ts (picks ts.length)) = coef key (rowsT n (ts.eraseIdx k) (picks (ts.length - 1))) + coef key ((rowsT n' us (picks (ts.length - 1))).map (shT 1 e)) := by
  have p1 : (rowsT n ts (picks ts.length)).Perm ((subs (k :: (List.range (ts.length - 1)).map (up k))).map (cT n ts)) :=
    ((picks_subs _).map _).trans (subs_perm (up_rest _ k hk) (noOrd_cT ok) fun x hx => List.mem_range.mp hx)
  rw [coef_perm key p1]
  show coef key ((subs ((List.range (ts.length - 1)).map (up k)) ++ (subs ((List.range (ts.length - 1)).map (up k))).map (k :: ·)).map (cT n ts)) = _
  rw [List.map_append, coef_append, subs_map, List.map_map, List.map_map, List.map_map]
  congr 1
  · have e1 : (subs (List.range (ts.length - 1))).map (cT n ts ∘ List.map (up k)) = (subs (List.range (ts.length - 1))).map (cT n (ts.eraseIdx k)) := List.map_congr_left fun p hp => by
      show cT n ts (p.map (up k)) = _
      unfold cT
      rw [List.length_map, rk_up]
    rw [e1]
    exact (coef_perm key ((picks_subs _).map _)).symm
  · have e1 : (subs (List.range (ts.length - 1))).map ((cT n ts ∘ fun s => k :: s) ∘ List.map (up k)) = ((subs (List.range (ts.length - 1))).map (cT n' us)).map (shT 1 e) := by
      rw [List.map_map]
      refine List.map_congr_left fun p hp => ?_
      have hin : inT (ts.length - 1) p := fun j hj => List.mem_range.mp ((subs_mem.mp hp).subset hj)
      show cT n ts (k :: p.map (up k)) = shT 1 e (cT n' us p)
      unfold cT shT
      rw [h1 p hin, List.length_cons, List.length_map]
      simp
    rw [e1]
    exact (coef_perm key (((picks_subs _).map _).map _)).symm
theorem poly_pos {ts : List Mn} (h : ∀ t ∈ ts, 0 < t.2) : ∀ t ∈ polyOf ts, 0 < t.2 := fun t ht => by
  obtain ⟨h1, h2, h3⟩ := polyOf_mem ht
  have := coef_nn (k := t.1) h
  omega
theorem tabl_pos (n : Nat) (ts : List (Int × Int)) : ∀ t ∈ tabl n ts, 0 < t.2 := poly_pos (rows_pos n ts _)
theorem tabl_split {n : Nat} {ts : List (Int × Int)} (ok : ∀ p ∈ ts, okT n p) {k : Nat} (hk : k < ts.length) {us : List (Int × Int)} {n' : Nat} {e : Int} (hu : us.length = ts.length - 1) (h1 : ∀ p, inT (ts.length - 1) p → ((rk n ts (k :: p.map (up k)) : Nat) : Int) = (rk n' us p : Nat) + e) :
    polyOf (tabl n (ts.eraseIdx k) ++ (tabl n' us).map (shT 1 e)) = tabl n ts := by
  show _ = polyOf (rowsT n ts (picks ts.length))
  refine polyOf_ext fun key => ?_
  have h2 := rows_split ok hk (ns := []) hu h1 key
  rw [h2, coef_append, coef_sh, coef_sh]
  unfold tabl
  rw [coef_polyOf, coef_polyOf, hu, List.length_eraseIdx_of_lt hk]
theorem tabl_nil (n : Nat) : tabl n [] = [((0, 0), 1)] := rfl
theorem web_er {n : Int} {ts : List (Int × Int)} (w : Web n ts) (k : Nat) : Web n (ts.eraseIdx k) :=
  ⟨w.n1, w.n9, fun p hp => w.ok p (er_mem hp), fun p hp => w.srt p (er_mem hp), by have := w.len; have := List.length_eraseIdx_le ts k; omega⟩
theorem er_map {ts : List (Int × Int)} (f : Int × Int → Int × Int) (k : Nat) : (ts.map f).eraseIdx k = (ts.eraseIdx k).map f := by
  rw [List.eraseIdx_eq_take_drop_succ, List.eraseIdx_eq_take_drop_succ, List.map_append, List.map_take, List.map_drop]
def slO : Option Int → VL.Slot
  | none => .un
  | some i => .fz (.int i)
end VL
/-! plain law, 39: stretches: each pick lies in that of just one tree -/
namespace VL
open PySem PySem.W L2
section
variable {n : Nat} {ts : List (Int × Int)}
/-- the ends of a tie hang together by some -/
def Sp (n : Nat) (ts : List (Int × Int)) (p : List Nat) (k : Nat) : Prop := Rel n ts p (tN ts k).1 (tN ts k).2
theorem sp_mem {p : List Nat} {k : Nat} (h : k ∈ p) : Sp n ts p k := rel_mem h
theorem sp_mono {p q : List Nat} {k : Nat} (h : ∀ j ∈ p, j ∈ q) (r : Sp n ts p k) : Sp n ts q k := rel_mono h r
theorem sp_le {p q : List Nat} {k : Nat} (h : ∀ j ∈ p, Sp n ts q j) (r : Sp n ts p k) : Sp n ts q k := rel_le h r
def more (n : Nat) (ts : List (Int × Int)) (F : List Nat) (t : Nat) : Bool := decide (rk n ts F < rk n ts (F ++ [t]))
theorem more_iff {F : List Nat} {t : Nat} (ok : okP n ts (F ++ [t])) : more n ts F t = true ↔ ¬ Sp n ts F t := by
  obtain ⟨a, b⟩ := rk_add ok
  unfold more Sp
  rw [decide_eq_true_eq]
  constructor
  · intro h r
    rw [a r] at h
    omega
  · intro h
    rw [b h]
    omega
def stepT (n : Nat) (ts : List (Int × Int)) (r pick : List Nat) (i : Nat) (F : List Nat) : List Nat :=
  if (more n ts F (r[i]?.getD 0) && (decide (r[i]?.getD 0 ∈ pick) || more n ts (F ++ r.take i) (r[i]?.getD 0))) = true then F ++ [r[i]?.getD 0] else F
def walkT (n : Nat) (ts : List (Int × Int)) (r pick : List Nat) : Nat → List Nat → List Nat
  | 0, F => F
  | i + 1, F => walkT n ts r pick i (stepT n ts r pick i F)
def treeT (n : Nat) (ts : List (Int × Int)) (r pick : List Nat) : List Nat := sortL ltN (walkT n ts r pick r.length [])
theorem split3 {r : List Nat} (nd : r.Nodup) {i : Nat} (h : i < r.length) : r[i] ∉ r.take i ∧ r[i] ∉ r.drop (i + 1) ∧ ∀ x ∈ r.take i, x ∉ r.drop (i + 1) := by
  have e : r = r.take i ++ r[i] :: r.drop (i + 1) := by rw [List.getElem_cons_drop, List.take_append_drop]
  have nd' := nd
  rw [e, List.nodup_append] at nd'
  obtain ⟨_, n2, n3⟩ := nd'
  rw [List.nodup_cons] at n2
  refine ⟨fun z => n3 _ z _ List.mem_cons_self rfl, n2.1, fun x hx hy => n3 _ hx _ (List.mem_cons_of_mem _ hy) rfl⟩
theorem take_next {r : List Nat} {i : Nat} (h : i < r.length) : r.take (i + 1) = r.take i ++ [r[i]] := by
  rw [List.take_add_one, List.getElem?_eq_getElem h]; rfl
theorem drop_next {r : List Nat} {i : Nat} (h : i < r.length) : r.drop i = r[i] :: r.drop (i + 1) := (List.getElem_cons_drop ..).symm
structure InvT (n : Nat) (ts : List (Int × Int)) (r : List Nat) (i : Nat) (F : List Nat) : Prop where
  nd : F.Nodup
  dr : ∀ x ∈ F, x ∈ r.drop i
  ind : rk n ts F = F.length
  sp : ∀ k, k < ts.length → Sp n ts (F ++ r.take i) k
theorem pm_in {r : List Nat} (hr : Pm ts.length r) {x : Nat} (h : x ∈ r) : x < ts.length := hr.lt h
theorem ok_of {n : Nat} {ts : List (Int × Int)} (w : Web n ts) {p : List Nat} (h : ∀ x ∈ p, x < ts.length) : okP n ts p := web_okP w h
theorem stepT_eq {r pick : List Nat} {i : Nat} (hi : i < r.length) (F : List Nat) : stepT n ts r pick i F = if (more n ts F r[i] && (decide (r[i] ∈ pick) || more n ts (F ++ r.take i) r[i])) = true then F ++ [r[i]] else F := by
  unfold stepT
  rw [List.getElem?_eq_getElem hi]
  rfl
theorem inv_step (w : Web n ts) {r pick : List Nat} (hr : Pm ts.length r) {i : Nat} (hi : i < r.length) {F : List Nat} (I : InvT n ts r (i + 1) F) : InvT n ts r i (stepT n ts r pick i F) ∧
    (∀ x ∈ F, x ∈ stepT n ts r pick i F) ∧ (∀ x ∈ stepT n ts r pick i F, x ∈ F ∨ x = r[i]) ∧ (r[i] ∈ stepT n ts r pick i F → r[i] ∈ pick ∨ ¬ Sp n ts (F ++ r.take i) r[i]) ∧ (r[i] ∉ stepT n ts r pick i F → r[i] ∈ pick → Sp n ts F r[i]) := by
  obtain ⟨s1, s2, s3⟩ := split3 hr.nd hi
  have ht := pm_in hr (List.getElem_mem hi)
  have hF : ∀ x ∈ F, x < ts.length := fun x hx => pm_in hr (List.mem_of_mem_drop (I.dr x hx))
  have hT : ∀ x ∈ r.take i, x < ts.length := fun x hx => pm_in hr (List.mem_of_mem_take hx)
  have ok1 : okP n ts (F ++ [r[i]]) := ok_of w fun x hx => by
    rcases List.mem_append.mp hx with hx | hx
    · exact hF x hx
    · rw [List.mem_singleton.mp hx]; exact ht
  have ok2 : okP n ts (F ++ r.take i ++ [r[i]]) := ok_of w fun x hx => by
    rcases List.mem_append.mp hx with hx | hx
    · rcases List.mem_append.mp hx with hx | hx
      · exact hF x hx
      · exact hT x hx
    · rw [List.mem_singleton.mp hx]; exact ht
  have m1 := more_iff ok1
  have m2 := more_iff ok2
  have tF : r[i] ∉ F := fun z => s2 (I.dr _ z)
  rw [stepT_eq hi]
  have sp0 := I.sp
  rw [take_next hi] at sp0
  by_cases c : (more n ts F r[i] && (decide (r[i] ∈ pick) || more n ts (F ++ r.take i) r[i])) = true
  · rw [if_pos c]
    rw [Bool.and_eq_true, Bool.or_eq_true, decide_eq_true_eq, m1, m2] at c
    refine ⟨⟨?_, fun x hx => ?_, ?_, fun k hk => ?_⟩, fun x hx => List.mem_append.mpr (.inl hx), fun x hx => ?_, fun _ => c.2, fun z => absurd (List.mem_append.mpr (.inr (List.mem_singleton.mpr rfl))) z⟩
    · rw [List.nodup_append]
      refine ⟨I.nd, by simp, fun a ha b hb => ?_⟩
      rw [List.mem_singleton.mp hb]
      exact fun e => tF (e ▸ ha)
    · rw [drop_next hi]
      rcases List.mem_append.mp hx with hx | hx
      · exact List.mem_cons_of_mem _ (I.dr x hx)
      · rw [List.mem_singleton.mp hx]; exact List.mem_cons_self
    · rw [(rk_add ok1).2 c.1, I.ind, List.length_append]; rfl
    · refine sp_mono (fun j hj => ?_) (sp0 k hk)
      simp only [List.mem_append, List.mem_singleton] at hj ⊢
      rcases hj with hj | hj | hj
      · exact .inl (.inl hj)
      · exact .inr hj
      · exact .inl (.inr hj)
    · rcases List.mem_append.mp hx with hx | hx
      · exact .inl hx
      · exact .inr (List.mem_singleton.mp hx)
  · rw [if_neg c]
    rw [Bool.and_eq_true, Bool.or_eq_true, decide_eq_true_eq, m1, m2] at c
    have hs : Sp n ts (F ++ r.take i) r[i] := by
      refine Classical.byContradiction fun z => ?_
      by_cases q : Sp n ts F r[i]
      · exact z (sp_mono (fun j hj => List.mem_append.mpr (.inl hj)) q)
      · exact c ⟨q, .inr z⟩
    refine ⟨⟨I.nd, fun x hx => ?_, I.ind, fun k hk => ?_⟩, fun x hx => hx, fun x hx => .inl hx, fun z => absurd z tF, fun _ hp => ?_⟩
    · rw [drop_next hi]; exact List.mem_cons_of_mem _ (I.dr x hx)
    · refine sp_le (fun j hj => ?_) (sp0 k hk)
      simp only [List.mem_append, List.mem_singleton] at hj
      rcases hj with hj | hj | hj
      · exact sp_mem (List.mem_append.mpr (.inl hj))
      · exact sp_mem (List.mem_append.mpr (.inr hj))
      · rw [hj]; exact hs
    · refine Classical.byContradiction fun z => c ⟨z, .inl hp⟩
/-- what the walk comes to -/
structure Fin (n : Nat) (ts : List (Int × Int)) (r pick : List Nat) (i : Nat) (F G : List Nat) : Prop where
  inv : InvT n ts r 0 G
  sub : ∀ x ∈ F, x ∈ G
  up : ∀ x ∈ G, x ∈ F ∨ x ∈ r.take i
  at' : ∀ j, (h : j < r.length) → j < i → ∃ A, (∀ x, x ∈ A ↔ x ∈ G ∧ x ∈ r.drop (j + 1)) ∧ (r[j] ∈ G → r[j] ∈ pick ∨ ¬ Sp n ts (A ++ r.take j) r[j]) ∧ (r[j] ∉ G → r[j] ∈ pick → Sp n ts A r[j])
theorem walk_fin (w : Web n ts) {r pick : List Nat} (hr : Pm ts.length r) : ∀ {i : Nat} {F : List Nat}, i ≤ r.length → InvT n ts r i F → Fin n ts r pick i F (walkT n ts r pick i F)
  | 0, F, _, I => ⟨I, fun x hx => hx, fun x hx => .inl hx, fun j _ hj => absurd hj (Nat.not_lt_zero _)⟩
  | i + 1, F, hle, I => by
    have hi : i < r.length := hle
    obtain ⟨I', a1, a2, a3, a4⟩ := inv_step w hr (pick := pick) hi I
    have ih := walk_fin w hr (pick := pick) (Nat.le_of_lt hi) I'
    show Fin n ts r pick (i + 1) F (walkT n ts r pick i (stepT n ts r pick i F))
    generalize hG : walkT n ts r pick i (stepT n ts r pick i F) = G at ih
    obtain ⟨s1, s2, s3⟩ := split3 hr.nd hi
    have inG : r[i] ∈ G → r[i] ∈ stepT n ts r pick i F := fun z => (ih.up _ z).resolve_right s1
    refine ⟨ih.inv, fun x hx => ih.sub x (a1 x hx), fun x hx => ?_, fun j hj hji => ?_⟩
    · rw [take_next hi]
      rcases ih.up x hx with h | h
      · rcases a2 x h with h | h
        · exact .inl h
        · exact .inr (List.mem_append.mpr (.inr (List.mem_singleton.mpr h)))
      · exact .inr (List.mem_append.mpr (.inl h))
    · by_cases e : j = i
      · subst e
        refine ⟨F, fun x => ⟨fun hx => ⟨ih.sub x (a1 x hx), I.dr x hx⟩, fun hx => ?_⟩, fun z => a3 (inG z), fun z hp => a4 (fun q => z (ih.sub _ q)) hp⟩
        rcases ih.up x hx.1 with h | h
        · rcases a2 x h with h | h
          · exact h
          · rw [h] at hx; exact absurd hx.2 s2
        · exact absurd hx.2 (s3 x h)
      · exact ih.at' j hj (by omega)
theorem start_inv {r : List Nat} (hr : Pm ts.length r) : InvT n ts r r.length [] :=
  ⟨by simp, (fun x hx => by cases hx), rfl, fun k hk => sp_mem (by rw [List.take_length]; exact hr.has hk)⟩
theorem span_rk (w : Web n ts) {F : List Nat} (nd : F.Nodup) (hin : inT ts.length F) (h : ∀ k, k < ts.length → Sp n ts F k) : rk n ts F = whole n ts := by
  have key : ∀ l : List Nat, (∀ x ∈ l, x < ts.length) → rk n ts (F ++ l) = rk n ts F := by
    intro l
    induction l using snoc_ind with
    | h0 => intro _; rw [List.append_nil]
    | h1 l x ih =>
      intro hl
      have ok : okP n ts (F ++ l ++ [x]) := ok_of w fun y hy => by
        simp only [List.mem_append, List.mem_singleton] at hy
        rcases hy with (hy | hy) | hy
        · exact hin y hy
        · exact hl y (List.mem_append.mpr (.inl hy))
        · rw [hy]; exact hl x (by simp)
      rw [← List.append_assoc, (rk_add ok).1 (sp_mono (fun j hj => List.mem_append.mpr (.inl hj)) (h x (hl x (by simp)))), ih fun y hy => hl y (List.mem_append.mpr (.inl hy))]
  have hp := perm_rest nd (List.nodup_range (n := ts.length)) fun k hk => List.mem_range.mpr (hin k hk)
  unfold whole
  rw [rk_perm hp (ok_of w fun x hx => List.mem_range.mp hx), key _ fun x hx => List.mem_range.mp (List.mem_filter.mp hx).1]
theorem walk_tree (w : Web n ts) {r : List Nat} (hr : Pm ts.length r) (pick : List Nat) : treeT n ts r pick ∈ trees n ts := by
  have f := walk_fin w hr (pick := pick) (Nat.le_refl _) (start_inv (n := n) hr)
  unfold treeT
  generalize walkT n ts r pick r.length [] = G at f
  have hin : inT ts.length G := fun x hx => pm_in hr (List.mem_of_mem_drop (f.inv.dr x hx))
  have hs : ∀ k, k < ts.length → Sp n ts G k := fun k hk => by
    have := f.inv.sp k hk
    rw [List.take_zero, List.append_nil] at this
    exact this
  have e := span_rk w f.inv.nd hin hs
  have hp := sortL_perm ltN G
  have ok := ok_of w hin
  rw [trees_mem]
  refine ⟨sort_sub f.inv.nd hin, ?_, ?_⟩
  · rw [hp.length_eq, ← f.inv.ind, e]
  · rw [rk_perm hp (okP_perm hp.symm ok), e]
theorem walk_mem {r pick : List Nat} {x : Nat} : x ∈ treeT n ts r pick ↔ x ∈ walkT n ts r pick r.length [] := (sortL_perm ltN _).mem_iff
/-! ### inner, outer, in words of joining -/
theorem mkS_iff (w : Web n ts) {T : List Nat} (hT : T ∈ trees n ts) {g c : Nat} (hg : g ∈ T) (hc : c < ts.length) : mkS n ts T g c = true ↔ ¬ Sp n ts (less T g) c := by
  obtain ⟨a, b, c', d, e⟩ := tree_facts w hT
  have hl := less_len a hg
  have hi := (indep a c' d hg).1
  have ok : okP n ts (less T g ++ [c]) := ok_of w fun y hy => by
    rcases List.mem_append.mp hy with hy | hy
    · exact b y (less_mem.mp hy).1
    · rw [List.mem_singleton.mp hy]; exact hc
  obtain ⟨p, q⟩ := rk_add ok
  unfold mkS Sp
  rw [decide_eq_true_eq, chg_less]
  constructor
  · intro h r
    rw [p r] at h
    omega
  · intro h
    rw [q h]
    omega
theorem inner_iff (w : Web n ts) {r : List Nat} (hr : Pm ts.length r) {T : List Nat} (hT : T ∈ trees n ts) {j : Nat} (hj : j < r.length) (ht : r[j] ∈ T) : r[j] ∈ innerL n ts T r ↔ ∀ c ∈ r.take j, c ∉ T → Sp n ts (less T r[j]) c := by
  unfold innerL
  rw [List.mem_filter, hr.nd.idxOf_getElem j hj]
  constructor
  · rintro ⟨_, h⟩ c hc hn
    rw [Bool.not_eq_true', List.any_eq_false] at h
    have h1 := h c (List.mem_filter.mpr ⟨hc, by simp [hn]⟩)
    exact Classical.byContradiction fun z => h1 ((mkS_iff w hT ht (pm_in hr (List.mem_of_mem_take hc))).mpr z)
  · intro h
    refine ⟨ht, ?_⟩
    rw [Bool.not_eq_true', List.any_eq_false]
    intro c hc z
    obtain ⟨hc1, hc2⟩ := List.mem_filter.mp hc
    exact (mkS_iff w hT ht (pm_in hr (List.mem_of_mem_take hc1))).mp z (h c hc1 (by simpa using hc2))
theorem outer_iff (w : Web n ts) {r : List Nat} (hr : Pm ts.length r) {T : List Nat} (hT : T ∈ trees n ts) {j : Nat} (hj : j < r.length) (ht : r[j] ∉ T) : r[j] ∈ outerL n ts T r ↔ ∀ g ∈ r.take j, g ∈ T → Sp n ts (less T g) r[j] := by
  have hm := pm_in hr (List.getElem_mem hj)
  unfold outerL
  rw [List.mem_filter, hr.nd.idxOf_getElem j hj]
  constructor
  · rintro ⟨_, h⟩ g hg hgT
    rw [Bool.and_eq_true, Bool.not_eq_true', Bool.not_eq_true', List.any_eq_false] at h
    have h1 := h.2 g (List.mem_filter.mpr ⟨hg, by simp [hgT]⟩)
    exact Classical.byContradiction fun z => h1 ((mkS_iff w hT hgT hm).mpr z)
  · intro h
    refine ⟨List.mem_range.mpr hm, ?_⟩
    rw [Bool.and_eq_true, Bool.not_eq_true', Bool.not_eq_true', List.any_eq_false]
    refine ⟨by simp [ht], fun g hg z => ?_⟩
    obtain ⟨hg1, hg2⟩ := List.mem_filter.mp hg
    rw [decide_eq_true_eq] at hg2
    exact (mkS_iff w hT hg2 hm).mp z (h g hg1 hg2)
/-! ### the stretch -/
def lies (n : Nat) (ts : List (Int × Int)) (r pick T : List Nat) : Prop := (∀ k ∈ T, k ∈ pick ∨ k ∈ innerL n ts T r) ∧ ∀ k ∈ pick, k ∈ T ∨ k ∈ outerL n ts T r
theorem walk_lies (w : Web n ts) {r : List Nat} (hr : Pm ts.length r) {pick : List Nat} (hp : inT ts.length pick) : lies n ts r pick (treeT n ts r pick) := by
  have hT := walk_tree w hr pick
  have f := walk_fin w hr (pick := pick) (Nat.le_refl _) (start_inv (n := n) hr)
  have hm : ∀ x, x ∈ treeT n ts r pick ↔ x ∈ walkT n ts r pick r.length [] := fun x => walk_mem
  generalize walkT n ts r pick r.length [] = G at f hm
  generalize treeT n ts r pick = T at hT hm
  obtain ⟨a, b, c', d, e⟩ := tree_facts w hT
  refine ⟨fun k hk => ?_, fun k hk => ?_⟩
  · obtain ⟨j, hj, rfl⟩ := List.getElem_of_mem (hr.has (b k hk))
    obtain ⟨A, hA, h1, _⟩ := f.at' j hj hj
    rcases h1 ((hm _).mp hk) with h | h
    · exact .inl h
    · refine .inr ((inner_iff w hr hT hj hk).mpr fun c hc hn => ?_)
      refine Classical.byContradiction fun z => h ?_
      have hx := ex_tree w hT hk (pm_in hr (List.mem_of_mem_take hc)) hn z
      refine sp_mono (fun y hy => ?_) (spans w hx (b _ hk))
      have hy := (sortL_perm ltN _).mem_iff.mp hy
      rw [chg_less] at hy
      rcases List.mem_append.mp hy with hy | hy
      · obtain ⟨y1, y2⟩ := less_mem.mp hy
        obtain ⟨i, hi, ei⟩ := List.getElem_of_mem (hr.has (b y y1))
        by_cases q : i < j
        · refine List.mem_append.mpr (.inr ?_)
          rw [← ei]
          exact List.mem_take_iff_getElem.mpr ⟨i, by omega, rfl⟩
        · have : j < i := by
            rcases Nat.lt_or_ge j i with q2 | q2
            · exact q2
            · have : i = j := by omega
              subst this
              exact absurd ei.symm y2
          refine List.mem_append.mpr (.inl ((hA y).mpr ⟨(hm y).mp y1, ?_⟩))
          rw [← ei]
          exact List.mem_drop_iff_getElem.mpr ⟨i - (j + 1), by omega, by congr 1; omega⟩
      · rw [List.mem_singleton.mp hy]
        exact List.mem_append.mpr (.inr hc)
  · by_cases hkT : k ∈ T
    · exact .inl hkT
    · obtain ⟨j, hj, rfl⟩ := List.getElem_of_mem (hr.has (hp k hk))
      obtain ⟨A, hA, _, h2⟩ := f.at' j hj hj
      have hs := h2 (fun z => hkT ((hm _).mpr z)) hk
      refine .inr ((outer_iff w hr hT hj hkT).mpr fun g hg hgT => ?_)
      refine sp_mono (fun y hy => ?_) hs
      obtain ⟨y1, y2⟩ := (hA y).mp hy
      refine less_mem.mpr ⟨(hm y).mpr y1, fun e => ?_⟩
      subst e
      exact (split3 hr.nd hj).2.2 y hg y2
/-- in a tree, what a tie's ends hang together by -/
theorem cyc (w : Web n ts) {T : List Nat} (hT : T ∈ trees n ts) {M : List Nat} (m1 : ∀ k ∈ M, k ∈ T) (m2 : M.Nodup) {t : Nat} (m3 : Sp n ts M t) {g : Nat} (hg : g ∈ M) (m4 : ¬ Sp n ts (less M g) t) (r : Sp n ts (less T g) t) : False := by
  obtain ⟨a2, b2, c2, d2, e2⟩ := tree_facts w hT
  have hsub : ∀ k ∈ less M g, k ∈ less T g := fun k hk => less_mem.mpr ⟨m1 k (less_mem.mp hk).1, (less_mem.mp hk).2⟩
  have hM : Rel n ts (less M g ++ [g]) (tN ts t).1 (tN ts t).2 := by rw [← rel_perm (less_perm m2 hg)]; exact m3
  rw [rel_snoc] at hM
  have E := rel_eqv n ts (less T g)
  have up : ∀ x y, Rel n ts (less M g) x y → Rel n ts (less T g) x y := fun x y q => rel_mono hsub q
  have key : Rel n ts (less T g) (tN ts g).1 (tN ts g).2 := by
    rcases hM with q | ⟨q1, q2⟩
    · exact absurd q m4
    · rcases q1 with q1 | q1
      · rcases q2 with q2 | q2
        · exact absurd ((rel_eqv n ts (less M g)).t _ _ _ q1 ((rel_eqv n ts (less M g)).s _ _ q2)) m4
        · exact E.t _ _ _ (E.s _ _ (up _ _ q1)) (E.t _ _ _ r (up _ _ q2))
      · rcases q2 with q2 | q2
        · exact E.s _ _ (E.t _ _ _ (E.s _ _ (up _ _ q1)) (E.t _ _ _ r (up _ _ q2)))
        · exact absurd ((rel_eqv n ts (less M g)).t _ _ _ q1 ((rel_eqv n ts (less M g)).s _ _ q2)) m4
  exact (indep a2 c2 d2 (m1 g hg)).2 key
theorem lies_half (w : Web n ts) {r : List Nat} (hr : Pm ts.length r) {pick S T : List Nat} (hS : S ∈ trees n ts) (hT : T ∈ trees n ts) (lS : lies n ts r pick S) (lT : lies n ts r pick T) {j : Nat} (hj : j < r.length)
    (hl : ∀ x ∈ r.drop (j + 1), x ∈ S ↔ x ∈ T) (h1 : r[j] ∈ S) : r[j] ∈ T := by
  obtain ⟨a1, b1, c1, d1, e1⟩ := tree_facts w hS
  obtain ⟨a2, b2, c2, d2, e2⟩ := tree_facts w hT
  have hI := (indep a1 c1 d1 h1).2
  have pos : ∀ y, y ∈ T → y ≠ r[j] → y ∈ r.take j ∨ y ∈ r.drop (j + 1) := fun y hy hne => by
    obtain ⟨i, hi, ei⟩ := List.getElem_of_mem (hr.has (b2 y hy))
    by_cases q : i < j
    · left
      rw [← ei]
      exact List.mem_take_iff_getElem.mpr ⟨i, by omega, rfl⟩
    · have : j < i := by
        rcases Nat.lt_or_ge j i with q2 | q2
        · exact q2
        · have : i = j := by omega
          subst this
          exact absurd ei.symm hne
      right
      rw [← ei]
      exact List.mem_drop_iff_getElem.mpr ⟨i - (j + 1), by omega, by congr 1; omega⟩
  refine Classical.byContradiction fun hn => hI ?_
  have ne : ∀ x ∈ r.drop (j + 1), x ≠ r[j] := fun x hx e => (split3 hr.nd hj).2.1 (e ▸ hx)
  by_cases hp : r[j] ∈ pick
  · have ho := (outer_iff w hr hT hj hn).mp ((lT.2 _ hp).resolve_left hn)
    obtain ⟨M, m1, m2, m3, m4⟩ := fewest (n := n) (ts := ts) T.length (Nat.le_refl _) a2 (spans w hT (b1 _ h1))
    refine sp_mono (fun y hy => ?_) m3
    have hyT := m1 y hy
    rcases pos y hyT (fun e => hn (e ▸ hyT)) with h | h
    · exact (cyc w hT m1 m2 m3 hy (m4 y hy) (ho y h hyT)).elim
    · exact less_mem.mpr ⟨(hl y h).mpr hyT, ne y h⟩
  · have hi := (inner_iff w hr hS hj h1).mp ((lS.1 _ h1).resolve_left hp)
    refine sp_le (fun y hy => ?_) (spans w hT (b1 _ h1))
    rcases pos y hy (fun e => hn (e ▸ hy)) with h | h
    · by_cases q : y ∈ S
      · exact sp_mem (less_mem.mpr ⟨q, fun e => hn (e ▸ hy)⟩)
      · exact hi y h q
    · exact sp_mem (less_mem.mpr ⟨(hl y h).mpr hy, ne y h⟩)
theorem lies_one (w : Web n ts) {r : List Nat} (hr : Pm ts.length r) {pick S T : List Nat} (hS : S ∈ trees n ts) (hT : T ∈ trees n ts) (lS : lies n ts r pick S) (lT : lies n ts r pick T) : S = T := by
  have key : ∀ d j, j + d = r.length → ∀ x ∈ r.drop j, x ∈ S ↔ x ∈ T := by
    intro d
    induction d with
    | zero => intro j h x hx; rw [List.drop_eq_nil_of_le (by omega)] at hx; cases hx
    | succ d ih =>
      intro j h x hx
      have hj : j < r.length := by omega
      have hl := ih (j + 1) (by omega)
      rw [drop_next hj] at hx
      rcases List.mem_cons.mp hx with rfl | hx
      · exact ⟨fun z => lies_half w hr hS hT lS lT hj hl z, fun z => lies_half w hr hT hS lT lS hj (fun x hx => (hl x hx).symm) z⟩
      · exact hl x hx
  have hm : ∀ x, x ∈ S ↔ x ∈ T := fun x => by
    obtain ⟨a1, b1, _⟩ := tree_facts w hS
    obtain ⟨a2, b2, _⟩ := tree_facts w hT
    by_cases q : x < ts.length
    · exact key r.length 0 (by omega) x (by rw [List.drop_zero]; exact hr.has q)
    · exact ⟨fun z => absurd (b1 x z) q, fun z => absurd (b2 x z) q⟩
  obtain ⟨s1, _, _⟩ := trees_mem.mp hS
  obtain ⟨s2, _, _⟩ := trees_mem.mp hT
  exact srt_unique ltN_sto (ris_srt (sub_ris s1)) (ris_srt (sub_ris s2)) ((List.perm_ext_iff_of_nodup (s1.nodup List.nodup_range) (s2.nodup List.nodup_range)).mpr hm)
end
end VL
/-! plain law, 40: sums of polynomials over all picks; stretches -/
namespace VL
open PySem PySem.W L2
/-! ### alike sums -/
def Eqp (a b : List Mn) : Prop := ∀ k, coef k a = coef k b
theorem Eqp.rfl' (a : List Mn) : Eqp a a := fun _ => rfl
theorem Eqp.sy {a b : List Mn} (h : Eqp a b) : Eqp b a := fun k => (h k).symm
theorem Eqp.tr {a b c : List Mn} (h : Eqp a b) (h2 : Eqp b c) : Eqp a c := fun k => (h k).trans (h2 k)
theorem Eqp.app {a b c d : List Mn} (h : Eqp a b) (h2 : Eqp c d) : Eqp (a ++ c) (b ++ d) := fun k => by rw [coef_append, coef_append, h k, h2 k]
theorem Eqp.mul {a b c d : List Mn} (h : Eqp a b) (h2 : Eqp c d) : Eqp (prodT a c) (prodT b d) := fun k => prod_congr h h2 k
theorem eqp_comm (a b : List Mn) : Eqp (prodT a b) (prodT b a) := fun k => coef_prod_comm k b a
theorem eqp_poly (a : List Mn) : Eqp (polyOf a) a := fun k => coef_polyOf k a
theorem eqp_swap (a b : List Mn) : Eqp (a ++ b) (b ++ a) := fun k => by rw [coef_append, coef_append]; omega
theorem eqp_mulP (a b : List Mn) : Eqp (mulP a b) (prodT a b) := eqp_poly _
theorem eqp_nilr (a : List Mn) : Eqp (prodT a []) [] := fun k => by
  have : prodT a [] = [] := by
    induction a with
    | nil => rfl
    | cons t a ih => rw [prodT_cons, ih]; rfl
  rw [this]
theorem eqp_dist (a b c : List Mn) : Eqp (prodT a (b ++ c)) (prodT a b ++ prodT a c) :=
  (eqp_comm _ _).tr (by rw [prodT_app]; exact (eqp_comm _ _).app (eqp_comm _ _))
/-- an int's sum over a list -/
def sumL {α : Type} (f : α → Int) (l : List α) : Int := (l.map f).sum
theorem sumL_cons {α : Type} (f : α → Int) (x : α) (l : List α) : sumL f (x :: l) = f x + sumL f l := by unfold sumL; rw [List.map_cons, List.sum_cons]
theorem sumL_app {α : Type} (f : α → Int) : ∀ l m : List α, sumL f (l ++ m) = sumL f l + sumL f m
  | [], m => by rw [List.nil_append]; show _ = 0 + _; omega
  | x :: l, m => by rw [List.cons_append, sumL_cons, sumL_cons, sumL_app f l m]; omega
theorem sumL_congr {α : Type} {f g : α → Int} : ∀ {l : List α}, (∀ x ∈ l, f x = g x) → sumL f l = sumL g l
  | [], _ => rfl
  | x :: l, h => by rw [sumL_cons, sumL_cons, h x List.mem_cons_self, sumL_congr fun y hy => h y (List.mem_cons_of_mem _ hy)]
theorem sumL_zero {α : Type} {f : α → Int} {l : List α} (h : ∀ x ∈ l, f x = 0) : sumL f l = 0 := by
  rw [sumL_congr (g := fun _ => 0) h]
  induction l with
  | nil => rfl
  | cons x l ih => rw [sumL_cons, ih fun y hy => h y (List.mem_cons_of_mem _ hy)]; rfl
theorem sumL_add {α : Type} (f g : α → Int) : ∀ l : List α, sumL (fun x => f x + g x) l = sumL f l + sumL g l
  | [] => rfl
  | x :: l => by rw [sumL_cons, sumL_cons, sumL_cons, sumL_add f g l]; omega
theorem sumL_swap {α β : Type} (f : α → β → Int) (m : List β) : ∀ l : List α, sumL (fun x => sumL (fun y => f x y) m) l = sumL (fun y => sumL (fun x => f x y) l) m
  | [] => by
    show 0 = _
    rw [sumL_zero]
    intro y _
    rfl
  | x :: l => by
    rw [sumL_cons, sumL_swap f m l, ← sumL_add]
    exact sumL_congr fun y _ => (sumL_cons (fun x => f x y) x l).symm
theorem sumL_map {α β : Type} (f : β → Int) (g : α → β) (l : List α) : sumL f (l.map g) = sumL (fun x => f (g x)) l := by unfold sumL; rw [List.map_map]; rfl
theorem sumL_perm {α : Type} (f : α → Int) {l m : List α} (h : l.Perm m) : sumL f l = sumL f m := sum_perm (h.map f)
theorem sumL_one {α : Type} [DecidableEq α] {f : α → Int} {x : α} : ∀ {l : List α}, l.Nodup → x ∈ l → (∀ y ∈ l, y ≠ x → f y = 0) → sumL f l = f x
  | [], _, h, _ => by cases h
  | y :: l, nd, h, h0 => by
    rw [List.nodup_cons] at nd
    rw [sumL_cons]
    by_cases q : y = x
    · subst q
      rw [sumL_zero (l := l) fun z hz => h0 z (List.mem_cons_of_mem _ hz) fun e => nd.1 (e ▸ hz)]
      omega
    · rw [h0 y List.mem_cons_self q, sumL_one nd.2 ((List.mem_cons.mp h).resolve_left fun e => q e.symm) fun z hz => h0 z (List.mem_cons_of_mem _ hz)]
      omega
theorem coef_flat {α : Type} (k : Int × Int) (f : α → List Mn) : ∀ l : List α, coef k (l.flatMap f) = sumL (fun x => coef k (f x)) l
  | [] => rfl
  | x :: l => by rw [List.flatMap_cons, coef_append, sumL_cons, coef_flat k f l]
theorem eqp_flat {α : Type} {f g : α → List Mn} {l : List α} (h : ∀ x ∈ l, Eqp (f x) (g x)) : Eqp (l.flatMap f) (l.flatMap g) := fun k => by
  rw [coef_flat, coef_flat]
  exact sumL_congr fun x hx => h x hx k
theorem eqp_pull {α : Type} (a : List Mn) (f : α → List Mn) : ∀ l : List α, Eqp (l.flatMap fun x => prodT a (f x)) (prodT a (l.flatMap f))
  | [] => (eqp_nilr a).sy
  | x :: l => by
    rw [List.flatMap_cons, List.flatMap_cons]
    exact ((Eqp.rfl' _).app (eqp_pull a f l)).tr (eqp_dist _ _ _).sy
/-! ### a weight for each tie -/
def Wt (w : Nat → Bool → List Mn) (p : List Nat) : List Nat → List Mn
  | [] => one1
  | e :: l => prodT (w e (decide (e ∈ p))) (Wt w p l)
def WsP (w : Nat → List Mn) : List Nat → List Mn
  | [] => one1
  | e :: l => prodT (w e) (WsP w l)
theorem Wt_ext {w : Nat → Bool → List Mn} {p q : List Nat} : ∀ {l : List Nat}, (∀ e ∈ l, (e ∈ p ↔ e ∈ q)) → Wt w p l = Wt w q l
  | [], _ => rfl
  | e :: l, h => by
    unfold Wt
    rw [Wt_ext fun x hx => h x (List.mem_cons_of_mem _ hx)]
    congr 2
    exact decide_eq_decide.mpr (h e List.mem_cons_self)
/-- over all picks: the product of the sums -/
theorem Wt_sum (w : Nat → Bool → List Mn) : ∀ {l : List Nat}, l.Nodup → Eqp ((subs l).flatMap fun p => Wt w p l) (WsP (fun e => w e false ++ w e true) l)
  | [], _ => Eqp.rfl' _
  | e :: l, nd => by
    rw [List.nodup_cons] at nd
    have ih := Wt_sum w nd.2
    show Eqp ((subs l ++ (subs l).map (e :: ·)).flatMap fun p => Wt w p (e :: l)) (prodT (w e false ++ w e true) (WsP (fun e => w e false ++ w e true) l))
    rw [List.flatMap_append, prodT_app]
    refine Eqp.app ?_ ?_
    · refine Eqp.tr (eqp_flat (g := fun p => prodT (w e false) (Wt w p l)) fun p hp => ?_) ((eqp_pull _ _ _).tr ((Eqp.rfl' _).mul ih))
      have : decide (e ∈ p) = false := decide_eq_false fun z => nd.1 ((subs_mem.mp hp).subset z)
      show Eqp (prodT (w e (decide (e ∈ p))) (Wt w p l)) _
      rw [this]
      exact Eqp.rfl' _
    · rw [List.flatMap_map]
      refine Eqp.tr (eqp_flat (g := fun p => prodT (w e true) (Wt w p l)) fun p hp => ?_) ((eqp_pull _ _ _).tr ((Eqp.rfl' _).mul ih))
      have : decide (e ∈ e :: p) = true := decide_eq_true List.mem_cons_self
      show Eqp (prodT (w e (decide (e ∈ e :: p))) (Wt w (e :: p) l)) _
      rw [this, Wt_ext (q := p) fun x hx => ?_]
      · exact Eqp.rfl' _
      · rw [List.mem_cons]
        exact ⟨fun z => z.resolve_left fun q => nd.1 (q ▸ hx), .inr⟩
theorem WsP_congr {u v : Nat → List Mn} : ∀ {l : List Nat}, (∀ e ∈ l, Eqp (u e) (v e)) → Eqp (WsP u l) (WsP v l)
  | [], _ => Eqp.rfl' _
  | e :: l, h => (h e List.mem_cons_self).mul (WsP_congr fun x hx => h x (List.mem_cons_of_mem _ hx))
/-! ### powers -/
def XL : List Mn := [((0, 0), -1), ((1, 0), 1)]
def YL : List Mn := [((0, 0), -1), ((0, 1), 1)]
def mo (a b : Nat) : List Mn := prodT (pwr XL a) (pwr YL b)
theorem eqp_pwr (a : List Mn) (n : Nat) : Eqp (pwr a (n + 1)) (prodT (pwr a n) a) := eqp_mulP _ _
theorem eqp_assoc (a b c : List Mn) : Eqp (prodT (prodT a b) c) (prodT a (prodT b c)) := by rw [prodT_assoc]; exact Eqp.rfl' _
theorem eqp_one (a : List Mn) : Eqp (prodT one1 a) a := by rw [prodT_one]; exact Eqp.rfl' _
theorem mo_x (a b : Nat) : Eqp (prodT XL (mo a b)) (mo (a + 1) b) := by
  unfold mo
  refine (eqp_assoc _ _ _).sy.tr (Eqp.mul ?_ (Eqp.rfl' _))
  exact (eqp_comm _ _).tr (eqp_pwr XL a).sy
theorem mo_y (a b : Nat) : Eqp (prodT YL (mo a b)) (mo a (b + 1)) := by
  unfold mo
  refine (eqp_comm _ _).tr ((eqp_assoc _ _ _).tr ((Eqp.rfl' _).mul ?_))
  exact (eqp_pwr YL b).sy
theorem mo_0 : Eqp (mo 0 0) one1 := by
  unfold mo
  show Eqp (prodT one1 one1) one1
  exact eqp_one _
/-- a single term -/
def t1 (a b : Nat) : List Mn := [(((a : Int), (b : Int)), 1)]
theorem t1_x (a b : Nat) : Eqp (prodT [((1, 0), 1)] (t1 a b)) (t1 (a + 1) b) := by
  have : prodT [((1, 0), 1)] (t1 a b) = t1 (a + 1) b := by
    unfold t1 prodT mulM
    simp
    omega
  rw [this]
  exact Eqp.rfl' _
theorem t1_y (a b : Nat) : Eqp (prodT [((0, 1), 1)] (t1 a b)) (t1 a (b + 1)) := by
  have : prodT [((0, 1), 1)] (t1 a b) = t1 a (b + 1) := by
    unfold t1 prodT mulM
    simp
    omega
  rw [this]
  exact Eqp.rfl' _
theorem xl_one : Eqp (XL ++ one1) [((1, 0), 1)] := fun k => by
  rw [coef_append]
  unfold XL one1
  simp only [coef_cons]
  have : coef k [] = 0 := rfl
  rw [this]
  by_cases h1 : ((0 : Int), (0 : Int)) = k <;> by_cases h2 : ((1 : Int), (0 : Int)) = k <;> simp only [h1, h2, if_true, if_false] <;> omega
theorem yl_one : Eqp (one1 ++ YL) [((0, 1), 1)] := fun k => by
  rw [coef_append]
  unfold YL one1
  simp only [coef_cons]
  have : coef k [] = 0 := rfl
  rw [this]
  by_cases h1 : ((0 : Int), (0 : Int)) = k <;> by_cases h2 : ((0 : Int), (1 : Int)) = k <;> simp only [h1, h2, if_true, if_false] <;> omega
/-! ### ranks within a stretch -/
section
variable {n : Nat} {ts : List (Int × Int)}
theorem rk_app_le (n : Nat) (ts : List (Int × Int)) (p : List Nat) : ∀ q : List Nat, rk n ts (p ++ q) ≤ rk n ts p + q.length := by
  intro q
  induction q generalizing p with
  | nil => rw [List.append_nil]; omega
  | cons x q ih =>
    have h := ih (p ++ [x])
    rw [List.append_assoc] at h
    have h2 := rk_step n ts p x
    rw [List.length_cons]
    simp only [List.cons_append, List.nil_append] at h
    omega
theorem rk_spanned {p : List Nat} : ∀ {q : List Nat}, okP n ts (p ++ q) → (∀ e ∈ q, Sp n ts p e) → rk n ts (p ++ q) = rk n ts p := by
  intro q
  induction q generalizing p with
  | nil => intro _ _; rw [List.append_nil]
  | cons x q ih =>
    intro ok h
    have e1 : p ++ x :: q = (p ++ [x]) ++ q := by simp
    rw [e1] at ok ⊢
    rw [ih ok fun e he => sp_mono (fun j hj => List.mem_append.mpr (.inl hj)) (h e (List.mem_cons_of_mem _ he))]
    exact (rk_add (okP_app ok)).1 (h x List.mem_cons_self)
theorem both_len {p q : List Nat} (hp : p.Nodup) (hq : q.Nodup) : (p.filter fun e => decide (e ∈ q)).length = (q.filter fun e => decide (e ∈ p)).length :=
  ((List.perm_ext_iff_of_nodup (hp.filter _) (hq.filter _)).mpr fun a => by simp [List.mem_filter, and_comm]).length_eq
theorem split_len (p : List Nat) (f : Nat → Bool) : (p.filter f).length + (p.filter fun e => !f e).length = p.length := by
  induction p with
  | nil => rfl
  | cons x p ih =>
    rw [List.filter_cons, List.filter_cons]
    cases f x <;> simp <;> omega
theorem lies_rk (w : Web n ts) {r : List Nat} (hr : Pm ts.length r) {pick T : List Nat} (hT : T ∈ trees n ts) (nd : pick.Nodup) (hp : inT ts.length pick) (l : lies n ts r pick T) :
    whole n ts - rk n ts pick = (T.filter fun e => !decide (e ∈ pick)).length ∧ pick.length - rk n ts pick = (pick.filter fun e => !decide (e ∈ T)).length := by
  obtain ⟨a, b, c, d, e⟩ := tree_facts w hT
  have hSm : ∀ k, k ∈ (T.filter fun e => decide (e ∈ pick)) ↔ k ∈ T ∧ k ∈ pick := fun k => by simp [List.mem_filter]
  have hSn : (T.filter fun e => decide (e ∈ pick)).Nodup := a.filter _
  have l1 := split_len T fun e => decide (e ∈ pick)
  have l2 := split_len pick fun e => decide (e ∈ T)
  have l3 := both_len a nd
  generalize (T.filter fun e => decide (e ∈ pick)) = S at *
  have hST : ∀ k ∈ S, k ∈ T := fun k hk => ((hSm k).mp hk).1
  have hSp : ∀ k ∈ S, k ∈ pick := fun k hk => ((hSm k).mp hk).2
  have rS : rk n ts S = S.length := by
    have pm := perm_rest hSn a hST
    have h1 := rk_perm pm c
    have h2 := rk_app_le n ts S (T.filter fun k => !decide (k ∈ S))
    have h3 := pm.length_eq
    rw [List.length_append] at h3
    have h4 := rk_le_len n ts S
    omega
  have sp : ∀ t ∈ pick, Sp n ts S t := fun t ht => by
    by_cases q : t ∈ T
    · exact sp_mem ((hSm t).mpr ⟨q, ht⟩)
    · have ho := (l.2 t ht).resolve_left q
      obtain ⟨M, m1, m2, m3, m4⟩ := fewest (n := n) (ts := ts) T.length (Nat.le_refl _) a (spans w hT (hp t ht))
      refine sp_mono (fun g hg => ?_) m3
      refine (hSm g).mpr ⟨m1 g hg, ?_⟩
      refine Classical.byContradiction fun hn => ?_
      have hi := (l.1 g (m1 g hg)).resolve_left hn
      obtain ⟨i, hi', rfl⟩ := List.getElem_of_mem (hr.has (b g (m1 g hg)))
      obtain ⟨j, hj', rfl⟩ := List.getElem_of_mem (hr.has (hp t ht))
      have hi2 := (inner_iff w hr hT hi' (m1 _ hg)).mp hi
      have ho2 := (outer_iff w hr hT hj' q).mp ho
      have ne : i ≠ j := fun e => q (by have := m1 _ hg; simpa only [e] using this)
      refine cyc w hT m1 m2 m3 hg (m4 _ hg) ?_
      rcases Nat.lt_or_ge i j with h | h
      · exact ho2 _ (List.mem_take_iff_getElem.mpr ⟨i, by omega, rfl⟩) (m1 _ hg)
      · exact hi2 _ (List.mem_take_iff_getElem.mpr ⟨j, by omega, rfl⟩) q
  have rp : rk n ts pick = S.length := by
    have pm := perm_rest hSn nd hSp
    have ok := ok_of w hp
    rw [rk_perm pm ok, rk_spanned (okP_perm pm ok) fun t ht => sp t (List.mem_filter.mp ht).1, rS]
  omega
/-! ### the sum over all trees is the one over all picks -/
def wTr (n : Nat) (ts : List (Int × Int)) (r T : List Nat) (e : Nat) (b : Bool) : List Mn :=
  if e ∈ T then (if b = true then one1 else if e ∈ innerL n ts T r then XL else []) else (if b = true then (if e ∈ outerL n ts T r then YL else []) else one1)
theorem Wt_lies {r T p : List Nat} : ∀ {l : List Nat}, (∀ e ∈ l, e ∈ T → e ∈ p ∨ e ∈ innerL n ts T r) → (∀ e ∈ l, e ∈ p → e ∈ T ∨ e ∈ outerL n ts T r) →
    Eqp (Wt (wTr n ts r T) p l) (mo (l.filter fun e => decide (e ∈ T) && !decide (e ∈ p)).length (l.filter fun e => decide (e ∈ p) && !decide (e ∈ T)).length)
  | [], _, _ => mo_0.sy
  | e :: l, h1, h2 => by
    have ih := Wt_lies (l := l) (fun x hx => h1 x (List.mem_cons_of_mem _ hx)) fun x hx => h2 x (List.mem_cons_of_mem _ hx)
    have a1 := h1 e List.mem_cons_self
    have a2 := h2 e List.mem_cons_self
    show Eqp (prodT (wTr n ts r T e (decide (e ∈ p))) (Wt (wTr n ts r T) p l)) _
    refine ((Eqp.rfl' _).mul ih).tr ?_
    rw [List.filter_cons, List.filter_cons]
    by_cases hT : e ∈ T
    · by_cases hp : e ∈ p
      · simp only [hT, hp, wTr, decide_true, if_true, Bool.not_true, Bool.and_false, Bool.false_eq_true, if_false]
        exact eqp_one _
      · have hi := (a1 hT).resolve_left hp
        simp only [hT, hp, hi, wTr, decide_true, decide_false, if_true, Bool.not_false, Bool.and_self, Bool.false_and, Bool.false_eq_true, if_false, List.length_cons]
        exact mo_x _ _
    · by_cases hp : e ∈ p
      · have hi := (a2 hp).resolve_left hT
        simp only [hT, hp, hi, wTr, decide_true, decide_false, if_true, Bool.not_false, Bool.and_self, Bool.false_and, Bool.false_eq_true, if_false, List.length_cons]
        exact mo_y _ _
      · simp only [hT, hp, wTr, decide_false, if_true, Bool.not_false, Bool.and_false, Bool.false_and, Bool.false_eq_true, if_false]
        exact eqp_one _
theorem Wt_nil {w : Nat → Bool → List Mn} {p : List Nat} : ∀ {l : List Nat} {e : Nat}, e ∈ l → w e (decide (e ∈ p)) = [] → Eqp (Wt w p l) []
  | x :: l, e, h, h0 => by
    show Eqp (prodT (w x (decide (x ∈ p))) (Wt w p l)) _
    rcases List.mem_cons.mp h with rfl | h
    · rw [h0]; exact Eqp.rfl' _
    · exact ((Eqp.rfl' _).mul (Wt_nil h h0)).tr (eqp_nilr _)
theorem Ws_tree {r T : List Nat} : ∀ l : List Nat, Eqp (WsP (fun e => wTr n ts r T e false ++ wTr n ts r T e true) l) (t1 (l.filter fun e => decide (e ∈ T) && decide (e ∈ innerL n ts T r)).length (l.filter fun e => !decide (e ∈ T) && decide (e ∈ outerL n ts T r)).length)
  | [] => Eqp.rfl' _
  | e :: l => by
    have ih := Ws_tree (r := r) (T := T) l
    show Eqp (prodT (wTr n ts r T e false ++ wTr n ts r T e true) (WsP (fun e => wTr n ts r T e false ++ wTr n ts r T e true) l)) _
    refine ((Eqp.rfl' _).mul ih).tr ?_
    rw [List.filter_cons, List.filter_cons]
    by_cases hT : e ∈ T
    · by_cases hi : e ∈ innerL n ts T r
      · simp only [hT, hi, wTr, decide_true, if_true, Bool.and_self, Bool.not_true, Bool.false_and, Bool.false_eq_true, if_false, List.length_cons]
        exact (xl_one.mul (Eqp.rfl' _)).tr (t1_x _ _)
      · simp only [hT, hi, wTr, decide_true, decide_false, if_true, Bool.and_false, Bool.not_true, Bool.false_and, Bool.false_eq_true, if_false, List.nil_append]
        exact eqp_one _
    · by_cases hi : e ∈ outerL n ts T r
      · simp only [hT, hi, wTr, decide_true, decide_false, if_true, Bool.and_self, Bool.not_false, Bool.false_and, Bool.false_eq_true, if_false, List.length_cons]
        exact (yl_one.mul (Eqp.rfl' _)).tr (t1_y _ _)
      · simp only [hT, hi, wTr, decide_false, if_true, Bool.and_false, Bool.not_false, Bool.false_and, Bool.false_eq_true, if_false, List.append_nil]
        exact eqp_one _
def SP (n : Nat) (ts : List (Int × Int)) : List Mn := (picks ts.length).flatMap fun p => mo (whole n ts - rk n ts p) (p.length - rk n ts p)
def ST (n : Nat) (ts : List (Int × Int)) (r : List Nat) : List Mn := (trees n ts).flatMap fun T => t1 (innerL n ts T r).length (outerL n ts T r).length
theorem inner_cnt (w : Web n ts) {r T : List Nat} (hT : T ∈ trees n ts) : ((List.range ts.length).filter fun e => decide (e ∈ T) && decide (e ∈ innerL n ts T r)).length = (innerL n ts T r).length := by
  obtain ⟨a, b, _⟩ := tree_facts w hT
  refine ((List.perm_ext_iff_of_nodup (List.nodup_range.filter _) (a.filter _)).mpr fun e => ?_).length_eq
  show e ∈ (List.range ts.length).filter _ ↔ e ∈ innerL n ts T r
  rw [List.mem_filter, Bool.and_eq_true, decide_eq_true_eq, decide_eq_true_eq, List.mem_range]
  constructor
  · exact fun h => h.2.2
  · intro h
    have hm : e ∈ T := (List.mem_filter.mp h).1
    exact ⟨b e hm, hm, h⟩
theorem outer_cnt {r T : List Nat} : ((List.range ts.length).filter fun e => !decide (e ∈ T) && decide (e ∈ outerL n ts T r)).length = (outerL n ts T r).length := by
  refine ((List.perm_ext_iff_of_nodup (List.nodup_range.filter _) (List.nodup_range.filter _)).mpr fun e => ?_).length_eq
  show e ∈ (List.range ts.length).filter _ ↔ e ∈ outerL n ts T r
  rw [List.mem_filter, Bool.and_eq_true, Bool.not_eq_true', decide_eq_false_iff_not, decide_eq_true_eq, List.mem_range]
  constructor
  · exact fun h => h.2.2
  · intro h
    obtain ⟨h1, h2⟩ := List.mem_filter.mp h
    rw [Bool.and_eq_true, Bool.not_eq_true', decide_eq_false_iff_not] at h2
    exact ⟨List.mem_range.mp h1, h2.1, h⟩
theorem crapo (w : Web n ts) {r : List Nat} (hr : Pm ts.length r) : Eqp (ST n ts r) (SP n ts) := fun k => by
  unfold ST SP
  rw [coef_flat, coef_flat, sumL_perm _ (picks_subs ts.length)]
  have e1 : sumL (fun T => coef k (t1 (innerL n ts T r).length (outerL n ts T r).length)) (trees n ts) = sumL (fun T => sumL (fun p => coef k (Wt (wTr n ts r T) p (List.range ts.length))) (subs (List.range ts.length))) (trees n ts) := by
    refine sumL_congr fun T hT => ?_
    rw [← coef_flat, Wt_sum _ List.nodup_range k, Ws_tree _ k, inner_cnt w hT, outer_cnt]
  rw [e1, sumL_swap]
  refine sumL_congr fun p hp => ?_
  have hs := subs_mem.mp hp
  have hin := sub_in hs
  have nd : p.Nodup := List.nodup_range.sublist hs
  have hT := walk_tree w hr p
  have hl := walk_lies w hr hin
  rw [sumL_one (trees_nd n ts) hT]
  · obtain ⟨q1, q2⟩ := lies_rk w hr hT nd hin hl
    obtain ⟨a, b, _⟩ := tree_facts w hT
    rw [Wt_lies (fun e _ h => hl.1 e h) (fun e _ h => hl.2 e h) k, q1, q2]
    congr 2
    · refine ((List.perm_ext_iff_of_nodup (List.nodup_range.filter _) (a.filter _)).mpr fun e => ?_).length_eq
      rw [List.mem_filter, List.mem_filter, Bool.and_eq_true, decide_eq_true_eq, List.mem_range]
      exact ⟨fun h => h.2, fun h => ⟨b e h.1, h⟩⟩
    · refine ((List.perm_ext_iff_of_nodup (List.nodup_range.filter _) (nd.filter _)).mpr fun e => ?_).length_eq
      rw [List.mem_filter, List.mem_filter, Bool.and_eq_true, decide_eq_true_eq, List.mem_range]
      exact ⟨fun h => h.2, fun h => ⟨hin e h.1, h⟩⟩
  · intro S hS hne
    refine Classical.byContradiction fun z => hne (lies_one w hr hS hT ?_ hl)
    obtain ⟨a, b, _⟩ := tree_facts w hS
    refine ⟨fun e he => Classical.byContradiction fun q => z ?_, fun e he => Classical.byContradiction fun q => z ?_⟩
    · rw [not_or] at q
      refine Wt_nil (e := e) (List.mem_range.mpr (b e he)) ?_ k
      unfold wTr
      rw [if_pos he, if_neg (by simp [q.1]), if_neg q.2]
    · rw [not_or] at q
      refine Wt_nil (e := e) (List.mem_range.mpr (hin e he)) ?_ k
      unfold wTr
      rw [if_neg q.1, if_pos (by simp [he]), if_neg q.2]
end
end VL
/-! plain law, 41: the polynomial by picks, its size, its worth -/
namespace VL
open PySem PySem.W L2
def part (W : Nat) (t : Mn) : List Mn := mulP [((0, 0), t.2)] (mulP (pwr XL (W - t.1.2.toNat)) (pwr YL (t.1.1.toNat - t.1.2.toNat)))
def parts (W : Nat) (l : List Mn) : List Mn := l.flatMap (part W)
def byP (n : Nat) (ts : List (Int × Int)) : List Mn := polyOf (parts (whole n ts) (tabl n ts))
theorem coef_scale (k : Int × Int) (c : Int) (us : List Mn) : coef k (prodT [((0, 0), c)] us) = c * coef k us := by
  rw [prodT_cons, coef_append, coef_row]
  have : coef k (prodT [] us) = 0 := rfl
  rw [this, Int.add_zero]
  show c * coef (k.1 - 0, k.2 - 0) us = _
  rw [Int.sub_zero, Int.sub_zero]
theorem coef_part (k : Int × Int) (W : Nat) (t : Mn) : coef k (part W t) = t.2 * coef k (mo (W - t.1.2.toNat) (t.1.1.toNat - t.1.2.toNat)) := by
  unfold part
  rw [eqp_mulP _ _ k, coef_scale, eqp_mulP _ _ k]
  rfl
theorem byP_eqp (n : Nat) (ts : List (Int × Int)) : Eqp (parts (whole n ts) (tabl n ts)) (SP n ts) := fun k => by
  unfold parts
  rw [coef_flat]
  have e1 : sumL (fun t => coef k (part (whole n ts) t)) (tabl n ts) = lin (fun a => coef k (mo (whole n ts - a.2.toNat) (a.1.toNat - a.2.toNat))) (tabl n ts) := by
    unfold lin
    exact sumL_congr fun t _ => coef_part k _ t
  rw [e1]
  unfold tabl
  rw [lin_ext (us := rowsT n ts (picks ts.length)) _ fun q => coef_polyOf q _]
  unfold SP
  rw [coef_flat]
  unfold lin rowsT
  rw [List.map_map]
  refine congrArg List.sum (List.map_congr_left fun p _ => ?_)
  show 1 * coef k _ = _
  rw [Int.one_mul]
  rfl
theorem byP_eq (n : Nat) (ts : List (Int × Int)) : byP n ts = polyOf (SP n ts) := polyOf_ext (byP_eqp n ts)
theorem byT_eq {n : Nat} {ts : List (Int × Int)} (w : Web n ts) {r : List Nat} (hr : Pm ts.length r) : polyOf (ST n ts r) = byP n ts := by
  rw [byP_eq]
  exact polyOf_ext (crapo w hr)
/-! ### sizes -/
theorem pw_ok {ps : List Mn} (h : ∀ p ∈ ps, okB 1 7 p) (hl : ps.length ≤ 4) : ∀ j, j ≤ 20 → (∀ p ∈ pwr ps j, okB j (21 * j + 1) p) ∧ (pwr ps j).length ≤ 3721
  | 0, _ => ⟨fun p hp => by rw [List.mem_singleton.mp hp]; exact ⟨by decide, by decide, by unfold Bd; decide⟩, by show 1 ≤ 3721; decide⟩
  | j + 1, hj => by
    obtain ⟨a1, a2⟩ := pw_ok h hl j (by omega)
    have h3 := prodT_ok a1 h
    have h4 : ∀ p ∈ pwr ps (j + 1), okB (j + 1) (21 * j + 1 + 7 + 14) p := polyOf_ok2 (L := 14) h3 (by
      rw [prodT_len]
      have := Nat.mul_le_mul a2 hl
      omega)
    refine ⟨fun p hp => (h4 p hp).mono (by omega) (by omega), ?_⟩
    have h5 := can_len (e := 60) (tp_can ps (j + 1)) (fun p hp => (h4 p hp).mono (show j + 1 ≤ 60 by omega) (Nat.le_refl _))
    omega
theorem XL_ok : ∀ p ∈ XL, okB 1 7 p := fun p hp => by
  unfold XL at hp
  simp only [List.mem_cons, List.not_mem_nil, or_false] at hp
  rcases hp with rfl | rfl <;> exact ⟨by decide, by decide, by unfold Bd; decide⟩
theorem YL_ok : ∀ p ∈ YL, okB 1 7 p := fun p hp => by
  unfold YL at hp
  simp only [List.mem_cons, List.not_mem_nil, or_false] at hp
  rcases hp with rfl | rfl <;> exact ⟨by decide, by decide, by unfold Bd; decide⟩
theorem XL_ok3 : ∀ p ∈ XL, okB 3 7 p := fun p hp => (XL_ok p hp).mono (by decide) (by decide)
theorem YL_ok3 : ∀ p ∈ YL, okB 3 7 p := fun p hp => (YL_ok p hp).mono (by decide) (by decide)
theorem pw8 {ps : List Mn} (h : ∀ p ∈ ps, okB 1 7 p) (hl : ps.length ≤ 4) {j : Nat} (hj : j ≤ 8) : (∀ p ∈ pwr ps j, okB 8 169 p) ∧ (pwr ps j).length ≤ 81 := by
  obtain ⟨a, _⟩ := pw_ok h hl j (by omega)
  have b : ∀ p ∈ pwr ps j, okB 8 169 p := fun p hp => (a p hp).mono (by omega) (by omega)
  exact ⟨b, can_len (tp_can ps j) b⟩
theorem mulXY {a b : Nat} (ha : a ≤ 8) (hb : b ≤ 8) : (∀ p ∈ mulP (pwr XL a) (pwr YL b), okB 16 357 p) ∧ (mulP (pwr XL a) (pwr YL b)).length ≤ 289 := by
  obtain ⟨a1, a2⟩ := pw8 XL_ok (by decide) ha
  obtain ⟨b1, b2⟩ := pw8 YL_ok (by decide) hb
  have h : ∀ p ∈ mulP (pwr XL a) (pwr YL b), okB 16 (338 + 19) p := polyOf_ok2 (L := 19) (prodT_ok a1 b1) (by
    rw [prodT_len]
    have := Nat.mul_le_mul a2 b2
    omega)
  exact ⟨h, can_len (polyOf_can _) h⟩
theorem part_ok {W : Nat} {t : Mn} (hW : W ≤ 8) (ht : t.1.1.toNat ≤ 8) (hb : Bd 10 t.2) : (∀ p ∈ part W t, okB 16 389 p) ∧ (part W t).length ≤ 289 := by
  obtain ⟨a1, a2⟩ := mulXY (a := W - t.1.2.toNat) (b := t.1.1.toNat - t.1.2.toNat) (by omega) (by omega)
  have h1 : ∀ p ∈ [(((0 : Int), (0 : Int)), t.2)], okB 0 10 p := fun p hp => by rw [List.mem_singleton.mp hp]; exact ⟨by simp, by simp, hb⟩
  have h : ∀ p ∈ part W t, okB (0 + 16) (10 + 357 + 12) p := polyOf_ok2 (L := 12) (prodT_ok h1 a1) (by
    rw [prodT_len]
    simp only [List.length_singleton]
    omega)
  have h' : ∀ p ∈ part W t, okB 16 389 p := fun p hp => (h p hp).mono (by omega) (by omega)
  exact ⟨h', can_len (polyOf_can _) h'⟩
theorem whole_le {n : Nat} {ts : List (Int × Int)} (h : ts.length ≤ 8) : whole n ts ≤ 8 := by
  have := rk_le_len n ts (List.range ts.length)
  rw [List.length_range] at this
  unfold whole
  omega
structure RowOk (n : Nat) (ts : List (Int × Int)) (t : Mn) : Prop where
  sz : t.1.1.toNat ≤ 8
  le : t.1.2 ≤ t.1.1
  lw : t.1.2 ≤ whole n ts
  n0 : 0 ≤ t.1.2
  bd : Bd 10 t.2
theorem row_ok {n : Nat} {ts : List (Int × Int)} (w : Web n ts) : ∀ t ∈ tabl n ts, RowOk n ts t := fun t ht => by
  obtain ⟨h1, h2, _⟩ := polyOf_mem ht
  obtain ⟨q, hq, e⟩ := List.mem_map.mp h1
  obtain ⟨p, hp, rfl⟩ := List.mem_map.mp hq
  have hs := picks_mem.mp hp
  have hl := hs.length_le
  rw [List.length_range] at hl
  have := w.len
  have hr := rk_le_len n ts p
  have hm := rk_mono (n := n) (ts := ts) (List.nodup_range.sublist hs) (List.nodup_range (n := ts.length)) (fun k hk => hs.subset hk) (web_okP w (range_in _))
  have e1 : t.1.1 = (p.length : Int) := by rw [← e]; rfl
  have e2 : t.1.2 = (rk n ts p : Int) := by rw [← e]; rfl
  refine ⟨by omega, by omega, ?_, by omega, ?_⟩
  · rw [e2]; unfold whole; omega
  · rw [h2]
    refine coef_bd2 (e := 8) (k := 1) (L := 9) (fun u hu => ?_) ?_
    · obtain ⟨p2, hp2, rfl⟩ := List.mem_map.mp hu
      have hs2 := picks_mem.mp hp2
      have hl2 := hs2.length_le
      rw [List.length_range] at hl2
      have hr2 := rk_le_len n ts p2
      exact ⟨⟨by show (0 : Int) ≤ (p2.length : Int); omega, by show (p2.length : Int) ≤ ((8 : Nat) : Int); omega⟩, ⟨by show (0 : Int) ≤ (rk n ts p2 : Int); omega, by show (rk n ts p2 : Int) ≤ ((8 : Nat) : Int); omega⟩, by show Bd 1 1; unfold Bd; decide⟩
    · rw [rows_len, picks_len]
      have := Nat.pow_le_pow_right (n := 2) (by omega) w.len
      omega
theorem parts_ok {n : Nat} {ts : List (Int × Int)} (w : Web n ts) {l : List Mn} (h : ∀ t ∈ l, RowOk n ts t) : (∀ p ∈ parts (whole n ts) l, okB 16 389 p) ∧ (parts (whole n ts) l).length ≤ 289 * l.length := by
  have hW := whole_le (n := n) w.len
  induction l with
  | nil => exact ⟨fun p hp => (nomatch hp), by simp [parts]⟩
  | cons t l ih =>
    obtain ⟨a, b⟩ := ih fun u hu => h u (List.mem_cons_of_mem _ hu)
    have ht := h t List.mem_cons_self
    obtain ⟨c, d⟩ := part_ok hW ht.sz ht.bd
    have e : parts (whole n ts) (t :: l) = part (whole n ts) t ++ parts (whole n ts) l := by unfold parts; rw [List.flatMap_cons]
    rw [e]
    refine ⟨fun p hp => (List.mem_append.mp hp).elim (c p) (a p), ?_⟩
    rw [List.length_append, List.length_cons]
    omega
theorem sums_ok {n : Nat} {ts : List (Int × Int)} (w : Web n ts) {l : List Mn} (h : ∀ t ∈ l, RowOk n ts t) (hl : l.length ≤ 256) : (∀ p ∈ polyOf (parts (whole n ts) l), okB 16 409 p) ∧ (polyOf (parts (whole n ts) l)).length ≤ 289 := by
  obtain ⟨a, b⟩ := parts_ok w h
  have h2 : ∀ p ∈ polyOf (parts (whole n ts) l), okB 16 (389 + 20) p := polyOf_ok2 (L := 20) a (by omega)
  exact ⟨h2, can_len (polyOf_can _) h2⟩
theorem byP_ok {n : Nat} {ts : List (Int × Int)} (w : Web n ts) : (∀ p ∈ byP n ts, okB 16 409 p) ∧ (byP n ts).length ≤ 289 := sums_ok w (row_ok w) (tabl_bd n ts w.len)
theorem sums_next {W : Nat} {l : List Mn} {t : Mn} : polyOf (polyOf (parts W l) ++ part W t) = polyOf (parts W (l ++ [t])) := by
  refine polyOf_ext fun k => ?_
  unfold parts
  rw [coef_append, coef_polyOf, List.flatMap_append, coef_append]
  simp
/-! ### worths -/
theorem worth_app (ts us : List Mn) (x y : Int) : worth (ts ++ us) x y = worth ts x y + worth us x y := by rw [worth_lin, worth_lin, worth_lin, lin_app]
theorem worth_flat {α : Type} (f : α → List Mn) (x y : Int) : ∀ l : List α, worth (l.flatMap f) x y = sumL (fun a => worth (f a) x y) l
  | [] => rfl
  | a :: l => by rw [List.flatMap_cons, worth_app, worth_flat f x y l, sumL_cons]
theorem worth_XL (x y : Int) : worth XL x y = x - 1 := by
  unfold worth XL pow2
  simp only [List.map_cons, List.map_nil, List.sum_cons, List.sum_nil, show (0 : Int).toNat = 0 from rfl, show (1 : Int).toNat = 1 from rfl, Int.pow_succ, Int.pow_zero]
  omega
theorem worth_YL (x y : Int) : worth YL x y = y - 1 := by
  unfold worth YL pow2
  simp only [List.map_cons, List.map_nil, List.sum_cons, List.sum_nil, show (0 : Int).toNat = 0 from rfl, show (1 : Int).toNat = 1 from rfl, Int.pow_succ, Int.pow_zero]
  omega
theorem worth_pwr {ps : List Mn} (h : ∀ p ∈ ps, okB 1 7 p) (hl : ps.length ≤ 4) (x y : Int) : ∀ j, j ≤ 20 → worth (pwr ps j) x y = worth ps x y ^ j
  | 0, _ => by show worth one1 x y = _; unfold worth one1 pow2; simp
  | j + 1, hj => by
    show worth (mulP (pwr ps j) ps) x y = _
    unfold mulP
    rw [worth_polyOf, worth_prod x y h (pw_ok h hl j (by omega)).1, worth_pwr h hl x y j (by omega), Int.pow_succ]
theorem worth_mo (x y : Int) {a b : Nat} (ha : a ≤ 8) (hb : b ≤ 8) : worth (mo a b) x y = (x - 1) ^ a * (y - 1) ^ b := by
  unfold mo
  rw [worth_prod x y (pw8 YL_ok (by decide) hb).1 (pw8 XL_ok (by decide) ha).1, worth_pwr XL_ok (by decide) x y a (by omega), worth_pwr YL_ok (by decide) x y b (by omega), worth_XL, worth_YL]
theorem worth_byP {n : Nat} {ts : List (Int × Int)} (w : Web n ts) (x y : Int) : worth (byP n ts) x y = sumL (fun p => (x - 1) ^ (whole n ts - rk n ts p) * (y - 1) ^ (p.length - rk n ts p)) (picks ts.length) := by
  rw [byP_eq, worth_polyOf]
  unfold SP
  rw [worth_flat]
  refine sumL_congr fun p hp => ?_
  have hl := (picks_mem.mp hp).length_le
  rw [List.length_range] at hl
  have := w.len
  have := whole_le (n := n) w.len
  exact worth_mo x y (by omega) (by omega)
end VL
/-! plain law, 42: webs laid together, renumbered, reordered: ranks, polynomials, trees -/
namespace VL
open PySem PySem.W L2
/-! ### laying together, in plain -/
def pl (n1 p q x : Nat) : Nat := if x = q then p else if q < x then n1 + x - 1 else n1 + x
def plr (n1 p q n2 : Nat) : List Nat := (List.range n2).map (pl n1 p q)
theorem plr_len (n1 p q n2 : Nat) : (plr n1 p q n2).length = n2 := by unfold plr; simp
theorem plr_lt {n1 p q n2 : Nat} (h1 : p < n1) (hq : q < n2) {x : Nat} (hx : x ∈ plr n1 p q n2) : x < n1 + n2 - 1 := by
  unfold plr at hx
  obtain ⟨i, hi, rfl⟩ := List.mem_map.mp hx
  have := List.mem_range.mp hi
  unfold pl
  split
  · omega
  · split <;> omega
theorem gt_lt {r : List Nat} {m : Nat} (h : ∀ x ∈ r, x < m) {a : Int} (h0 : 0 ≤ a) (h1 : a < r.length) : 0 ≤ gt r a ∧ gt r a < m := by
  have hk : a.toNat < r.length := by omega
  have e : gt r a = ((r[a.toNat] : Nat) : Int) := by unfold gt; rw [List.getElem?_eq_getElem hk]; rfl
  rw [e]
  have := h _ (List.getElem_mem hk)
  omega
def moved (r : List Nat) (us : List (Int × Int)) : List (Int × Int) := us.map (renT r)
theorem ren_ok {r : List Nat} {m : Nat} (h : ∀ x ∈ r, x < m) {n2 : Nat} (hr : r.length = n2) {us : List (Int × Int)} (hu : ∀ p ∈ us, okT n2 p) : ∀ p ∈ us.map (renT r), okT m p ∧ p.1 ≤ p.2 := fun p hp => by
  obtain ⟨o, ho, rfl⟩ := List.mem_map.mp hp
  have hh := hu o ho
  have g1 := gt_lt h hh.1.1 (by rw [hr]; exact hh.1.2)
  have g2 := gt_lt h hh.2.1 (by rw [hr]; exact hh.2.2)
  exact ⟨srt_ok ⟨g1, g2⟩, srt_le _⟩
/-- what is due -/
structure W2 where
  n : Nat
  ts : List (Int × Int)
def places (apart : Bool) (a : W2) (p : Nat) (b : W2) (q : Nat) : List Nat := if apart = true then (List.range b.n).map fun x => x + a.n else plr a.n p q b.n
def due (apart : Bool) (a : W2) (p : Nat) (b : W2) (q : Nat) : W2 := ⟨if apart = true then a.n + b.n else a.n + b.n - 1, a.ts ++ b.ts.map (renT (places apart a p b q))⟩
def W2.ok (a : W2) : Prop := Web a.n a.ts
def W2.d (a : W2) : D := Wb a.n a.ts
def fits (a : W2) : Prop := a.n ≤ 9 ∧ a.ts.length ≤ 8
theorem places_len (t : Bool) (a : W2) (p : Nat) (b : W2) (q : Nat) : (places t a p b q).length = b.n := by
  unfold places; split
  · simp
  · exact plr_len _ _ _ _
theorem due_len (t : Bool) (a : W2) (p : Nat) (b : W2) (q : Nat) : (due t a p b q).ts.length = a.ts.length + b.ts.length := by unfold due; simp
theorem due_ok {t : Bool} {a : W2} {p : Nat} {b : W2} {q : Nat} (wa : a.ok) (wb : b.ok) (hp : p < a.n) (hq : q < b.n) (hf : fits (due t a p b q)) : (due t a p b q).ok := by
  have hl : ∀ x ∈ places t a p b q, x < (due t a p b q).n := fun x hx => by
    unfold places at hx; unfold due
    cases t with
    | true =>
      simp only [if_true] at hx ⊢
      obtain ⟨i, hi, rfl⟩ := List.mem_map.mp hx
      have := List.mem_range.mp hi
      omega
    | false => exact plr_lt hp hq hx
  have hr := ren_ok hl (places_len t a p b q) wb.ok
  have hn : a.n ≤ (due t a p b q).n ∧ 1 ≤ (due t a p b q).n := by unfold due; cases t <;> simp <;> omega
  have key : ∀ o ∈ (due t a p b q).ts, okT (due t a p b q).n o ∧ o.1 ≤ o.2 := fun o ho => by
    have ho' : o ∈ a.ts ++ b.ts.map (renT (places t a p b q)) := ho
    rcases List.mem_append.mp ho' with h | h
    · have h1 := wa.ok o h
      have h2 := wa.srt o h
      unfold okT at *
      refine ⟨?_, h2⟩
      omega
    · exact hr o h
  exact ⟨by omega, by have := hf.1; omega, fun o ho => (key o ho).1, fun o ho => (key o ho).2, hf.2⟩
/-- beside: no turning of ties is wanted -/
theorem shift_at {n2 n1 : Nat} {o : Int × Int} (h : okT n2 o) (hs : o.1 ≤ o.2) : renT ((List.range n2).map fun x => x + n1) o = (o.1 + n1, o.2 + n1) := by
  have g : ∀ a : Int, 0 ≤ a → a < n2 → gt ((List.range n2).map fun x => x + n1) a = a + n1 := fun a h0 h1 => by
    have hk : a.toNat < n2 := by omega
    unfold gt
    rw [List.getElem?_map, List.getElem?_range hk]
    simp
    omega
  unfold renT
  rw [g _ h.1.1 h.1.2, g _ h.2.1 h.2.2]
  exact srt_of (by simp; omega)
/-! ### ranks of like webs -/
theorem rel_map {n n' : Nat} {ts ts' : List (Int × Int)} {p q : List Nat} {h : Nat → Nat} (hb : ∀ x y, Sm (List.range n) x y → Rel n' ts' q (h x) (h y)) (hp : ∀ k ∈ p, Rel n' ts' q (h (tN ts k).1) (h (tN ts k).2)) {x y : Nat} (r : Rel n ts p x y) : Rel n' ts' q (h x) (h y) := by
  have E := rel_eqv n' ts' q
  have E2 : Eqv fun u v => Rel n' ts' q (h u) (h v) := ⟨fun _ => E.r _, fun _ _ z => E.s _ _ z, fun _ _ _ z z2 => E.t _ _ _ z z2⟩
  refine (mgs_le E2 (sm_eqv (List.range n)) (ps := pairs ts p)).mpr ⟨hb, fun z hz => ?_⟩ x y r
  obtain ⟨k, hk, rfl⟩ := List.mem_map.mp hz
  exact hp k hk
theorem sm_cases {n x y : Nat} (h : Sm (List.range n) x y) : x = y ∨ (n ≤ x ∧ n ≤ y) := by
  unfold Sm at h
  by_cases hx : x < n
  · by_cases hy : y < n
    · exact .inl ((sm_range hx hy).mp h)
    · rw [range_at n x hx, List.getElem?_eq_none (by simp; omega)] at h
      cases h
  · by_cases hy : y < n
    · rw [range_at n y hy, List.getElem?_eq_none (by simp; omega)] at h
      cases h
    · exact .inr ⟨by omega, by omega⟩
theorem rk_same {n n' : Nat} {ts ts' : List (Int × Int)} {φ : Nat → Nat} {P : Nat → Prop} (hr : ∀ q k, (∀ x ∈ q, P x) → P k → (Rel n ts q (tN ts k).1 (tN ts k).2 ↔ Rel n' ts' (q.map φ) (tN ts' (φ k)).1 (tN ts' (φ k)).2))
    (p : List Nat) : (∀ x ∈ p, P x) → okP n ts p → okP n' ts' (p.map φ) → rk n ts p = rk n' ts' (p.map φ) := by
  induction p using snoc_ind with
  | h0 => intro _ _ _; rfl
  | h1 p k ih =>
    intro hP o1 o2
    rw [List.map_append] at o2 ⊢
    have h1 := ih (fun x hx => hP x (by simp [hx])) (okP_app o1) (okP_app o2)
    have h2 := hr p k (fun x hx => hP x (by simp [hx])) (hP k (by simp))
    obtain ⟨a1, a2⟩ := rk_add o1
    obtain ⟨b1, b2⟩ := rk_add (n := n') (ts := ts') (p := p.map φ) (k := φ k) o2
    by_cases q : Rel n ts p (tN ts k).1 (tN ts k).2
    · rw [a1 q]
      show _ = rk n' ts' (p.map φ ++ [φ k])
      rw [b1 (h2.mp q), h1]
    · rw [a2 q]
      show _ = rk n' ts' (p.map φ ++ [φ k])
      rw [b2 (fun z => q (h2.mpr z)), h1]
/-- the ends of renumbered ties -/
theorem tN_ren {R : List Nat} {ts : List (Int × Int)} {j : Nat} (hj : j < ts.length) : tN (ts.map (renT R)) j = (at' R (tN ts j).1, at' R (tN ts j).2) ∨ tN (ts.map (renT R)) j = (at' R (tN ts j).2, at' R (tN ts j).1) := by
  have e : tN (ts.map (renT R)) j = ((renT R ts[j]).1.toNat, (renT R ts[j]).2.toNat) := by
    rw [tN_at (by rw [List.length_map]; exact hj)]
    simp
  rw [e, tN_at hj]
  unfold renT VL.srt gt at'
  simp only
  rcases Int.le_total ((R[ts[j].1.toNat]?.getD 0 : Nat) : Int) ((R[ts[j].2.toNat]?.getD 0 : Nat) : Int) with q | q
  · rw [Int.min_eq_left q, Int.max_eq_right q]; exact .inl rfl
  · rw [Int.min_eq_right q, Int.max_eq_left q]; exact .inr rfl
theorem rel_ends {n : Nat} {ts : List (Int × Int)} {p : List Nat} {a b : Nat} {z : Nat × Nat} (h : z = (a, b) ∨ z = (b, a)) : Rel n ts p z.1 z.2 ↔ Rel n ts p a b := by
  rcases h with rfl | rfl
  · exact Iff.rfl
  · exact ⟨fun r => (rel_eqv n ts p).s _ _ r, fun r => (rel_eqv n ts p).s _ _ r⟩
theorem at_lt {R : List Nat} {n m x : Nat} (hR : ∀ y ∈ R, y < n) (hl : R.length = m) (hx : x < m) : at' R x < n := by
  have e : at' R x = R[x]'(by omega) := by unfold at'; rw [List.getElem?_eq_getElem (by omega)]; rfl
  rw [e]
  exact hR _ (List.getElem_mem _)
theorem at_idx' {R : List Nat} (nd : R.Nodup) {x : Nat} (hx : x < R.length) : at' R x ∈ R ∧ R.idxOf (at' R x) = x := by
  have e : at' R x = R[x] := by unfold at'; rw [List.getElem?_eq_getElem hx]; rfl
  rw [e]
  exact ⟨List.getElem_mem _, nd.idxOf_getElem x hx⟩
/-- points renumbered -/
theorem rk_ren {n : Nat} {ts : List (Int × Int)} (w : Web n ts) {r : List Nat} (hr : Pm n r) {p : List Nat} (hp : inT ts.length p) : rk n (ts.map (renT r)) p = rk n ts p := by
  have w' := web_ren w hr
  have okk : ∀ k, k < ts.length → (tN ts k).1 < n ∧ (tN ts k).2 < n := fun k hk => web_okP w (p := [k]) (fun x hx => by rw [List.mem_singleton.mp hx]; exact hk) k (by simp)
  have hnd := hr.nd
  have hlen := hr.len
  refine (Eq.trans (b := rk n (ts.map (renT r)) (p.map id)) ?_ (by rw [List.map_id])).symm
  refine rk_same (φ := id) (P := fun k => k < ts.length) (fun q k hq hk => ?_) p hp (web_okP w hp) (web_okP w' (by rw [List.length_map, List.map_id]; exact hp))
  rw [List.map_id]
  rw [show (tN (ts.map (renT r)) (id k)) = tN (ts.map (renT r)) k from rfl, rel_ends (tN_ren (R := r) hk)]
  obtain ⟨k1, k2⟩ := okk k hk
  constructor
  · intro z
    have := rel_map (n' := n) (ts' := ts.map (renT r)) (q := q) (h := fun x => if x < n then at' r x else n) (fun x y hxy => ?_) (fun j hj => ?_) z
    · simp only [k1, k2, if_true] at this
      exact this
    · rcases sm_cases hxy with rfl | ⟨h1, h2⟩
      · exact (rel_eqv _ _ _).r _
      · rw [if_neg (by omega), if_neg (by omega)]; exact (rel_eqv _ _ _).r _
    · obtain ⟨j1, j2⟩ := okk j (hq j hj)
      rw [if_pos j1, if_pos j2]
      exact (rel_ends (tN_ren (R := r) (hq j hj))).mp (rel_mem hj)
  · intro z
    have inv : ∀ x, x < n → r.idxOf (at' r x) = x := fun x hx => (at_idx' hnd (by omega)).2
    have lt : ∀ x, x < n → at' r x < n := fun x hx => at_lt (fun y hy => hr.lt hy) hlen hx
    have := rel_map (n' := n) (ts' := ts) (q := q) (h := fun y => if y < n then r.idxOf y else n) (fun x y hxy => ?_) (fun j hj => ?_) z
    · simp only [lt _ k1, lt _ k2, if_true, inv _ k1, inv _ k2] at this
      exact this
    · rcases sm_cases hxy with rfl | ⟨h1, h2⟩
      · exact (rel_eqv _ _ _).r _
      · rw [if_neg (by omega), if_neg (by omega)]; exact (rel_eqv _ _ _).r _
    · obtain ⟨j1, j2⟩ := okk j (hq j hj)
      have hm := rel_mem (n := n) (ts := ts) hj
      rcases tN_ren (R := r) (hq j hj) with e | e
      · rw [e]
        simp only [lt _ j1, lt _ j2, if_true, inv _ j1, inv _ j2]
        exact hm
      · rw [e]
        simp only [lt _ j1, lt _ j2, if_true, inv _ j1, inv _ j2]
        exact (rel_eqv _ _ _).s _ _ hm
/-- ties in another order -/
theorem rk_reo {n : Nat} {ts : List (Int × Int)} (w : Web n ts) {r : List Nat} (hr : Pm ts.length r) {p : List Nat} (hp : inT ts.length p) : rk n (reoT r ts) p = rk n ts (p.map (at' r)) := by
  have w' := web_reo w hr
  have hl : (reoT r ts).length = ts.length := by rw [reo_len, hr.len]
  have hlt : ∀ k, k < ts.length → at' r k < ts.length := fun k hk => at_lt (fun y hy => hr.lt hy) hr.len hk
  have e : ∀ k, k < ts.length → tN (reoT r ts) k = tN ts (at' r k) := fun k hk => by
    have h1 : (reoT r ts)[k]? = some ((ts[at' r k]?).getD (0, 0)) := by
      unfold reoT at'
      rw [List.getElem?_map, List.getElem?_eq_getElem (by rw [hr.len]; exact hk)]; rfl
    unfold tN
    rw [h1]
    rfl
  refine rk_rel (web_okP w' (by rw [hl]; exact hp)) (web_okP w (fun k hk => ?_)) ?_
  · obtain ⟨j, hj, rfl⟩ := List.mem_map.mp hk
    exact hlt j (hp j hj)
  · have : pairs (reoT r ts) p = pairs ts (p.map (at' r)) := by
      unfold pairs
      rw [List.map_map]
      exact List.map_congr_left fun k hk => e k (hp k hk)
    rw [this]
/-! ### two webs in one -/
structure Glue (n n1 n2 : Nat) (R : List Nat) (p0 q0 : Nat) : Prop where
  hp : p0 < n1
  hq : q0 < n2
  le : n1 ≤ n
  nd : R.Nodup
  lt : ∀ y ∈ R, y < n
  len : R.length = n2
  one : ∀ x, x < n2 → at' R x < n1 → at' R x = p0 ∧ x = q0
section
variable {n n1 n2 p0 q0 : Nat} {R : List Nat} {t1 t2 : List (Int × Int)}
theorem tN_l {k : Nat} (h : k < t1.length) : tN (t1 ++ t2) k = tN t1 k := by unfold tN; rw [List.getElem?_append_left h]
theorem tN_r (j : Nat) : tN (t1 ++ t2) (t1.length + j) = tN t2 j := by unfold tN; rw [List.getElem?_append_right (by omega)]; simp
variable (G : Glue n n1 n2 R p0 q0) (w1 : Web n1 t1) (w2 : Web n2 t2)
include G w1 w2
theorem ok1 {k : Nat} (hk : k < t1.length) : (tN t1 k).1 < n1 ∧ (tN t1 k).2 < n1 := web_okP w1 (p := [k]) (fun x hx => by rw [List.mem_singleton.mp hx]; exact hk) k (by simp)
theorem ok2 {k : Nat} (hk : k < t2.length) : (tN t2 k).1 < n2 ∧ (tN t2 k).2 < n2 := web_okP w2 (p := [k]) (fun x hx => by rw [List.mem_singleton.mp hx]; exact hk) k (by simp)
theorem glue_a {p q : List Nat} (hp : inT t1.length p) (hq : inT t2.length q) {x y : Nat} (hx : x < n1) (hy : y < n1) : Rel n (t1 ++ t2.map (renT R)) (p ++ q.map (t1.length + ·)) x y ↔ Rel n1 t1 p x y := by
  constructor
  · intro z
    have := rel_map (n' := n1) (ts' := t1) (q := p) (h := fun u => if u < n1 then u else if u < n then p0 else n1) (fun u v huv => ?_) (fun k hk => ?_) z
    · simp only [hx, hy, if_true] at this
      exact this
    · rcases sm_cases huv with rfl | ⟨h1, h2⟩
      · exact (rel_eqv _ _ _).r _
      · have := G.le
        rw [if_neg (by omega), if_neg (by omega), if_neg (by omega), if_neg (by omega)]; exact (rel_eqv _ _ _).r _
    · rcases List.mem_append.mp hk with hk | hk
      · obtain ⟨a, b⟩ := ok1 G w1 w2 (hp k hk)
        rw [tN_l (hp k hk), if_pos a, if_pos b]
        exact rel_mem hk
      · obtain ⟨j, hj, rfl⟩ := List.mem_map.mp hk
        obtain ⟨a, b⟩ := ok2 G w1 w2 (hq j hj)
        have cst : ∀ x, x < n2 → (if at' R x < n1 then at' R x else if at' R x < n then p0 else n1) = p0 := fun x hx => by
          split
          · rename_i h; exact (G.one x hx h).1
          · rw [if_pos (at_lt G.lt G.len hx)]
        rw [tN_r]
        rcases tN_ren (R := R) (hq j hj) with e | e
        · rw [e]; simp only; rw [cst _ a, cst _ b]; exact (rel_eqv _ _ _).r _
        · rw [e]; simp only; rw [cst _ a, cst _ b]; exact (rel_eqv _ _ _).r _
  · intro z
    have := rel_map (n' := n) (ts' := t1 ++ t2.map (renT R)) (q := p ++ q.map (t1.length + ·)) (h := fun u => if u < n1 then u else n) (fun u v huv => ?_) (fun k hk => ?_) z
    · simp only [hx, hy, if_true] at this
      exact this
    · rcases sm_cases huv with rfl | ⟨h1, h2⟩
      · exact (rel_eqv _ _ _).r _
      · rw [if_neg (by omega), if_neg (by omega)]; exact (rel_eqv _ _ _).r _
    · obtain ⟨a, b⟩ := ok1 G w1 w2 (hp k hk)
      rw [if_pos a, if_pos b, ← tN_l (t2 := t2.map (renT R)) (hp k hk)]
      exact rel_mem (List.mem_append.mpr (.inl hk))
theorem glue_b {p q : List Nat} (hp : inT t1.length p) (hq : inT t2.length q) {x y : Nat} (hx : x < n2) (hy : y < n2) : Rel n (t1 ++ t2.map (renT R)) (p ++ q.map (t1.length + ·)) (at' R x) (at' R y) ↔ Rel n2 t2 q x y := by
  have inv : ∀ x, x < n2 → at' R x ∈ R ∧ R.idxOf (at' R x) = x := fun x hx => at_idx' G.nd (by rw [G.len]; exact hx)
  constructor
  · intro z
    have := rel_map (n' := n2) (ts' := t2) (q := q) (h := fun u => if u ∈ R then R.idxOf u else if u < n then q0 else n2) (fun u v huv => ?_) (fun k hk => ?_) z
    · simp only [(inv x hx).1, (inv y hy).1, if_true, (inv x hx).2, (inv y hy).2] at this
      exact this
    · rcases sm_cases huv with rfl | ⟨h1, h2⟩
      · exact (rel_eqv _ _ _).r _
      · have hu : u ∉ R := fun m => by have := G.lt _ m; omega
        have hv : v ∉ R := fun m => by have := G.lt _ m; omega
        have hu2 : ¬ u < n := by omega
        have hv2 : ¬ v < n := by omega
        rw [if_neg hu, if_neg hv, if_neg hu2, if_neg hv2]; exact (rel_eqv _ _ _).r _
    · rcases List.mem_append.mp hk with hk | hk
      · obtain ⟨a, b⟩ := ok1 G w1 w2 (hp k hk)
        have cst : ∀ u, u < n1 → (if u ∈ R then R.idxOf u else if u < n then q0 else n2) = q0 := fun u hu => by
          split
          · rename_i h
            obtain ⟨j, hj, rfl⟩ := List.getElem_of_mem h
            have e : at' R j = R[j] := by unfold at'; rw [List.getElem?_eq_getElem hj]; rfl
            rw [G.nd.idxOf_getElem j hj]
            exact (G.one j (by rw [← G.len]; exact hj) (by rw [e]; exact hu)).2
          · rw [if_pos (by have := G.le; omega)]
        rw [tN_l (hp k hk), cst _ a, cst _ b]
        exact (rel_eqv _ _ _).r _
      · obtain ⟨j, hj, rfl⟩ := List.mem_map.mp hk
        obtain ⟨a, b⟩ := ok2 G w1 w2 (hq j hj)
        have hm := rel_mem (n := n2) (ts := t2) hj
        rw [tN_r]
        rcases tN_ren (R := R) (hq j hj) with e | e
        · rw [e]; simp only [(inv _ a).1, (inv _ b).1, if_true, (inv _ a).2, (inv _ b).2]; exact hm
        · rw [e]; simp only [(inv _ a).1, (inv _ b).1, if_true, (inv _ a).2, (inv _ b).2]; exact (rel_eqv _ _ _).s _ _ hm
  · intro z
    have := rel_map (n' := n) (ts' := t1 ++ t2.map (renT R)) (q := p ++ q.map (t1.length + ·)) (h := fun u => if u < n2 then at' R u else n) (fun u v huv => ?_) (fun k hk => ?_) z
    · simp only [hx, hy, if_true] at this
      exact this
    · rcases sm_cases huv with rfl | ⟨h1, h2⟩
      · exact (rel_eqv _ _ _).r _
      · rw [if_neg (by omega), if_neg (by omega)]; exact (rel_eqv _ _ _).r _
    · obtain ⟨a, b⟩ := ok2 G w1 w2 (hq k hk)
      rw [if_pos a, if_pos b]
      have hm : t1.length + k ∈ p ++ q.map (t1.length + ·) := List.mem_append.mpr (.inr (List.mem_map_of_mem hk))
      have := rel_mem (n := n) (ts := t1 ++ t2.map (renT R)) hm
      rw [tN_r] at this
      exact (rel_ends (tN_ren (R := R) (hq k hk))).mp this
theorem glue_ok {p q : List Nat} (hp : inT t1.length p) (hq : inT t2.length q) : okP n (t1 ++ t2.map (renT R)) (p ++ q.map (t1.length + ·)) := fun k hk => by
  rcases List.mem_append.mp hk with hk | hk
  · obtain ⟨a, b⟩ := ok1 G w1 w2 (hp k hk)
    rw [tN_l (hp k hk)]
    have := G.le
    omega
  · obtain ⟨j, hj, rfl⟩ := List.mem_map.mp hk
    obtain ⟨a, b⟩ := ok2 G w1 w2 (hq j hj)
    have l1 := at_lt G.lt G.len a
    have l2 := at_lt G.lt G.len b
    rw [tN_r]
    rcases tN_ren (R := R) (hq j hj) with e | e <;> rw [e] <;> exact ⟨by assumption, by assumption⟩
theorem glue_rk {p q : List Nat} (hp : inT t1.length p) (hq : inT t2.length q) : rk n (t1 ++ t2.map (renT R)) (p ++ q.map (t1.length + ·)) = rk n1 t1 p + rk n2 t2 q := by
  induction q using snoc_ind with
  | h0 =>
    show rk n _ (p ++ []) = rk n1 t1 p + 0
    rw [List.append_nil, Nat.add_zero]
    have := rk_same (n := n1) (ts := t1) (n' := n) (ts' := t1 ++ t2.map (renT R)) (φ := id) (P := fun k => k < t1.length) (fun q k hq' hk => ?_) p hp (web_okP w1 hp) (by
      rw [List.map_id]
      have := glue_ok G w1 w2 hp (q := []) (fun _ h => nomatch h)
      simpa using this)
    · rw [List.map_id] at this; exact this.symm
    · rw [List.map_id]
      obtain ⟨a, b⟩ := ok1 G w1 w2 hk
      have := glue_a G w1 w2 hq' (q := []) (fun _ h => nomatch h) a b
      rw [List.map_nil, List.append_nil] at this
      show _ ↔ Rel n _ q (tN (t1 ++ t2.map (renT R)) k).1 (tN (t1 ++ t2.map (renT R)) k).2
      rw [tN_l hk]
      exact this.symm
  | h1 q j ih =>
    have hq1 : inT t2.length q := fun x hx => hq x (by simp [hx])
    have hj : j < t2.length := hq j (by simp)
    have ih := ih hq1
    obtain ⟨a, b⟩ := ok2 G w1 w2 hj
    have o1 := glue_ok G w1 w2 hp hq
    rw [List.map_append, ← List.append_assoc] at o1 ⊢
    obtain ⟨a1, a2⟩ := rk_add (p := p ++ q.map (t1.length + ·)) (k := t1.length + j) o1
    obtain ⟨b1, b2⟩ := rk_add (n := n2) (ts := t2) (p := q) (k := j) (web_okP w2 hq)
    have e : Rel n (t1 ++ t2.map (renT R)) (p ++ q.map (t1.length + ·)) (tN (t1 ++ t2.map (renT R)) (t1.length + j)).1 (tN (t1 ++ t2.map (renT R)) (t1.length + j)).2 ↔ Rel n2 t2 q (tN t2 j).1 (tN t2 j).2 := by
      rw [tN_r, rel_ends (tN_ren (R := R) hj)]
      exact glue_b G w1 w2 hp hq1 a b
    show rk n _ ((p ++ q.map (t1.length + ·)) ++ [t1.length + j]) = _
    by_cases z : Rel n2 t2 q (tN t2 j).1 (tN t2 j).2
    · rw [a1 (e.mpr z), b1 z, ih]
    · rw [a2 (fun y => z (e.mp y)), b2 z, ih]
      omega
end
end VL
/-! plain law, 43: polynomials and trees of webs laid together, renumbered, reordered -/
namespace VL
open PySem PySem.W L2
/-! ### the two that make a web -/
theorem glue_beside {a b : W2} (wa : a.ok) (wb : b.ok) (p q : Nat) : Glue (due true a p b q).n a.n b.n (places true a p b q) 0 0 := by
  have hx : ∀ x, x < b.n → at' ((List.range b.n).map fun x => x + a.n) x = x + a.n := fun x hx => by
    unfold at'
    rw [List.getElem?_map, List.getElem?_range hx]; rfl
  have h1 := wa.n1
  have h2 := wb.n1
  refine ⟨by omega, by omega, by show a.n ≤ a.n + b.n; omega, ?_, fun y hy => ?_, places_len true a p b q, fun x h hl => ?_⟩
  · show ((List.range b.n).map fun x => x + a.n).Nodup
    exact nodup_map (fun x _ y _ e => by omega) List.nodup_range
  · obtain ⟨i, hi, rfl⟩ := List.mem_map.mp (show y ∈ (List.range b.n).map fun x => x + a.n from hy)
    have := List.mem_range.mp hi
    show i + a.n < a.n + b.n
    omega
  · have hl : at' ((List.range b.n).map fun x => x + a.n) x < a.n := hl
    rw [hx x h] at hl
    omega
theorem glue_at {a b : W2} (wa : a.ok) (wb : b.ok) {p q : Nat} (hp : p < a.n) (hq : q < b.n) : Glue (due false a p b q).n a.n b.n (places false a p b q) p q := by
  have hx : ∀ x, x < b.n → at' (plr a.n p q b.n) x = pl a.n p q x := fun x hx => by
    unfold at' plr
    rw [List.getElem?_map, List.getElem?_range hx]; rfl
  refine ⟨hp, hq, by show a.n ≤ a.n + b.n - 1; omega, ?_, fun y hy => plr_lt hp hq hy, places_len false a p b q, fun x h hl => ?_⟩
  · show (plr a.n p q b.n).Nodup
    unfold plr
    refine nodup_map (fun x _ y _ e => ?_) List.nodup_range
    unfold pl at e
    split at e <;> split at e <;> (try split at e) <;> (try split at e) <;> omega
  · have hl : at' (plr a.n p q b.n) x < a.n := hl
    rw [hx x h] at hl
    show at' (plr a.n p q b.n) x = p ∧ x = q
    rw [hx x h]
    unfold pl at hl ⊢
    split
    · exact ⟨rfl, by assumption⟩
    · rename_i h1
      rw [if_neg h1] at hl
      split at hl <;> omega
/-! ### sums over the picks of two -/
theorem subs_app (f : List Nat → Int) : ∀ l1 l2 : List Nat, sumL f (subs (l1 ++ l2)) = sumL (fun p => sumL (fun q => f (p ++ q)) (subs l2)) (subs l1)
  | [], l2 => by
    show _ = sumL f (subs l2) + 0
    rw [Int.add_zero]
    rfl
  | x :: l1, l2 => by
    show sumL f (subs (l1 ++ l2) ++ (subs (l1 ++ l2)).map (x :: ·)) = sumL _ (subs l1 ++ (subs l1).map (x :: ·))
    rw [sumL_app, sumL_app, sumL_map, sumL_map, subs_app f l1 l2, subs_app (fun p => f (x :: p)) l1 l2]
    rfl
theorem range_both (a b : Nat) : List.range (a + b) = List.range a ++ (List.range b).map (a + ·) := List.range_add
theorem subs_both (f : List Nat → Int) (a b : Nat) : sumL f (subs (List.range (a + b))) = sumL (fun p => sumL (fun q => f (p ++ q.map (a + ·))) (subs (List.range b))) (subs (List.range a)) := by
  rw [range_both, subs_app]
  refine sumL_congr fun p _ => ?_
  rw [subs_map, sumL_map]
theorem mo_add (a b c d : Nat) : Eqp (mo (a + c) (b + d)) (prodT (mo a b) (mo c d)) := by
  have h1 : Eqp (pwr XL (a + c)) (prodT (pwr XL a) (pwr XL c)) := by rw [← tp_add]; exact eqp_mulP _ _
  have h2 : Eqp (pwr YL (b + d)) (prodT (pwr YL b) (pwr YL d)) := by rw [← tp_add]; exact eqp_mulP _ _
  unfold mo
  refine (h1.mul h2).tr ?_
  refine (eqp_assoc _ _ _).tr (Eqp.tr ?_ (eqp_assoc _ _ _).sy)
  refine (Eqp.rfl' _).mul ?_
  refine (eqp_assoc _ _ _).sy.tr (((eqp_comm _ _).mul (Eqp.rfl' _)).tr (eqp_assoc _ _ _))
theorem coef_flat2 {α β : Type} (k : Int × Int) (f : α → List Mn) (g : β → List Mn) (m : List β) (l : List α) : coef k (prodT (l.flatMap f) (m.flatMap g)) = sumL (fun x => sumL (fun y => coef k (prodT (f x) (g y))) m) l := by
  induction l with
  | nil => rfl
  | cons x l ih =>
    rw [List.flatMap_cons, prodT_app, coef_append, ih, sumL_cons]
    congr 1
    rw [← eqp_pull (f x) g m k, coef_flat]
section
variable {n n1 n2 p0 q0 : Nat} {R : List Nat} {t1 t2 : List (Int × Int)}
variable (G : Glue n n1 n2 R p0 q0) (w1 : Web n1 t1) (w2 : Web n2 t2)
include G w1 w2
theorem len_both : (t1 ++ t2.map (renT R)).length = t1.length + t2.length := by simp
theorem whole_both : whole n (t1 ++ t2.map (renT R)) = whole n1 t1 + whole n2 t2 := by
  unfold whole
  rw [len_both G w1 w2, range_both]
  exact glue_rk G w1 w2 (range_in _) (range_in _)
theorem rk_le_whole {m : Nat} {ts : List (Int × Int)} (w : Web m ts) {p : List Nat} (h : p.Sublist (List.range ts.length)) : rk m ts p ≤ whole m ts :=
  rk_mono (List.nodup_range.sublist h) (List.nodup_range (n := ts.length)) (fun k hk => h.subset hk) (web_okP w (range_in _))
theorem SP_both : Eqp (SP n (t1 ++ t2.map (renT R))) (prodT (SP n1 t1) (SP n2 t2)) := fun k => by
  unfold SP
  rw [coef_flat2, coef_flat, sumL_perm _ (picks_subs _), len_both G w1 w2, subs_both, sumL_perm _ (picks_subs t1.length)]
  refine sumL_congr fun p hp => ?_
  rw [sumL_perm _ (picks_subs t2.length)]
  refine sumL_congr fun q hq => ?_
  have hp := subs_mem.mp hp
  have hq := subs_mem.mp hq
  rw [whole_both G w1 w2, glue_rk G w1 w2 (sub_in hp) (sub_in hq), ← mo_add _ _ _ _ k]
  have a1 := rk_le_whole G w1 w2 w1 hp
  have a2 := rk_le_whole G w1 w2 w2 hq
  have b1 := rk_le_len n1 t1 p
  have b2 := rk_le_len n2 t2 q
  have e1 : whole n1 t1 + whole n2 t2 - (rk n1 t1 p + rk n2 t2 q) = whole n1 t1 - rk n1 t1 p + (whole n2 t2 - rk n2 t2 q) := by omega
  have e2 : (p ++ q.map (t1.length + ·)).length - (rk n1 t1 p + rk n2 t2 q) = p.length - rk n1 t1 p + (q.length - rk n2 t2 q) := by
    rw [List.length_append, List.length_map]
    omega
  rw [e1, e2]
theorem byP_both : byP n (t1 ++ t2.map (renT R)) = mulP (byP n1 t1) (byP n2 t2) := by
  rw [byP_eq]
  unfold mulP
  refine polyOf_ext fun k => ?_
  rw [SP_both G w1 w2 k, byP_eq, byP_eq]
  exact ((eqp_poly _).mul (eqp_poly _)).sy k
/-- the trees of both -/
def bothT (m : Nat) (l1 l2 : List (List Nat)) : List (List Nat) := l1.flatMap fun T => l2.map fun S => T ++ S.map (m + ·)
omit G w1 w2 in
theorem sub_both {a b : Nat} {P : List Nat} (h : P.Sublist (List.range (a + b))) : ∃ p q : List Nat, P = p ++ q.map (a + ·) ∧ p.Sublist (List.range a) ∧ q.Sublist (List.range b) := by
  rw [range_both] at h
  obtain ⟨p, q', e, h1, h2⟩ := List.sublist_append_iff.mp h
  obtain ⟨q, h3, rfl⟩ := List.sublist_map_iff.mp h2
  exact ⟨p, q, e, h1, h3⟩
omit G w1 w2 in
theorem both_sub {a b : Nat} {p q : List Nat} (h1 : p.Sublist (List.range a)) (h2 : q.Sublist (List.range b)) : (p ++ q.map (a + ·)).Sublist (List.range (a + b)) := by
  rw [range_both]
  exact h1.append (h2.map _)
omit G w1 w2 in
theorem both_split {a : Nat} {p q : List Nat} (h : p.Sublist (List.range a)) : (p ++ q.map (a + ·)).filter (fun x => decide (x < a)) = p ∧ ((p ++ q.map (a + ·)).filter (fun x => !decide (x < a))).map (· - a) = q := by
  have i1 : ∀ x ∈ p, x < a := fun x hx => sub_lt h hx
  have e1 : p.filter (fun x => decide (x < a)) = p := List.filter_eq_self.mpr fun x hx => decide_eq_true (i1 x hx)
  have e2 : (q.map (a + ·)).filter (fun x => decide (x < a)) = [] := List.filter_eq_nil_iff.mpr fun x hx => by
    obtain ⟨y, _, rfl⟩ := List.mem_map.mp hx
    simp
  have e3 : p.filter (fun x => !decide (x < a)) = [] := List.filter_eq_nil_iff.mpr fun x hx => by simp [i1 x hx]
  have e4 : (q.map (a + ·)).filter (fun x => !decide (x < a)) = q.map (a + ·) := List.filter_eq_self.mpr fun x hx => by
    obtain ⟨y, _, rfl⟩ := List.mem_map.mp hx
    simp
  refine ⟨by rw [List.filter_append, e1, e2, List.append_nil], ?_⟩
  rw [List.filter_append, e3, e4, List.nil_append, List.map_map]
  have : ((fun x => x - a) ∘ fun x => a + x) = id := by funext x; simp
  rw [this, List.map_id]
omit G w1 w2 in
theorem both_inj {a b : Nat} {p q p' q' : List Nat} (h1 : p.Sublist (List.range a)) (h2 : p'.Sublist (List.range a)) (e : p ++ q.map (a + ·) = p' ++ q'.map (a + ·)) : p = p' ∧ q = q' := by
  have a1 := both_split (q := q) h1
  have a2 := both_split (q := q') h2
  rw [e] at a1
  exact ⟨a1.1.symm.trans a2.1, a1.2.symm.trans a2.2⟩
omit G w1 w2 in
theorem bothT_nd (n1 n2 : Nat) (t1 t2 : List (Int × Int)) : (bothT t1.length (trees n1 t1) (trees n2 t2)).Nodup := by
  unfold bothT
  rw [List.Nodup, List.pairwise_flatMap]
  refine ⟨fun T hT => ?_, ?_⟩
  · refine nodup_map (fun S _ S' _ e => ?_) (trees_nd n2 t2)
    exact (both_inj (b := t2.length) (trees_mem.mp hT).1 (trees_mem.mp hT).1 e).2
  · refine List.Pairwise.imp_of_mem (fun {T T'} hT hT' ne => ?_) (trees_nd n1 t1)
    intro x hx y hy e
    obtain ⟨S, _, rfl⟩ := List.mem_map.mp hx
    obtain ⟨S', _, rfl⟩ := List.mem_map.mp hy
    exact ne (both_inj (b := t2.length) (trees_mem.mp hT).1 (trees_mem.mp hT').1 e).1
omit G w1 w2 in
theorem bothT_len {P : List Nat} (h : P ∈ bothT t1.length (trees n1 t1) (trees n2 t2)) : P.length = whole n1 t1 + whole n2 t2 := by
  obtain ⟨T, hT, hP⟩ := List.mem_flatMap.mp h
  obtain ⟨S, hS, rfl⟩ := List.mem_map.mp hP
  rw [List.length_append, List.length_map, (trees_mem.mp hT).2.1, (trees_mem.mp hS).2.1]
omit G w1 w2 in
theorem bothT_ne (n1 n2 : Nat) (t1 t2 : List (Int × Int)) : bothT t1.length (trees n1 t1) (trees n2 t2) ≠ [] := fun h => by
  obtain ⟨T, hT⟩ := List.exists_mem_of_ne_nil _ (trees_some n1 t1)
  obtain ⟨S, hS⟩ := List.exists_mem_of_ne_nil _ (trees_some n2 t2)
  have : T ++ S.map (t1.length + ·) ∈ bothT t1.length (trees n1 t1) (trees n2 t2) := List.mem_flatMap.mpr ⟨T, hT, List.mem_map_of_mem hS⟩
  rw [h] at this
  cases this
theorem trees_both : trees n (t1 ++ t2.map (renT R)) = sortL lexN (bothT t1.length (trees n1 t1) (trees n2 t2)) := by
  have nd2 := bothT_nd n1 n2 t1 t2
  have e0 : trees n (t1 ++ t2.map (renT R)) = sortL lexN (trees n (t1 ++ t2.map (renT R))) := (sortL_self lexN_sto (sortL_srt lexN_sto _)).symm
  rw [e0]
  refine sortL_eq lexN_sto ((List.perm_ext_iff_of_nodup (trees_nd _ _) nd2).mpr fun P => ?_)
  rw [trees_mem, len_both G w1 w2, whole_both G w1 w2]
  unfold bothT
  rw [List.mem_flatMap]
  constructor
  · rintro ⟨h1, h2, h3⟩
    obtain ⟨p, q, rfl, hp, hq⟩ := sub_both h1
    rw [glue_rk G w1 w2 (sub_in hp) (sub_in hq)] at h3
    rw [List.length_append, List.length_map] at h2
    have a1 := rk_le_whole G w1 w2 w1 hp
    have a2 := rk_le_whole G w1 w2 w2 hq
    have b1 := rk_le_len n1 t1 p
    have b2 := rk_le_len n2 t2 q
    exact ⟨p, trees_mem.mpr ⟨hp, by omega, by omega⟩, List.mem_map_of_mem (trees_mem.mpr ⟨hq, by omega, by omega⟩)⟩
  · rintro ⟨T, hT, hP⟩
    obtain ⟨S, hS, rfl⟩ := List.mem_map.mp hP
    obtain ⟨a1, a2, a3⟩ := trees_mem.mp hT
    obtain ⟨b1, b2, b3⟩ := trees_mem.mp hS
    refine ⟨both_sub a1 b1, by rw [List.length_append, List.length_map]; omega, ?_⟩
    rw [glue_rk G w1 w2 (sub_in a1) (sub_in b1)]
    omega
end
/-! ### renumbered -/
theorem whole_ren {n : Nat} {ts : List (Int × Int)} (w : Web n ts) {r : List Nat} (hr : Pm n r) : whole n (ts.map (renT r)) = whole n ts := by
  unfold whole
  rw [List.length_map]
  exact rk_ren w hr (range_in _)
theorem byP_ren {n : Nat} {ts : List (Int × Int)} (w : Web n ts) {r : List Nat} (hr : Pm n r) : byP n (ts.map (renT r)) = byP n ts := by
  rw [byP_eq, byP_eq]
  congr 1
  unfold SP
  rw [List.length_map, whole_ren w hr]
  have : ∀ l : List (List Nat), (∀ p ∈ l, p ∈ picks ts.length) → (l.flatMap fun p => mo (whole n ts - rk n (ts.map (renT r)) p) (p.length - rk n (ts.map (renT r)) p)) = l.flatMap fun p => mo (whole n ts - rk n ts p) (p.length - rk n ts p) := by
    intro l
    induction l with
    | nil => intro _; rfl
    | cons p l ih =>
      intro h
      rw [List.flatMap_cons, List.flatMap_cons, ih fun q hq => h q (List.mem_cons_of_mem _ hq), rk_ren w hr (sub_in (picks_mem.mp (h p List.mem_cons_self)))]
  exact this _ fun p hp => hp
theorem trees_ren {n : Nat} {ts : List (Int × Int)} (w : Web n ts) {r : List Nat} (hr : Pm n r) : trees n (ts.map (renT r)) = trees n ts := by
  unfold trees
  rw [List.length_map, whole_ren w hr]
  congr 1
  refine List.filter_congr fun p hp => ?_
  unfold isTr
  rw [rk_ren w hr (sub_in (picks_mem.mp hp))]
/-! ### reordered -/
theorem map_at_range {m : Nat} {r : List Nat} (h : r.length = m) : (List.range m).map (at' r) = r := by
  subst h
  refine List.ext_getElem? fun i => ?_
  rw [List.getElem?_map]
  by_cases hi : i < r.length
  · rw [List.getElem?_range hi, List.getElem?_eq_getElem hi]
    simp [at', List.getElem?_eq_getElem hi]
  · rw [List.getElem?_eq_none (by simp; omega), List.getElem?_eq_none (by omega)]; rfl
theorem whole_reo {n : Nat} {ts : List (Int × Int)} (w : Web n ts) {r : List Nat} (hr : Pm ts.length r) : whole n (reoT r ts) = whole n ts := by
  unfold whole
  rw [reo_len, hr.len, rk_reo w hr (range_in _), map_at_range hr.len]
  exact rk_perm hr (web_okP w fun k hk => hr.lt hk)
theorem byP_reo {n : Nat} {ts : List (Int × Int)} (w : Web n ts) {r : List Nat} (hr : Pm ts.length r) : byP n (reoT r ts) = byP n ts := by
  rw [byP_eq, byP_eq]
  refine polyOf_ext fun k => ?_
  unfold SP
  rw [coef_flat, coef_flat, sumL_perm _ (picks_subs _), sumL_perm _ (picks_subs ts.length), reo_len, hr.len, whole_reo w hr]
  have h : NoOrd (· < ts.length) fun p => coef k (mo (whole n ts - rk n ts p) (p.length - rk n ts p)) := fun p q hp ho => by
    show coef k (mo (whole n ts - rk n ts p) (p.length - rk n ts p)) = coef k (mo (whole n ts - rk n ts q) (q.length - rk n ts q))
    rw [rk_perm hp (web_okP w fun k hk => ho k hk), hp.length_eq]
  have h2 := sum_perm (subs_perm hr h fun x hx => hr.lt hx)
  have e : subs r = (subs (List.range ts.length)).map (List.map (at' r)) := by rw [← subs_map, map_at_range hr.len]
  refine Eq.trans ?_ h2
  rw [e, List.map_map]
  refine congrArg List.sum (List.map_congr_left fun p hp => ?_)
  show _ = coef k (mo (whole n ts - rk n ts (p.map (at' r))) ((p.map (at' r)).length - rk n ts (p.map (at' r))))
  rw [rk_reo w hr (sub_in (subs_mem.mp hp)), List.length_map]
/-- a pick under its ties' new numbers -/
def renP (r T : List Nat) : List Nat := sortL ltN (T.map fun k => r.idxOf k)
theorem renP_nd (n : Nat) {ts : List (Int × Int)} {r : List Nat} (hr : Pm ts.length r) : ((trees n ts).map (renP r)).Nodup := by
  have inv1 : ∀ x, x < ts.length → r.idxOf (at' r x) = x := fun x hx => (at_idx' hr.nd (by rw [hr.len]; exact hx)).2
  have inv2 : ∀ y, y < ts.length → at' r (r.idxOf y) = y ∧ r.idxOf y < ts.length := fun y hy => by
    have hm := hr.has hy
    have hl := List.idxOf_lt_length_of_mem hm
    refine ⟨?_, by have := hr.len; omega⟩
    unfold at'
    rw [List.getElem?_eq_getElem hl, Option.getD_some, List.getElem_idxOf hl]
  have mapnd : ∀ {T : List Nat}, T.Nodup → inT ts.length T → (T.map fun k => r.idxOf k).Nodup := fun nd hin =>
    nodup_map (fun a ha b hb e => by rw [← (inv2 a (hin a ha)).1, ← (inv2 b (hin b hb)).1, e]) nd
  have back : ∀ {T : List Nat}, T.Nodup → inT ts.length T → ((renP r T).map (at' r)).Perm T := fun {T} nd hin => by
    have h1 : ((renP r T).map (at' r)).Perm ((T.map fun k => r.idxOf k).map (at' r)) := (sortL_perm ltN _).map _
    have h2 : (T.map fun k => r.idxOf k).map (at' r) = T := by
      rw [List.map_map]
      have : T.map ((at' r) ∘ fun k => r.idxOf k) = T.map id := List.map_congr_left fun k hk => (inv2 k (hin k hk)).1
      rw [this, List.map_id]
    rw [h2] at h1
    exact h1
  have hsub : ∀ {T : List Nat}, T.Sublist (List.range ts.length) → (renP r T).Sublist (List.range ts.length) := fun {T} h =>
    sort_sub (mapnd (List.nodup_range.sublist h) (sub_in h)) fun x hx => by
      obtain ⟨k, hk, rfl⟩ := List.mem_map.mp hx
      exact (inv2 k (sub_lt h hk)).2
  refine nodup_map (fun T hT S hS e => ?_) (trees_nd n ts)
  have hT := (trees_mem.mp hT).1
  have hS := (trees_mem.mp hS).1
  have b1 := back (List.nodup_range.sublist hT) (sub_in hT)
  have b2 := back (List.nodup_range.sublist hS) (sub_in hS)
  rw [e] at b1
  have pm := b1.symm.trans b2
  have s1 := sortL_self ltN_sto (ris_srt (sub_ris hT))
  have s2 := sortL_self ltN_sto (ris_srt (sub_ris hS))
  rw [← s1, ← s2]
  exact sortL_eq ltN_sto pm
theorem renP_len (r T : List Nat) : (renP r T).length = T.length := by unfold renP; rw [(sortL_perm ltN _).length_eq, List.length_map]
theorem trees_reo {n : Nat} {ts : List (Int × Int)} (w : Web n ts) {r : List Nat} (hr : Pm ts.length r) : trees n (reoT r ts) = sortL lexN ((trees n ts).map (renP r)) := by
  have inv1 : ∀ x, x < ts.length → r.idxOf (at' r x) = x := fun x hx => (at_idx' hr.nd (by rw [hr.len]; exact hx)).2
  have inv2 : ∀ y, y < ts.length → at' r (r.idxOf y) = y ∧ r.idxOf y < ts.length := fun y hy => by
    have hm := hr.has hy
    have hl := List.idxOf_lt_length_of_mem hm
    refine ⟨?_, by have := hr.len; omega⟩
    unfold at'
    rw [List.getElem?_eq_getElem hl, Option.getD_some, List.getElem_idxOf hl]
  have mapnd : ∀ {T : List Nat}, T.Nodup → inT ts.length T → (T.map fun k => r.idxOf k).Nodup := fun nd hin =>
    nodup_map (fun a ha b hb e => by rw [← (inv2 a (hin a ha)).1, ← (inv2 b (hin b hb)).1, e]) nd
  have back : ∀ {T : List Nat}, T.Nodup → inT ts.length T → ((renP r T).map (at' r)).Perm T := fun {T} nd hin => by
    have h1 : ((renP r T).map (at' r)).Perm ((T.map fun k => r.idxOf k).map (at' r)) := (sortL_perm ltN _).map _
    have h2 : (T.map fun k => r.idxOf k).map (at' r) = T := by
      rw [List.map_map]
      have : T.map ((at' r) ∘ fun k => r.idxOf k) = T.map id := List.map_congr_left fun k hk => (inv2 k (hin k hk)).1
      rw [this, List.map_id]
    rw [h2] at h1
    exact h1
  have hsub : ∀ {T : List Nat}, T.Sublist (List.range ts.length) → (renP r T).Sublist (List.range ts.length) := fun {T} h =>
    sort_sub (mapnd (List.nodup_range.sublist h) (sub_in h)) fun x hx => by
      obtain ⟨k, hk, rfl⟩ := List.mem_map.mp hx
      exact (inv2 k (sub_lt h hk)).2
  have nd2 := renP_nd n hr
  have e0 : trees n (reoT r ts) = sortL lexN (trees n (reoT r ts)) := (sortL_self lexN_sto (sortL_srt lexN_sto _)).symm
  rw [e0]
  refine sortL_eq lexN_sto ((List.perm_ext_iff_of_nodup (trees_nd _ _) nd2).mpr fun P => ?_)
  rw [trees_mem, reo_len, hr.len, whole_reo w hr, List.mem_map]
  constructor
  · rintro ⟨h1, h2, h3⟩
    rw [rk_reo w hr (sub_in h1)] at h3
    have ndP := List.nodup_range.sublist h1
    have nd3 : (P.map (at' r)).Nodup := nodup_map (fun a ha b hb e => by rw [← inv1 a (sub_lt h1 ha), ← inv1 b (sub_lt h1 hb), e]) ndP
    have in3 : inT ts.length (P.map (at' r)) := fun x hx => by
      obtain ⟨k, hk, rfl⟩ := List.mem_map.mp hx
      exact at_lt (fun y hy => hr.lt hy) hr.len (sub_lt h1 hk)
    have pm := sortL_perm ltN (P.map (at' r))
    refine ⟨sortL ltN (P.map (at' r)), trees_mem.mpr ⟨sort_sub nd3 in3, by rw [pm.length_eq, List.length_map]; exact h2, ?_⟩, ?_⟩
    · rw [← rk_perm pm.symm (web_okP w in3)]; exact h3
    · unfold renP
      have h4 : ((sortL ltN (P.map (at' r))).map fun k => r.idxOf k).Perm P := by
        have h5 := pm.map (fun k => r.idxOf k)
        rw [List.map_map] at h5
        have : P.map ((fun k => r.idxOf k) ∘ at' r) = P.map id := List.map_congr_left fun k hk => inv1 k (sub_lt h1 hk)
        rw [this, List.map_id] at h5
        exact h5
      rw [sortL_eq ltN_sto h4]
      exact sortL_self ltN_sto (ris_srt (sub_ris h1))
  · rintro ⟨T, hT, rfl⟩
    obtain ⟨a1, a2, a3⟩ := trees_mem.mp hT
    have b1 := back (List.nodup_range.sublist a1) (sub_in a1)
    refine ⟨hsub a1, ?_, ?_⟩
    · have := b1.length_eq
      rw [List.length_map] at this
      omega
    · rw [rk_reo w hr (sub_in (hsub a1)), ← rk_perm b1.symm (web_okP w (sub_in a1))]
      exact a3
end VL

namespace C87
open PySem VL
def topS (i : Nat) : Stmt := PySem.Challenge.pw_manycounts_k87_whole_products.main.body.getD i (.Pass ⟨0, 0, 0, 0⟩)
/-- is_whole: 0 thing -/
def b0 : XB := (.cons (.ret (.and (.isi (.var 0) .int) (.not (.isi (.var 0) .bool)))) .nil)
def e0 : Ent := ⟨0, Str.ofString "is_whole", Str.ofString "is_whole", topS 9, [Str.ofString "thing"], 1, [], b0⟩
/-- is_point: 0 points, 1 thing -/
def b1 : XB := (.cons (.ret (.and (.call 0 (.cons (.var 1) .nil)) (.chain .LtE .Lt (.int 0) (.var 1) (.var 0)))) .nil)
def e1 : Ent := ⟨1, Str.ofString "is_point", Str.ofString "is_point", topS 10, [Str.ofString "points", Str.ofString "thing"], 2, [], b1⟩
/-- numbers_in: 0 mask, 1 many, 2 k -/
def c2_0 : PX := (.var 2)
def d2_0 : PXs := (.cons (.cmp .Eq (.bin .BitAnd (.bin .RShift (.var 0) (.var 2)) (.int 1)) (.int 1)) .nil)
def q2_0 : PX := (.lcm c2_0 [2] true (.rng (.cons (.var 1) .nil)) d2_0 ⟨.function, [(Str.ofString ".0", .local), (Str.ofString "k", .local), (Str.ofString "mask", .free)], false, false, []⟩)
def b2 : XB := (.cons (.ret (.pri .tuple (.cons q2_0 .nil))) .nil)
def e2 : Ent := ⟨2, Str.ofString "numbers_in", Str.ofString "numbers_in", topS 11, [Str.ofString "mask", Str.ofString "many", Str.ofString "k"], 2, [], b2⟩
/-- size_ahead: 0 pick -/
def b3 : XB := (.cons (.ret (.tup (.cons (.pri .len (.cons (.var 0) .nil)) (.cons (.var 0) .nil)))) .nil)
def e3 : Ent := ⟨3, Str.ofString "size_ahead", Str.ofString "size_ahead", topS 12, [Str.ofString "pick"], 1, [], b3⟩
/-- all_picks: 0 web, 1 many, 2 mask -/
def c4_0 : PX := (.call 2 (.cons (.var 2) (.cons (.var 1) .nil)))
def d4_0 : PXs := .nil
def q4_0 : PX := (.lcm c4_0 [2] true (.rng (.cons (.bin .LShift (.int 1) (.var 1)) .nil)) d4_0 ⟨.function, [(Str.ofString ".0", .local), (Str.ofString "mask", .local), (Str.ofString "numbers_in", .globalImplicit), (Str.ofString "many", .free)], false, false, []⟩)
def b4 : XB := (.cons (.asg 1 (.pri .len (.cons (.idx (.var 0) (.int 1)) .nil))) (.cons (.frz 1) (.cons (.ret (.srtsz q4_0)) .nil)))
def e4 : Ent := ⟨4, Str.ofString "all_picks", Str.ofString "all_picks", topS 13, [Str.ofString "web", Str.ofString "many", Str.ofString "mask"], 1, [], b4⟩
/-- marks_of: 0 web, 1 pick, 2 marks, 3 k, 4 a, 5 b, 6 low, 7 high, 8 mark -/
def c5_0 : PX := (.ife (.cmp .Eq (.var 8) (.var 7)) (.var 6) (.var 8))
def d5_0 : PXs := .nil
def q5_0 : PX := (.lcm c5_0 [8] true (.var 2) d5_0 ⟨.function, [(Str.ofString ".0", .local), (Str.ofString "mark", .local), (Str.ofString "high", .free), (Str.ofString "low", .free)], false, false, []⟩)
def b5_0 : XB := (.cons (.unp [4, 5] (.idx (.idx (.var 0) (.int 1)) (.var 3))) (.cons (.asg 6 (.pri .min2 (.cons (.idx (.var 2) (.var 4)) (.cons (.idx (.var 2) (.var 5)) .nil)))) (.cons (.asg 7 (.pri .max2 (.cons (.idx (.var 2) (.var 4)) (.cons (.idx (.var 2) (.var 5)) .nil)))) (.cons (.asg 2 q5_0) .nil))))
def b5 : XB := (.cons (.asg 2 (.pri .lrng (.cons (.idx (.var 0) (.int 0)) .nil))) (.cons (.for [3] true (.var 1) b5_0 [3, 4, 5, 6, 7]) (.cons (.ret (.var 2)) .nil)))
def e5 : Ent := ⟨5, Str.ofString "marks_of", Str.ofString "marks_of", topS 15, [Str.ofString "web", Str.ofString "pick", Str.ofString "marks", Str.ofString "k", Str.ofString "a", Str.ofString "b", Str.ofString "low", Str.ofString "high", Str.ofString "mark"], 2, [], b5⟩
/-- rank_of: 0 web, 1 pick -/
def b6 : XB := (.cons (.ret (.bin .Sub (.idx (.var 0) (.int 0)) (.pri .lenset (.cons (.call 5 (.cons (.var 0) (.cons (.var 1) .nil))) .nil)))) .nil)
def e6 : Ent := ⟨6, Str.ofString "rank_of", Str.ofString "rank_of", topS 16, [Str.ofString "web", Str.ofString "pick"], 2, [], b6⟩
/-- every_tie: 0 web -/
def b7 : XB := (.cons (.ret (.pri .trng (.cons (.pri .len (.cons (.idx (.var 0) (.int 1)) .nil)) .nil))) .nil)
def e7 : Ent := ⟨7, Str.ofString "every_tie", Str.ofString "every_tie", topS 17, [Str.ofString "web"], 1, [], b7⟩
/-- gathered: 0 terms, 1 found, 2 i, 3 j, 4 times, 5 powers -/
def b8_0 : XB := (.cons (.dsto 1 (.tup (.cons (.var 2) (.cons (.var 3) .nil))) (.bin .Add (.dget 1 (.tup (.cons (.var 2) (.cons (.var 3) .nil))) (.int 0)) (.var 4))) .nil)
def c8_0 : PX := (.bin .Add (.var 5) (.tup (.cons (.dsub 1 (.var 5)) .nil)))
def d8_0 : PXs := (.cons (.cmp .NotEq (.dsub 1 (.var 5)) (.int 0)) .nil)
def q8_0 : PX := (.lcm c8_0 [5] true (.dsrt 1) d8_0 ⟨.function, [(Str.ofString ".0", .local), (Str.ofString "powers", .local), (Str.ofString "found", .free)], false, false, []⟩)
def b8 : XB := (.cons (.newT 1) (.cons (.for [2, 3, 4] false (.var 0) b8_0 [2, 3, 4]) (.cons (.ret (.pri .tuple (.cons q8_0 .nil))) .nil)))
def e8 : Ent := ⟨8, Str.ofString "gathered", Str.ofString "gathered", topS 19, [Str.ofString "terms", Str.ofString "found", Str.ofString "i", Str.ofString "j", Str.ofString "times", Str.ofString "powers"], 1, [], b8⟩
/-- sum_of: 0 one, 1 other -/
def b9 : XB := (.cons (.ret (.call 8 (.cons (.bin .Add (.pri .list (.cons (.var 0) .nil)) (.pri .list (.cons (.var 1) .nil))) .nil))) .nil)
def e9 : Ent := ⟨9, Str.ofString "sum_of", Str.ofString "sum_of", topS 20, [Str.ofString "one", Str.ofString "other"], 2, [], b9⟩
/-- product_of: 0 one, 1 other, 2 terms, 3 i, 4 j, 5 times, 6 more_i, 7 more_j, 8 more -/
def b10_0 : XB := (.cons (.mut .append 2 (.cons (.tup (.cons (.bin .Add (.var 3) (.var 6)) (.cons (.bin .Add (.var 4) (.var 7)) (.cons (.bin .Mult (.var 5) (.var 8)) .nil)))) .nil)) .nil)
def b10_1 : XB := (.cons (.for [6, 7, 8] false (.var 1) b10_0 [6, 7, 8]) .nil)
def b10 : XB := (.cons (.asg 2 (.lst .nil)) (.cons (.for [3, 4, 5] false (.var 0) b10_1 [3, 4, 5, 6, 7, 8]) (.cons (.frz 2) (.cons (.ret (.call 8 (.cons (.var 2) .nil))) .nil))))
def e10 : Ent := ⟨10, Str.ofString "product_of", Str.ofString "product_of", topS 21, [Str.ofString "one", Str.ofString "other", Str.ofString "terms", Str.ofString "i", Str.ofString "j", Str.ofString "times", Str.ofString "more_i", Str.ofString "more_j", Str.ofString "more"], 2, [], b10⟩
/-- to_power: 0 poly, 1 k, 2 made, 3 step -/
def i11_0 : PX := (.rng (.cons (.var 1) .nil))
def b11_0 : XB := (.cons (.frz 2) (.cons (.asg 2 (.call 10 (.cons (.var 2) (.cons (.var 0) .nil)))) .nil))
def b11 : XB := (.cons (.asg 2 (.tup (.cons (.tup (.cons (.int 0) (.cons (.int 0) (.cons (.int 1) .nil)))) .nil))) (.cons (.for [3] true i11_0 b11_0 [3]) (.cons (.ret (.var 2)) .nil)))
def e11 : Ent := ⟨11, Str.ofString "to_power", Str.ofString "to_power", topS 22, [Str.ofString "poly", Str.ofString "k", Str.ofString "made", Str.ofString "step"], 2, [], b11⟩
/-- in_order: 0 web, 1 order, 2 many, 3 k -/
def c12_0 : PX := (.call 0 (.cons (.var 3) .nil))
def d12_0 : PXs := .nil
def q12_0 : PX := (.lcm c12_0 [3] true (.var 1) d12_0 ⟨.function, [(Str.ofString ".0", .local), (Str.ofString "k", .local), (Str.ofString "is_whole", .globalImplicit)], false, false, []⟩)
def b12 : XB := (.cons (.asg 2 (.pri .len (.cons (.idx (.var 0) (.int 1)) .nil))) (.cons (.iff (.cmp .Is (.var 1) .none) (.cons (.ret (.pri .lrng (.cons (.var 2) .nil))) .nil) .nil) (.cons (.iff (.or (.not (.isi (.var 1) .listtuple)) (.not (.pri .all (.cons q12_0 .nil)))) (.cons (.raise 2 .nil) .nil) .nil) (.cons (.iff (.cmp .NotEq (.pri .sorted (.cons (.var 1) .nil)) (.pri .lrng (.cons (.var 2) .nil))) (.cons (.raise 2 .nil) .nil) .nil) (.cons (.ret (.pri .list (.cons (.var 1) .nil))) .nil)))))
def e12 : Ent := ⟨12, Str.ofString "in_order", Str.ofString "in_order", topS 24, [Str.ofString "web", Str.ofString "order", Str.ofString "many", Str.ofString "k"], 2, [], b12⟩
/-- tie_at: 0 a, 1 b -/
def b13 : XB := (.cons (.ret (.tup (.cons (.pri .min2 (.cons (.var 0) (.cons (.var 1) .nil))) (.cons (.pri .max2 (.cons (.var 0) (.cons (.var 1) .nil))) .nil)))) .nil)
def e13 : Ent := ⟨13, Str.ofString "tie_at", Str.ofString "tie_at", topS 26, [Str.ofString "a", Str.ofString "b"], 2, [], b13⟩
/-- is_places: 0 points, 1 places, 2 place -/
def c14_0 : PX := (.call 1 (.cons (.var 0) (.cons (.var 2) .nil)))
def d14_0 : PXs := .nil
def q14_0 : PX := (.lcm c14_0 [2] true (.var 1) d14_0 ⟨.function, [(Str.ofString ".0", .local), (Str.ofString "place", .local), (Str.ofString "is_point", .globalImplicit), (Str.ofString "points", .free)], false, false, []⟩)
def b14 : XB := (.cons (.iff (.or (.not (.isi (.var 1) .listtuple)) (.not (.pri .all (.cons q14_0 .nil)))) (.cons (.ret (.bool false)) .nil) .nil) (.cons (.ret (.cmp .Eq (.pri .sorted (.cons (.var 1) .nil)) (.pri .lrng (.cons (.var 0) .nil)))) .nil))
def e14 : Ent := ⟨14, Str.ofString "is_places", Str.ofString "is_places", topS 27, [Str.ofString "points", Str.ofString "places", Str.ofString "place"], 2, [], b14⟩
/-- renumbered: 0 web, 1 places, 2 a, 3 b -/
def c15_0 : PX := (.call 13 (.cons (.idx (.var 1) (.var 2)) (.cons (.idx (.var 1) (.var 3)) .nil)))
def d15_0 : PXs := .nil
def q15_0 : PX := (.lcm c15_0 [2, 3] false (.idx (.var 0) (.int 1)) d15_0 ⟨.function, [(Str.ofString ".0", .local), (Str.ofString "a", .local), (Str.ofString "b", .local), (Str.ofString "tie_at", .globalImplicit), (Str.ofString "places", .free)], false, false, []⟩)
def b15 : XB := (.cons (.iff (.not (.call 14 (.cons (.idx (.var 0) (.int 0)) (.cons (.var 1) .nil)))) (.cons (.raise 4 .nil) .nil) .nil) (.cons (.ret (.tup (.cons (.idx (.var 0) (.int 0)) (.cons (.pri .tuple (.cons q15_0 .nil)) .nil)))) .nil))
def e15 : Ent := ⟨15, Str.ofString "renumbered", Str.ofString "renumbered", topS 28, [Str.ofString "web", Str.ofString "places", Str.ofString "a", Str.ofString "b"], 2, [], b15⟩
/-- reordered: 0 web, 1 order, 2 k -/
def c16_0 : PX := (.idx (.idx (.var 0) (.int 1)) (.var 2))
def d16_0 : PXs := .nil
def q16_0 : PX := (.lcm c16_0 [2] true (.call 12 (.cons (.var 0) (.cons (.var 1) .nil))) d16_0 ⟨.function, [(Str.ofString ".0", .local), (Str.ofString "k", .local), (Str.ofString "web", .free)], false, false, []⟩)
def b16 : XB := (.cons (.ret (.tup (.cons (.idx (.var 0) (.int 0)) (.cons (.pri .tuple (.cons q16_0 .nil)) .nil)))) .nil)
def e16 : Ent := ⟨16, Str.ofString "reordered", Str.ofString "reordered", topS 29, [Str.ofString "web", Str.ofString "order", Str.ofString "k"], 2, [.none], b16⟩
/-- want_room: 0 points, 1 ties -/
def b17 : XB := (.cons (.iff (.or (.cmp .Gt (.var 0) (.glob 1)) (.cmp .Gt (.var 1) (.glob 0))) (.cons (.raise 1 .nil) .nil) .nil) .nil)
def e17 : Ent := ⟨17, Str.ofString "want_room", Str.ofString "want_room", topS 30, [Str.ofString "points", Str.ofString "ties"], 2, [], b17⟩
/-- laid_beside: 0 one, 1 other, 2 moved, 3 a, 4 b -/
def c18_0 : PX := (.tup (.cons (.bin .Add (.var 3) (.idx (.var 0) (.int 0))) (.cons (.bin .Add (.var 4) (.idx (.var 0) (.int 0))) .nil)))
def d18_0 : PXs := .nil
def q18_0 : PX := (.lcm c18_0 [3, 4] false (.idx (.var 1) (.int 1)) d18_0 ⟨.function, [(Str.ofString ".0", .local), (Str.ofString "a", .local), (Str.ofString "b", .local), (Str.ofString "one", .free)], false, false, []⟩)
def b18 : XB := (.cons (.exp (.call 17 (.cons (.bin .Add (.idx (.var 0) (.int 0)) (.idx (.var 1) (.int 0))) (.cons (.bin .Add (.pri .len (.cons (.idx (.var 0) (.int 1)) .nil)) (.pri .len (.cons (.idx (.var 1) (.int 1)) .nil))) .nil)))) (.cons (.asg 2 q18_0) (.cons (.ret (.tup (.cons (.bin .Add (.idx (.var 0) (.int 0)) (.idx (.var 1) (.int 0))) (.cons (.bin .Add (.idx (.var 0) (.int 1)) (.pri .tuple (.cons (.var 2) .nil))) .nil)))) .nil)))
def e18 : Ent := ⟨18, Str.ofString "laid_beside", Str.ofString "laid_beside", topS 31, [Str.ofString "one", Str.ofString "other", Str.ofString "moved", Str.ofString "a", Str.ofString "b"], 2, [], b18⟩
/-- laid_at: 0 one, 1 p, 2 other, 3 q, 4 places, 5 point, 6 moved, 7 a, 8 b -/
def i19_0 : PX := (.rng (.cons (.idx (.var 2) (.int 0)) .nil))
def b19_0 : XB := (.cons (.iff (.cmp .Eq (.var 5) (.var 3)) (.cons (.mut .append 4 (.cons (.var 1) .nil)) .nil) (.cons (.mut .append 4 (.cons (.bin .Sub (.bin .Add (.idx (.var 0) (.int 0)) (.var 5)) (.pri .int (.cons (.cmp .Gt (.var 5) (.var 3)) .nil))) .nil)) .nil)) .nil)
def c19_0 : PX := (.call 13 (.cons (.idx (.var 4) (.var 7)) (.cons (.idx (.var 4) (.var 8)) .nil)))
def d19_0 : PXs := .nil
def q19_0 : PX := (.lcm c19_0 [7, 8] false (.idx (.var 2) (.int 1)) d19_0 ⟨.function, [(Str.ofString ".0", .local), (Str.ofString "a", .local), (Str.ofString "b", .local), (Str.ofString "tie_at", .globalImplicit), (Str.ofString "places", .free)], false, false, []⟩)
def b19 : XB := (.cons (.iff (.or (.not (.call 1 (.cons (.idx (.var 0) (.int 0)) (.cons (.var 1) .nil)))) (.not (.call 1 (.cons (.idx (.var 2) (.int 0)) (.cons (.var 3) .nil))))) (.cons (.raise 3 .nil) .nil) .nil) (.cons (.exp (.call 17 (.cons (.bin .Sub (.bin .Add (.idx (.var 0) (.int 0)) (.idx (.var 2) (.int 0))) (.int 1)) (.cons (.bin .Add (.pri .len (.cons (.idx (.var 0) (.int 1)) .nil)) (.pri .len (.cons (.idx (.var 2) (.int 1)) .nil))) .nil)))) (.cons (.asg 4 (.lst .nil)) (.cons (.for [5] true i19_0 b19_0 [5]) (.cons (.asg 6 q19_0) (.cons (.ret (.tup (.cons (.bin .Sub (.bin .Add (.idx (.var 0) (.int 0)) (.idx (.var 2) (.int 0))) (.int 1)) (.cons (.bin .Add (.idx (.var 0) (.int 1)) (.pri .tuple (.cons (.var 6) .nil))) .nil)))) .nil))))))
def e19 : Ent := ⟨19, Str.ofString "laid_at", Str.ofString "laid_at", topS 32, [Str.ofString "one", Str.ofString "p", Str.ofString "other", Str.ofString "q", Str.ofString "places", Str.ofString "point", Str.ofString "moved", Str.ofString "a", Str.ofString "b"], 4, [], b19⟩
/-- size_table: 0 web, 1 counts, 2 pick, 3 row, 4 many -/
def i20_0 : PX := (.call 4 (.cons (.var 0) .nil))
def b20_0 : XB := (.cons (.asg 3 (.tup (.cons (.pri .len (.cons (.var 2) .nil)) (.cons (.call 6 (.cons (.var 0) (.cons (.var 2) .nil))) .nil)))) (.cons (.dsto 1 (.var 3) (.bin .Add (.dget 1 (.var 3) (.int 0)) (.int 1))) .nil))
def c20_0 : PX := (.tup (.cons (.idx (.var 3) (.int 0)) (.cons (.idx (.var 3) (.int 1)) (.cons (.var 4) .nil))))
def d20_0 : PXs := .nil
def q20_0 : PX := (.lci c20_0 [3, 4] 1 d20_0 ⟨.function, [(Str.ofString ".0", .local), (Str.ofString "row", .local), (Str.ofString "many", .local)], false, false, []⟩)
def b20 : XB := (.cons (.newT 1) (.cons (.for [2] true i20_0 b20_0 [2]) (.cons (.ret (.pri .sorted (.cons q20_0 .nil))) .nil)))
def e20 : Ent := ⟨20, Str.ofString "size_table", Str.ofString "size_table", topS 36, [Str.ofString "web", Str.ofString "counts", Str.ofString "pick", Str.ofString "row", Str.ofString "many"], 1, [], b20⟩
/-- by_picks: 0 web, 1 whole, 2 found, 3 size, 4 rank, 5 many, 6 part -/
def i21_0 : PX := (.call 20 (.cons (.var 0) .nil))
def b21_0 : XB := (.cons (.asg 6 (.call 10 (.cons (.call 11 (.cons (.glob 3) (.cons (.bin .Sub (.var 1) (.var 4)) .nil))) (.cons (.call 11 (.cons (.glob 2) (.cons (.bin .Sub (.var 3) (.var 4)) .nil))) .nil)))) (.cons (.frz 2) (.cons (.frz 6) (.cons (.asg 2 (.call 9 (.cons (.var 2) (.cons (.call 10 (.cons (.tup (.cons (.tup (.cons (.int 0) (.cons (.int 0) (.cons (.var 5) .nil)))) .nil)) (.cons (.var 6) .nil))) .nil)))) .nil))))
def b21 : XB := (.cons (.asg 1 (.call 6 (.cons (.var 0) (.cons (.pri .trng (.cons (.pri .len (.cons (.idx (.var 0) (.int 1)) .nil)) .nil)) .nil)))) (.cons (.asg 2 (.tup .nil)) (.cons (.for [3, 4, 5] false i21_0 b21_0 [3, 4, 5, 6]) (.cons (.ret (.var 2)) .nil))))
def e21 : Ent := ⟨21, Str.ofString "by_picks", Str.ofString "by_picks", topS 37, [Str.ofString "web", Str.ofString "whole", Str.ofString "found", Str.ofString "size", Str.ofString "rank", Str.ofString "many", Str.ofString "part"], 1, [], b21⟩
/-- all_trees: 0 web, 1 whole, 2 pick -/
def c22_0 : PX := (.var 2)
def d22_0 : PXs := (.cons (.and (.cmp .Eq (.pri .len (.cons (.var 2) .nil)) (.var 1)) (.cmp .Eq (.call 6 (.cons (.var 0) (.cons (.var 2) .nil))) (.var 1))) .nil)
def q22_0 : PX := (.lcm c22_0 [2] true (.call 4 (.cons (.var 0) .nil)) d22_0 ⟨.function, [(Str.ofString ".0", .local), (Str.ofString "pick", .local), (Str.ofString "len", .globalImplicit), (Str.ofString "rank_of", .globalImplicit), (Str.ofString "web", .free), (Str.ofString "whole", .free)], false, false, []⟩)
def b22 : XB := (.cons (.asg 1 (.call 6 (.cons (.var 0) (.cons (.call 7 (.cons (.var 0) .nil)) .nil)))) (.cons (.ret q22_0) .nil))
def e22 : Ent := ⟨22, Str.ofString "all_trees", Str.ofString "all_trees", topS 39, [Str.ofString "web", Str.ofString "whole", Str.ofString "pick"], 1, [], b22⟩
/-- _law_at: 0 _law_script, 1 _law_k -/
def b23 : XB := (.cons (.iff (.cmp .Lt (.var 1) (.pri .len (.cons (.var 0) .nil))) (.cons (.ret (.idx (.var 0) (.var 1))) .nil) .nil) (.cons (.ret (.int 0)) .nil))
def e23 : Ent := ⟨23, Str.ofString "_law_at", Str.ofString "_law_at", topS 41, [Str.ofString "_law_script", Str.ofString "_law_k"], 2, [], b23⟩
/-- _law_web: 0 _law_cells, 1 _law_points, 2 _law_ties, 3 _law_cell, 4 _law_a, 5 _law_b -/
def b24_0 : XB := (.cons (.asg 4 (.bin .Mod (.var 3) (.var 1))) (.cons (.asg 5 (.bin .Mod (.bin .FloorDiv (.var 3) (.var 1)) (.var 1))) (.cons (.iff (.and (.cmp .Eq (.bin .Mod (.bin .FloorDiv (.var 3) (.int 81)) (.int 4)) (.int 1)) (.cmp .NotEq (.var 2) (.lst .nil))) (.cons (.unp [4, 5] (.idx (.var 2) (.neg (.int 1)))) .nil) .nil) (.cons (.mut .append 2 (.cons (.tup (.cons (.pri .min2 (.cons (.var 4) (.cons (.var 5) .nil))) (.cons (.pri .max2 (.cons (.var 4) (.cons (.var 5) .nil))) .nil))) .nil)) .nil))))
def b24 : XB := (.cons (.asg 2 (.lst .nil)) (.cons (.for [3] true (.var 0) b24_0 [3, 4, 5]) (.cons (.ret (.tup (.cons (.var 1) (.cons (.pri .tuple (.cons (.var 2) .nil)) .nil)))) .nil)))
def e24 : Ent := ⟨24, Str.ofString "_law_web", Str.ofString "_law_web", topS 42, [Str.ofString "_law_cells", Str.ofString "_law_points", Str.ofString "_law_ties", Str.ofString "_law_cell", Str.ofString "_law_a", Str.ofString "_law_b"], 2, [], b24⟩
/-- _law_row: 0 _law_cells, 1 _law_many, 2 _law_row_here, 3 _law_k -/
def i25_0 : PX := (.rng (.cons (.var 1) .nil))
def b25_0 : XB := (.cons (.mut .insert 2 (.cons (.bin .Mod (.call 23 (.cons (.var 0) (.cons (.var 3) .nil))) (.bin .Add (.var 3) (.int 1))) (.cons (.var 3) .nil))) .nil)
def b25 : XB := (.cons (.asg 2 (.lst .nil)) (.cons (.for [3] true i25_0 b25_0 [3]) (.cons (.ret (.var 2)) .nil)))
def e25 : Ent := ⟨25, Str.ofString "_law_row", Str.ofString "_law_row", topS 43, [Str.ofString "_law_cells", Str.ofString "_law_many", Str.ofString "_law_row_here", Str.ofString "_law_k"], 2, [], b25⟩
/-- _law_pick: 0 _law_mask, 1 _law_many, 2 _law_k -/
def c26_0 : PX := (.var 2)
def d26_0 : PXs := (.cons (.cmp .Eq (.bin .BitAnd (.bin .RShift (.var 0) (.var 2)) (.int 1)) (.int 1)) .nil)
def q26_0 : PX := (.lcm c26_0 [2] true (.rng (.cons (.var 1) .nil)) d26_0 ⟨.function, [(Str.ofString ".0", .local), (Str.ofString "_law_k", .local), (Str.ofString "_law_mask", .free)], false, false, []⟩)
def b26 : XB := (.cons (.ret (.pri .tuple (.cons q26_0 .nil))) .nil)
def e26 : Ent := ⟨26, Str.ofString "_law_pick", Str.ofString "_law_pick", topS 44, [Str.ofString "_law_mask", Str.ofString "_law_many", Str.ofString "_law_k"], 2, [], b26⟩
/-- _law_split: 0 _law_pick_here, 1 _law_many, 2 _law_k -/
def c27_0 : PX := (.bin .Sub (.var 2) (.var 1))
def d27_0 : PXs := (.cons (.cmp .GtE (.var 2) (.var 1)) .nil)
def q27_0 : PX := (.lcm c27_0 [2] true (.var 0) d27_0 ⟨.function, [(Str.ofString ".0", .local), (Str.ofString "_law_k", .local), (Str.ofString "_law_many", .free)], false, false, []⟩)
def c27_1 : PX := (.var 2)
def d27_1 : PXs := (.cons (.cmp .Lt (.var 2) (.var 1)) .nil)
def q27_1 : PX := (.lcm c27_1 [2] true (.var 0) d27_1 ⟨.function, [(Str.ofString ".0", .local), (Str.ofString "_law_k", .local), (Str.ofString "_law_many", .free)], false, false, []⟩)
def b27 : XB := (.cons (.ret (.tup (.cons (.pri .tuple (.cons q27_1 .nil)) (.cons (.pri .tuple (.cons q27_0 .nil)) .nil)))) .nil)
def e27 : Ent := ⟨27, Str.ofString "_law_split", Str.ofString "_law_split", topS 45, [Str.ofString "_law_pick_here", Str.ofString "_law_many", Str.ofString "_law_k"], 2, [], b27⟩
/-- _law_both: 0 _law_one, 1 _law_other, 2 _law_many, 3 _law_found, 4 _law_tree, 5 _law_more, 6 _law_k -/
def i28_0 : PX := (.call 22 (.cons (.var 0) .nil))
def i28_1 : PX := (.call 22 (.cons (.var 1) .nil))
def c28_0 : PX := (.bin .Add (.var 6) (.var 2))
def d28_0 : PXs := .nil
def q28_0 : PX := (.lcm c28_0 [6] true (.var 5) d28_0 ⟨.function, [(Str.ofString ".0", .local), (Str.ofString "_law_k", .local), (Str.ofString "_law_many", .free)], false, false, []⟩)
def b28_0 : XB := (.cons (.mut .append 3 (.cons (.bin .Add (.var 4) (.pri .tuple (.cons q28_0 .nil))) .nil)) .nil)
def b28_1 : XB := (.cons (.for [5] true i28_1 b28_0 [5]) .nil)
def b28 : XB := (.cons (.asg 2 (.pri .len (.cons (.idx (.var 0) (.int 1)) .nil))) (.cons (.asg 3 (.lst .nil)) (.cons (.for [4] true i28_0 b28_1 [4, 5]) (.cons (.ret (.pri .sorted (.cons (.var 3) .nil))) .nil))))
def e28 : Ent := ⟨28, Str.ofString "_law_both", Str.ofString "_law_both", topS 46, [Str.ofString "_law_one", Str.ofString "_law_other", Str.ofString "_law_many", Str.ofString "_law_found", Str.ofString "_law_tree", Str.ofString "_law_more", Str.ofString "_law_k"], 2, [], b28⟩
/-- _law_ranks: 0 _law_web_here, 1 _law_one, 2 _law_other, 3 _law_masks, 4 _law_many, 5 _law_mask, 6 _law_pick_here, 7 _law_first, 8 _law_second -/
def b29_0 : XB := (.cons (.frz 4) (.cons (.asg 6 (.call 26 (.cons (.bin .Mod (.var 5) (.bin .LShift (.int 1) (.var 4))) (.cons (.var 4) .nil)))) (.cons (.frz 6) (.cons (.unp [7, 8] (.call 27 (.cons (.var 6) (.cons (.pri .len (.cons (.idx (.var 1) (.int 1)) .nil)) .nil)))) (.cons (.iff (.cmp .NotEq (.call 6 (.cons (.var 0) (.cons (.var 6) .nil))) (.bin .Add (.call 6 (.cons (.var 1) (.cons (.var 7) .nil))) (.call 6 (.cons (.var 2) (.cons (.var 8) .nil))))) (.cons (.ret (.bool false)) .nil) .nil) .nil)))))
def b29 : XB := (.cons (.asg 4 (.pri .len (.cons (.idx (.var 0) (.int 1)) .nil))) (.cons (.for [5] true (.var 3) b29_0 [5, 6, 7, 8]) (.cons (.ret (.bool true)) .nil)))
def e29 : Ent := ⟨29, Str.ofString "_law_ranks", Str.ofString "_law_ranks", topS 47, [Str.ofString "_law_web_here", Str.ofString "_law_one", Str.ofString "_law_other", Str.ofString "_law_masks", Str.ofString "_law_many", Str.ofString "_law_mask", Str.ofString "_law_pick_here", Str.ofString "_law_first", Str.ofString "_law_second"], 4, [], b29⟩
/-- _law_renamed: 0 _law_web_here, 1 _law_row_here, 2 _law_places, 3 _law_k, 4 _law_old, 5 _law_tree -/
def i30_0 : PX := (.enum (.var 1))
def b30_0 : XB := (.cons (.sto 2 (.var 4) (.var 3)) .nil)
def c30_0 : PX := (.idx (.var 2) (.var 3))
def d30_0 : PXs := .nil
def q30_0 : PX := (.lcm c30_0 [3] true (.var 5) d30_0 ⟨.function, [(Str.ofString ".0", .local), (Str.ofString "_law_k", .local), (Str.ofString "_law_places", .free)], false, false, []⟩)
def c30_1 : PX := (.pri .tuple (.cons (.pri .sorted (.cons q30_0 .nil)) .nil))
def d30_1 : PXs := .nil
def q30_1 : PX := (.lcm c30_1 [5] true (.call 22 (.cons (.var 0) .nil)) d30_1 ⟨.function, [(Str.ofString ".0", .local), (Str.ofString "_law_tree", .local), (Str.ofString "tuple", .globalImplicit), (Str.ofString "sorted", .globalImplicit), (Str.ofString "_law_places", .free)], false, false, []⟩)
def b30 : XB := (.cons (.asg 2 (.bin .Mult (.lst (.cons (.int 0) .nil)) (.pri .len (.cons (.var 1) .nil)))) (.cons (.for [3, 4] false i30_0 b30_0 [4]) (.cons (.ret (.pri .sorted (.cons q30_1 .nil))) .nil)))
def e30 : Ent := ⟨30, Str.ofString "_law_renamed", Str.ofString "_law_renamed", topS 48, [Str.ofString "_law_web_here", Str.ofString "_law_row_here", Str.ofString "_law_places", Str.ofString "_law_k", Str.ofString "_law_old", Str.ofString "_law_tree"], 2, [], b30⟩
/-- law: 0 _law_script, 1 _law_head, 2 _law_few, 3 _law_one, 4 _law_other, 5 _law_due, 6 _law_trees, 7 _law_webs, 8 _law_web_here, 9 _law_row_here, 10 _law_turned, 11 _law_moved -/
def b31_0 : XB := (.cons (.iff (.or (.cmp .NotEq (.call 21 (.cons (.var 8) .nil)) (.var 5)) (.or (.cmp .NotEq (.call 22 (.cons (.var 8) .nil)) (.var 6)) (.not (.call 29 (.cons (.var 8) (.cons (.var 3) (.cons (.var 4) (.cons (.slc (.var 0) (.cons (.int 9) .nil) (.cons (.int 15) .nil)) .nil)))))))) (.cons (.ret (.bool false)) .nil) .nil) (.cons (.asg 9 (.call 25 (.cons (.slc (.var 0) (.cons (.int 15) .nil) (.cons (.int 23) .nil)) (.cons (.pri .len (.cons (.idx (.var 8) (.int 1)) .nil)) .nil)))) (.cons (.frz 9) (.cons (.asg 10 (.call 16 (.cons (.var 8) (.cons (.var 9) .nil)))) (.cons (.iff (.or (.cmp .NotEq (.call 21 (.cons (.var 10) .nil)) (.var 5)) (.cmp .NotEq (.call 22 (.cons (.var 10) .nil)) (.call 30 (.cons (.var 8) (.cons (.var 9) .nil))))) (.cons (.ret (.bool false)) .nil) .nil) (.cons (.asg 11 (.call 15 (.cons (.var 8) (.cons (.call 25 (.cons (.slc (.var 0) (.cons (.int 23) .nil) (.cons (.int 32) .nil)) (.cons (.idx (.var 8) (.int 0)) .nil))) .nil)))) (.cons (.iff (.or (.cmp .NotEq (.call 22 (.cons (.var 11) .nil)) (.var 6)) (.cmp .NotEq (.call 21 (.cons (.var 11) .nil)) (.var 5))) (.cons (.ret (.bool false)) .nil) .nil) .nil)))))))
def b31 : XB := (.cons (.asg 1 (.call 23 (.cons (.var 0) (.cons (.int 0) .nil)))) (.cons (.asg 2 (.idx (.lst (.cons (.int 2) (.cons (.int 3) (.cons (.int 2) (.cons (.int 3) (.cons (.int 2) (.cons (.int 4) (.cons (.int 2) (.cons (.int 3) .nil))))))))) (.bin .Mod (.bin .FloorDiv (.var 1) (.int 81)) (.int 8)))) (.cons (.asg 3 (.call 24 (.cons (.slc (.var 0) (.cons (.int 1) .nil) (.cons (.bin .Add (.int 1) (.var 2)) .nil)) (.cons (.bin .Add (.int 1) (.bin .Mod (.var 1) (.int 3))) .nil)))) (.cons (.asg 4 (.call 24 (.cons (.slc (.var 0) (.cons (.int 5) .nil) (.cons (.bin .Add (.int 5) (.var 2)) .nil)) (.cons (.bin .Add (.int 1) (.bin .Mod (.bin .FloorDiv (.var 1) (.int 3)) (.int 3))) .nil)))) (.cons (.frz 3) (.cons (.frz 4) (.cons (.asg 5 (.call 10 (.cons (.call 21 (.cons (.var 3) .nil)) (.cons (.call 21 (.cons (.var 4) .nil)) .nil)))) (.cons (.frz 3) (.cons (.frz 4) (.cons (.asg 6 (.call 28 (.cons (.var 3) (.cons (.var 4) .nil)))) (.cons (.frz 3) (.cons (.frz 4) (.cons (.asg 7 (.lst (.cons (.call 18 (.cons (.var 3) (.cons (.var 4) .nil))) (.cons (.call 19 (.cons (.var 3) (.cons (.bin .Mod (.bin .FloorDiv (.var 1) (.int 9)) (.idx (.var 3) (.int 0))) (.cons (.var 4) (.cons (.bin .Mod (.bin .FloorDiv (.var 1) (.int 27)) (.idx (.var 4) (.int 0))) .nil))))) .nil)))) (.cons (.for [8] true (.var 7) b31_0 [8, 9, 10, 11]) (.cons (.ret (.bool true)) .nil)))))))))))))))
def e31 : Ent := ⟨31, Str.ofString "law", Str.ofString "law", topS 49, [Str.ofString "_law_script", Str.ofString "_law_head", Str.ofString "_law_few", Str.ofString "_law_one", Str.ofString "_law_other", Str.ofString "_law_due", Str.ofString "_law_trees", Str.ofString "_law_webs", Str.ofString "_law_web_here", Str.ofString "_law_row_here", Str.ofString "_law_turned", Str.ofString "_law_moved"], 1, [], b31⟩
def T : List Ent := [e0, e1, e2, e3, e4, e5, e6, e7, e8, e9, e10, e11, e12, e13, e14, e15, e16, e17, e18, e19, e20, e21, e22, e23, e24, e25, e26, e27, e28, e29, e30, e31]
def gls : List Str := [(Str.ofString "MOST_TIES"), (Str.ofString "MOST_POINTS"), (Str.ofString "Y_LESS"), (Str.ofString "X_LESS")]
def gl : List PyData := [.int 8, .int 9, .tuple [.tuple [.int 0, .int 0, .int (-1)], .tuple [.int 0, .int 1, .int 1]], .tuple [.tuple [.int 0, .int 0, .int (-1)], .tuple [.int 1, .int 0, .int 1]]]
theorem gl_0 : gl[0]? = some (.int 8) := rfl
theorem gl_1 : gl[1]? = some (.int 9) := rfl
theorem gl_2 : gl[2]? = some (.tuple [.tuple [.int 0, .int 0, .int (-1)], .tuple [.int 0, .int 1, .int 1]]) := rfl
theorem gl_3 : gl[3]? = some (.tuple [.tuple [.int 0, .int 0, .int (-1)], .tuple [.int 1, .int 0, .int 1]]) := rfl
def exs : List (Nat × Str) := [(2, Str.ofString "NoOrder"), (4, Str.ofString "NoPlaces"), (1, Str.ofString "TooMany"), (3, Str.ofString "NoPoint")]
def rcs : List (Nat × Str) := [(2, Str.ofString "NoOrder"), (4, Str.ofString "NoPlaces"), (1, Str.ofString "TooMany"), (3, Str.ofString "NoPoint")]
def nm : Nm := nmOf T gls exs rcs
def cd : Nat → Option VL.Code
  | 0 => some e0.code
  | 1 => some e1.code
  | 2 => some e2.code
  | 3 => some e3.code
  | 4 => some e4.code
  | 5 => some e5.code
  | 6 => some e6.code
  | 7 => some e7.code
  | 8 => some e8.code
  | 9 => some e9.code
  | 10 => some e10.code
  | 11 => some e11.code
  | 12 => some e12.code
  | 13 => some e13.code
  | 14 => some e14.code
  | 15 => some e15.code
  | 16 => some e16.code
  | 17 => some e17.code
  | 18 => some e18.code
  | 19 => some e19.code
  | 20 => some e20.code
  | 21 => some e21.code
  | 22 => some e22.code
  | 23 => some e23.code
  | 24 => some e24.code
  | 25 => some e25.code
  | 26 => some e26.code
  | 27 => some e27.code
  | 28 => some e28.code
  | 29 => some e29.code
  | 30 => some e30.code
  | 31 => some e31.code
  | _ => none
set_option maxRecDepth 100000 in
theorem t_ok : (T.all fun e => e.ok nm) = true := by decide +kernel
end C87
namespace C87
open PySem VL

theorem f8loop (tb : Tb) (T : D) (ts : List Mn) (hl : ts.length < 1000000) : forLoop (takes [2, 3, 4] false) (evB tb b8_0) (killS [2, 3, 4]) (ts.map trT) [.fz T, .dt [], .un, .un, .un, .un] = .nx [.fz T, .dt (enc (gath ts)), .un, .un, .un, .un] := by
  have := for_eq (tk := takes [2, 3, 4] false) (B := evB tb b8_0) (kl := killS [2, 3, 4]) (l := ts.map trT) (env := [.fz T, .dt [], .un, .un, .un, .un])
    (fun j => [.fz T, .dt (enc ((ts.take j).foldl accM [])), .un, .un, .un, .un]) 0 (by simp [killS, enc]) (fun i d hd => ?_)
  · rw [this, List.length_map, Nat.zero_add, List.take_length]; rfl
  · rw [List.getElem?_map] at hd
    obtain ⟨t, ht, rfl⟩ := Option.map_eq_some_iff.mp hd
    rw [Nat.zero_add, fold_take accM [] ts i t ht]
    have hm : ((ts.take i).foldl accM []).length < 1000000 := by
      have h1 := gath_len (ts.take i) []
      have h2 := (List.getElem?_eq_some_iff.mp ht).1
      simp at h1
      omega
    generalize (ts.take i).foldl accM [] = m at *
    have g1 := getD_enc t.1 m
    have g2 := put_acc t m
    have g3 : keyT (.tuple [.int t.1.1, .int t.1.2]) = some (kk t.1) := rfl
    have g4 : (enc m).length < LIM := by rw [enc_len, LIM_eq]; omega
    refine ⟨[.fz T, .dt (enc m), .fz (.int t.1.1), .fz (.int t.1.2), .fz (.int t.2), .un], [.fz T, .dt (enc (accM m t)), .fz (.int t.1.1), .fz (.int t.1.2), .fz (.int t.2), .un], by simp [trT, takes, setAll], ?_, by simp [killS]⟩
    generalize (lookM t.1 m).getD 0 = z at *
    simp [VL.run, Ent.code, evB, evS, ev, evs, evI, start', Rs.bind, Rs.then, Rs.of, onOpt, slotR, R.d, PR.r, retR, toSlot, lentR, lent, R.isBw, keepAll, keepR, allOpt, bwOf, frzIt, frzAll, frz1, isiD, L2.atI, L2.ixN, itemsOf, c_le, c_lt, c_ge, c_gt, c_eq, c_ne, c_is, c_isnot, isNone, partI, p_lenl, p_lent, p_min2, p_max2, p_min12, p_max12, p_tuplel, p_tuplet, p_listl, p_listt, p_sum, p_any, p_all, p_abs, p_inti, p_intb, o_add, o_sub, o_mul, o_fdiv, o_mod, i_l, i_t, b8_0, kvsOf, g3, g1, g2, g4]

theorem f8 (k : Nat) (ts : List Mn) (hl : ts.length < 1000000) : fnF cd gl (k + 1) 8 [.list (ts.map trT)] = .ok (.v (.tuple ((polyOf ts).map trT))) := by
  rw [fn_eq (c := e8.code) rfl]
  have hloop := f8loop ⟨fnF cd gl k, gl⟩ (.list (ts.map trT)) ts hl
  have hg := gath_le ts
  have hq : ∀ (T : D), ev ⟨fnF cd gl k, gl⟩ q8_0 [.fz T, .dt (enc (gath ts)), .un, .un, .un, .un] = .ok (.nw ((polyOf ts).map trT)) := by
    intro T
    unfold q8_0
    have hso := srtOk_P ((gath ts).map (·.1))
    have hsd := sortD_P ((gath ts).map (·.1))
    have hi : evI ⟨fnF cd gl k, gl⟩ (.dsrt 1) [.fz T, .dt (enc (gath ts)), .un, .un, .un, .un] = .ok ((sortL ltP ((gath ts).map (·.1))).map prT) := by
      rw [← keysD_enc] at hso hsd
      generalize (sortL ltP ((gath ts).map (·.1))).map prT = B at *
      simp [VL.run, Ent.code, evB, evS, ev, evs, evI, start', Rs.bind, Rs.then, Rs.of, onOpt, slotR, R.d, PR.r, retR, toSlot, lentR, lent, R.isBw, keepAll, keepR, allOpt, bwOf, frzIt, frzAll, frz1, isiD, L2.atI, L2.ixN, itemsOf, c_le, c_lt, c_ge, c_gt, c_eq, c_ne, c_is, c_isnot, isNone, partI, p_lenl, p_lent, p_min2, p_max2, p_min12, p_max12, p_tuplel, p_tuplet, p_listl, p_listt, p_sum, p_any, p_all, p_abs, p_inti, p_intb, o_add, o_sub, o_mul, o_fdiv, o_mod, i_l, i_t, hso, hsd, walkD]
    refine ev_lcm hi (by rw [List.length_map, (sortL_perm ltP _).length_eq, List.length_map, LIM_eq]; omega) ?_
    unfold polyOf
    rw [List.map_map]
    refine lc_filt (fun k => decide (coef k ts ≠ 0)) prT _ fun p hp => ?_
    have hk := look_at ((sortL_perm ltP _).mem_iff.mp hp)
    have hkey := keyT_pr p
    refine ⟨[.fz T, .dt (enc (gath ts)), .un, .un, .un, .fz (prT p)], rfl, ?_, fun _ => ⟨.fz (trT (p, coef p ts)), ?_, rfl⟩⟩
    · generalize prT p = P at *
      generalize enc (gath ts) = zM at *
      simp [VL.run, Ent.code, evB, evS, ev, evs, evI, start', Rs.bind, Rs.then, Rs.of, onOpt, slotR, R.d, PR.r, retR, toSlot, lentR, lent, R.isBw, keepAll, keepR, allOpt, bwOf, frzIt, frzAll, frz1, isiD, L2.atI, L2.ixN, itemsOf, c_le, c_lt, c_ge, c_gt, c_eq, c_ne, c_is, c_isnot, isNone, partI, p_lenl, p_lent, p_min2, p_max2, p_min12, p_max12, p_tuplel, p_tuplet, p_listl, p_listt, p_sum, p_any, p_all, p_abs, p_inti, p_intb, o_add, o_sub, o_mul, o_fdiv, o_mod, i_l, i_t, testR, d8_0, kvsOf, hkey, hk, VL.toBool]
    · have hc : binD .Add (prT p) (.tuple [.int (coef p ts)]) = some (.v (trT (p, coef p ts))) := o_catt (xs := [.int p.1, .int p.2]) _ (by rw [LIM_eq]; simp)
      generalize prT p = P at *
      generalize trT (p, coef p ts) = zR at *
      generalize enc (gath ts) = zM at *
      simp [VL.run, Ent.code, evB, evS, ev, evs, evI, start', Rs.bind, Rs.then, Rs.of, onOpt, slotR, R.d, PR.r, retR, toSlot, lentR, lent, R.isBw, keepAll, keepR, allOpt, bwOf, frzIt, frzAll, frz1, isiD, L2.atI, L2.ixN, itemsOf, c_le, c_lt, c_ge, c_gt, c_eq, c_ne, c_is, c_isnot, isNone, partI, p_lenl, p_lent, p_min2, p_max2, p_min12, p_max12, p_tuplel, p_tuplet, p_listl, p_listt, p_sum, p_any, p_all, p_abs, p_inti, p_intb, o_add, o_sub, o_mul, o_fdiv, o_mod, i_l, i_t, c8_0, kvsOf, hkey, hk, hc]
  generalize (polyOf ts).map trT = zR at *
  generalize enc (gath ts) = zM at *
  generalize ts.map trT = zV at *
  simp [VL.run, Ent.code, evB, evS, ev, evs, evI, start', Rs.bind, Rs.then, Rs.of, onOpt, slotR, R.d, PR.r, retR, toSlot, lentR, lent, R.isBw, keepAll, keepR, allOpt, bwOf, frzIt, frzAll, frz1, isiD, L2.atI, L2.ixN, itemsOf, c_le, c_lt, c_ge, c_gt, c_eq, c_ne, c_is, c_isnot, isNone, partI, p_lenl, p_lent, p_min2, p_max2, p_min12, p_max12, p_tuplel, p_tuplet, p_listl, p_listt, p_sum, p_any, p_all, p_abs, p_inti, p_intb, o_add, o_sub, o_mul, o_fdiv, o_mod, i_l, i_t, e8, b8, walkD, hloop, hq]

theorem f10in (tb : Tb) (A : D) (us : List Mn) (t : Mn) (acc : List Mn) (ht : Bd 1000 t.2) (h2 : ∀ u ∈ us, Bd 1000 u.2) (hl : acc.length + us.length < 1000000) :
    forLoop (takes [6, 7, 8] false) (evB tb b10_0) (killS [6, 7, 8]) (us.map trT) [.fz A, .fz (.tuple (us.map trT)), .ow (acc.map trT), .fz (.int t.1.1), .fz (.int t.1.2), .fz (.int t.2), .un, .un, .un] =
      .nx [.fz A, .fz (.tuple (us.map trT)), .ow ((acc ++ us.map (mulM t)).map trT), .fz (.int t.1.1), .fz (.int t.1.2), .fz (.int t.2), .un, .un, .un] := by
  have := for_eq (tk := takes [6, 7, 8] false) (B := evB tb b10_0) (kl := killS [6, 7, 8]) (l := us.map trT) (env := [.fz A, .fz (.tuple (us.map trT)), .ow (acc.map trT), .fz (.int t.1.1), .fz (.int t.1.2), .fz (.int t.2), .un, .un, .un])
    (fun j => [.fz A, .fz (.tuple (us.map trT)), .ow ((acc ++ (us.take j).map (mulM t)).map trT), .fz (.int t.1.1), .fz (.int t.1.2), .fz (.int t.2), .un, .un, .un]) 0 (by simp [killS]) (fun i d hd => ?_)
  · rw [this, List.length_map, Nat.zero_add, List.take_length]
  · rw [List.getElem?_map] at hd
    obtain ⟨u, hu, rfl⟩ := Option.map_eq_some_iff.mp hd
    rw [Nat.zero_add]
    have hm := h2 u (List.mem_of_getElem? hu)
    have hmul : mulOk t.2 u.2 = true := ht.ok hm (by decide) (by decide)
    have e : ((acc ++ (us.take (i + 1)).map (mulM t)).map trT) = (acc ++ (us.take i).map (mulM t)).map trT ++ [trT (mulM t u)] := by
      rw [List.take_add_one, hu]
      simp
    have hlen : ((acc ++ (us.take i).map (mulM t)).map trT).length < LIM := by
      have hi := (List.getElem?_eq_some_iff.mp hu).1
      rw [List.length_map, List.length_append, List.length_map, List.length_take, LIM_eq]
      omega
    rw [e]
    refine ⟨[.fz A, .fz (.tuple (us.map trT)), .ow ((acc ++ (us.take i).map (mulM t)).map trT), .fz (.int t.1.1), .fz (.int t.1.2), .fz (.int t.2), .fz (.int u.1.1), .fz (.int u.1.2), .fz (.int u.2)],
      [.fz A, .fz (.tuple (us.map trT)), .ow ((acc ++ (us.take i).map (mulM t)).map trT ++ [trT (mulM t u)]), .fz (.int t.1.1), .fz (.int t.1.2), .fz (.int t.2), .fz (.int u.1.1), .fz (.int u.1.2), .fz (.int u.2)], rfl, ?_, by simp [killS]⟩
    generalize (acc ++ (us.take i).map (mulM t)).map trT = Z at *
    generalize us.map trT = U at *
    simp [VL.run, Ent.code, evB, evS, ev, evs, evI, start', Rs.bind, Rs.then, Rs.of, onOpt, slotR, R.d, PR.r, retR, toSlot, lentR, lent, R.isBw, keepAll, keepR, allOpt, bwOf, frzIt, frzAll, frz1, isiD, L2.atI, L2.ixN, itemsOf, c_le, c_lt, c_ge, c_gt, c_eq, c_ne, c_is, c_isnot, isNone, partI, p_lenl, p_lent, p_min2, p_max2, p_min12, p_max12, p_tuplel, p_tuplet, p_listl, p_listt, p_sum, p_any, p_all, p_abs, p_inti, p_intb, o_add, o_sub, o_mul, o_fdiv, o_mod, i_l, i_t, b10_0, hmul, mutR, mutL, hlen, trT, mulM]
theorem f10out (tb : Tb) (A : D) (us : List Mn) (ts : List Mn) (h1 : ∀ u ∈ ts, Bd 1000 u.2) (h2 : ∀ u ∈ us, Bd 1000 u.2) (hl : ts.length * us.length < 1000000) :
    forLoop (takes [3, 4, 5] false) (evB tb b10_1) (killS [3, 4, 5, 6, 7, 8]) (ts.map trT) [.fz A, .fz (.tuple (us.map trT)), .ow [], .un, .un, .un, .un, .un, .un] =
      .nx [.fz A, .fz (.tuple (us.map trT)), .ow ((prodT ts us).map trT), .un, .un, .un, .un, .un, .un] := by
  have := for_eq (tk := takes [3, 4, 5] false) (B := evB tb b10_1) (kl := killS [3, 4, 5, 6, 7, 8]) (l := ts.map trT) (env := [.fz A, .fz (.tuple (us.map trT)), .ow [], .un, .un, .un, .un, .un, .un])
    (fun j => [.fz A, .fz (.tuple (us.map trT)), .ow ((prodT (ts.take j) us).map trT), .un, .un, .un, .un, .un, .un]) 0 (by simp [killS, prodT]) (fun i d hd => ?_)
  · rw [this, List.length_map, Nat.zero_add, List.take_length]
  · rw [List.getElem?_map] at hd
    obtain ⟨t, ht, rfl⟩ := Option.map_eq_some_iff.mp hd
    rw [Nat.zero_add]
    have e : prodT (ts.take (i + 1)) us = prodT (ts.take i) us ++ us.map (mulM t) := by
      rw [List.take_add_one, ht, prodT_app]
      simp [prodT]
    have hi := (List.getElem?_eq_some_iff.mp ht).1
    have hin := f10in tb A us t (prodT (ts.take i) us) (h1 t (List.mem_of_getElem? ht)) h2 (by
      rw [prodT_len, List.length_take, Nat.min_eq_left (by omega)]
      have := Nat.mul_le_mul_right us.length (show i + 1 ≤ ts.length by omega)
      rw [Nat.succ_mul] at this
      omega)
    rw [e]
    refine ⟨[.fz A, .fz (.tuple (us.map trT)), .ow ((prodT (ts.take i) us).map trT), .fz (.int t.1.1), .fz (.int t.1.2), .fz (.int t.2), .un, .un, .un],
      [.fz A, .fz (.tuple (us.map trT)), .ow ((prodT (ts.take i) us ++ us.map (mulM t)).map trT), .fz (.int t.1.1), .fz (.int t.1.2), .fz (.int t.2), .un, .un, .un], rfl, ?_, by simp [killS]⟩
    generalize (prodT (ts.take i) us ++ us.map (mulM t)).map trT = Z2 at *
    generalize (prodT (ts.take i) us).map trT = Z at *
    generalize us.map trT = U at *
    simp [VL.run, Ent.code, evB, evS, ev, evs, evI, start', Rs.bind, Rs.then, Rs.of, onOpt, slotR, R.d, PR.r, retR, toSlot, lentR, lent, R.isBw, keepAll, keepR, allOpt, bwOf, frzIt, frzAll, frz1, isiD, L2.atI, L2.ixN, itemsOf, c_le, c_lt, c_ge, c_gt, c_eq, c_ne, c_is, c_isnot, isNone, partI, p_lenl, p_lent, p_min2, p_max2, p_min12, p_max12, p_tuplel, p_tuplet, p_listl, p_listt, p_sum, p_any, p_all, p_abs, p_inti, p_intb, o_add, o_sub, o_mul, o_fdiv, o_mod, i_l, i_t, b10_1, walkD, hin]
theorem f10 (k : Nat) (ts us : List Mn) (h1 : ∀ u ∈ ts, Bd 1000 u.2) (h2 : ∀ u ∈ us, Bd 1000 u.2) (hl : ts.length * us.length < 1000000) : fnF cd gl (k + 2) 10 [.tuple (ts.map trT), .tuple (us.map trT)] = .ok (.v (.tuple ((mulP ts us).map trT))) := by
  rw [fn_eq (c := e10.code) rfl]
  have ho := f10out ⟨fnF cd gl (k + 1), gl⟩ (.tuple (ts.map trT)) us ts h1 h2 hl
  have hg := f8 k (prodT ts us) (by rw [prodT_len]; exact hl)
  unfold mulP
  generalize (polyOf (prodT ts us)).map trT = W at *
  generalize (prodT ts us).map trT = Z at *
  generalize us.map trT = U at *
  generalize ts.map trT = zV at *
  simp [VL.run, Ent.code, evB, evS, ev, evs, evI, start', Rs.bind, Rs.then, Rs.of, onOpt, slotR, R.d, PR.r, retR, toSlot, lentR, lent, R.isBw, keepAll, keepR, allOpt, bwOf, frzIt, frzAll, frz1, isiD, L2.atI, L2.ixN, itemsOf, c_le, c_lt, c_ge, c_gt, c_eq, c_ne, c_is, c_isnot, isNone, partI, p_lenl, p_lent, p_min2, p_max2, p_min12, p_max12, p_tuplel, p_tuplet, p_listl, p_listt, p_sum, p_any, p_all, p_abs, p_inti, p_intb, o_add, o_sub, o_mul, o_fdiv, o_mod, i_l, i_t, e10, b10, walkD, ho, hg]

theorem tp_ok {ps : List Mn} (h : ∀ p ∈ ps, okB 3 7 p) (hl : ps.length ≤ 4) : ∀ j, j ≤ 20 → (∀ p ∈ pwr ps j, okB (3 * j) (21 * j + 1) p) ∧ (pwr ps j).length ≤ 3721
  | 0, _ => ⟨fun p hp => by rw [List.mem_singleton.mp hp]; exact ⟨by decide, by decide, by unfold Bd; decide⟩, by show 1 ≤ 3721; decide⟩
  | j + 1, hj => by
    obtain ⟨a1, a2⟩ := tp_ok h hl j (by omega)
    have h3 := prodT_ok a1 h
    have h4 : ∀ p ∈ pwr ps (j + 1), okB (3 * j + 3) (21 * j + 1 + 7 + 14) p := polyOf_ok2 (L := 14) h3 (by
      rw [prodT_len]
      have := Nat.mul_le_mul a2 hl
      omega)
    refine ⟨fun p hp => (h4 p hp).mono (by omega) (by omega), ?_⟩
    have h5 := can_len (e := 60) (tp_can ps (j + 1)) (fun p hp => (h4 p hp).mono (show 3 * j + 3 ≤ 60 by omega) (Nat.le_refl _))
    omega
theorem f11 (k : Nat) (ps : List Mn) (n : Nat) (hn : n ≤ 20) (h : ∀ p ∈ ps, okB 3 7 p) (hl : ps.length ≤ 4) : fnF cd gl (k + 3) 11 [.tuple (ps.map trT), .int (n : Int)] = .ok (.v (.tuple ((pwr ps n).map trT))) := by
  rw [fn_eq (c := e11.code) rfl]
  have hloop : forLoop (takes [3] true) (evB ⟨fnF cd gl (k + 2), gl⟩ b11_0) (killS [3]) (rngL 0 (n : Int)) [.fz (.tuple (ps.map trT)), .fz (.int (n : Int)), .fz (.tuple ((pwr ps 0).map trT)), .un] = .nx [.fz (.tuple (ps.map trT)), .fz (.int (n : Int)), .fz (.tuple ((pwr ps n).map trT)), .un] := by
    rw [rng0]
    have := for_eq (tk := takes [3] true) (B := evB ⟨fnF cd gl (k + 2), gl⟩ b11_0) (kl := killS [3]) (l := (List.range n).map fun i : Nat => PyData.int (i : Int)) (env := [.fz (.tuple (ps.map trT)), .fz (.int (n : Int)), .fz (.tuple ((pwr ps 0).map trT)), .un])
      (fun j => [.fz (.tuple (ps.map trT)), .fz (.int (n : Int)), .fz (.tuple ((pwr ps j).map trT)), .un]) 0 (by simp [killS]) (fun i d hd => ?_)
    · simpa using this
    · rw [Nat.zero_add]
      have hi : i < n := by
        have := (List.getElem?_eq_some_iff.mp hd).1
        simpa using this
      obtain ⟨a1, a2⟩ := tp_ok h hl i (by omega)
      have hp := f10 k (pwr ps i) ps (fun u hu => (a1 u hu).2.2.mono (by omega)) (fun u hu => (h u hu).2.2.mono (by decide)) (by
        have := Nat.mul_le_mul a2 hl
        omega)
      refine ⟨[.fz (.tuple (ps.map trT)), .fz (.int (n : Int)), .fz (.tuple ((pwr ps i).map trT)), .fz d], [.fz (.tuple (ps.map trT)), .fz (.int (n : Int)), .fz (.tuple ((pwr ps (i + 1)).map trT)), .fz d], rfl, ?_, by simp [killS]⟩
      have e : pwr ps (i + 1) = mulP (pwr ps i) ps := rfl
      rw [e]
      generalize (mulP (pwr ps i) ps).map trT = Z at *
      generalize (pwr ps i).map trT = Y at *
      generalize ps.map trT = P at *
      simp [VL.run, Ent.code, evB, evS, ev, evs, evI, start', Rs.bind, Rs.then, Rs.of, onOpt, slotR, R.d, PR.r, retR, toSlot, lentR, lent, R.isBw, keepAll, keepR, allOpt, bwOf, frzIt, frzAll, frz1, isiD, L2.atI, L2.ixN, itemsOf, c_le, c_lt, c_ge, c_gt, c_eq, c_ne, c_is, c_isnot, isNone, partI, p_lenl, p_lent, p_min2, p_max2, p_min12, p_max12, p_tuplel, p_tuplet, p_listl, p_listt, p_sum, p_any, p_all, p_abs, p_inti, p_intb, o_add, o_sub, o_mul, o_fdiv, o_mod, i_l, i_t, b11_0, hp]
  have hit : ∀ M : VL.Slot, evI ⟨fnF cd gl (k + 2), gl⟩ i11_0 [.fz (.tuple (ps.map trT)), .fz (.int (n : Int)), M, .un] = .ok (rngL 0 (n : Int)) := by
    intro M
    unfold i11_0
    refine ev_rng (rs := [.fz (.int (n : Int))]) (by simp [VL.run, Ent.code, evB, evS, ev, evs, evI, start', Rs.bind, Rs.then, Rs.of, onOpt, slotR, R.d, PR.r, retR, toSlot, lentR, lent, R.isBw, keepAll, keepR, allOpt, bwOf, frzIt, frzAll, frz1, isiD, L2.atI, L2.ixN, itemsOf, c_le, c_lt, c_ge, c_gt, c_eq, c_ne, c_is, c_isnot, isNone, partI, p_lenl, p_lent, p_min2, p_max2, p_min12, p_max12, p_tuplel, p_tuplet, p_listl, p_listt, p_sum, p_any, p_all, p_abs, p_inti, p_intb, o_add, o_sub, o_mul, o_fdiv, o_mod, i_l, i_t]) (r_1 _ ⟨by rw [LIM_eq]; omega, by omega⟩)
  have hb : bwOf i11_0 = [] := rfl
  have e0 : (pwr ps 0).map trT = [.tuple [.int 0, .int 0, .int 1]] := rfl
  rw [e0] at hloop
  generalize rngL 0 (n : Int) = RL at *
  generalize (pwr ps n).map trT = W at *
  generalize ps.map trT = P at *
  simp [VL.run, Ent.code, evB, evS, ev, evs, evI, start', Rs.bind, Rs.then, Rs.of, onOpt, slotR, R.d, PR.r, retR, toSlot, lentR, lent, R.isBw, keepAll, keepR, allOpt, bwOf, frzIt, frzAll, frz1, isiD, L2.atI, L2.ixN, itemsOf, c_le, c_lt, c_ge, c_gt, c_eq, c_ne, c_is, c_isnot, isNone, partI, p_lenl, p_lent, p_min2, p_max2, p_min12, p_max12, p_tuplel, p_tuplet, p_listl, p_listt, p_sum, p_any, p_all, p_abs, p_inti, p_intb, o_add, o_sub, o_mul, o_fdiv, o_mod, i_l, i_t, e11, b11, hit, hb, hloop]

def at0 (ns : List Int) (j : Nat) : Int := (ns[j]?).getD 0
theorem f23 (k : Nat) (ns : List Int) (j : Nat) : fnF cd gl (k + 1) 23 [.list (ns.map .int), .int (j : Int)] = .ok (.v (.int (at0 ns j))) := by
  rw [fn_eq (c := e23.code) rfl]
  by_cases h : j < ns.length
  · have hi : idxD (.list (ns.map PyData.int)) (.int (j : Int)) = some (.int (at0 ns j)) := by
      rw [i_l, at_nat, List.getElem?_map]
      unfold at0
      rw [List.getElem?_eq_getElem h]
      rfl
    have hl : (j : Int) < ns.length := by omega
    have h1 : priD .len [.list (ns.map PyData.int)] = some (.v (.int ns.length)) := by rw [p_lenl, List.length_map]
    generalize ns.map PyData.int = U at *
    simp [VL.run, Ent.code, evB, evS, ev, evs, evI, start', Rs.bind, Rs.then, Rs.of, onOpt, slotR, R.d, PR.r, retR, toSlot, lentR, lent, R.isBw, keepAll, keepR, allOpt, bwOf, frzIt, frzAll, frz1, isiD, L2.atI, L2.ixN, itemsOf, c_le, c_lt, c_ge, c_gt, c_eq, c_ne, c_is, c_isnot, isNone, partI, p_lent, p_min2, p_max2, p_min12, p_max12, p_tuplel, p_tuplet, p_listl, p_listt, p_sum, p_any, p_all, p_abs, p_inti, p_intb, o_add, o_sub, o_mul, o_fdiv, o_mod, i_l, i_t, e23, b23, hi, hl, h1]
  · have he : at0 ns j = 0 := by
      unfold at0
      rw [List.getElem?_eq_none (by omega)]
      rfl
    have hl : ¬ (j : Int) < ns.length := by omega
    have h1 : priD .len [.list (ns.map PyData.int)] = some (.v (.int ns.length)) := by rw [p_lenl, List.length_map]
    rw [he]
    generalize ns.map PyData.int = U at *
    simp [VL.run, Ent.code, evB, evS, ev, evs, evI, start', Rs.bind, Rs.then, Rs.of, onOpt, slotR, R.d, PR.r, retR, toSlot, lentR, lent, R.isBw, keepAll, keepR, allOpt, bwOf, frzIt, frzAll, frz1, isiD, L2.atI, L2.ixN, itemsOf, c_le, c_lt, c_ge, c_gt, c_eq, c_ne, c_is, c_isnot, isNone, partI, p_lent, p_min2, p_max2, p_min12, p_max12, p_tuplel, p_tuplet, p_listl, p_listt, p_sum, p_any, p_all, p_abs, p_inti, p_intb, o_add, o_sub, o_mul, o_fdiv, o_mod, i_l, i_t, e23, b23, hl, h1]

theorem f0 (k : Nat) (d : PyData) : fnF cd gl (k + 1) 0 [d] = .ok (.v (.bool (isInt d))) := by
  rw [fn_eq (c := e0.code) rfl]
  cases d <;> simp [VL.run, Ent.code, evB, evS, ev, evs, evI, start', Rs.bind, Rs.then, Rs.of, onOpt, slotR, R.d, PR.r, retR, toSlot, lentR, lent, R.isBw, keepAll, keepR, allOpt, bwOf, frzIt, frzAll, frz1, isiD, L2.atI, L2.ixN, itemsOf, c_le, c_lt, c_ge, c_gt, c_eq, c_ne, c_is, c_isnot, isNone, partI, p_lenl, p_lent, p_min2, p_max2, p_min12, p_max12, p_tuplel, p_tuplet, p_listl, p_listt, p_sum, p_any, p_all, p_abs, p_inti, p_intb, o_add, o_sub, o_mul, o_fdiv, o_mod, i_l, i_t, e0, b0, isInt]

theorem f1 (k : Nat) (n : Int) (i : Int) (h : 0 ≤ i ∧ i < n) : fnF cd gl (k + 2) 1 [.int n, .int i] = .ok (.v (.bool true)) := by
  rw [fn_eq (c := e1.code) rfl]
  simp [VL.run, Ent.code, evB, evS, ev, evs, evI, start', Rs.bind, Rs.then, Rs.of, onOpt, slotR, R.d, PR.r, retR, toSlot, lentR, lent, R.isBw, keepAll, keepR, allOpt, bwOf, frzIt, frzAll, frz1, isiD, L2.atI, L2.ixN, itemsOf, c_le, c_lt, c_ge, c_gt, c_eq, c_ne, c_is, c_isnot, isNone, partI, p_lenl, p_lent, p_min2, p_max2, p_min12, p_max12, p_tuplel, p_tuplet, p_listl, p_listt, p_sum, p_any, p_all, p_abs, p_inti, p_intb, o_add, o_sub, o_mul, o_fdiv, o_mod, i_l, i_t, e1, b1, f0, isInt, h]

theorem f2 (k : Nat) (a m : Nat) (hm : m ≤ 8) : fnF cd gl (k + 1) 2 [.int (a : Int), .int (m : Int)] = .ok (.v (tupR (bits a m))) := by
  rw [fn_eq (c := e2.code) rfl]
  have hq : ev ⟨fnF cd gl k, gl⟩ q2_0 [.fz (.int (a : Int)), .fz (.int (m : Int)), .un] = .ok (.nw (rI (bits a m))) := by
    unfold q2_0
    refine ev_lcm (ds := rI (List.range m)) ?_ (by rw [rI_len, List.length_range, LIM_eq]; omega) (lc_filt (fun j => a.testBit j) (fun i : Nat => PyData.int (i : Int)) (fun i : Nat => PyData.int (i : Int)) fun i hi => ?_)
    · rw [← rI_rng]
      exact ev_rng (rs := [.fz (.int (m : Int))]) (by simp [VL.run, Ent.code, evB, evS, ev, evs, evI, start', Rs.bind, Rs.then, Rs.of, onOpt, slotR, R.d, PR.r, retR, toSlot, lentR, lent, R.isBw, keepAll, keepR, allOpt, bwOf, frzIt, frzAll, frz1, isiD, L2.atI, L2.ixN, itemsOf, c_le, c_lt, c_ge, c_gt, c_eq, c_ne, c_is, c_isnot, isNone, partI, p_lenl, p_lent, p_min2, p_max2, p_min12, p_max12, p_tuplel, p_tuplet, p_listl, p_listt, p_sum, p_any, p_all, p_abs, p_inti, p_intb, o_add, o_sub, o_mul, o_fdiv, o_mod, i_l, i_t]) (r_1 _ ⟨by rw [LIM_eq]; omega, by omega⟩)
    · refine ⟨[.fz (.int (a : Int)), .fz (.int (m : Int)), .fz (.int (i : Int))], rfl, ?_, fun _ => ⟨.fz (.int (i : Int)), by simp [VL.run, Ent.code, evB, evS, ev, evs, evI, start', Rs.bind, Rs.then, Rs.of, onOpt, slotR, R.d, PR.r, retR, toSlot, lentR, lent, R.isBw, keepAll, keepR, allOpt, bwOf, frzIt, frzAll, frz1, isiD, L2.atI, L2.ixN, itemsOf, c_le, c_lt, c_ge, c_gt, c_eq, c_ne, c_is, c_isnot, isNone, partI, p_lenl, p_lent, p_min2, p_max2, p_min12, p_max12, p_tuplel, p_tuplet, p_listl, p_listt, p_sum, p_any, p_all, p_abs, p_inti, p_intb, o_add, o_sub, o_mul, o_fdiv, o_mod, i_l, i_t, c2_0], rfl⟩⟩
      have h1 := o_shrN a i
      have h2 := o_and1 (a / 2 ^ i)
      have h3 := bit_dec a i
      have h4 := c_eq ((a / 2 ^ i % 2 : Nat) : Int) 1
      rw [h3] at h4
      clear h3
      unfold testR
      generalize ((a / 2 ^ i % 2 : Nat) : Int) = x1 at *
      generalize ((a / 2 ^ i : Nat) : Int) = x2 at *
      generalize a.testBit i = bb at *
      simp only [d2_0, evs, ev, List.getElem?_cons_zero, List.getElem?_cons_succ, slotR, Rs.bind, R.d, h1, PR.r, h2, h4, VL.toBool, Rs.of]
  unfold tupR
  generalize rI (bits a m) = U at *
  simp [VL.run, Ent.code, evB, evS, ev, evs, evI, start', Rs.bind, Rs.then, Rs.of, onOpt, slotR, R.d, PR.r, retR, toSlot, lentR, lent, R.isBw, keepAll, keepR, allOpt, bwOf, frzIt, frzAll, frz1, isiD, L2.atI, L2.ixN, itemsOf, c_le, c_lt, c_ge, c_gt, c_eq, c_ne, c_is, c_isnot, isNone, partI, p_lenl, p_lent, p_min2, p_max2, p_min12, p_max12, p_tuplel, p_tuplet, p_listl, p_listt, p_sum, p_any, p_all, p_abs, p_inti, p_intb, o_add, o_sub, o_mul, o_fdiv, o_mod, i_l, i_t, e2, b2, hq]

theorem f4 (k : Nat) (n : Int) (ts : List (Int × Int)) (hl : ts.length ≤ 8) : fnF cd gl (k + 2) 4 [Wb n ts] = .ok (.l ((allP ts.length).map tupR)) := by
  rw [fn_eq (c := e4.code) rfl]
  have h2 : 2 ^ ts.length ≤ 256 := by
    have := Nat.pow_le_pow_right (n := 2) (by omega) hl
    omega
  have hq : ev ⟨fnF cd gl (k + 1), gl⟩ q4_0 [.fz (Wb n ts), .fz (.int (ts.length : Int)), .un] = .ok (.nw ((picks ts.length).map tupR)) := by
    unfold q4_0 picks
    rw [List.map_map]
    refine ev_lcm (ds := rI (List.range (2 ^ ts.length))) ?_ (by rw [rI_len, List.length_range, LIM_eq]; omega) (lc_of (fun i : Nat => PyData.int (i : Int)) _ fun i hi => ?_)
    · rw [← rI_rng]
      have hs := o_shl ts.length (by omega)
      have key : ∀ z : Nat, z ≤ 256 → rngD [.int (z : Int)] = some (rngL 0 z) := fun z hz => r_1 _ ⟨by rw [LIM_eq]; omega, by omega⟩
      refine ev_rng (rs := [.fz (.int ((2 ^ ts.length : Nat) : Int))]) ?_ (key _ h2)
      generalize ((2 ^ ts.length : Nat) : Int) = x1 at *
      generalize (ts.length : Int) = x2 at *
      simp [VL.run, Ent.code, evB, evS, ev, evs, evI, start', Rs.bind, Rs.then, Rs.of, onOpt, slotR, R.d, PR.r, retR, toSlot, lentR, lent, R.isBw, keepAll, keepR, allOpt, bwOf, frzIt, frzAll, frz1, isiD, L2.atI, L2.ixN, itemsOf, c_le, c_lt, c_ge, c_gt, c_eq, c_ne, c_is, c_isnot, isNone, partI, p_lenl, p_lent, p_min2, p_max2, p_min12, p_max12, p_tuplel, p_tuplet, p_listl, p_listt, p_sum, p_any, p_all, p_abs, p_inti, p_intb, o_add, o_sub, o_mul, o_fdiv, o_mod, i_l, i_t, hs]
    · refine ⟨[.fz (Wb n ts), .fz (.int (ts.length : Int)), .fz (.int (i : Int))], .fz (tupR (bits i ts.length)), rfl, bwt _ _, ?_, rfl⟩
      have := f2 k i ts.length hl
      generalize tupR (bits i ts.length) = U at *
      generalize (ts.length : Int) = x2 at *
      simp [VL.run, Ent.code, evB, evS, ev, evs, evI, start', Rs.bind, Rs.then, Rs.of, onOpt, slotR, R.d, PR.r, retR, toSlot, lentR, lent, R.isBw, keepAll, keepR, allOpt, bwOf, frzIt, frzAll, frz1, isiD, L2.atI, L2.ixN, itemsOf, c_le, c_lt, c_ge, c_gt, c_eq, c_ne, c_is, c_isnot, isNone, partI, p_lenl, p_lent, p_min2, p_max2, p_min12, p_max12, p_tuplel, p_tuplet, p_listl, p_listt, p_sum, p_any, p_all, p_abs, p_inti, p_intb, o_add, o_sub, o_mul, o_fdiv, o_mod, i_l, i_t, c4_0, this]
  have hti : ((picks ts.length).map tupR).all isTI = true := by
    rw [List.all_eq_true]
    intro d hd
    obtain ⟨r, _, rfl⟩ := List.mem_map.mp hd
    exact isTI_tupR r
  have hso := sort_tupR (picks ts.length)
  have hlen : priD .len [.tuple (ts.map prT)] = some (.v (.int (ts.length : Int))) := by rw [p_lent, List.length_map]
  have i1 : idxD (Wb n ts) (.int 1) = some (.tuple (ts.map prT)) := rfl
  have he : (allP ts.length).map tupR = (sortL szN (picks ts.length)).map tupR := rfl
  rw [he]
  generalize (sortL szN (picks ts.length)).map tupR = U2 at *
  generalize (picks ts.length).map tupR = U at *
  generalize (ts.length : Int) = x2 at *
  generalize ts.map prT = U4 at *
  generalize Wb n ts = W1 at *
  simp only [VL.run, Ent.code, e4, b4, start', evB, evS, frz1, ev, evs, List.map_cons, List.map_nil, List.length_cons, List.length_nil, List.replicate, List.cons_append, List.nil_append, List.append_nil, List.getElem?_cons_zero, List.getElem?_cons_succ, slotR, Rs.bind, R.d, PR.r, i1, hlen, Rs.then, onOpt, toSlot, List.set_cons_zero, List.set_cons_succ, hq, asList, hti, if_true, hso, retR, Nat.reduceAdd, Nat.reduceSub]

theorem f5 (k : Nat) (n : Nat) (ts : List (Int × Int)) (w : Web n ts) (p : List Nat) (hp : inT ts.length p) (o : D) (ho : o = .list (rI p) ∨ o = .tuple (rI p)) : fnF cd gl (k + 1) 5 [Wb n ts, o] = .ok (.l (rI (marksP n ts p))) := by
  rw [fn_eq (c := e5.code) rfl]
  have n9 := w.n9
  have hloop : forLoop (takes [3] true) (evB ⟨fnF cd gl k, gl⟩ b5_0) (killS [3, 4, 5, 6, 7]) (rI p) [.fz (Wb n ts), .fz o, .ow (rI (List.range n)), .un, .un, .un, .un, .un, .un] = .nx [.fz (Wb n ts), .fz o, .ow (rI (marksP n ts p)), .un, .un, .un, .un, .un, .un] := by
    refine for_fold (fun l => [.fz (Wb n ts), .fz o, .ow (rI l), .un, .un, .un, .un, .un, .un]) (mkP ts) (fun i : Nat => PyData.int (i : Int)) (fun l => l.length = n) (by simp [killS]) (by simp) (fun l x hx hl => ?_)
    have hxl := hp x hx
    have ho' := w.ok ts[x] (List.getElem_mem hxl)
    have i0 := idx_tie hxl
    have i1 : idxD (Wb n ts) (.int 1) = some (.tuple (ts.map prT)) := rfl
    have a1 := idx_mark (l := l) ho'.1.1 (by rw [hl]; exact ho'.1.2)
    have a2 := idx_mark (l := l) ho'.2.1 (by rw [hl]; exact ho'.2.2)
    have eP : mkP ts l x = mk (max (at' l ts[x].1.toNat) (at' l ts[x].2.toNat)) (min (at' l ts[x].1.toNat) (at' l ts[x].2.toNat)) l := by unfold mkP; rw [tN_at hxl]
    refine ⟨[.fz (Wb n ts), .fz o, .ow (rI l), .fz (.int (x : Int)), .un, .un, .un, .un, .un], [.fz (Wb n ts), .fz o, .ow (rI (mkP ts l x)), .fz (.int (x : Int)), .fz (.int ts[x].1), .fz (.int ts[x].2), .fz (.int ((min (at' l ts[x].1.toNat) (at' l ts[x].2.toNat) : Nat) : Int)), .fz (.int ((max (at' l ts[x].1.toNat) (at' l ts[x].2.toNat) : Nat) : Int)), .un], rfl, ?_, by simp [killS], by rw [mkP_len, hl]⟩
    rw [eP]
    generalize at' l ts[x].1.toNat = A at *
    generalize at' l ts[x].2.toNat = B at *
    generalize ts[x].1 = ta at *
    generalize ts[x].2 = tb at *
    have m1 : priD .min2 [.int (A : Int), .int (B : Int)] = some (.v (.int ((min A B : Nat) : Int))) := by rw [p_min2, show min (A : Int) (B : Int) = ((min A B : Nat) : Int) by omega]
    have m2 : priD .max2 [.int (A : Int), .int (B : Int)] = some (.v (.int ((max A B : Nat) : Int))) := by rw [p_max2, show max (A : Int) (B : Int) = ((max A B : Nat) : Int) by omega]
    have hq : ∀ (y3 y4 y5 : VL.Slot) (u v : Nat), ev ⟨fnF cd gl k, gl⟩ q5_0 [.fz (Wb n ts), .fz o, .ow (rI l), y3, y4, y5, .fz (.int (v : Int)), .fz (.int (u : Int)), .un] = .ok (.nw (rI (mk u v l))) := fun y3 y4 y5 u v => by
      unfold q5_0 mk
      have e : rI (l.map fun m => if m = u then v else m) = l.map fun m => PyData.int ((if m = u then v else m : Nat) : Int) := by unfold rI; rw [List.map_map]; rfl
      rw [e]
      refine ev_lcm (ds := rI l) (by generalize rI l = zU; simp [VL.run, Ent.code, evB, evS, ev, evs, evI, start', Rs.bind, Rs.then, Rs.of, onOpt, slotR, R.d, PR.r, retR, toSlot, lentR, lent, R.isBw, keepAll, keepR, allOpt, bwOf, frzIt, frzAll, frz1, isiD, L2.atI, L2.ixN, itemsOf, c_le, c_lt, c_ge, c_gt, c_eq, c_ne, c_is, c_isnot, isNone, partI, p_lenl, p_lent, p_min2, p_max2, p_min12, p_max12, p_tuplel, p_tuplet, p_listl, p_listt, p_sum, p_any, p_all, p_abs, p_inti, p_intb, o_add, o_sub, o_mul, o_fdiv, o_mod, i_l, i_t, walkD]) (by rw [rI_len, hl, LIM_eq]; omega) (lc_of (fun i : Nat => PyData.int (i : Int)) _ fun m hm => ?_)
      refine ⟨[.fz (Wb n ts), .fz o, .ow (rI l), y3, y4, y5, .fz (.int (v : Int)), .fz (.int (u : Int)), .fz (.int (m : Int))], .fz (.int ((if m = u then v else m : Nat) : Int)), rfl, bwt _ _, ?_, rfl⟩
      by_cases h : m = u
      · subst h
        generalize (m : Int) = z1
        simp [VL.run, Ent.code, evB, evS, ev, evs, evI, start', Rs.bind, Rs.then, Rs.of, onOpt, slotR, R.d, PR.r, retR, toSlot, lentR, lent, R.isBw, keepAll, keepR, allOpt, bwOf, frzIt, frzAll, frz1, isiD, L2.atI, L2.ixN, itemsOf, c_le, c_lt, c_ge, c_gt, c_eq, c_ne, c_is, c_isnot, isNone, partI, p_lenl, p_lent, p_min2, p_max2, p_min12, p_max12, p_tuplel, p_tuplet, p_listl, p_listt, p_sum, p_any, p_all, p_abs, p_inti, p_intb, o_add, o_sub, o_mul, o_fdiv, o_mod, i_l, i_t, c5_0]
      · have h' : ¬ ((m : Int) = (u : Int)) := by omega
        rw [if_neg h]
        generalize (m : Int) = z1 at *
        generalize (u : Int) = z2 at *
        simp [VL.run, Ent.code, evB, evS, ev, evs, evI, start', Rs.bind, Rs.then, Rs.of, onOpt, slotR, R.d, PR.r, retR, toSlot, lentR, lent, R.isBw, keepAll, keepR, allOpt, bwOf, frzIt, frzAll, frz1, isiD, L2.atI, L2.ixN, itemsOf, c_le, c_lt, c_ge, c_gt, c_eq, c_ne, c_is, c_isnot, isNone, partI, p_lenl, p_lent, p_min2, p_max2, p_min12, p_max12, p_tuplel, p_tuplet, p_listl, p_listt, p_sum, p_any, p_all, p_abs, p_inti, p_intb, o_add, o_sub, o_mul, o_fdiv, o_mod, i_l, i_t, c5_0, h']
    have hq := fun y3 y4 y5 => hq y3 y4 y5 (max A B) (min A B)
    generalize rI (mk (max A B) (min A B) l) = U5 at *
    generalize rI l = U at *
    generalize ts.map prT = U4 at *
    generalize Wb n ts = W1 at *
    generalize ((max A B : Nat) : Int) = z1 at *
    generalize ((min A B : Nat) : Int) = z2 at *
    generalize (A : Int) = z3 at *
    generalize (B : Int) = z4 at *
    generalize (x : Int) = z5 at *
    simp [VL.run, Ent.code, evB, evS, ev, evs, evI, start', Rs.bind, Rs.then, Rs.of, onOpt, slotR, R.d, PR.r, retR, toSlot, lentR, lent, R.isBw, keepAll, keepR, allOpt, bwOf, frzIt, frzAll, frz1, L2.atI, L2.ixN, itemsOf, c_le, c_lt, c_ge, c_gt, c_eq, c_ne, c_is, c_isnot, isNone, partI, p_min12, p_max12, p_tuplel, p_tuplet, p_listl, p_listt, p_sum, p_any, p_all, p_abs, p_inti, p_intb, o_add, o_sub, o_mul, o_fdiv, b5_0, i0, i1, a1, a2, m1, m2, hq, setAll]
  have i0 : idxD (Wb n ts) (.int 0) = some (.int (n : Int)) := rfl
  have hr := p_lrng n (by omega)
  rcases ho with rfl | rfl
  · generalize rI (marksP n ts p) = U5 at *
    generalize rI (List.range n) = U at *
    generalize rI p = U4 at *
    generalize Wb n ts = W1 at *
    simp [VL.run, Ent.code, evB, evS, ev, evs, evI, start', Rs.bind, Rs.then, Rs.of, onOpt, slotR, R.d, PR.r, retR, toSlot, lentR, lent, R.isBw, keepAll, keepR, allOpt, bwOf, frzIt, frzAll, frz1, L2.atI, L2.ixN, itemsOf, c_le, c_lt, c_ge, c_gt, c_eq, c_ne, c_is, c_isnot, isNone, partI, p_min12, p_max12, p_tuplel, p_tuplet, p_listl, p_listt, p_sum, p_any, p_all, p_abs, p_inti, p_intb, o_add, o_sub, o_mul, o_fdiv, e5, b5, i0, hr, walkD, hloop]
  · generalize rI (marksP n ts p) = U5 at *
    generalize rI (List.range n) = U at *
    generalize rI p = U4 at *
    generalize Wb n ts = W1 at *
    simp [VL.run, Ent.code, evB, evS, ev, evs, evI, start', Rs.bind, Rs.then, Rs.of, onOpt, slotR, R.d, PR.r, retR, toSlot, lentR, lent, R.isBw, keepAll, keepR, allOpt, bwOf, frzIt, frzAll, frz1, L2.atI, L2.ixN, itemsOf, c_le, c_lt, c_ge, c_gt, c_eq, c_ne, c_is, c_isnot, isNone, partI, p_min12, p_max12, p_tuplel, p_tuplet, p_listl, p_listt, p_sum, p_any, p_all, p_abs, p_inti, p_intb, o_add, o_sub, o_mul, o_fdiv, e5, b5, i0, hr, walkD, hloop]

theorem f6 (k : Nat) (n : Nat) (ts : List (Int × Int)) (w : Web n ts) (p : List Nat) (hp : inT ts.length p) (o : D) (ho : o = .list (rI p) ∨ o = .tuple (rI p)) : fnF cd gl (k + 2) 6 [Wb n ts, o] = .ok (.v (.int (rk n ts p : Int))) := by
  rw [fn_eq (c := e6.code) rfl]
  have hm := f5 k n ts w p hp o ho
  have n9 := w.n9
  have hr := rk_prog (web_okP w hp)
  have hl := (marks_rel (web_okP w hp)).2.2.1
  have hd := p_lenset (marksP n ts p) (by omega)
  have i0 : idxD (Wb n ts) (.int 0) = some (.int (n : Int)) := rfl
  have e : (n : Int) - ((dd (marksP n ts p)).length : Int) = (rk n ts p : Int) := by omega
  rw [← e]
  generalize ((dd (marksP n ts p)).length : Int) = z1 at *
  generalize rI (marksP n ts p) = U5 at *
  generalize Wb n ts = W1 at *
  generalize (n : Int) = z2 at *
  simp [VL.run, Ent.code, evB, evS, ev, evs, evI, start', Rs.bind, Rs.then, Rs.of, onOpt, slotR, R.d, PR.r, retR, toSlot, lentR, lent, R.isBw, keepAll, keepR, allOpt, bwOf, frzIt, frzAll, frz1, L2.atI, L2.ixN, itemsOf, c_le, c_lt, c_ge, c_gt, c_eq, c_ne, c_is, c_isnot, isNone, partI, p_min12, p_max12, p_tuplel, p_tuplet, p_listl, p_listt, p_sum, p_any, p_all, p_abs, p_inti, p_intb, o_add, o_sub, o_mul, o_fdiv, e6, b6, i0, hm, hd]

theorem f7 (k : Nat) (n : Int) (ts : List (Int × Int)) (hl : ts.length ≤ 8) : fnF cd gl (k + 1) 7 [Wb n ts] = .ok (.v (tupR (List.range ts.length))) := by
  rw [fn_eq (c := e7.code) rfl]
  have i1 : idxD (Wb n ts) (.int 1) = some (.tuple (ts.map prT)) := rfl
  have hlen : priD .len [.tuple (ts.map prT)] = some (.v (.int (ts.length : Int))) := by rw [p_lent, List.length_map]
  have hr := p_trng ts.length (by omega)
  unfold tupR
  generalize rI (List.range ts.length) = U5 at *
  generalize (ts.length : Int) = z1 at *
  generalize ts.map prT = U4 at *
  generalize Wb n ts = W1 at *
  simp [VL.run, Ent.code, evB, evS, ev, evs, evI, start', Rs.bind, Rs.then, Rs.of, onOpt, slotR, R.d, PR.r, retR, toSlot, lentR, lent, R.isBw, keepAll, keepR, allOpt, bwOf, frzIt, frzAll, frz1, L2.atI, L2.ixN, itemsOf, c_le, c_lt, c_ge, c_gt, c_eq, c_ne, c_is, c_isnot, isNone, partI, p_min12, p_max12, p_tuplel, p_tuplet, p_listl, p_listt, p_sum, p_any, p_all, p_abs, p_inti, p_intb, o_add, o_sub, o_mul, o_fdiv, e7, b7, i1, hlen, hr]

theorem f12 (k : Nat) (n : Int) (ts : List (Int × Int)) (hl : ts.length ≤ 8) (r : List Nat) (h : Pm ts.length r) (o : D) (ho : o = .list (rI r) ∨ o = .tuple (rI r)) : fnF cd gl (k + 2) 12 [Wb n ts, o] = .ok (.l (rI r)) := by
  rw [fn_eq (c := e12.code) rfl]
  have hq : ev ⟨fnF cd gl (k + 1), gl⟩ q12_0 [.fz (Wb n ts), .fz o, .fz (.int (ts.length : Int)), .un] = .ok (.nw ((r.map fun _ => true).map .bool)) := by
    unfold q12_0
    rw [List.map_map]
    refine ev_lcm (ds := rI r) (by rcases ho with rfl | rfl <;> simp [VL.run, Ent.code, evB, evS, ev, evs, evI, start', Rs.bind, Rs.then, Rs.of, onOpt, slotR, R.d, PR.r, retR, toSlot, lentR, lent, R.isBw, keepAll, keepR, allOpt, bwOf, frzIt, frzAll, frz1, isiD, L2.atI, L2.ixN, itemsOf, c_le, c_lt, c_ge, c_gt, c_eq, c_ne, c_is, c_isnot, isNone, partI, p_lenl, p_lent, p_min2, p_max2, p_min12, p_max12, p_tuplel, p_tuplet, p_listl, p_listt, p_sum, p_any, p_all, p_abs, p_inti, p_intb, o_add, o_sub, o_mul, o_fdiv, o_mod, i_l, i_t, walkD]) (by rw [rI_len, h.len, LIM_eq]; omega) (lc_of (fun i : Nat => PyData.int (i : Int)) _ fun i hi => ?_)
    refine ⟨[.fz (Wb n ts), .fz o, .fz (.int (ts.length : Int)), .fz (.int (i : Int))], .fz (.bool true), rfl, bwt _ _, ?_, rfl⟩
    have := f0 k (.int (i : Int))
    simp [VL.run, Ent.code, evB, evS, ev, evs, evI, start', Rs.bind, Rs.then, Rs.of, onOpt, slotR, R.d, PR.r, retR, toSlot, lentR, lent, R.isBw, keepAll, keepR, allOpt, bwOf, frzIt, frzAll, frz1, isiD, L2.atI, L2.ixN, itemsOf, c_le, c_lt, c_ge, c_gt, c_eq, c_ne, c_is, c_isnot, isNone, partI, p_lenl, p_lent, p_min2, p_max2, p_min12, p_max12, p_tuplel, p_tuplet, p_listl, p_listt, p_sum, p_any, p_all, p_abs, p_inti, p_intb, o_add, o_sub, o_mul, o_fdiv, o_mod, i_l, i_t, c12_0, this, isInt]
  have ha : priD .all [.list ((r.map fun _ => true).map .bool)] = some (.v (.bool true)) := by rw [p_all]; simp
  have hlen : priD .len [.tuple (ts.map prT)] = some (.v (.int (ts.length : Int))) := by rw [p_lent, List.length_map]
  have hr := p_lrng ts.length (by omega)
  have hs1 := h.sortedl
  have hs2 := h.sortedt
  have hne := ne_of (sh_lst (sh_rI 29 (List.range ts.length)))
  unfold Wb at hq ⊢
  generalize (ts.length : Int) = m at *
  generalize rI (List.range ts.length) = U2 at *
  generalize (r.map fun _ => true).map PyData.bool = U3 at *
  generalize ts.map prT = U4 at *
  rcases ho with rfl | rfl
  · generalize rI r = U at *
    simp [VL.run, Ent.code, evB, evS, ev, evs, evI, start', Rs.bind, Rs.then, Rs.of, onOpt, slotR, R.d, PR.r, retR, toSlot, lentR, lent, R.isBw, keepAll, keepR, allOpt, bwOf, frzIt, frzAll, frz1, isiD, L2.atI, L2.ixN, itemsOf, c_le, c_lt, c_ge, c_gt, c_eq, c_ne, c_is, c_isnot, isNone, partI, p_lent, p_min2, p_max2, p_min12, p_max12, p_tuplel, p_tuplet, p_listl, p_listt, p_sum, p_any, p_all, p_abs, p_inti, p_intb, o_add, o_sub, o_mul, o_fdiv, o_mod, i_l, i_t, e12, b12, hlen, hq, ha, hr, hs1, hne]
  · generalize rI r = U at *
    simp [VL.run, Ent.code, evB, evS, ev, evs, evI, start', Rs.bind, Rs.then, Rs.of, onOpt, slotR, R.d, PR.r, retR, toSlot, lentR, lent, R.isBw, keepAll, keepR, allOpt, bwOf, frzIt, frzAll, frz1, isiD, L2.atI, L2.ixN, itemsOf, c_le, c_lt, c_ge, c_gt, c_eq, c_ne, c_is, c_isnot, isNone, partI, p_lent, p_min2, p_max2, p_min12, p_max12, p_tuplel, p_tuplet, p_listl, p_listt, p_sum, p_any, p_all, p_abs, p_inti, p_intb, o_add, o_sub, o_mul, o_fdiv, o_mod, i_l, i_t, e12, b12, hlen, hq, ha, hr, hs2, hne]
theorem f12n (k : Nat) (n : Int) (ts : List (Int × Int)) (hl : ts.length ≤ 8) : fnF cd gl (k + 1) 12 [Wb n ts, .none] = .ok (.l (rI (List.range ts.length))) := by
  rw [fn_eq (c := e12.code) rfl]
  have hlen : priD .len [.tuple (ts.map prT)] = some (.v (.int (ts.length : Int))) := by rw [p_lent, List.length_map]
  have hr := p_lrng ts.length (by omega)
  unfold Wb
  generalize (ts.length : Int) = m at *
  generalize rI (List.range ts.length) = U2 at *
  generalize ts.map prT = U4 at *
  simp [VL.run, Ent.code, evB, evS, ev, evs, evI, start', Rs.bind, Rs.then, Rs.of, onOpt, slotR, R.d, PR.r, retR, toSlot, lentR, lent, R.isBw, keepAll, keepR, allOpt, bwOf, frzIt, frzAll, frz1, isiD, L2.atI, L2.ixN, itemsOf, c_le, c_lt, c_ge, c_gt, c_eq, c_ne, c_is, c_isnot, isNone, partI, p_lent, p_min2, p_max2, p_min12, p_max12, p_tuplel, p_tuplet, p_listl, p_listt, p_sum, p_any, p_all, p_abs, p_inti, p_intb, o_add, o_sub, o_mul, o_fdiv, o_mod, i_l, i_t, e12, b12, hlen, hr]

theorem f13 (k : Nat) (a b : Int) : fnF cd gl (k + 1) 13 [.int a, .int b] = .ok (.v (prT (VL.srt (a, b)))) := by
  rw [fn_eq (c := e13.code) rfl]
  simp [VL.run, Ent.code, evB, evS, ev, evs, evI, start', Rs.bind, Rs.then, Rs.of, onOpt, slotR, R.d, PR.r, retR, toSlot, lentR, lent, R.isBw, keepAll, keepR, allOpt, bwOf, frzIt, frzAll, frz1, isiD, L2.atI, L2.ixN, itemsOf, c_le, c_lt, c_ge, c_gt, c_eq, c_ne, c_is, c_isnot, isNone, partI, p_lenl, p_lent, p_min2, p_max2, p_min12, p_max12, p_tuplel, p_tuplet, p_listl, p_listt, p_sum, p_any, p_all, p_abs, p_inti, p_intb, o_add, o_sub, o_mul, o_fdiv, o_mod, i_l, i_t, e13, b13, prT, VL.srt]

theorem f14 (k : Nat) (n : Nat) (hn : n ≤ 9) (r : List Nat) (h : Pm n r) (o : D) (ho : o = .list (rI r) ∨ o = .tuple (rI r)) : fnF cd gl (k + 3) 14 [.int (n : Int), o] = .ok (.v (.bool true)) := by
  rw [fn_eq (c := e14.code) rfl]
  have hq : ev ⟨fnF cd gl (k + 2), gl⟩ q14_0 [.fz (.int (n : Int)), .fz o, .un] = .ok (.nw ((r.map fun _ => true).map .bool)) := by
    unfold q14_0
    rw [List.map_map]
    refine ev_lcm (ds := rI r) (by rcases ho with rfl | rfl <;> simp [VL.run, Ent.code, evB, evS, ev, evs, evI, start', Rs.bind, Rs.then, Rs.of, onOpt, slotR, R.d, PR.r, retR, toSlot, lentR, lent, R.isBw, keepAll, keepR, allOpt, bwOf, frzIt, frzAll, frz1, isiD, L2.atI, L2.ixN, itemsOf, c_le, c_lt, c_ge, c_gt, c_eq, c_ne, c_is, c_isnot, isNone, partI, p_lenl, p_lent, p_min2, p_max2, p_min12, p_max12, p_tuplel, p_tuplet, p_listl, p_listt, p_sum, p_any, p_all, p_abs, p_inti, p_intb, o_add, o_sub, o_mul, o_fdiv, o_mod, i_l, i_t, walkD]) (by rw [rI_len, h.len, LIM_eq]; omega) (lc_of (fun i : Nat => PyData.int (i : Int)) _ fun i hi => ?_)
    refine ⟨[.fz (.int (n : Int)), .fz o, .fz (.int (i : Int))], .fz (.bool true), rfl, bwt _ _, ?_, rfl⟩
    have hi' := h.lt hi
    have := f1 k (n : Int) (i : Int) ⟨by omega, by omega⟩
    simp [VL.run, Ent.code, evB, evS, ev, evs, evI, start', Rs.bind, Rs.then, Rs.of, onOpt, slotR, R.d, PR.r, retR, toSlot, lentR, lent, R.isBw, keepAll, keepR, allOpt, bwOf, frzIt, frzAll, frz1, isiD, L2.atI, L2.ixN, itemsOf, c_le, c_lt, c_ge, c_gt, c_eq, c_ne, c_is, c_isnot, isNone, partI, p_lenl, p_lent, p_min2, p_max2, p_min12, p_max12, p_tuplel, p_tuplet, p_listl, p_listt, p_sum, p_any, p_all, p_abs, p_inti, p_intb, o_add, o_sub, o_mul, o_fdiv, o_mod, i_l, i_t, c14_0, this]
  have ha : priD .all [.list ((r.map fun _ => true).map .bool)] = some (.v (.bool true)) := by rw [p_all]; simp
  have hr := p_lrng n (by omega)
  have hs1 := h.sortedl
  have hs2 := h.sortedt
  have hne := eq_of (sh_lst (sh_rI 29 (List.range n)))
  generalize (n : Int) = m at *
  generalize rI (List.range n) = U2 at *
  generalize (r.map fun _ => true).map PyData.bool = U3 at *
  rcases ho with rfl | rfl
  · generalize rI r = U at *
    simp [VL.run, Ent.code, evB, evS, ev, evs, evI, start', Rs.bind, Rs.then, Rs.of, onOpt, slotR, R.d, PR.r, retR, toSlot, lentR, lent, R.isBw, keepAll, keepR, allOpt, bwOf, frzIt, frzAll, frz1, isiD, L2.atI, L2.ixN, itemsOf, c_le, c_lt, c_ge, c_gt, c_eq, c_ne, c_is, c_isnot, isNone, partI, p_lent, p_min2, p_max2, p_min12, p_max12, p_tuplel, p_tuplet, p_listl, p_listt, p_sum, p_any, p_all, p_abs, p_inti, p_intb, o_add, o_sub, o_mul, o_fdiv, o_mod, i_l, i_t, e14, b14, hq, ha, hr, hs1, hne]
  · generalize rI r = U at *
    simp [VL.run, Ent.code, evB, evS, ev, evs, evI, start', Rs.bind, Rs.then, Rs.of, onOpt, slotR, R.d, PR.r, retR, toSlot, lentR, lent, R.isBw, keepAll, keepR, allOpt, bwOf, frzIt, frzAll, frz1, isiD, L2.atI, L2.ixN, itemsOf, c_le, c_lt, c_ge, c_gt, c_eq, c_ne, c_is, c_isnot, isNone, partI, p_lent, p_min2, p_max2, p_min12, p_max12, p_tuplel, p_tuplet, p_listl, p_listt, p_sum, p_any, p_all, p_abs, p_inti, p_intb, o_add, o_sub, o_mul, o_fdiv, o_mod, i_l, i_t, e14, b14, hq, ha, hr, hs2, hne]

theorem f15 (k : Nat) (n : Nat) (ts : List (Int × Int)) (w : Web n ts) (r : List Nat) (h : Pm n r) (o : D) (ho : o = .list (rI r) ∨ o = .tuple (rI r)) : fnF cd gl (k + 4) 15 [Wb n ts, o] = .ok (.v (Wb n (ts.map (renT r)))) := by
  rw [fn_eq (c := e15.code) rfl]
  have n9 := w.n9
  have hp := f14 k n (by omega) r h o ho
  have hq : ev ⟨fnF cd gl (k + 3), gl⟩ q15_0 [.fz (Wb n ts), .fz o, .un, .un] = .ok (.nw ((ts.map (renT r)).map prT)) := by
    unfold q15_0
    rw [List.map_map]
    refine ev_lcm (ds := ts.map prT) (by unfold Wb; generalize ts.map prT = U; simp [VL.run, Ent.code, evB, evS, ev, evs, evI, start', Rs.bind, Rs.then, Rs.of, onOpt, slotR, R.d, PR.r, retR, toSlot, lentR, lent, R.isBw, keepAll, keepR, allOpt, bwOf, frzIt, frzAll, frz1, isiD, L2.atI, L2.ixN, itemsOf, c_le, c_lt, c_ge, c_gt, c_eq, c_ne, c_is, c_isnot, isNone, partI, p_lenl, p_lent, p_min2, p_max2, p_min12, p_max12, p_tuplel, p_tuplet, p_listl, p_listt, p_sum, p_any, p_all, p_abs, p_inti, p_intb, o_add, o_sub, o_mul, o_fdiv, o_mod, i_l, i_t, walkD]) (by rw [List.length_map, LIM_eq]; have := w.len; omega) (lc_of prT _ fun p hp' => ?_)
    have ho' := w.ok p hp'
    have hl := h.len
    refine ⟨[.fz (Wb n ts), .fz o, .fz (.int p.1), .fz (.int p.2)], .fz (prT (renT r p)), rfl, bwt _ _, ?_, rfl⟩
    have i1 : idxD o (.int p.1) = some (.int (gt r p.1)) := by
      rcases ho with rfl | rfl
      · exact idx_gtl ho'.1.1 (by rw [hl]; exact ho'.1.2)
      · exact idx_gtt ho'.1.1 (by rw [hl]; exact ho'.1.2)
    have i2 : idxD o (.int p.2) = some (.int (gt r p.2)) := by
      rcases ho with rfl | rfl
      · exact idx_gtl ho'.2.1 (by rw [hl]; exact ho'.2.2)
      · exact idx_gtt ho'.2.1 (by rw [hl]; exact ho'.2.2)
    have ht := f13 (k + 2) (gt r p.1) (gt r p.2)
    show _ = Rs.ok (R.fz (prT (VL.srt (gt r p.1, gt r p.2))))
    generalize prT (VL.srt (gt r p.1, gt r p.2)) = zz at *
    simp [VL.run, Ent.code, evB, evS, ev, evs, evI, start', Rs.bind, Rs.then, Rs.of, onOpt, slotR, R.d, PR.r, retR, toSlot, lentR, lent, R.isBw, keepAll, keepR, allOpt, bwOf, frzIt, frzAll, frz1, L2.atI, L2.ixN, itemsOf, c_le, c_lt, c_ge, c_gt, c_eq, c_ne, c_is, c_isnot, isNone, partI, p_lenl, p_lent, p_min2, p_max2, p_min12, p_max12, p_tuplel, p_tuplet, p_listl, p_listt, p_sum, p_any, p_all, p_abs, p_inti, p_intb, o_add, o_sub, o_mul, o_fdiv, o_mod, c15_0, i1, i2, ht]
  unfold Wb at hq ⊢
  generalize (ts.map (renT r)).map prT = U2 at *
  generalize ts.map prT = U4 at *
  generalize (n : Int) = m at *
  simp [VL.run, Ent.code, evB, evS, ev, evs, evI, start', Rs.bind, Rs.then, Rs.of, onOpt, slotR, R.d, PR.r, retR, toSlot, lentR, lent, R.isBw, keepAll, keepR, allOpt, bwOf, frzIt, frzAll, frz1, isiD, L2.atI, L2.ixN, itemsOf, c_le, c_lt, c_ge, c_gt, c_eq, c_ne, c_is, c_isnot, isNone, partI, p_lenl, p_lent, p_min2, p_max2, p_min12, p_max12, p_tuplel, p_tuplet, p_listl, p_listt, p_sum, p_any, p_all, p_abs, p_inti, p_intb, o_add, o_sub, o_mul, o_fdiv, o_mod, i_l, i_t, e15, b15, hp, hq]

theorem f16q (k : Nat) (n : Int) (ts : List (Int × Int)) (hl : ts.length ≤ 8) (r : List Nat) (h : Pm ts.length r) (o : D) (ho : fnF cd gl (k + 2) 12 [Wb n ts, o] = .ok (.l (rI r))) : fnF cd gl (k + 3) 16 [Wb n ts, o] = .ok (.v (Wb n (reoT r ts))) := by
  rw [fn_eq (c := e16.code) rfl]
  have hq : ev ⟨fnF cd gl (k + 2), gl⟩ q16_0 [.fz (Wb n ts), .fz o, .un] = .ok (.nw ((reoT r ts).map prT)) := by
    unfold q16_0 reoT
    rw [List.map_map]
    refine ev_lcm (ds := rI r) (by simp [VL.run, Ent.code, evB, evS, ev, evs, evI, start', Rs.bind, Rs.then, Rs.of, onOpt, slotR, R.d, PR.r, retR, toSlot, lentR, lent, R.isBw, keepAll, keepR, allOpt, bwOf, frzIt, frzAll, frz1, isiD, L2.atI, L2.ixN, itemsOf, c_le, c_lt, c_ge, c_gt, c_eq, c_ne, c_is, c_isnot, isNone, partI, p_lenl, p_lent, p_min2, p_max2, p_min12, p_max12, p_tuplel, p_tuplet, p_listl, p_listt, p_sum, p_any, p_all, p_abs, p_inti, p_intb, o_add, o_sub, o_mul, o_fdiv, o_mod, i_l, i_t, walkD, ho]) (by rw [rI_len, h.len, LIM_eq]; omega) (lc_of (fun i : Nat => PyData.int (i : Int)) _ fun i hi => ?_)
    refine ⟨[.fz (Wb n ts), .fz o, .fz (.int (i : Int))], .fz (prT (ts[i]?.getD (0, 0))), rfl, bwt _ _, ?_, rfl⟩
    have hi' := h.lt hi
    have hx := idx_pr ts i (ts[i]?.getD (0, 0)) (by rw [List.getElem?_eq_getElem hi']; rfl)
    have h1 : idxD (Wb n ts) (.int 1) = some (.tuple (ts.map prT)) := rfl
    generalize Wb n ts = W1 at *
    generalize prT (ts[i]?.getD (0, 0)) = z at *
    generalize ts.map prT = U4 at *
    simp [VL.run, Ent.code, evB, evS, ev, evs, evI, start', Rs.bind, Rs.then, Rs.of, onOpt, slotR, R.d, PR.r, retR, toSlot, lentR, lent, R.isBw, keepAll, keepR, allOpt, bwOf, frzIt, frzAll, frz1, L2.atI, L2.ixN, itemsOf, c_le, c_lt, c_ge, c_gt, c_eq, c_ne, c_is, c_isnot, isNone, partI, p_lenl, p_lent, p_min2, p_max2, p_min12, p_max12, p_tuplel, p_tuplet, p_listl, p_listt, p_sum, p_any, p_all, p_abs, p_inti, p_intb, o_add, o_sub, o_mul, o_fdiv, o_mod, c16_0, hx, h1]
  have h0 : idxD (Wb n ts) (.int 0) = some (.int n) := rfl
  show _ = Rs.ok (PR.v (.tuple [.int n, .tuple ((reoT r ts).map prT)]))
  generalize Wb n ts = W1 at *
  generalize (reoT r ts).map prT = U2 at *
  simp [VL.run, Ent.code, evB, evS, ev, evs, evI, start', Rs.bind, Rs.then, Rs.of, onOpt, slotR, R.d, PR.r, retR, toSlot, lentR, lent, R.isBw, keepAll, keepR, allOpt, bwOf, frzIt, frzAll, frz1, L2.atI, L2.ixN, itemsOf, c_le, c_lt, c_ge, c_gt, c_eq, c_ne, c_is, c_isnot, isNone, partI, p_lenl, p_lent, p_min2, p_max2, p_min12, p_max12, p_tuplel, p_tuplet, p_listl, p_listt, p_sum, p_any, p_all, p_abs, p_inti, p_intb, o_add, o_sub, o_mul, o_fdiv, o_mod, e16, b16, hq, h0]
theorem f16 (k : Nat) (n : Int) (ts : List (Int × Int)) (hl : ts.length ≤ 8) (r : List Nat) (h : Pm ts.length r) (o : D) (ho : o = .list (rI r) ∨ o = .tuple (rI r)) : fnF cd gl (k + 3) 16 [Wb n ts, o] = .ok (.v (Wb n (reoT r ts))) :=
  f16q k n ts hl r h o (f12 k n ts hl r h o ho)
theorem f16n (k : Nat) (n : Int) (ts : List (Int × Int)) (hl : ts.length ≤ 8) : fnF cd gl (k + 3) 16 [Wb n ts, .none] = .ok (.v (Wb n ts)) := by
  rw [f16q k n ts hl _ (Pm.refl _) .none (f12n (k + 1) n ts hl), reo_range]

theorem f20 (k : Nat) (n : Nat) (ts : List (Int × Int)) (w : Web n ts) : fnF cd gl (k + 3) 20 [Wb n ts] = .ok (.l ((tabl n ts).map trT)) := by
  rw [fn_eq (c := e20.code) rfl]
  have hl8 := w.len
  have h6 := f4 k n ts hl8
  have h2 : 2 ^ ts.length ≤ 256 := by
    have := Nat.pow_le_pow_right (n := 2) (by omega) hl8
    omega
  have hloop : ∃ e3, forLoop (takes [2] true) (evB ⟨fnF cd gl (k + 2), gl⟩ b20_0) (killS [2]) ((allP ts.length).map tupR) [.fz (Wb n ts), .dt [], .un, .un, .un] = .nx [.fz (Wb n ts), .dt (enc (gath (rowsT n ts (allP ts.length)))), .un, e3, .un] := by
    obtain ⟨E, h1, e3, rfl⟩ := for_inv (tk := takes [2] true) (B := evB ⟨fnF cd gl (k + 2), gl⟩ b20_0) (kl := killS [2]) (fun j E => ∃ e3, E = [.fz (Wb n ts), .dt (enc ((rowsT n ts ((allP ts.length).take j)).foldl accM [])), .un, e3, .un]) (l := (allP ts.length).map tupR)
      (env := [.fz (Wb n ts), .dt [], .un, .un, .un]) 0 ⟨.un, by simp [killS, rowsT, enc]⟩ (fun i d E hd hp => by
        simp only [Nat.zero_add] at hp ⊢
        obtain ⟨e3, rfl⟩ := hp
        rw [List.getElem?_map] at hd
        obtain ⟨p, hp, rfl⟩ := Option.map_eq_some_iff.mp hd
        have hsub := allP_mem.mp (List.mem_of_getElem? hp)
        have hr := f6 k n ts w p (sub_in hsub) _ (.inr rfl)
        have ht : (rowsT n ts ((allP ts.length).take (i + 1))).foldl accM [] = accM ((rowsT n ts ((allP ts.length).take i)).foldl accM []) (cT n ts p) := by
          unfold rowsT
          rw [List.take_add_one, hp, List.map_append, List.foldl_append]; rfl
        have hml : ((rowsT n ts ((allP ts.length).take i)).foldl accM []).length < 1000 := by
          have := gath_len (rowsT n ts ((allP ts.length).take i)) []
          rw [rows_len, List.length_take, allP_len] at this
          simp only [List.length_nil] at this
          omega
        refine ⟨[.fz (Wb n ts), .dt (enc ((rowsT n ts ((allP ts.length).take i)).foldl accM [])), .fz (tupR p), e3, .un], [.fz (Wb n ts), .dt (enc ((rowsT n ts ((allP ts.length).take (i + 1))).foldl accM [])), .fz (tupR p), .fz (prT (cT n ts p).1), .un], rfl, ?_, ⟨.fz (prT (cT n ts p).1), by simp [killS]⟩⟩
        rw [ht]
        generalize (rowsT n ts ((allP ts.length).take i)).foldl accM [] = m at *
        have g1 := getD_enc (cT n ts p).1 m
        have g2 := put_acc (cT n ts p) m
        have g3 := keyT_pr (cT n ts p).1
        have g4 : (enc m).length < LIM := by rw [enc_len, LIM_eq]; omega
        have hlen := p_lenR p
        have et : PyData.tuple (rI p) = tupR p := rfl
        rw [et] at hr
        have ep : PyData.tuple [.int (p.length : Int), .int (rk n ts p : Int)] = prT (cT n ts p).1 := rfl
        have e1 : (cT n ts p).2 = 1 := rfl
        rw [e1] at g2
        generalize enc (accM m (cT n ts p)) = z2 at *
        generalize (lookM (cT n ts p).1 m).getD 0 = z1 at *
        generalize kk (cT n ts p).1 = z0 at *
        generalize prT (cT n ts p).1 = z3 at *
        generalize tupR p = U at *
        generalize Wb n ts = W1 at *
        generalize enc m = z4 at *
        generalize (rk n ts p : Int) = x1 at *
        generalize (p.length : Int) = x2 at *
        simp [VL.run, Ent.code, evB, evS, ev, evs, evI, start', Rs.bind, Rs.then, Rs.of, onOpt, slotR, R.d, PR.r, retR, toSlot, lentR, lent, R.isBw, keepAll, keepR, allOpt, bwOf, frzIt, frzAll, frz1, L2.atI, L2.ixN, itemsOf, c_le, c_lt, c_ge, c_gt, c_eq, c_ne, c_is, c_isnot, isNone, partI, p_min12, p_max12, p_tuplel, p_tuplet, p_listl, p_listt, p_sum, p_any, p_all, p_abs, p_inti, p_intb, o_add, o_sub, o_mul, o_fdiv, b20_0, hr, hlen, ep, g1, g2, g3, g4, kvsOf, nl_int])
    rw [Nat.zero_add, List.length_map, List.take_length] at h1
    exact ⟨e3, h1⟩
  obtain ⟨e3, hloop⟩ := hloop
  have hpos := rows_pos n ts (allP ts.length)
  have hq : ev ⟨fnF cd gl (k + 2), gl⟩ q20_0 [.fz (Wb n ts), .dt (enc (gath (rowsT n ts (allP ts.length)))), .un, e3, .un] = .ok (.nw ((gath (rowsT n ts (allP ts.length))).map trT)) := by
    unfold q20_0
    have hg := gath_le (rowsT n ts (allP ts.length))
    rw [rows_len, allP_len] at hg
    refine ev_lci (kvs := enc (gath (rowsT n ts (allP ts.length)))) rfl (by rw [itemsT_len, LIM_eq]; omega) ?_
    rw [itemsT_enc]
    refine lc_of (fun q : Mn => PyData.tuple [prT q.1, .int q.2]) trT fun q hq => ?_
    refine ⟨[.fz (Wb n ts), .dl (enc (gath (rowsT n ts (allP ts.length)))), .un, .fz (prT q.1), .fz (.int q.2)], .fz (trT q), rfl, bwt _ _, ?_, rfl⟩
    have j0 : idxD (prT q.1) (.int 0) = some (.int q.1.1) := rfl
    have j1 : idxD (prT q.1) (.int 1) = some (.int q.1.2) := rfl
    have er : PyData.tuple [.int q.1.1, .int q.1.2, .int q.2] = trT q := rfl
    generalize trT q = z at *
    generalize prT q.1 = z1 at *
    generalize enc (gath (rowsT n ts (allP ts.length))) = z2 at *
    generalize Wb n ts = W1 at *
    simp [VL.run, Ent.code, evB, evS, ev, evs, evI, start', Rs.bind, Rs.then, Rs.of, onOpt, slotR, R.d, PR.r, retR, toSlot, lentR, lent, R.isBw, keepAll, keepR, allOpt, bwOf, frzIt, frzAll, frz1, L2.atI, L2.ixN, itemsOf, c_le, c_lt, c_ge, c_gt, c_eq, c_ne, c_is, c_isnot, isNone, partI, p_min12, p_max12, p_tuplel, p_tuplet, p_listl, p_listt, p_sum, p_any, p_all, p_abs, p_inti, p_intb, o_add, o_sub, o_mul, o_fdiv, c20_0, j0, j1, er]
  have hso := p_sorted3 (gath (rowsT n ts (allP ts.length)))
  rw [sort_gath hpos, tabl_all] at hso
  have hb : bwOf i20_0 = [] := rfl
  have hit : ∀ E : SEnv, evI ⟨fnF cd gl (k + 2), gl⟩ i20_0 (.fz (Wb n ts) :: E) = .ok ((allP ts.length).map tupR) := fun E => by
    generalize (allP ts.length).map tupR = U at *
    generalize Wb n ts = W1 at *
    simp [VL.run, Ent.code, evB, evS, ev, evs, evI, start', Rs.bind, Rs.then, Rs.of, onOpt, slotR, R.d, PR.r, retR, toSlot, lentR, lent, R.isBw, keepAll, keepR, allOpt, bwOf, frzIt, frzAll, frz1, L2.atI, L2.ixN, itemsOf, c_le, c_lt, c_ge, c_gt, c_eq, c_ne, c_is, c_isnot, isNone, partI, p_min12, p_max12, p_tuplel, p_tuplet, p_listl, p_listt, p_sum, p_any, p_all, p_abs, p_inti, p_intb, o_add, o_sub, o_mul, o_fdiv, i20_0, h6, walkD]
  generalize (tabl n ts).map trT = U3 at *
  generalize (gath (rowsT n ts (allP ts.length))).map trT = U2 at *
  generalize enc (gath (rowsT n ts (allP ts.length))) = z2 at *
  generalize (allP ts.length).map tupR = U at *
  generalize Wb n ts = W1 at *
  simp [VL.run, Ent.code, evB, evS, ev, evs, evI, start', Rs.bind, Rs.then, Rs.of, onOpt, slotR, R.d, PR.r, retR, toSlot, lentR, lent, R.isBw, keepAll, keepR, allOpt, bwOf, frzIt, frzAll, frz1, L2.atI, L2.ixN, itemsOf, c_le, c_lt, c_ge, c_gt, c_eq, c_ne, c_is, c_isnot, isNone, partI, p_min12, p_max12, p_tuplel, p_tuplet, p_listl, p_listt, p_sum, p_any, p_all, p_abs, p_inti, p_intb, o_add, o_sub, o_mul, o_fdiv, e20, b20, hb, hit, hloop, hq, hso]

theorem f9 (k : Nat) (ts us : List Mn) (hl : ts.length + us.length < 100000) : fnF cd gl (k + 2) 9 [.tuple (ts.map trT), .tuple (us.map trT)] = .ok (.v (.tuple ((polyOf (ts ++ us)).map trT))) := by
  rw [fn_eq (c := e9.code) rfl]
  have hg := f8 k (ts ++ us) (by rw [List.length_append]; omega)
  have hc : binD .Add (.list (ts.map trT)) (.list (us.map trT)) = some (.l ((ts ++ us).map trT)) := by
    rw [o_catl _ _ (by rw [List.length_map, List.length_map, LIM_eq]; omega), List.map_append]
  generalize (polyOf (ts ++ us)).map trT = W at *
  generalize (ts ++ us).map trT = Z at *
  generalize us.map trT = U at *
  generalize ts.map trT = V at *
  simp [VL.run, Ent.code, evB, evS, ev, evs, evI, start', Rs.bind, Rs.then, Rs.of, onOpt, slotR, R.d, PR.r, retR, toSlot, lentR, lent, R.isBw, keepAll, keepR, allOpt, bwOf, frzIt, frzAll, frz1, isiD, L2.atI, L2.ixN, itemsOf, c_le, c_lt, c_ge, c_gt, c_eq, c_ne, c_is, c_isnot, isNone, partI, p_lenl, p_lent, p_min2, p_max2, p_min12, p_max12, p_tuplel, p_tuplet, p_listl, p_listt, p_sum, p_any, p_all, p_abs, p_inti, p_intb, o_add, o_sub, o_mul, o_fdiv, o_mod, i_l, i_t, e9, b9, hc, hg]

theorem f22 (k : Nat) (n : Nat) (ts : List (Int × Int)) (w : Web n ts) : fnF cd gl (k + 3) 22 [Wb n ts] = .ok (.l ((trees n ts).map tupR)) := by
  rw [fn_eq (c := e22.code) rfl]
  have hl8 := w.len
  have h5 := f7 (k + 1) n ts hl8
  have hw := f6 k n ts w (List.range ts.length) (fun x hx => List.mem_range.mp hx) _ (.inr rfl)
  have ew : rk n ts (List.range ts.length) = whole n ts := rfl
  have et : PyData.tuple (rI (List.range ts.length)) = tupR (List.range ts.length) := rfl
  rw [ew, et] at hw
  have h2 := f4 k n ts hl8
  have hpow : 2 ^ ts.length ≤ 256 := by
    have := Nat.pow_le_pow_right (n := 2) (by omega) hl8
    omega
  have hq : ev ⟨fnF cd gl (k + 2), gl⟩ q22_0 [.fz (Wb n ts), .fz (.int (whole n ts : Int)), .un] = .ok (.nw ((trees n ts).map tupR)) := by
    rw [← trees_all]
    unfold q22_0
    refine ev_lcm (ds := (allP ts.length).map tupR) ?_ (by rw [List.length_map, allP_len, LIM_eq]; omega) (lc_filt (isTr n ts (whole n ts)) tupR tupR fun p hp => ?_)
    · generalize (allP ts.length).map tupR = U1 at *
      generalize Wb n ts = W1 at *
      simp [VL.run, Ent.code, evB, evS, ev, evs, evI, start', Rs.bind, Rs.then, Rs.of, onOpt, slotR, R.d, PR.r, retR, toSlot, lentR, lent, R.isBw, keepAll, keepR, allOpt, bwOf, frzIt, frzAll, frz1, L2.atI, L2.ixN, itemsOf, c_le, c_lt, c_ge, c_gt, c_eq, c_ne, c_is, c_isnot, isNone, partI, p_min12, p_max12, p_tuplel, p_tuplet, p_listl, p_listt, p_sum, p_any, p_all, p_abs, p_inti, p_intb, o_add, o_sub, o_mul, o_fdiv, h2, walkD]
    · refine ⟨[.fz (Wb n ts), .fz (.int (whole n ts : Int)), .fz (tupR p)], rfl, ?_, fun _ => ⟨.fz (tupR p), by simp [VL.run, Ent.code, evB, evS, ev, evs, evI, start', Rs.bind, Rs.then, Rs.of, onOpt, slotR, R.d, PR.r, retR, toSlot, lentR, lent, R.isBw, keepAll, keepR, allOpt, bwOf, frzIt, frzAll, frz1, isiD, L2.atI, L2.ixN, itemsOf, c_le, c_lt, c_ge, c_gt, c_eq, c_ne, c_is, c_isnot, isNone, partI, p_lenl, p_lent, p_min2, p_max2, p_min12, p_max12, p_tuplel, p_tuplet, p_listl, p_listt, p_sum, p_any, p_all, p_abs, p_inti, p_intb, o_add, o_sub, o_mul, o_fdiv, o_mod, i_l, i_t, c22_0], rfl⟩⟩
      have hr := f6 k n ts w p (sub_in (allP_mem.mp hp)) _ (.inr rfl)
      have et2 : PyData.tuple (rI p) = tupR p := rfl
      rw [et2] at hr
      have hlen := p_lenR p
      unfold testR isTr
      clear et2 et ew
      generalize tupR p = V2 at *
      generalize Wb n ts = W1 at *
      by_cases c1 : p.length = whole n ts
      · have c1' : (p.length : Int) = (whole n ts : Int) := by omega
        by_cases c2 : rk n ts p = whole n ts
        · have c2' : (rk n ts p : Int) = (whole n ts : Int) := by omega
          rw [decide_eq_true c1, decide_eq_true c2]
          generalize (rk n ts p : Int) = z1 at *
          generalize (p.length : Int) = z2 at *
          generalize (whole n ts : Int) = z3 at *
          subst c1' c2'
          simp [VL.run, Ent.code, evB, evS, ev, evs, evI, start', Rs.bind, Rs.then, Rs.of, onOpt, slotR, R.d, PR.r, retR, toSlot, lentR, lent, R.isBw, keepAll, keepR, allOpt, bwOf, frzIt, frzAll, frz1, L2.atI, L2.ixN, itemsOf, c_le, c_lt, c_ge, c_gt, c_eq, c_ne, c_is, c_isnot, isNone, partI, p_min12, p_max12, p_tuplel, p_tuplet, p_listl, p_listt, p_sum, p_any, p_all, p_abs, p_inti, p_intb, o_add, o_sub, o_mul, o_fdiv, d22_0, hr, hlen, VL.toBool]
        · have c2' : ¬ ((rk n ts p : Int) = (whole n ts : Int)) := by omega
          rw [decide_eq_true c1, decide_eq_false c2]
          generalize (rk n ts p : Int) = z1 at *
          generalize (p.length : Int) = z2 at *
          generalize (whole n ts : Int) = z3 at *
          simp [VL.run, Ent.code, evB, evS, ev, evs, evI, start', Rs.bind, Rs.then, Rs.of, onOpt, slotR, R.d, PR.r, retR, toSlot, lentR, lent, R.isBw, keepAll, keepR, allOpt, bwOf, frzIt, frzAll, frz1, L2.atI, L2.ixN, itemsOf, c_le, c_lt, c_ge, c_gt, c_eq, c_ne, c_is, c_isnot, isNone, partI, p_min12, p_max12, p_tuplel, p_tuplet, p_listl, p_listt, p_sum, p_any, p_all, p_abs, p_inti, p_intb, o_add, o_sub, o_mul, o_fdiv, d22_0, hr, hlen, c1', c2', VL.toBool]
      · have c1' : ¬ ((p.length : Int) = (whole n ts : Int)) := by omega
        rw [decide_eq_false c1]
        generalize (p.length : Int) = z2 at *
        generalize (whole n ts : Int) = z3 at *
        simp [VL.run, Ent.code, evB, evS, ev, evs, evI, start', Rs.bind, Rs.then, Rs.of, onOpt, slotR, R.d, PR.r, retR, toSlot, lentR, lent, R.isBw, keepAll, keepR, allOpt, bwOf, frzIt, frzAll, frz1, L2.atI, L2.ixN, itemsOf, c_le, c_lt, c_ge, c_gt, c_eq, c_ne, c_is, c_isnot, isNone, partI, p_min12, p_max12, p_tuplel, p_tuplet, p_listl, p_listt, p_sum, p_any, p_all, p_abs, p_inti, p_intb, o_add, o_sub, o_mul, o_fdiv, d22_0, hlen, c1', VL.toBool]
  clear ew et
  generalize (trees n ts).map tupR = U1 at *
  generalize tupR (List.range ts.length) = V1 at *
  generalize Wb n ts = W1 at *
  generalize (whole n ts : Int) = z3 at *
  simp [VL.run, Ent.code, evB, evS, ev, evs, evI, start', Rs.bind, Rs.then, Rs.of, onOpt, slotR, R.d, PR.r, retR, toSlot, lentR, lent, R.isBw, keepAll, keepR, allOpt, bwOf, frzIt, frzAll, frz1, L2.atI, L2.ixN, itemsOf, c_le, c_lt, c_ge, c_gt, c_eq, c_ne, c_is, c_isnot, isNone, partI, p_min12, p_max12, p_tuplel, p_tuplet, p_listl, p_listt, p_sum, p_any, p_all, p_abs, p_inti, p_intb, o_add, o_sub, o_mul, o_fdiv, e22, b22, h5, hw, hq]

theorem f21 (k : Nat) (n : Nat) (ts : List (Int × Int)) (w : Web n ts) : fnF cd gl (k + 4) 21 [Wb n ts] = .ok (.v (.tuple ((byP n ts).map trT))) := by
  have hl8 := w.len
  have hW := whole_le (n := n) hl8
  have htab := tabl_bd n ts hl8
  have hrows := row_ok w
  have h19 := f20 k n ts w
  have hw := f6 (k + 1) n ts w (List.range ts.length) (range_in _) _ (.inr rfl)
  have ew : rk n ts (List.range ts.length) = whole n ts := rfl
  have et : PyData.tuple (rI (List.range ts.length)) = tupR (List.range ts.length) := rfl
  rw [ew, et] at hw
  obtain ⟨E, h1, rfl⟩ := for_inv (tk := takes [3, 4, 5] false) (B := evB ⟨fnF cd gl (k + 3), gl⟩ b21_0) (kl := killS [3, 4, 5, 6]) (fun j E => E = [.fz (Wb n ts), .fz (.int (whole n ts : Int)), .fz (.tuple ((polyOf (parts (whole n ts) ((tabl n ts).take j))).map trT)), .un, .un, .un, .un]) (l := (tabl n ts).map trT)
    (env := [.fz (Wb n ts), .fz (.int (whole n ts : Int)), .fz (.tuple []), .un, .un, .un, .un]) 0 (by simp [killS]; rfl) (fun i d E hd hE => by
      simp only [Nat.zero_add] at hE ⊢
      subst hE
      rw [List.getElem?_map] at hd
      obtain ⟨t, ht, rfl⟩ := Option.map_eq_some_iff.mp hd
      have hm := List.mem_of_getElem? ht
      have hR := hrows t hm
      have htk : ∀ u ∈ (tabl n ts).take i, RowOk n ts u := fun u hu => hrows u (List.mem_of_mem_take hu)
      have hsum := sums_ok w htk (by rw [List.length_take]; omega)
      have hpart := part_ok hW hR.sz hR.bd
      have hXY := mulXY (a := whole n ts - t.1.2.toNat) (b := t.1.1.toNat - t.1.2.toNat) (by omega) (by have := hR.sz; omega)
      have hX := pw8 XL_ok (by decide) (j := whole n ts - t.1.2.toNat) (by omega)
      have hY := pw8 YL_ok (by decide) (j := t.1.1.toNat - t.1.2.toNat) (by have := hR.sz; omega)
      have g1 := f11 k XL (whole n ts - t.1.2.toNat) (by omega) XL_ok3 (by decide)
      have g2 := f11 k YL (t.1.1.toNat - t.1.2.toNat) (by have := hR.sz; omega) YL_ok3 (by decide)
      have x1 : ((whole n ts - t.1.2.toNat : Nat) : Int) = (whole n ts : Int) - t.1.2 := by have := hR.n0; have := hR.lw; omega
      have x2 : ((t.1.1.toNat - t.1.2.toNat : Nat) : Int) = t.1.1 - t.1.2 := by have := hR.n0; have := hR.le; omega
      have g3 := f10 (k + 1) (pwr XL (whole n ts - t.1.2.toNat)) (pwr YL (t.1.1.toNat - t.1.2.toNat)) (fun u hu => (hX.1 u hu).2.2.mono (by decide)) (fun u hu => (hY.1 u hu).2.2.mono (by decide)) (by
        have := Nat.mul_le_mul hX.2 hY.2
        omega)
      have g4 := f10 (k + 1) [((0, 0), t.2)] (mulP (pwr XL (whole n ts - t.1.2.toNat)) (pwr YL (t.1.1.toNat - t.1.2.toNat))) (fun u hu => by rw [List.mem_singleton.mp hu]; exact hR.bd.mono (by decide)) (fun u hu => (hXY.1 u hu).2.2.mono (by decide)) (by
        have := hXY.2
        simp only [List.length_singleton]
        omega)
      have g5 := f9 (k + 1) (polyOf (parts (whole n ts) ((tabl n ts).take i))) (part (whole n ts) t) (by have := hsum.2; have := hpart.2; omega)
      have e0 : mulP [((0, 0), t.2)] (mulP (pwr XL (whole n ts - t.1.2.toNat)) (pwr YL (t.1.1.toNat - t.1.2.toNat))) = part (whole n ts) t := rfl
      have en : (tabl n ts).take (i + 1) = (tabl n ts).take i ++ [t] := by rw [List.take_add_one, ht]; rfl
      have e4 : ([(((0 : Int), (0 : Int)), t.2)].map trT) = [PyData.tuple [.int 0, .int 0, .int t.2]] := rfl
      have G0 : gl[2]? = some (.tuple (YL.map trT)) := rfl
      have G1 : gl[3]? = some (.tuple (XL.map trT)) := rfl
      rw [e0, e4] at g4
      rw [sums_next, ← en] at g5
      rw [x1] at g1
      rw [x2] at g2
      refine ⟨[.fz (Wb n ts), .fz (.int (whole n ts : Int)), .fz (.tuple ((polyOf (parts (whole n ts) ((tabl n ts).take i))).map trT)), .fz (.int t.1.1), .fz (.int t.1.2), .fz (.int t.2), .un], [.fz (Wb n ts), .fz (.int (whole n ts : Int)), .fz (.tuple ((polyOf (parts (whole n ts) ((tabl n ts).take (i + 1)))).map trT)), .fz (.int t.1.1), .fz (.int t.1.2), .fz (.int t.2), .fz (.tuple ((mulP (pwr XL (whole n ts - t.1.2.toNat)) (pwr YL (t.1.1.toNat - t.1.2.toNat))).map trT))], rfl, ?_, by simp [killS]⟩
      clear x1 x2 e0 e4 en hd ht hXY hX hY hsum hpart
      generalize (polyOf (parts (whole n ts) ((tabl n ts).take (i + 1)))).map trT = P1 at *
      generalize (polyOf (parts (whole n ts) ((tabl n ts).take i))).map trT = P2 at *
      generalize (mulP (pwr XL (whole n ts - t.1.2.toNat)) (pwr YL (t.1.1.toNat - t.1.2.toNat))).map trT = P3 at *
      generalize (pwr XL (whole n ts - t.1.2.toNat)).map trT = P4 at *
      generalize (pwr YL (t.1.1.toNat - t.1.2.toNat)).map trT = P5 at *
      generalize (part (whole n ts) t).map trT = P6 at *
      generalize XL.map trT = P7 at *
      generalize YL.map trT = P8 at *
      generalize Wb n ts = W1 at *
      generalize (whole n ts : Int) = z0 at *
      have hb1 : bwOf (.var 0) = [0] := rfl
      simp [VL.run, Ent.code, evB, evS, ev, evs, evI, start', Rs.bind, Rs.then, Rs.of, onOpt, slotR, R.d, PR.r, retR, toSlot, lentR, lent, R.isBw, keepAll, keepR, allOpt, bwOf, frzIt, frzAll, frz1, L2.atI, L2.ixN, itemsOf, c_le, c_lt, c_ge, c_gt, c_eq, c_ne, c_is, c_isnot, isNone, partI, p_min12, p_max12, p_tuplel, p_tuplet, p_listl, p_listt, p_sum, p_any, p_all, p_abs, p_inti, p_intb, o_add, o_sub, o_mul, o_fdiv, b21_0, G0, G1, g1, g2, g3, g4, g5])
  rw [Nat.zero_add, List.length_map, List.take_length] at h1
  have hP : polyOf (parts (whole n ts) (tabl n ts)) = byP n ts := rfl
  rw [hP] at h1
  have hlen : priD .len [.tuple (ts.map prT)] = some (.v (.int (ts.length : Int))) := by rw [p_lent, List.length_map]
  have htr := p_trng ts.length (by omega)
  rw [et] at htr
  have i1 : idxD (Wb n ts) (.int 1) = some (.tuple (ts.map prT)) := rfl
  rw [fn_eq (c := e21.code) rfl]
  have hb : bwOf i21_0 = [] := rfl
  have hit : ∀ E : SEnv, evI ⟨fnF cd gl (k + 3), gl⟩ i21_0 (.fz (Wb n ts) :: E) = .ok ((tabl n ts).map trT) := fun E => by
    generalize (tabl n ts).map trT = U at *
    generalize Wb n ts = W1 at *
    simp [VL.run, Ent.code, evB, evS, ev, evs, evI, start', Rs.bind, Rs.then, Rs.of, onOpt, slotR, R.d, PR.r, retR, toSlot, lentR, lent, R.isBw, keepAll, keepR, allOpt, bwOf, frzIt, frzAll, frz1, L2.atI, L2.ixN, itemsOf, c_le, c_lt, c_ge, c_gt, c_eq, c_ne, c_is, c_isnot, isNone, partI, p_min12, p_max12, p_tuplel, p_tuplet, p_listl, p_listt, p_sum, p_any, p_all, p_abs, p_inti, p_intb, o_add, o_sub, o_mul, o_fdiv, i21_0, h19, walkD]
  clear et ew
  generalize (tabl n ts).map trT = U1 at *
  generalize (byP n ts).map trT = U2 at *
  generalize tupR (List.range ts.length) = U3 at *
  generalize ts.map prT = U4 at *
  generalize Wb n ts = W1 at *
  generalize (whole n ts : Int) = z0 at *
  generalize (ts.length : Int) = z1 at *
  simp [VL.run, Ent.code, evB, evS, ev, evs, evI, start', Rs.bind, Rs.then, Rs.of, onOpt, slotR, R.d, PR.r, retR, toSlot, lentR, lent, R.isBw, keepAll, keepR, allOpt, bwOf, frzIt, frzAll, frz1, L2.atI, L2.ixN, itemsOf, c_le, c_lt, c_ge, c_gt, c_eq, c_ne, c_is, c_isnot, isNone, partI, p_min12, p_max12, p_tuplel, p_tuplet, p_listl, p_listt, p_sum, p_any, p_all, p_abs, p_inti, p_intb, o_add, o_sub, o_mul, o_fdiv, e21, b21, i1, hlen, htr, hw, hb, hit, h1]

theorem cat_t (xs ys : List (Int × Int)) (h : xs.length + ys.length ≤ 1000) : binD .Add (.tuple (xs.map prT)) (.tuple (ys.map prT)) = some (.v (.tuple ((xs ++ ys).map prT))) := by
  rw [o_catt _ _ (by rw [List.length_map, List.length_map, LIM_eq]; omega), List.map_append]
theorem f17 (k : Nat) (a b : Int) : fnF cd gl (k + 1) 17 [.int a, .int b] = if a ≤ 9 ∧ b ≤ 8 then .ok (.v .none) else .ex 1 none := by
  rw [fn_eq (c := e17.code) rfl]
  by_cases h1 : 9 < a
  · rw [if_neg (by omega)]
    simp [VL.run, Ent.code, evB, evS, ev, evs, evI, start', Rs.bind, Rs.then, Rs.of, onOpt, slotR, R.d, PR.r, retR, toSlot, lentR, lent, R.isBw, keepAll, keepR, allOpt, bwOf, frzIt, frzAll, frz1, isiD, L2.atI, L2.ixN, itemsOf, c_le, c_lt, c_ge, c_gt, c_eq, c_ne, c_is, c_isnot, isNone, partI, p_lenl, p_lent, p_min2, p_max2, p_min12, p_max12, p_tuplel, p_tuplet, p_listl, p_listt, p_sum, p_any, p_all, p_abs, p_inti, p_intb, o_add, o_sub, o_mul, o_fdiv, o_mod, i_l, i_t, e17, b17, gl_0, gl_1, h1]
  · by_cases h2 : 8 < b
    · rw [if_neg (by omega)]
      simp [VL.run, Ent.code, evB, evS, ev, evs, evI, start', Rs.bind, Rs.then, Rs.of, onOpt, slotR, R.d, PR.r, retR, toSlot, lentR, lent, R.isBw, keepAll, keepR, allOpt, bwOf, frzIt, frzAll, frz1, isiD, L2.atI, L2.ixN, itemsOf, c_le, c_lt, c_ge, c_gt, c_eq, c_ne, c_is, c_isnot, isNone, partI, p_lenl, p_lent, p_min2, p_max2, p_min12, p_max12, p_tuplel, p_tuplet, p_listl, p_listt, p_sum, p_any, p_all, p_abs, p_inti, p_intb, o_add, o_sub, o_mul, o_fdiv, o_mod, i_l, i_t, e17, b17, gl_0, gl_1, h1, h2]
    · rw [if_pos (by omega)]
      simp [VL.run, Ent.code, evB, evS, ev, evs, evI, start', Rs.bind, Rs.then, Rs.of, onOpt, slotR, R.d, PR.r, retR, toSlot, lentR, lent, R.isBw, keepAll, keepR, allOpt, bwOf, frzIt, frzAll, frz1, isiD, L2.atI, L2.ixN, itemsOf, c_le, c_lt, c_ge, c_gt, c_eq, c_ne, c_is, c_isnot, isNone, partI, p_lenl, p_lent, p_min2, p_max2, p_min12, p_max12, p_tuplel, p_tuplet, p_listl, p_listt, p_sum, p_any, p_all, p_abs, p_inti, p_intb, o_add, o_sub, o_mul, o_fdiv, o_mod, i_l, i_t, e17, b17, gl_0, gl_1, h1, h2]
theorem f18 (k : Nat) (a b : W2) (wa : a.ok) (wb : b.ok) (p q : Nat) : fnF cd gl (k + 2) 18 [a.d, b.d] = if (due true a p b q).n ≤ 9 ∧ (due true a p b q).ts.length ≤ 8 then .ok (.v (due true a p b q).d) else .ex 1 none := by
  rw [fn_eq (c := e18.code) rfl, due_len]
  have h3 := f17 k ((a.n : Int) + b.n) ((a.ts.length : Int) + b.ts.length)
  have la := wa.len
  have lb := wb.len
  have hq : ∀ X : VL.Slot, ev ⟨fnF cd gl (k + 1), gl⟩ q18_0 [.fz a.d, .fz b.d, X, .un, .un] = .ok (.nw ((b.ts.map (renT (places true a p b q))).map prT)) := fun X => by
    unfold q18_0
    rw [List.map_map]
    refine ev_lcm (ds := b.ts.map prT) ?_ (by rw [List.length_map, LIM_eq]; omega) (lc_of prT _ fun o ho => ?_)
    · have i1 : idxD b.d (.int 1) = some (.tuple (b.ts.map prT)) := rfl
      generalize b.ts.map prT = U at *
      generalize b.d = W1 at *
      simp [VL.run, Ent.code, evB, evS, ev, evs, evI, start', Rs.bind, Rs.then, Rs.of, onOpt, slotR, R.d, PR.r, retR, toSlot, lentR, lent, R.isBw, keepAll, keepR, allOpt, bwOf, frzIt, frzAll, frz1, L2.atI, L2.ixN, itemsOf, c_le, c_lt, c_ge, c_gt, c_eq, c_ne, c_is, c_isnot, isNone, partI, p_lenl, p_lent, p_min2, p_max2, p_min12, p_max12, p_tuplel, p_tuplet, p_listl, p_listt, p_sum, p_any, p_all, p_abs, p_inti, p_intb, o_add, o_sub, o_mul, o_fdiv, o_mod, walkD, i1]
    · refine ⟨[.fz a.d, .fz b.d, X, .fz (.int o.1), .fz (.int o.2)], .fz (prT (renT (places true a p b q) o)), rfl, bwt _ _, ?_, rfl⟩
      have e : renT (places true a p b q) o = _ := shift_at (wb.ok o ho) (wb.srt o ho)
      rw [e]
      have i0 : idxD a.d (.int 0) = some (.int a.n) := rfl
      generalize a.d = W1 at *
      simp [VL.run, Ent.code, evB, evS, ev, evs, evI, start', Rs.bind, Rs.then, Rs.of, onOpt, slotR, R.d, PR.r, retR, toSlot, lentR, lent, R.isBw, keepAll, keepR, allOpt, bwOf, frzIt, frzAll, frz1, L2.atI, L2.ixN, itemsOf, c_le, c_lt, c_ge, c_gt, c_eq, c_ne, c_is, c_isnot, isNone, partI, p_lenl, p_lent, p_min2, p_max2, p_min12, p_max12, p_tuplel, p_tuplet, p_listl, p_listt, p_sum, p_any, p_all, p_abs, p_inti, p_intb, o_add, o_sub, o_mul, o_fdiv, o_mod, c18_0, i0, prT]
  have i0 : idxD a.d (.int 0) = some (.int a.n) := rfl
  have i1 : idxD a.d (.int 1) = some (.tuple (a.ts.map prT)) := rfl
  have j0 : idxD b.d (.int 0) = some (.int b.n) := rfl
  have j1 : idxD b.d (.int 1) = some (.tuple (b.ts.map prT)) := rfl
  have l1 : priD .len [.tuple (a.ts.map prT)] = some (.v (.int (a.ts.length : Int))) := by rw [p_lent, List.length_map]
  have l2 : priD .len [.tuple (b.ts.map prT)] = some (.v (.int (b.ts.length : Int))) := by rw [p_lent, List.length_map]
  have hc := cat_t a.ts (b.ts.map (renT (places true a p b q))) (by rw [List.length_map]; omega)
  have ed : (due true a p b q).d = .tuple [.int ((a.n : Int) + b.n), .tuple ((a.ts ++ b.ts.map (renT (places true a p b q))).map prT)] := by
    show PyData.tuple [.int ((a.n + b.n : Nat) : Int), _] = _
    rw [Int.natCast_add]; rfl
  have en : (due true a p b q).n = a.n + b.n := rfl
  rw [ed, en]
  generalize (a.ts ++ b.ts.map (renT (places true a p b q))).map prT = U1 at *
  generalize (b.ts.map (renT (places true a p b q))).map prT = U2 at *
  generalize a.ts.map prT = U3 at *
  generalize b.ts.map prT = U4 at *
  generalize a.d = X1 at *
  generalize b.d = X2 at *
  by_cases hf : (a.n : Int) + b.n ≤ 9 ∧ (a.ts.length : Int) + b.ts.length ≤ 8
  · rw [if_pos hf] at h3
    rw [if_pos (by omega)]
    simp [VL.run, Ent.code, evB, evS, ev, evs, evI, start', Rs.bind, Rs.then, Rs.of, onOpt, slotR, R.d, PR.r, retR, toSlot, lentR, lent, R.isBw, keepAll, keepR, allOpt, bwOf, frzIt, frzAll, frz1, L2.atI, L2.ixN, itemsOf, c_le, c_lt, c_ge, c_gt, c_eq, c_ne, c_is, c_isnot, isNone, partI, p_lenl, p_lent, p_min2, p_max2, p_min12, p_max12, p_tuplel, p_tuplet, p_listl, p_listt, p_sum, p_any, p_all, p_abs, p_inti, p_intb, o_add, o_sub, o_mul, o_fdiv, o_mod, e18, b18, h3, hq, i0, i1, j0, j1, l1, l2, hc]
  · rw [if_neg hf] at h3
    rw [if_neg (by omega)]
    simp [VL.run, Ent.code, evB, evS, ev, evs, evI, start', Rs.bind, Rs.then, Rs.of, onOpt, slotR, R.d, PR.r, retR, toSlot, lentR, lent, R.isBw, keepAll, keepR, allOpt, bwOf, frzIt, frzAll, frz1, L2.atI, L2.ixN, itemsOf, c_le, c_lt, c_ge, c_gt, c_eq, c_ne, c_is, c_isnot, isNone, partI, p_lenl, p_lent, p_min2, p_max2, p_min12, p_max12, p_tuplel, p_tuplet, p_listl, p_listt, p_sum, p_any, p_all, p_abs, p_inti, p_intb, o_add, o_sub, o_mul, o_fdiv, o_mod, e18, b18, h3, hq, i0, i1, j0, j1, l1, l2, hc]
theorem pt1 (k n i : Nat) (h : i < n) : fnF cd gl (k + 2) 1 [.int n, .int i] = .ok (.v (.bool true)) := f1 k n i ⟨by omega, by omega⟩
theorem f19 (k : Nat) (a b : W2) (wa : a.ok) (wb : b.ok) (p q : Nat) (hp : p < a.n) (hq : q < b.n) : fnF cd gl (k + 3) 19 [a.d, .int p, b.d, .int q] = if (due false a p b q).n ≤ 9 ∧ (due false a p b q).ts.length ≤ 8 then .ok (.v (due false a p b q).d) else .ex 1 none := by
  rw [fn_eq (c := e19.code) rfl, due_len]
  have h3 := f17 (k + 1) ((a.n : Int) + b.n - 1) ((a.ts.length : Int) + b.ts.length)
  have la := wa.len
  have lb := wb.len
  have na := wa.n9
  have nb := wb.n9
  have p1 := pt1 k a.n p hp
  have p2 := pt1 k b.n q hq
  have i0 : idxD a.d (.int 0) = some (.int a.n) := rfl
  have i1 : idxD a.d (.int 1) = some (.tuple (a.ts.map prT)) := rfl
  have j0 : idxD b.d (.int 0) = some (.int b.n) := rfl
  have j1 : idxD b.d (.int 1) = some (.tuple (b.ts.map prT)) := rfl
  have hloop : forLoop (takes [5] true) (evB ⟨fnF cd gl (k + 2), gl⟩ b19_0) (killS [5]) (rI (List.range b.n)) [.fz a.d, .fz (.int p), .fz b.d, .fz (.int q), .ow [], .un, .un, .un, .un] = .nx [.fz a.d, .fz (.int p), .fz b.d, .fz (.int q), .ow (rI (plr a.n p q b.n)), .un, .un, .un, .un] := by
    rw [for_eq (fun j => [.fz a.d, .fz (.int p), .fz b.d, .fz (.int q), .ow (rI ((List.range j).map (pl a.n p q))), .un, .un, .un, .un]) 0 (by simp [killS, rI]) (fun i d hd => ?_)]
    · rw [rI_len, List.length_range, Nat.zero_add]; rfl
    · rw [rI_at] at hd
      obtain ⟨x, hx, rfl⟩ := Option.map_eq_some_iff.mp hd
      have hi := (List.getElem?_eq_some_iff.mp hx).1
      rw [List.length_range] at hi
      rw [List.getElem?_range hi] at hx
      cases hx
      rw [Nat.zero_add]
      refine ⟨[.fz a.d, .fz (.int p), .fz b.d, .fz (.int q), .ow (rI ((List.range i).map (pl a.n p q))), .fz (.int (i : Int)), .un, .un, .un], [.fz a.d, .fz (.int p), .fz b.d, .fz (.int q), .ow (rI ((List.range (i + 1)).map (pl a.n p q))), .fz (.int (i : Int)), .un, .un, .un], rfl, ?_, by simp [killS]⟩
      have es : rI ((List.range (i + 1)).map (pl a.n p q)) = rI ((List.range i).map (pl a.n p q)) ++ [.int (pl a.n p q i : Nat)] := by
        rw [List.range_succ, List.map_append, rI_app]; rfl
      have hlim : (rI ((List.range i).map (pl a.n p q))).length < LIM := by rw [rI_len, List.length_map, List.length_range, LIM_eq]; omega
      rw [es]
      generalize rI ((List.range i).map (pl a.n p q)) = U at *
      by_cases c1 : i = q
      · have e : pl a.n p q i = p := by unfold pl; rw [if_pos c1]
        rw [e]
        have c1' : (i : Int) = (q : Int) := by omega
        generalize a.d = X1 at *
        generalize b.d = X2 at *
        simp [VL.run, Ent.code, evB, evS, ev, evs, evI, start', Rs.bind, Rs.then, Rs.of, onOpt, slotR, R.d, PR.r, retR, toSlot, lentR, lent, R.isBw, keepAll, keepR, allOpt, bwOf, frzIt, frzAll, frz1, isiD, L2.atI, L2.ixN, itemsOf, c_le, c_lt, c_ge, c_gt, c_eq, c_ne, c_is, c_isnot, isNone, partI, p_lenl, p_lent, p_min2, p_max2, p_min12, p_max12, p_tuplel, p_tuplet, p_listl, p_listt, p_sum, p_any, p_all, p_abs, p_inti, p_intb, o_add, o_sub, o_mul, o_fdiv, o_mod, i_l, i_t, b19_0, c1', mutR, mutL, hlim]
      · have c1' : ¬ ((i : Int) = (q : Int)) := by omega
        by_cases c2 : q < i
        · have e : ((pl a.n p q i : Nat) : Int) = (a.n : Int) + i - 1 := by unfold pl; rw [if_neg c1, if_pos c2]; omega
          rw [e]
          have c2' : (q : Int) < (i : Int) := by omega
          generalize a.d = X1 at *
          generalize b.d = X2 at *
          simp [VL.run, Ent.code, evB, evS, ev, evs, evI, start', Rs.bind, Rs.then, Rs.of, onOpt, slotR, R.d, PR.r, retR, toSlot, lentR, lent, R.isBw, keepAll, keepR, allOpt, bwOf, frzIt, frzAll, frz1, L2.atI, L2.ixN, itemsOf, c_le, c_lt, c_ge, c_gt, c_eq, c_ne, c_is, c_isnot, isNone, partI, p_lenl, p_lent, p_min2, p_max2, p_min12, p_max12, p_tuplel, p_tuplet, p_listl, p_listt, p_sum, p_any, p_all, p_abs, p_inti, p_intb, o_add, o_sub, o_mul, o_fdiv, o_mod, b19_0, c1', c2', i0, mutR, mutL, hlim]
        · have e : ((pl a.n p q i : Nat) : Int) = (a.n : Int) + i - 0 := by unfold pl; rw [if_neg c1, if_neg c2]; omega
          rw [e]
          have c2' : ¬ ((q : Int) < (i : Int)) := by omega
          generalize a.d = X1 at *
          generalize b.d = X2 at *
          simp [VL.run, Ent.code, evB, evS, ev, evs, evI, start', Rs.bind, Rs.then, Rs.of, onOpt, slotR, R.d, PR.r, retR, toSlot, lentR, lent, R.isBw, keepAll, keepR, allOpt, bwOf, frzIt, frzAll, frz1, L2.atI, L2.ixN, itemsOf, c_le, c_lt, c_ge, c_gt, c_eq, c_ne, c_is, c_isnot, isNone, partI, p_lenl, p_lent, p_min2, p_max2, p_min12, p_max12, p_tuplel, p_tuplet, p_listl, p_listt, p_sum, p_any, p_all, p_abs, p_inti, p_intb, o_add, o_sub, o_mul, o_fdiv, o_mod, b19_0, c1', c2', i0, mutR, mutL, hlim]
  have hqq : ev ⟨fnF cd gl (k + 2), gl⟩ q19_0 [.fz a.d, .fz (.int p), .fz b.d, .fz (.int q), .ow (rI (plr a.n p q b.n)), .un, .un, .un, .un] = .ok (.nw ((b.ts.map (renT (plr a.n p q b.n))).map prT)) := by
    unfold q19_0
    rw [List.map_map]
    refine ev_lcm (ds := b.ts.map prT) ?_ (by rw [List.length_map, LIM_eq]; omega) (lc_of prT _ fun o ho => ?_)
    · generalize b.ts.map prT = U at *
      generalize rI (plr a.n p q b.n) = U1 at *
      generalize b.d = W1 at *
      generalize a.d = W2 at *
      simp [VL.run, Ent.code, evB, evS, ev, evs, evI, start', Rs.bind, Rs.then, Rs.of, onOpt, slotR, R.d, PR.r, retR, toSlot, lentR, lent, R.isBw, keepAll, keepR, allOpt, bwOf, frzIt, frzAll, frz1, L2.atI, L2.ixN, itemsOf, c_le, c_lt, c_ge, c_gt, c_eq, c_ne, c_is, c_isnot, isNone, partI, p_lenl, p_lent, p_min2, p_max2, p_min12, p_max12, p_tuplel, p_tuplet, p_listl, p_listt, p_sum, p_any, p_all, p_abs, p_inti, p_intb, o_add, o_sub, o_mul, o_fdiv, o_mod, walkD, j1]
    · refine ⟨[.fz a.d, .fz (.int p), .fz b.d, .fz (.int q), .ow (rI (plr a.n p q b.n)), .un, .un, .fz (.int o.1), .fz (.int o.2)], .fz (prT (renT (plr a.n p q b.n) o)), rfl, bwt _ _, ?_, rfl⟩
      have ho' := wb.ok o ho
      have hl := plr_len a.n p q b.n
      have x1 : idxD (.list (rI (plr a.n p q b.n))) (.int o.1) = some (.int (gt (plr a.n p q b.n) o.1)) := idx_gtl ho'.1.1 (by rw [hl]; exact ho'.1.2)
      have x2 : idxD (.list (rI (plr a.n p q b.n))) (.int o.2) = some (.int (gt (plr a.n p q b.n) o.2)) := idx_gtl ho'.2.1 (by rw [hl]; exact ho'.2.2)
      have ht := f13 (k + 1) (gt (plr a.n p q b.n) o.1) (gt (plr a.n p q b.n) o.2)
      show _ = Rs.ok (R.fz (prT (VL.srt (gt (plr a.n p q b.n) o.1, gt (plr a.n p q b.n) o.2))))
      generalize prT (VL.srt (gt (plr a.n p q b.n) o.1, gt (plr a.n p q b.n) o.2)) = zz at *
      generalize gt (plr a.n p q b.n) o.1 = z1 at *
      generalize gt (plr a.n p q b.n) o.2 = z2 at *
      generalize rI (plr a.n p q b.n) = U1 at *
      generalize b.d = W1 at *
      generalize a.d = W2 at *
      simp [VL.run, Ent.code, evB, evS, ev, evs, evI, start', Rs.bind, Rs.then, Rs.of, onOpt, slotR, R.d, PR.r, retR, toSlot, lentR, lent, R.isBw, keepAll, keepR, allOpt, bwOf, frzIt, frzAll, frz1, L2.atI, L2.ixN, itemsOf, c_le, c_lt, c_ge, c_gt, c_eq, c_ne, c_is, c_isnot, isNone, partI, p_lenl, p_lent, p_min2, p_max2, p_min12, p_max12, p_tuplel, p_tuplet, p_listl, p_listt, p_sum, p_any, p_all, p_abs, p_inti, p_intb, o_add, o_sub, o_mul, o_fdiv, o_mod, c19_0, x1, x2, ht]
  have l1 : priD .len [.tuple (a.ts.map prT)] = some (.v (.int (a.ts.length : Int))) := by rw [p_lent, List.length_map]
  have l2 : priD .len [.tuple (b.ts.map prT)] = some (.v (.int (b.ts.length : Int))) := by rw [p_lent, List.length_map]
  have hc := cat_t a.ts (b.ts.map (renT (plr a.n p q b.n))) (by rw [List.length_map]; omega)
  have hb : bwOf i19_0 = [] := rfl
  have hit : ∀ (A P : VL.Slot) (E : SEnv), evI ⟨fnF cd gl (k + 2), gl⟩ i19_0 (A :: P :: .fz b.d :: E) = .ok (rI (List.range b.n)) := fun A P E => by
    rw [← rI_rng]
    have hr := r_1 (b.n : Int) ⟨by rw [LIM_eq]; omega, by omega⟩
    unfold i19_0
    refine ev_rng (rs := [.fz (.int (b.n : Int))]) ?_ hr
    generalize b.d = W1 at *
    simp [VL.run, Ent.code, evB, evS, ev, evs, evI, start', Rs.bind, Rs.then, Rs.of, onOpt, slotR, R.d, PR.r, retR, toSlot, lentR, lent, R.isBw, keepAll, keepR, allOpt, bwOf, frzIt, frzAll, frz1, L2.atI, L2.ixN, itemsOf, c_le, c_lt, c_ge, c_gt, c_eq, c_ne, c_is, c_isnot, isNone, partI, p_lenl, p_lent, p_min2, p_max2, p_min12, p_max12, p_tuplel, p_tuplet, p_listl, p_listt, p_sum, p_any, p_all, p_abs, p_inti, p_intb, o_add, o_sub, o_mul, o_fdiv, o_mod, j0]
  have hn1 : 1 ≤ a.n + b.n := by omega
  have ed : (due false a p b q).d = .tuple [.int ((a.n : Int) + b.n - 1), .tuple ((a.ts ++ b.ts.map (renT (plr a.n p q b.n))).map prT)] := by
    show PyData.tuple [.int ((a.n + b.n - 1 : Nat) : Int), _] = _
    rw [Int.natCast_sub hn1, Int.natCast_add]; rfl
  have en : (due false a p b q).n = a.n + b.n - 1 := rfl
  rw [ed, en]
  generalize (a.ts ++ b.ts.map (renT (plr a.n p q b.n))).map prT = U1 at *
  generalize (b.ts.map (renT (plr a.n p q b.n))).map prT = U2 at *
  generalize a.ts.map prT = U3 at *
  generalize b.ts.map prT = U4 at *
  generalize rI (List.range b.n) = U5 at *
  generalize rI (plr a.n p q b.n) = U6 at *
  generalize a.d = X1 at *
  generalize b.d = X2 at *
  by_cases hf : (a.n : Int) + b.n - 1 ≤ 9 ∧ (a.ts.length : Int) + b.ts.length ≤ 8
  · rw [if_pos hf] at h3
    rw [if_pos (by omega)]
    simp [VL.run, Ent.code, evB, evS, ev, evs, evI, start', Rs.bind, Rs.then, Rs.of, onOpt, slotR, R.d, PR.r, retR, toSlot, lentR, lent, R.isBw, keepAll, keepR, allOpt, bwOf, frzIt, frzAll, frz1, L2.atI, L2.ixN, itemsOf, c_le, c_lt, c_ge, c_gt, c_eq, c_ne, c_is, c_isnot, isNone, partI, p_lenl, p_lent, p_min2, p_max2, p_min12, p_max12, p_tuplel, p_tuplet, p_listl, p_listt, p_sum, p_any, p_all, p_abs, p_inti, p_intb, o_add, o_sub, o_mul, o_fdiv, o_mod, e19, b19, p1, p2, h3, hb, hit, hloop, hqq, i0, i1, j0, j1, l1, l2, hc]
  · rw [if_neg hf] at h3
    rw [if_neg (by omega)]
    simp [VL.run, Ent.code, evB, evS, ev, evs, evI, start', Rs.bind, Rs.then, Rs.of, onOpt, slotR, R.d, PR.r, retR, toSlot, lentR, lent, R.isBw, keepAll, keepR, allOpt, bwOf, frzIt, frzAll, frz1, L2.atI, L2.ixN, itemsOf, c_le, c_lt, c_ge, c_gt, c_eq, c_ne, c_is, c_isnot, isNone, partI, p_lenl, p_lent, p_min2, p_max2, p_min12, p_max12, p_tuplel, p_tuplet, p_listl, p_listt, p_sum, p_any, p_all, p_abs, p_inti, p_intb, o_add, o_sub, o_mul, o_fdiv, o_mod, e19, b19, p1, p2, h3, hb, hit, hloop, hqq, i0, i1, j0, j1, l1, l2, hc]
/-! ### the law's own -/

theorem f26 (k : Nat) (a m : Nat) (hm : m ≤ 8) : fnF cd gl (k + 1) 26 [.int (a : Int), .int (m : Int)] = .ok (.v (tupR (bits a m))) := by
  rw [fn_eq (c := e26.code) rfl]
  have hq : ev ⟨fnF cd gl k, gl⟩ q26_0 [.fz (.int (a : Int)), .fz (.int (m : Int)), .un] = .ok (.nw (rI (bits a m))) := by
    unfold q26_0
    refine ev_lcm (ds := rI (List.range m)) ?_ (by rw [rI_len, List.length_range, LIM_eq]; omega) (lc_filt (fun j => a.testBit j) (fun i : Nat => PyData.int (i : Int)) (fun i : Nat => PyData.int (i : Int)) fun i hi => ?_)
    · rw [← rI_rng]
      exact ev_rng (rs := [.fz (.int (m : Int))]) (by simp [VL.run, Ent.code, evB, evS, ev, evs, evI, start', Rs.bind, Rs.then, Rs.of, onOpt, slotR, R.d, PR.r, retR, toSlot, lentR, lent, R.isBw, keepAll, keepR, allOpt, bwOf, frzIt, frzAll, frz1, isiD, L2.atI, L2.ixN, itemsOf, c_le, c_lt, c_ge, c_gt, c_eq, c_ne, c_is, c_isnot, isNone, partI, p_lenl, p_lent, p_min2, p_max2, p_min12, p_max12, p_tuplel, p_tuplet, p_listl, p_listt, p_sum, p_any, p_all, p_abs, p_inti, p_intb, o_add, o_sub, o_mul, o_fdiv, o_mod, i_l, i_t]) (r_1 _ ⟨by rw [LIM_eq]; omega, by omega⟩)
    · refine ⟨[.fz (.int (a : Int)), .fz (.int (m : Int)), .fz (.int (i : Int))], rfl, ?_, fun _ => ⟨.fz (.int (i : Int)), by simp [VL.run, Ent.code, evB, evS, ev, evs, evI, start', Rs.bind, Rs.then, Rs.of, onOpt, slotR, R.d, PR.r, retR, toSlot, lentR, lent, R.isBw, keepAll, keepR, allOpt, bwOf, frzIt, frzAll, frz1, isiD, L2.atI, L2.ixN, itemsOf, c_le, c_lt, c_ge, c_gt, c_eq, c_ne, c_is, c_isnot, isNone, partI, p_lenl, p_lent, p_min2, p_max2, p_min12, p_max12, p_tuplel, p_tuplet, p_listl, p_listt, p_sum, p_any, p_all, p_abs, p_inti, p_intb, o_add, o_sub, o_mul, o_fdiv, o_mod, i_l, i_t, c26_0], rfl⟩⟩
      have h1 := o_shrN a i
      have h2 := o_and1 (a / 2 ^ i)
      have h3 := bit_dec a i
      have h4 := c_eq ((a / 2 ^ i % 2 : Nat) : Int) 1
      rw [h3] at h4
      clear h3
      unfold testR
      generalize ((a / 2 ^ i % 2 : Nat) : Int) = x1 at *
      generalize ((a / 2 ^ i : Nat) : Int) = x2 at *
      generalize a.testBit i = bb at *
      simp only [d26_0, evs, ev, List.getElem?_cons_zero, List.getElem?_cons_succ, slotR, Rs.bind, R.d, h1, PR.r, h2, h4, VL.toBool, Rs.of]
  unfold tupR
  generalize rI (bits a m) = U at *
  simp [VL.run, Ent.code, evB, evS, ev, evs, evI, start', Rs.bind, Rs.then, Rs.of, onOpt, slotR, R.d, PR.r, retR, toSlot, lentR, lent, R.isBw, keepAll, keepR, allOpt, bwOf, frzIt, frzAll, frz1, isiD, L2.atI, L2.ixN, itemsOf, c_le, c_lt, c_ge, c_gt, c_eq, c_ne, c_is, c_isnot, isNone, partI, p_lenl, p_lent, p_min2, p_max2, p_min12, p_max12, p_tuplel, p_tuplet, p_listl, p_listt, p_sum, p_any, p_all, p_abs, p_inti, p_intb, o_add, o_sub, o_mul, o_fdiv, o_mod, i_l, i_t, e26, b26, hq]

theorem f24step (k : Nat) (A : VL.Slot) (n : Int) (hn : 1 ≤ n ∧ n ≤ 9) (ts : List (Int × Int)) (h : ∀ p ∈ ts, okT n p ∧ p.1 ≤ p.2) (hl : ts.length < 100) (c : Int) :
    ∃ (p : Int × Int) (e5 e6 : VL.Slot), (okT n p ∧ p.1 ≤ p.2) ∧ evB ⟨fnF cd gl k, gl⟩ b24_0 [A, .fz (.int n), .ow (ts.map prT), .fz (.int c), .un, .un] = .nx [A, .fz (.int n), .ow ((ts ++ [p]).map prT), .fz (.int c), e5, e6] := by
  have a1 := Int.emod_nonneg c (show n ≠ 0 by omega)
  have a2 := Int.emod_lt_of_pos c (show 0 < n by omega)
  have a3 := Int.emod_nonneg (c / n) (show n ≠ 0 by omega)
  have a4 := Int.emod_lt_of_pos (c / n) (show 0 < n by omega)
  have m1 := o_mod c n (by omega)
  have m2 := o_fdiv c n (by omega) (Int.lt_of_le_of_lt hn.2 (by decide))
  have m3 := o_mod (c / n) n (by omega)
  have m4 := o_fdiv c 81 (by decide) (by decide)
  have m5 := o_mod (c / 81) 4 (by decide)
  have hne := prs_none (l := ts)
  have hlim : (ts.map prT).length < LIM := by rw [List.length_map, LIM_eq]; omega
  by_cases hc : c / 81 % 4 = 1
  · rcases List.eq_nil_or_concat ts with e | ⟨us, u, e⟩
    · subst e
      refine ⟨VL.srt (c % n, c / n % n), .fz (.int (c % n)), .fz (.int (c / n % n)), ⟨srt_ok ⟨⟨a1, a2⟩, ⟨a3, a4⟩⟩, srt_le _⟩, ?_⟩
      have hne' : cmpD .NotEq (.list []) (.list []) = some false := by have := prs_none (l := []); simpa using this
      have h0l : 0 < LIM := by rw [LIM_eq]; decide
      generalize c % n = x1 at *
      generalize c / n = x2 at *
      generalize x2 % n = x3 at *
      generalize c / 81 = x4 at *
      simp [VL.run, Ent.code, evB, evS, ev, evs, evI, start', Rs.bind, Rs.then, Rs.of, onOpt, slotR, R.d, PR.r, retR, toSlot, lentR, lent, R.isBw, keepAll, keepR, allOpt, bwOf, frzIt, frzAll, frz1, L2.atI, L2.ixN, itemsOf, c_le, c_lt, c_ge, c_gt, c_eq, c_ne, c_is, c_isnot, isNone, partI, p_lent, p_min2, p_max2, p_min12, p_max12, p_tuplel, p_tuplet, p_listl, p_listt, p_sum, p_any, p_all, p_abs, p_inti, p_intb, o_add, o_sub, o_mul, o_fdiv, b24_0, m1, m2, m3, m4, m5, hc, hne', mutR, mutL, h0l, prT, VL.srt]
    · have hem : ts.isEmpty = false := by rw [e]; cases us <;> rfl
      rw [hem, Bool.not_false] at hne
      have hu := h u (by rw [e]; simp)
      have hlast : idxD (.list (ts.map prT)) (.int (-1)) = some (prT u) := by
        rw [i_l, e, List.concat_eq_append, List.map_append]
        exact at_last _ _
      refine ⟨VL.srt u, .fz (.int u.1), .fz (.int u.2), ⟨srt_ok hu.1, srt_le _⟩, ?_⟩
      have e2 : (ts ++ [VL.srt u]).map prT = ts.map prT ++ [.tuple [.int (min u.1 u.2), .int (max u.1 u.2)]] := by rw [List.map_append]; rfl
      rw [e2]
      unfold prT at hlast
      generalize c % n = x1 at *
      generalize c / n = x2 at *
      generalize x2 % n = x3 at *
      generalize c / 81 = x4 at *
      have e3 : (ts.map fun p => PyData.tuple [PyData.int p.1, PyData.int p.2]) = ts.map prT := rfl
      rw [e3] at hlast
      generalize ts.map prT = U at *
      simp [VL.run, Ent.code, evB, evS, ev, evs, evI, start', Rs.bind, Rs.then, Rs.of, onOpt, slotR, R.d, PR.r, retR, toSlot, lentR, lent, R.isBw, keepAll, keepR, allOpt, bwOf, frzIt, frzAll, frz1, L2.atI, L2.ixN, itemsOf, c_le, c_lt, c_ge, c_gt, c_eq, c_ne, c_is, c_isnot, isNone, partI, p_lent, p_min2, p_max2, p_min12, p_max12, p_tuplel, p_tuplet, p_listl, p_listt, p_sum, p_any, p_all, p_abs, p_inti, p_intb, o_add, o_sub, o_mul, o_fdiv, b24_0, m1, m2, m3, m4, m5, hc, hne, hlast, setAll, mutR, mutL, hlim]
  · refine ⟨VL.srt (c % n, c / n % n), .fz (.int (c % n)), .fz (.int (c / n % n)), ⟨srt_ok ⟨⟨a1, a2⟩, ⟨a3, a4⟩⟩, srt_le _⟩, ?_⟩
    have e2 : (ts ++ [VL.srt (c % n, c / n % n)]).map prT = ts.map prT ++ [.tuple [.int (min (c % n) (c / n % n)), .int (max (c % n) (c / n % n))]] := by rw [List.map_append]; rfl
    rw [e2]
    generalize c % n = x1 at *
    generalize c / n = x2 at *
    generalize x2 % n = x3 at *
    generalize c / 81 = x4 at *
    generalize ts.map prT = U at *
    simp [VL.run, Ent.code, evB, evS, ev, evs, evI, start', Rs.bind, Rs.then, Rs.of, onOpt, slotR, R.d, PR.r, retR, toSlot, lentR, lent, R.isBw, keepAll, keepR, allOpt, bwOf, frzIt, frzAll, frz1, L2.atI, L2.ixN, itemsOf, c_le, c_lt, c_ge, c_gt, c_eq, c_ne, c_is, c_isnot, isNone, partI, p_lent, p_min2, p_max2, p_min12, p_max12, p_tuplel, p_tuplet, p_listl, p_listt, p_sum, p_any, p_all, p_abs, p_inti, p_intb, o_add, o_sub, o_mul, o_fdiv, b24_0, m1, m2, m3, m4, m5, hc, mutR, mutL, hlim]
theorem f24 (k : Nat) (cs : List Int) (hl : cs.length ≤ 4) (n : Nat) (hn : 1 ≤ n ∧ n ≤ 9) : ∃ ts, Web n ts ∧ ts.length ≤ 4 ∧ fnF cd gl (k + 1) 24 [.list (cs.map .int), .int (n : Int)] = .ok (.v (Wb n ts)) := by
  obtain ⟨E, h1, ts, h2, h3, rfl⟩ := for_inv (tk := takes [3] true) (B := evB ⟨fnF cd gl k, gl⟩ b24_0) (kl := killS [3, 4, 5]) (fun j E => ∃ ts : List (Int × Int), (∀ p ∈ ts, okT n p ∧ p.1 ≤ p.2) ∧ ts.length = j ∧ E = [.fz (.list (cs.map .int)), .fz (.int (n : Int)), .ow (ts.map prT), .un, .un, .un]) (l := cs.map .int)
    (env := [.fz (.list (cs.map .int)), .fz (.int (n : Int)), .ow [], .un, .un, .un]) 0 ⟨[], (fun p hp => nomatch hp), rfl, by simp [killS]⟩ (fun i d E hd hp => by
      obtain ⟨ts, q1, q2, rfl⟩ := hp
      rw [List.getElem?_map] at hd
      obtain ⟨c, hc, rfl⟩ := Option.map_eq_some_iff.mp hd
      have hi := (List.getElem?_eq_some_iff.mp hc).1
      obtain ⟨p, e5, e6, p1, p2⟩ := f24step k (.fz (.list (cs.map .int))) n (by omega) ts q1 (by omega) c
      refine ⟨[.fz (.list (cs.map .int)), .fz (.int (n : Int)), .ow (ts.map prT), .fz (.int c), .un, .un], _, rfl, p2, ts ++ [p], fun q hq => ?_, by rw [List.length_append, q2]; rfl, by simp [killS]⟩
      rcases List.mem_append.mp hq with hq | hq
      · exact q1 q hq
      · rw [List.mem_singleton.mp hq]; exact p1)
  rw [Nat.zero_add, List.length_map] at h3
  refine ⟨ts, ⟨by omega, by omega, fun p hp => (h2 p hp).1, fun p hp => (h2 p hp).2, by omega⟩, by omega, ?_⟩
  rw [fn_eq (c := e24.code) rfl]
  unfold Wb
  generalize ts.map prT = U at *
  generalize cs.map PyData.int = U2 at *
  generalize (n : Int) = x at *
  simp [VL.run, Ent.code, evB, evS, ev, evs, evI, start', Rs.bind, Rs.then, Rs.of, onOpt, slotR, R.d, PR.r, retR, toSlot, lentR, lent, R.isBw, keepAll, keepR, allOpt, bwOf, frzIt, frzAll, frz1, L2.atI, L2.ixN, itemsOf, c_le, c_lt, c_ge, c_gt, c_eq, c_ne, c_is, c_isnot, isNone, partI, p_min12, p_max12, p_tuplel, p_tuplet, p_listl, p_listt, p_sum, p_any, p_all, p_abs, p_inti, p_intb, o_add, o_sub, o_mul, o_fdiv, e24, b24, walkD, h1]
theorem f25 (k : Nat) (ns : List Int) (m : Nat) (hm : m ≤ 9) : ∃ r, Pm m r ∧ fnF cd gl (k + 2) 25 [.list (ns.map .int), .int (m : Int)] = .ok (.l (rI r)) := by
  obtain ⟨E, h1, r, h2, rfl⟩ := for_inv (tk := takes [3] true) (B := evB ⟨fnF cd gl (k + 1), gl⟩ b25_0) (kl := killS [3]) (fun j E => ∃ (r : List Nat), Pm j r ∧ E = [.fz (.list (ns.map .int)), .fz (.int (m : Int)), .ow (rI r), .un]) (l := rI (List.range m))
    (env := [.fz (.list (ns.map .int)), .fz (.int (m : Int)), .ow [], .un]) 0 ⟨[], Pm.refl 0, by simp [killS, rI]⟩ (fun i d E hd hp => by
      obtain ⟨r, q1, rfl⟩ := hp
      rw [Nat.zero_add] at q1 ⊢
      rw [rI_at] at hd
      obtain ⟨x, hx, rfl⟩ := Option.map_eq_some_iff.mp hd
      obtain ⟨hx1, hx2⟩ := List.getElem?_eq_some_iff.mp hx
      rw [List.getElem_range] at hx2
      subst hx2
      rw [List.length_range] at hx1
      have ha := f23 k ns i
      generalize at0 ns i = c' at ha
      have a1 := Int.emod_nonneg c' (show ((i : Int) + 1) ≠ 0 by omega)
      have a2 := Int.emod_lt_of_pos c' (show 0 < ((i : Int) + 1) by omega)
      have m1 := o_mod c' ((i : Int) + 1) (by omega)
      have hi := ins_rI (i := c' % ((i : Int) + 1)) (k := i) (r := r) ⟨a1, by omega⟩ (by rw [q1.len]; omega)
      refine ⟨[.fz (.list (ns.map .int)), .fz (.int (m : Int)), .ow (rI r), .fz (.int (i : Int))], [.fz (.list (ns.map .int)), .fz (.int (m : Int)), .ow (rI (putAt (c' % ((i : Int) + 1)).toNat i r)), .fz (.int (i : Int))], rfl, ?_, putAt (c' % ((i : Int) + 1)).toNat i r, putAt_pm q1, by simp [killS]⟩
      clear hd
      generalize rI (putAt (c' % ((i : Int) + 1)).toNat i r) = U2 at *
      generalize rI r = U at *
      generalize ns.map PyData.int = U3 at *
      generalize c' % ((i : Int) + 1) = x1 at *
      simp [VL.run, Ent.code, evB, evS, ev, evs, evI, start', Rs.bind, Rs.then, Rs.of, onOpt, slotR, R.d, PR.r, retR, toSlot, lentR, lent, R.isBw, keepAll, keepR, allOpt, bwOf, frzIt, frzAll, frz1, L2.atI, L2.ixN, itemsOf, c_le, c_lt, c_ge, c_gt, c_eq, c_ne, c_is, c_isnot, isNone, partI, p_lent, p_min2, p_max2, p_min12, p_max12, p_tuplel, p_tuplet, p_listl, p_listt, p_sum, p_any, p_all, p_abs, p_inti, p_intb, o_add, o_sub, o_mul, o_fdiv, b25_0, ha, m1, hi])
  rw [rI_len, List.length_range, Nat.zero_add] at h2
  refine ⟨r, h2, ?_⟩
  rw [fn_eq (c := e25.code) rfl]
  have hb : bwOf i25_0 = [] := rfl
  have hit : evI ⟨fnF cd gl (k + 1), gl⟩ i25_0 [.fz (.list (ns.map .int)), .fz (.int (m : Int)), .ow [], .un] = .ok (rI (List.range m)) := by
    rw [← rI_rng]
    unfold i25_0
    exact ev_rng (rs := [.fz (.int (m : Int))]) (by simp [VL.run, Ent.code, evB, evS, ev, evs, evI, start', Rs.bind, Rs.then, Rs.of, onOpt, slotR, R.d, PR.r, retR, toSlot, lentR, lent, R.isBw, keepAll, keepR, allOpt, bwOf, frzIt, frzAll, frz1, isiD, L2.atI, L2.ixN, itemsOf, c_le, c_lt, c_ge, c_gt, c_eq, c_ne, c_is, c_isnot, isNone, partI, p_lenl, p_lent, p_min2, p_max2, p_min12, p_max12, p_tuplel, p_tuplet, p_listl, p_listt, p_sum, p_any, p_all, p_abs, p_inti, p_intb, o_add, o_sub, o_mul, o_fdiv, o_mod, i_l, i_t]) (r_1 _ ⟨by rw [LIM_eq]; omega, by omega⟩)
  generalize rI (List.range m) = U2 at *
  generalize rI r = U at *
  generalize ns.map PyData.int = U3 at *
  simp [VL.run, Ent.code, evB, evS, ev, evs, evI, start', Rs.bind, Rs.then, Rs.of, onOpt, slotR, R.d, PR.r, retR, toSlot, lentR, lent, R.isBw, keepAll, keepR, allOpt, bwOf, frzIt, frzAll, frz1, isiD, L2.atI, L2.ixN, itemsOf, c_le, c_lt, c_ge, c_gt, c_eq, c_ne, c_is, c_isnot, isNone, partI, p_lenl, p_lent, p_min2, p_max2, p_min12, p_max12, p_tuplel, p_tuplet, p_listl, p_listt, p_sum, p_any, p_all, p_abs, p_inti, p_intb, o_add, o_sub, o_mul, o_fdiv, o_mod, i_l, i_t, e25, b25, hb, hit, h1]
theorem ge_dec (x m : Nat) : cmpD .GtE (.int (x : Int)) (.int (m : Int)) = some (!decide (x < m)) := by
  rw [c_ge]
  have : decide ((m : Int) ≤ (x : Int)) = !decide (x < m) := by rw [← decide_not]; exact decide_eq_decide.mpr (by omega)
  rw [this]
theorem lt_dec (x m : Nat) : cmpD .Lt (.int (x : Int)) (.int (m : Int)) = some (decide (x < m)) := by
  rw [c_lt]
  have : decide ((x : Int) < (m : Int)) = decide (x < m) := decide_eq_decide.mpr (by omega)
  rw [this]
theorem f27 (k : Nat) (P : List Nat) (hl : P.length ≤ 100) (m : Nat) : fnF cd gl (k + 1) 27 [tupR P, .int (m : Int)] = .ok (.v (.tuple [tupR (P.filter fun x => decide (x < m)), tupR ((P.filter fun x => !decide (x < m)).map (· - m))])) := by
  rw [fn_eq (c := e27.code) rfl]
  have h1 : ev ⟨fnF cd gl k, gl⟩ q27_1 [.fz (tupR P), .fz (.int (m : Int)), .un] = .ok (.nw (rI (P.filter fun x => decide (x < m)))) := by
    unfold q27_1
    refine ev_lcm (ds := rI P) (by unfold tupR; generalize rI P = U; simp [VL.run, Ent.code, evB, evS, ev, evs, evI, start', Rs.bind, Rs.then, Rs.of, onOpt, slotR, R.d, PR.r, retR, toSlot, lentR, lent, R.isBw, keepAll, keepR, allOpt, bwOf, frzIt, frzAll, frz1, L2.atI, L2.ixN, itemsOf, c_le, c_lt, c_ge, c_gt, c_eq, c_ne, c_is, c_isnot, isNone, partI, p_min12, p_max12, p_tuplel, p_tuplet, p_listl, p_listt, p_sum, p_any, p_all, p_abs, p_inti, p_intb, o_add, o_sub, o_mul, o_fdiv, walkD]) (by rw [rI_len, LIM_eq]; omega) (lc_filt (fun x => decide (x < m)) (fun i : Nat => PyData.int (i : Int)) (fun i : Nat => PyData.int (i : Int)) fun x hx => ?_)
    refine ⟨[.fz (tupR P), .fz (.int (m : Int)), .fz (.int (x : Int))], rfl, ?_, fun _ => ⟨.fz (.int (x : Int)), by simp [VL.run, Ent.code, evB, evS, ev, evs, evI, start', Rs.bind, Rs.then, Rs.of, onOpt, slotR, R.d, PR.r, retR, toSlot, lentR, lent, R.isBw, keepAll, keepR, allOpt, bwOf, frzIt, frzAll, frz1, isiD, L2.atI, L2.ixN, itemsOf, c_le, c_lt, c_ge, c_gt, c_eq, c_ne, c_is, c_isnot, isNone, partI, p_lenl, p_lent, p_min2, p_max2, p_min12, p_max12, p_tuplel, p_tuplet, p_listl, p_listt, p_sum, p_any, p_all, p_abs, p_inti, p_intb, o_add, o_sub, o_mul, o_fdiv, o_mod, i_l, i_t, c27_1], rfl⟩⟩
    have h := lt_dec x m
    unfold testR
    generalize decide (x < m) = bb at *
    generalize (x : Int) = z1 at *
    generalize (m : Int) = z2 at *
    simp only [d27_1, evs, ev, List.getElem?_cons_zero, List.getElem?_cons_succ, slotR, Rs.bind, R.d, h, PR.r, VL.toBool, Rs.of]
  have h2 : ev ⟨fnF cd gl k, gl⟩ q27_0 [.fz (tupR P), .fz (.int (m : Int)), .un] = .ok (.nw (rI ((P.filter fun x => !decide (x < m)).map (· - m)))) := by
    unfold q27_0
    have e : rI ((P.filter fun x => !decide (x < m)).map (· - m)) = (P.filter fun x => !decide (x < m)).map fun x : Nat => PyData.int ((x - m : Nat) : Int) := by unfold rI; rw [List.map_map]; rfl
    rw [e]
    refine ev_lcm (ds := rI P) (by unfold tupR; generalize rI P = U; simp [VL.run, Ent.code, evB, evS, ev, evs, evI, start', Rs.bind, Rs.then, Rs.of, onOpt, slotR, R.d, PR.r, retR, toSlot, lentR, lent, R.isBw, keepAll, keepR, allOpt, bwOf, frzIt, frzAll, frz1, L2.atI, L2.ixN, itemsOf, c_le, c_lt, c_ge, c_gt, c_eq, c_ne, c_is, c_isnot, isNone, partI, p_min12, p_max12, p_tuplel, p_tuplet, p_listl, p_listt, p_sum, p_any, p_all, p_abs, p_inti, p_intb, o_add, o_sub, o_mul, o_fdiv, walkD]) (by rw [rI_len, LIM_eq]; omega) (lc_filt (fun x => !decide (x < m)) (fun i : Nat => PyData.int (i : Int)) (fun x : Nat => PyData.int ((x - m : Nat) : Int)) fun x hx => ?_)
    refine ⟨[.fz (tupR P), .fz (.int (m : Int)), .fz (.int (x : Int))], rfl, ?_, fun hh => ⟨.fz (.int ((x - m : Nat) : Int)), ?_, rfl⟩⟩
    · have h := ge_dec x m
      unfold testR
      generalize (!decide (x < m)) = bb at *
      generalize (x : Int) = z1 at *
      generalize (m : Int) = z2 at *
      simp only [d27_0, evs, ev, List.getElem?_cons_zero, List.getElem?_cons_succ, slotR, Rs.bind, R.d, h, PR.r, VL.toBool, Rs.of]
    · have : ((x - m : Nat) : Int) = (x : Int) - (m : Int) := by
        have : ¬ x < m := by simpa using hh
        omega
      rw [this]
      generalize tupR P = U
      simp [VL.run, Ent.code, evB, evS, ev, evs, evI, start', Rs.bind, Rs.then, Rs.of, onOpt, slotR, R.d, PR.r, retR, toSlot, lentR, lent, R.isBw, keepAll, keepR, allOpt, bwOf, frzIt, frzAll, frz1, L2.atI, L2.ixN, itemsOf, c_le, c_lt, c_ge, c_gt, c_eq, c_ne, c_is, c_isnot, isNone, partI, p_min12, p_max12, p_tuplel, p_tuplet, p_listl, p_listt, p_sum, p_any, p_all, p_abs, p_inti, p_intb, o_add, o_sub, o_mul, o_fdiv, c27_0]
  have t1 := p_tupleR (P.filter fun x => decide (x < m))
  have t2 := p_tupleR ((P.filter fun x => !decide (x < m)).map (· - m))
  generalize rI (P.filter fun x => decide (x < m)) = U1 at *
  generalize rI ((P.filter fun x => !decide (x < m)).map (· - m)) = U2 at *
  generalize tupR (P.filter fun x => decide (x < m)) = U3 at *
  generalize tupR ((P.filter fun x => !decide (x < m)).map (· - m)) = U4 at *
  generalize tupR P = U at *
  simp [VL.run, Ent.code, evB, evS, ev, evs, evI, start', Rs.bind, Rs.then, Rs.of, onOpt, slotR, R.d, PR.r, retR, toSlot, lentR, lent, R.isBw, keepAll, keepR, allOpt, bwOf, frzIt, frzAll, frz1, L2.atI, L2.ixN, itemsOf, c_le, c_lt, c_ge, c_gt, c_eq, c_ne, c_is, c_isnot, isNone, partI, p_min12, p_max12, p_tuplel, p_tuplet, p_listl, p_listt, p_sum, p_any, p_all, p_abs, p_inti, p_intb, o_add, o_sub, o_mul, o_fdiv, e27, b27, h1, h2, t1, t2]
theorem flat_take {α β : Type} (f : α → List β) (l : List α) (i : Nat) (x : α) (h : l[i]? = some x) : (l.take (i + 1)).flatMap f = (l.take i).flatMap f ++ f x := by
  rw [List.take_add_one, h, List.flatMap_append]
  simp
theorem trees16 {n : Nat} {ts : List (Int × Int)} (h : ts.length ≤ 4) : (trees n ts).length ≤ 16 := by
  have h1 : (trees n ts).length ≤ (picks ts.length).length := by
    unfold trees
    rw [(sortL_perm lexN _).length_eq]
    exact List.length_filter_le _ _
  rw [picks_len] at h1
  have := Nat.pow_le_pow_right (n := 2) (by omega) h
  omega
theorem flat_len {α β : Type} (f : α → List β) (c : Nat) : ∀ l : List α, (∀ x ∈ l, (f x).length ≤ c) → (l.flatMap f).length ≤ l.length * c
  | [], _ => by simp
  | x :: l, h => by
    have := h x List.mem_cons_self
    have := flat_len f c l fun y hy => h y (List.mem_cons_of_mem _ hy)
    rw [List.flatMap_cons, List.length_append, List.length_cons, Nat.succ_mul]
    omega
theorem f28 (k : Nat) (n1 n2 : Nat) (t1 t2 : List (Int × Int)) (w1 : Web n1 t1) (w2 : Web n2 t2) (l1 : t1.length ≤ 4) (l2 : t2.length ≤ 4) : fnF cd gl (k + 4) 28 [Wb n1 t1, Wb n2 t2] = .ok (.l ((sortL lexN (bothT t1.length (trees n1 t1) (trees n2 t2))).map tupR)) := by
  have s1 := trees16 (n := n1) l1
  have s2 := trees16 (n := n2) l2
  have c1 := f22 k n1 t1 w1
  have c2 := f22 k n2 t2 w2
  have in1 : ∀ (T : List Nat) (acc : List (List Nat)) (e6 : VL.Slot), acc.length ≤ 1000 → T.length ≤ 100 → forLoop (takes [5] true) (evB ⟨fnF cd gl (k + 3), gl⟩ b28_0) (killS [5]) ((trees n2 t2).map tupR) [.fz (Wb n1 t1), .fz (Wb n2 t2), .fz (.int (t1.length : Int)), .ow (acc.map tupR), .fz (tupR T), .un, .un] =
      .nx [.fz (Wb n1 t1), .fz (Wb n2 t2), .fz (.int (t1.length : Int)), .ow ((acc ++ (trees n2 t2).map fun S => T ++ S.map (t1.length + ·)).map tupR), .fz (tupR T), .un, .un] := fun T acc e6 ha hT => by
    have := for_eq (tk := takes [5] true) (B := evB ⟨fnF cd gl (k + 3), gl⟩ b28_0) (kl := killS [5]) (l := (trees n2 t2).map tupR) (env := [.fz (Wb n1 t1), .fz (Wb n2 t2), .fz (.int (t1.length : Int)), .ow (acc.map tupR), .fz (tupR T), .un, .un])
      (fun j => [.fz (Wb n1 t1), .fz (Wb n2 t2), .fz (.int (t1.length : Int)), .ow ((acc ++ ((trees n2 t2).take j).map fun S => T ++ S.map (t1.length + ·)).map tupR), .fz (tupR T), .un, .un]) 0 (by simp [killS]) (fun i d hd => by
        simp only [Nat.zero_add]
        rw [List.getElem?_map] at hd
        obtain ⟨S, hS, rfl⟩ := Option.map_eq_some_iff.mp hd
        have hm := List.mem_of_getElem? hS
        have hSl : S.length ≤ 8 := by
          have := (trees_mem.mp hm).1.length_le
          rw [List.length_range] at this
          omega
        have hq : ∀ L : List D, ev ⟨fnF cd gl (k + 3), gl⟩ q28_0 [.fz (Wb n1 t1), .fz (Wb n2 t2), .fz (.int (t1.length : Int)), .ow L, .fz (tupR T), .fz (tupR S), .un] = .ok (.nw (rI (S.map (t1.length + ·)))) := fun L => by
          unfold q28_0
          have e : rI (S.map (t1.length + ·)) = S.map fun x : Nat => PyData.int ((t1.length + x : Nat) : Int) := by unfold rI; rw [List.map_map]; rfl
          rw [e]
          refine ev_lcm (ds := rI S) (by unfold tupR; generalize rI S = U; simp [VL.run, Ent.code, evB, evS, ev, evs, evI, start', Rs.bind, Rs.then, Rs.of, onOpt, slotR, R.d, PR.r, retR, toSlot, lentR, lent, R.isBw, keepAll, keepR, allOpt, bwOf, frzIt, frzAll, frz1, L2.atI, L2.ixN, itemsOf, c_le, c_lt, c_ge, c_gt, c_eq, c_ne, c_is, c_isnot, isNone, partI, p_min12, p_max12, p_tuplel, p_tuplet, p_listl, p_listt, p_sum, p_any, p_all, p_abs, p_inti, p_intb, o_add, o_sub, o_mul, o_fdiv, walkD]) (by rw [rI_len, LIM_eq]; omega) (lc_of (fun i : Nat => PyData.int (i : Int)) (fun x : Nat => PyData.int ((t1.length + x : Nat) : Int)) fun x hx => ?_)
          refine ⟨[.fz (Wb n1 t1), .fz (Wb n2 t2), .fz (.int (t1.length : Int)), .ow L, .fz (tupR T), .fz (tupR S), .fz (.int (x : Int))], .fz (.int ((t1.length + x : Nat) : Int)), rfl, bwt _ _, ?_, rfl⟩
          rw [show ((t1.length + x : Nat) : Int) = (x : Int) + (t1.length : Int) by omega]
          generalize (x : Int) = z1
          generalize (t1.length : Int) = z2
          generalize tupR T = U1
          generalize tupR S = U2
          simp [VL.run, Ent.code, evB, evS, ev, evs, evI, start', Rs.bind, Rs.then, Rs.of, onOpt, slotR, R.d, PR.r, retR, toSlot, lentR, lent, R.isBw, keepAll, keepR, allOpt, bwOf, frzIt, frzAll, frz1, L2.atI, L2.ixN, itemsOf, c_le, c_lt, c_ge, c_gt, c_eq, c_ne, c_is, c_isnot, isNone, partI, p_min12, p_max12, p_tuplel, p_tuplet, p_listl, p_listt, p_sum, p_any, p_all, p_abs, p_inti, p_intb, o_add, o_sub, o_mul, o_fdiv, c28_0]
        have ht := p_tupleR (S.map (t1.length + ·))
        have hc : binD .Add (tupR T) (tupR (S.map (t1.length + ·))) = some (.v (tupR (T ++ S.map (t1.length + ·)))) := by
          unfold tupR
          rw [o_catt _ _ (by rw [rI_len, rI_len, List.length_map, LIM_eq]; omega), rI_app]
        have en : ((acc ++ ((trees n2 t2).take (i + 1)).map fun S => T ++ S.map (t1.length + ·)).map tupR) = ((acc ++ ((trees n2 t2).take i).map fun S => T ++ S.map (t1.length + ·)).map tupR) ++ [tupR (T ++ S.map (t1.length + ·))] := by
          simp [List.take_add_one, hS]
        have hlim : ((acc ++ ((trees n2 t2).take i).map fun S => T ++ S.map (t1.length + ·)).map tupR).length < LIM := by
          rw [List.length_map, List.length_append, List.length_map, List.length_take, LIM_eq]; omega
        refine ⟨_, [.fz (Wb n1 t1), .fz (Wb n2 t2), .fz (.int (t1.length : Int)), .ow ((acc ++ ((trees n2 t2).take (i + 1)).map fun S => T ++ S.map (t1.length + ·)).map tupR), .fz (tupR T), .fz (tupR S), .un], rfl, ?_, by simp [killS]⟩
        rw [en]
        clear en
        have hq := hq (((acc ++ ((trees n2 t2).take i).map fun S => T ++ S.map (t1.length + ·)).map tupR))
        show evB ⟨fnF cd gl (k + 3), gl⟩ b28_0 [.fz (Wb n1 t1), .fz (Wb n2 t2), .fz (.int (t1.length : Int)), .ow ((acc ++ ((trees n2 t2).take i).map fun S => T ++ S.map (t1.length + ·)).map tupR), .fz (tupR T), .fz (tupR S), .un] = _
        generalize (acc ++ ((trees n2 t2).take i).map fun S => T ++ S.map (t1.length + ·)).map tupR = U0 at *
        generalize tupR (T ++ S.map (t1.length + ·)) = U1 at *
        generalize tupR (S.map (t1.length + ·)) = U2 at *
        generalize rI (S.map (t1.length + ·)) = U3 at *
        generalize tupR T = U4 at *
        generalize tupR S = U5 at *
        generalize Wb n1 t1 = W1 at *
        generalize Wb n2 t2 = W2 at *
        generalize (t1.length : Int) = x1 at *
        simp [VL.run, Ent.code, evB, evS, ev, evs, evI, start', Rs.bind, Rs.then, Rs.of, onOpt, slotR, R.d, PR.r, retR, toSlot, lentR, lent, R.isBw, keepAll, keepR, allOpt, bwOf, frzIt, frzAll, frz1, L2.atI, L2.ixN, itemsOf, c_le, c_lt, c_ge, c_gt, c_eq, c_ne, c_is, c_isnot, isNone, partI, p_min12, p_max12, p_tuplel, p_tuplet, p_listl, p_listt, p_sum, p_any, p_all, p_abs, p_inti, p_intb, o_add, o_sub, o_mul, o_fdiv, b28_0, hq, ht, hc, mutR, mutL, hlim])
    rw [Nat.zero_add, List.length_map, List.take_length] at this
    exact this
  have hloop := for_eq (tk := takes [4] true) (B := evB ⟨fnF cd gl (k + 3), gl⟩ b28_1) (kl := killS [4, 5]) (l := (trees n1 t1).map tupR) (env := [.fz (Wb n1 t1), .fz (Wb n2 t2), .fz (.int (t1.length : Int)), .ow [], .un, .un, .un])
    (fun j => [.fz (Wb n1 t1), .fz (Wb n2 t2), .fz (.int (t1.length : Int)), .ow ((((trees n1 t1).take j).flatMap fun T => (trees n2 t2).map fun S => T ++ S.map (t1.length + ·)).map tupR), .un, .un, .un]) 0 (by simp [killS]) (fun i d hd => by
      simp only [Nat.zero_add]
      rw [List.getElem?_map] at hd
      obtain ⟨T, hT, rfl⟩ := Option.map_eq_some_iff.mp hd
      have hm := List.mem_of_getElem? hT
      have hTl : T.length ≤ 8 := by
        have := (trees_mem.mp hm).1.length_le
        rw [List.length_range] at this
        omega
      have hb : bwOf i28_1 = [] := rfl
      have hit : ∀ (A : VL.Slot) (E : SEnv), evI ⟨fnF cd gl (k + 3), gl⟩ i28_1 (A :: .fz (Wb n2 t2) :: E) = .ok ((trees n2 t2).map tupR) := fun A E => by
        generalize (trees n2 t2).map tupR = U at *
        generalize Wb n2 t2 = W1 at *
        simp [VL.run, Ent.code, evB, evS, ev, evs, evI, start', Rs.bind, Rs.then, Rs.of, onOpt, slotR, R.d, PR.r, retR, toSlot, lentR, lent, R.isBw, keepAll, keepR, allOpt, bwOf, frzIt, frzAll, frz1, L2.atI, L2.ixN, itemsOf, c_le, c_lt, c_ge, c_gt, c_eq, c_ne, c_is, c_isnot, isNone, partI, p_min12, p_max12, p_tuplel, p_tuplet, p_listl, p_listt, p_sum, p_any, p_all, p_abs, p_inti, p_intb, o_add, o_sub, o_mul, o_fdiv, i28_1, c2, walkD]
      have hin := in1 T (((trees n1 t1).take i).flatMap fun T => (trees n2 t2).map fun S => T ++ S.map (t1.length + ·)) .un (by
        have := flat_len (fun T => (trees n2 t2).map fun S => T ++ S.map (t1.length + ·)) 16 ((trees n1 t1).take i) fun x _ => by rw [List.length_map]; exact s2
        rw [List.length_take] at this
        have := Nat.mul_le_mul_right 16 (Nat.min_le_right i (trees n1 t1).length)
        omega) (by omega)
      rw [← flat_take (fun T => (trees n2 t2).map fun S => T ++ S.map (t1.length + ·)) (trees n1 t1) i T hT] at hin
      refine ⟨[.fz (Wb n1 t1), .fz (Wb n2 t2), .fz (.int (t1.length : Int)), .ow ((((trees n1 t1).take i).flatMap fun T => (trees n2 t2).map fun S => T ++ S.map (t1.length + ·)).map tupR), .fz (tupR T), .un, .un], [.fz (Wb n1 t1), .fz (Wb n2 t2), .fz (.int (t1.length : Int)), .ow ((((trees n1 t1).take (i + 1)).flatMap fun T => (trees n2 t2).map fun S => T ++ S.map (t1.length + ·)).map tupR), .fz (tupR T), .un, .un], rfl, ?_, by simp [killS]⟩
      generalize (((trees n1 t1).take (i + 1)).flatMap fun T => (trees n2 t2).map fun S => T ++ S.map (t1.length + ·)).map tupR = U0 at *
      generalize (((trees n1 t1).take i).flatMap fun T => (trees n2 t2).map fun S => T ++ S.map (t1.length + ·)).map tupR = U1 at *
      generalize (trees n2 t2).map tupR = U2 at *
      generalize tupR T = U4 at *
      generalize Wb n1 t1 = W1 at *
      generalize Wb n2 t2 = W2 at *
      generalize (t1.length : Int) = x1 at *
      simp [VL.run, Ent.code, evB, evS, ev, evs, evI, start', Rs.bind, Rs.then, Rs.of, onOpt, slotR, R.d, PR.r, retR, toSlot, lentR, lent, R.isBw, keepAll, keepR, allOpt, bwOf, frzIt, frzAll, frz1, L2.atI, L2.ixN, itemsOf, c_le, c_lt, c_ge, c_gt, c_eq, c_ne, c_is, c_isnot, isNone, partI, p_min12, p_max12, p_tuplel, p_tuplet, p_listl, p_listt, p_sum, p_any, p_all, p_abs, p_inti, p_intb, o_add, o_sub, o_mul, o_fdiv, b28_1, hb, hit, hin])
  rw [Nat.zero_add, List.length_map, List.take_length] at hloop
  have eb : (trees n1 t1).flatMap (fun T => (trees n2 t2).map fun S => T ++ S.map (t1.length + ·)) = bothT t1.length (trees n1 t1) (trees n2 t2) := rfl
  rw [eb] at hloop
  have hso := p_sortedR (one_size (m := t1.length) (bothT_nd n1 n2 t1 t2) (fun r hr => bothT_len hr) (bothT_ne n1 n2 t1 t2))
  have hlen := p_lent (t1.map prT)
  rw [List.length_map] at hlen
  have i1 : idxD (Wb n1 t1) (.int 1) = some (.tuple (t1.map prT)) := rfl
  rw [fn_eq (c := e28.code) rfl]
  have hb : bwOf i28_0 = [] := rfl
  have hit : ∀ (E : SEnv), evI ⟨fnF cd gl (k + 3), gl⟩ i28_0 (.fz (Wb n1 t1) :: E) = .ok ((trees n1 t1).map tupR) := fun E => by
    generalize (trees n1 t1).map tupR = U at *
    generalize Wb n1 t1 = W1 at *
    simp [VL.run, Ent.code, evB, evS, ev, evs, evI, start', Rs.bind, Rs.then, Rs.of, onOpt, slotR, R.d, PR.r, retR, toSlot, lentR, lent, R.isBw, keepAll, keepR, allOpt, bwOf, frzIt, frzAll, frz1, L2.atI, L2.ixN, itemsOf, c_le, c_lt, c_ge, c_gt, c_eq, c_ne, c_is, c_isnot, isNone, partI, p_min12, p_max12, p_tuplel, p_tuplet, p_listl, p_listt, p_sum, p_any, p_all, p_abs, p_inti, p_intb, o_add, o_sub, o_mul, o_fdiv, i28_0, c1, walkD]
  generalize (bothT t1.length (trees n1 t1) (trees n2 t2)).map tupR = U1 at *
  generalize (sortL lexN (bothT t1.length (trees n1 t1) (trees n2 t2))).map tupR = U2 at *
  generalize (trees n1 t1).map tupR = U3 at *
  generalize t1.map prT = U4 at *
  generalize Wb n1 t1 = W1 at *
  generalize Wb n2 t2 = W2 at *
  generalize (t1.length : Int) = x1 at *
  simp [VL.run, Ent.code, evB, evS, ev, evs, evI, start', Rs.bind, Rs.then, Rs.of, onOpt, slotR, R.d, PR.r, retR, toSlot, lentR, lent, R.isBw, keepAll, keepR, allOpt, bwOf, frzIt, frzAll, frz1, L2.atI, L2.ixN, itemsOf, c_le, c_lt, c_ge, c_gt, c_eq, c_ne, c_is, c_isnot, isNone, partI, p_min12, p_max12, p_tuplel, p_tuplet, p_listl, p_listt, p_sum, p_any, p_all, p_abs, p_inti, p_intb, o_add, o_sub, o_mul, o_fdiv, e28, b28, i1, hlen, hb, hit, hloop, hso]

theorem f29 (k : Nat) (n n1 n2 p0 q0 : Nat) (R0 : List Nat) (t1 t2 : List (Int × Int)) (G : Glue n n1 n2 R0 p0 q0) (w1 : Web n1 t1) (w2 : Web n2 t2) (w : Web n (t1 ++ t2.map (renT R0))) (cs : List Int) :
    fnF cd gl (k + 3) 29 [Wb n (t1 ++ t2.map (renT R0)), Wb n1 t1, Wb n2 t2, .list (cs.map .int)] = .ok (.v (.bool true)) := by
  have hl8 := w.len
  have hlen := p_lent ((t1 ++ t2.map (renT R0)).map prT)
  rw [List.length_map] at hlen
  have i1 : idxD (Wb n (t1 ++ t2.map (renT R0))) (.int 1) = some (.tuple ((t1 ++ t2.map (renT R0)).map prT)) := rfl
  have hlen1 := p_lent (t1.map prT)
  rw [List.length_map] at hlen1
  have j1 : idxD (Wb n1 t1) (.int 1) = some (.tuple (t1.map prT)) := rfl
  have hbl := len_both G w1 w2
  have h1 := for_eq (tk := takes [5] true) (B := evB ⟨fnF cd gl (k + 2), gl⟩ b29_0) (kl := killS [5, 6, 7, 8]) (l := cs.map .int) (env := [.fz (Wb n (t1 ++ t2.map (renT R0))), .fz (Wb n1 t1), .fz (Wb n2 t2), .fz (.list (cs.map .int)), .fz (.int ((t1 ++ t2.map (renT R0)).length : Int)), .un, .un, .un, .un])
    (fun _ => [.fz (Wb n (t1 ++ t2.map (renT R0))), .fz (Wb n1 t1), .fz (Wb n2 t2), .fz (.list (cs.map .int)), .fz (.int ((t1 ++ t2.map (renT R0)).length : Int)), .un, .un, .un, .un]) 0 (by simp [killS]) (fun i d hd => by
      rw [List.getElem?_map] at hd
      obtain ⟨c, hc, rfl⟩ := Option.map_eq_some_iff.mp hd
      have hsh := o_shl (t1 ++ t2.map (renT R0)).length (by omega)
      have hpos : 0 < 2 ^ (t1 ++ t2.map (renT R0)).length := Nat.pow_pos (by decide)
      have hmod := o_mod c ((2 ^ (t1 ++ t2.map (renT R0)).length : Nat) : Int) (by omega)
      obtain ⟨a, ea⟩ := Int.eq_ofNat_of_zero_le (Int.emod_nonneg c (show ((2 ^ (t1 ++ t2.map (renT R0)).length : Nat) : Int) ≠ 0 by omega))
      rw [ea] at hmod
      have h26 := f26 (k + 1) a (t1 ++ t2.map (renT R0)).length hl8
      have hsub := bits_sub a (t1 ++ t2.map (renT R0)).length
      generalize bits a (t1 ++ t2.map (renT R0)).length = P at *
      have hP := hsub
      rw [hbl] at hP
      obtain ⟨p, q, rfl, hp, hq⟩ := sub_both hP
      obtain ⟨e1, e2⟩ := both_split (q := q) hp
      have hPl : (p ++ q.map (t1.length + ·)).length ≤ 100 := by
        have := hsub.length_le
        rw [List.length_range] at this
        omega
      have h27 := f27 (k + 1) (p ++ q.map (t1.length + ·)) hPl t1.length
      rw [e1, e2] at h27
      have r0 := f6 k n _ w (p ++ q.map (t1.length + ·)) (sub_in hsub) _ (.inr rfl)
      have r1 := f6 k n1 _ w1 p (sub_in hp) _ (.inr rfl)
      have r2 := f6 k n2 _ w2 q (sub_in hq) _ (.inr rfl)
      rw [glue_rk G w1 w2 (sub_in hp) (sub_in hq), Int.natCast_add] at r0
      have u0 : PyData.tuple (rI (p ++ q.map (t1.length + ·))) = tupR (p ++ q.map (t1.length + ·)) := rfl
      have u1 : PyData.tuple (rI p) = tupR p := rfl
      have u2 : PyData.tuple (rI q) = tupR q := rfl
      rw [u0] at r0; rw [u1] at r1; rw [u2] at r2
      refine ⟨[.fz (Wb n (t1 ++ t2.map (renT R0))), .fz (Wb n1 t1), .fz (Wb n2 t2), .fz (.list (cs.map .int)), .fz (.int ((t1 ++ t2.map (renT R0)).length : Int)), .fz (.int c), .un, .un, .un], [.fz (Wb n (t1 ++ t2.map (renT R0))), .fz (Wb n1 t1), .fz (Wb n2 t2), .fz (.list (cs.map .int)), .fz (.int ((t1 ++ t2.map (renT R0)).length : Int)), .fz (.int c), .fz (tupR (p ++ q.map (t1.length + ·))), .fz (tupR p), .fz (tupR q)], rfl, ?_, by simp [killS]⟩
      clear hd ea hc hbl hlen i1 u0 u1 u2 e1 e2 hP hsub hPl
      generalize ((2 ^ (t1 ++ t2.map (renT R0)).length : Nat) : Int) = y2 at *
      generalize tupR (p ++ q.map (t1.length + ·)) = U0 at *
      generalize tupR p = U1 at *
      generalize tupR q = U2 at *
      generalize cs.map PyData.int = U3 at *
      generalize ((t1 ++ t2.map (renT R0)).length : Int) = y1 at *
      generalize t1.map prT = U4 at *
      generalize Wb n (t1 ++ t2.map (renT R0)) = W0 at *
      generalize Wb n1 t1 = W1 at *
      generalize Wb n2 t2 = W2 at *
      generalize (t1.length : Int) = x1 at *
      generalize (a : Int) = x2 at *
      generalize (rk n1 t1 p : Int) = x3 at *
      generalize (rk n2 t2 q : Int) = x4 at *
      simp [VL.run, Ent.code, evB, evS, ev, evs, evI, start', Rs.bind, Rs.then, Rs.of, onOpt, slotR, R.d, PR.r, retR, toSlot, lentR, lent, R.isBw, keepAll, keepR, allOpt, bwOf, frzIt, frzAll, frz1, L2.atI, L2.ixN, itemsOf, c_le, c_lt, c_ge, c_gt, c_eq, c_ne, c_is, c_isnot, isNone, partI, p_min12, p_max12, p_tuplel, p_tuplet, p_listl, p_listt, p_sum, p_any, p_all, p_abs, p_inti, p_intb, o_add, o_sub, o_mul, o_fdiv, b29_0, hsh, hmod, h26, h27, r0, r1, r2, j1, hlen1, setAll])
  rw [fn_eq (c := e29.code) rfl]
  generalize cs.map PyData.int = U3 at *
  generalize ((t1 ++ t2.map (renT R0)).length : Int) = y1 at *
  generalize (t1 ++ t2.map (renT R0)).map prT = U4 at *
  generalize Wb n (t1 ++ t2.map (renT R0)) = W0 at *
  generalize Wb n1 t1 = W1 at *
  generalize Wb n2 t2 = W2 at *
  simp [VL.run, Ent.code, evB, evS, ev, evs, evI, start', Rs.bind, Rs.then, Rs.of, onOpt, slotR, R.d, PR.r, retR, toSlot, lentR, lent, R.isBw, keepAll, keepR, allOpt, bwOf, frzIt, frzAll, frz1, L2.atI, L2.ixN, itemsOf, c_le, c_lt, c_ge, c_gt, c_eq, c_ne, c_is, c_isnot, isNone, partI, p_min12, p_max12, p_tuplel, p_tuplet, p_listl, p_listt, p_sum, p_any, p_all, p_abs, p_inti, p_intb, o_add, o_sub, o_mul, o_fdiv, e29, b29, i1, hlen, walkD, h1]
theorem f30 (k : Nat) (n : Nat) (ts : List (Int × Int)) (w : Web n ts) (r : List Nat) (h : Pm ts.length r) : fnF cd gl (k + 4) 30 [Wb n ts, .list (rI r)] = .ok (.l ((sortL lexN ((trees n ts).map (renP r))).map tupR)) := by
  have hl := h.len
  have hl8 := w.len
  have c22 := f22 k n ts w
  obtain ⟨E, h1, s, e3, h2, h3, rfl⟩ := for_inv (tk := takes [3, 4] false) (B := evB ⟨fnF cd gl (k + 3), gl⟩ b30_0) (kl := killS [4]) (fun j E => ∃ (s : List Nat) (e3 : VL.Slot), s.length = ts.length ∧ (∀ i x, i < j → r[i]? = some x → s[x]? = some i) ∧ E = [.fz (Wb n ts), .fz (.list (rI r)), .ow (rI s), e3, .un, .un]) (l := enumL 0 (rI r))
    (env := [.fz (Wb n ts), .fz (.list (rI r)), .ow (rI (List.replicate ts.length 0)), .un, .un, .un]) 0 ⟨List.replicate ts.length 0, .un, by simp, fun i x hi => absurd hi (Nat.not_lt_zero i), by simp [killS]⟩ (fun i d E hd hp => by
      obtain ⟨s, e3, q1, q2, rfl⟩ := hp
      rw [enumL_at, rI_at] at hd
      obtain ⟨d', hd', rfl⟩ := Option.map_eq_some_iff.mp hd
      obtain ⟨x, hx, rfl⟩ := Option.map_eq_some_iff.mp hd'
      obtain ⟨hi, hxi⟩ := List.getElem?_eq_some_iff.mp hx
      rw [Nat.zero_add] at q2 ⊢
      have hxn : x < ts.length := by rw [← hxi]; exact h.lt (List.getElem_mem hi)
      refine ⟨[.fz (Wb n ts), .fz (.list (rI r)), .ow (rI s), .fz (.int (i : Int)), .fz (.int (x : Int)), .un], [.fz (Wb n ts), .fz (.list (rI r)), .ow (rI (s.set x i)), .fz (.int (i : Int)), .fz (.int (x : Int)), .un], rfl, ?_, s.set x i, .fz (.int (i : Int)), by rw [List.length_set, q1], fun j y hj hy => ?_, by simp [killS]⟩
      · have hix : L2.ixN (rI s).length (x : Int) = some x := by
          unfold L2.ixN
          rw [rI_len, q1, if_pos (by omega), if_pos (by omega)]
          simp
        have hset : (rI s).set x (.int (i : Int)) = rI (s.set x i) := by unfold rI; rw [List.map_set]
        generalize rI (s.set x i) = U2 at *
        generalize rI s = U at *
        generalize rI r = U3 at *
        generalize Wb n ts = W1 at *
        simp [VL.run, Ent.code, evB, evS, ev, evs, evI, start', Rs.bind, Rs.then, Rs.of, onOpt, slotR, R.d, PR.r, retR, toSlot, lentR, lent, R.isBw, keepAll, keepR, allOpt, bwOf, frzIt, frzAll, frz1, isiD, itemsOf, c_le, c_lt, c_ge, c_gt, c_eq, c_ne, c_is, c_isnot, isNone, partI, p_lenl, p_lent, p_min2, p_max2, p_min12, p_max12, p_tuplel, p_tuplet, p_listl, p_listt, p_sum, p_any, p_all, p_abs, p_inti, p_intb, o_add, o_sub, o_mul, o_fdiv, o_mod, i_l, i_t, b30_0, hix, hset]
      · by_cases hxy : x = y
        · subst hxy
          obtain ⟨hj', hy'⟩ := List.getElem?_eq_some_iff.mp hy
          have : j = i := (List.getElem_inj h.nd).mp (by rw [hy', hxi])
          subst this
          rw [List.getElem?_set_self (by rw [q1]; exact hxn)]
        · rw [List.getElem?_set_ne hxy]
          have hji : j ≠ i := fun z => by subst z; rw [hx] at hy; exact hxy (Option.some.inj hy)
          exact q2 j y (by omega) hy)
  have es : s = back r := by
    refine List.ext_getElem? fun x => ?_
    by_cases hx : x < ts.length
    · have hm := h.has hx
      have hlt := List.idxOf_lt_length_of_mem hm
      have hg := List.getElem_idxOf hlt
      rw [h3 (r.idxOf x) x (by rw [enumL_len, rI_len, Nat.zero_add]; exact hlt) (by rw [List.getElem?_eq_getElem hlt, hg])]
      unfold back
      rw [List.getElem?_map, List.getElem?_range (by rw [hl]; exact hx)]
      rfl
    · rw [List.getElem?_eq_none (by omega), List.getElem?_eq_none (by rw [back_len]; omega)]
  subst es
  have hplace : ∀ x, x < ts.length → idxD (.list (rI (back r))) (.int (x : Int)) = some (.int ((r.idxOf x : Nat) : Int)) := fun x hx => by
    rw [i_l, at_nat, rI_at]
    unfold back
    rw [List.getElem?_map, List.getElem?_range (by rw [hl]; exact hx)]; rfl
  have hq0 : ∀ (e3 : VL.Slot) (T : List Nat), T ∈ trees n ts → ev ⟨fnF cd gl (k + 3), gl⟩ q30_0 [.fz (Wb n ts), .fz (.list (rI r)), .ow (rI (back r)), e3, .un, .fz (tupR T)] = .ok (.nw (rI (T.map fun k => r.idxOf k))) := fun e3 T hT => by
    have hTs := (trees_mem.mp hT).1
    have hTl : T.length ≤ 8 := by
      have := hTs.length_le
      rw [List.length_range] at this
      omega
    unfold q30_0
    have e : rI (T.map fun k => r.idxOf k) = T.map fun x : Nat => PyData.int ((r.idxOf x : Nat) : Int) := by unfold rI; rw [List.map_map]; rfl
    rw [e]
    refine ev_lcm (ds := rI T) (by unfold tupR; generalize rI T = U; generalize rI r = U2; generalize rI (back r) = U3; simp [VL.run, Ent.code, evB, evS, ev, evs, evI, start', Rs.bind, Rs.then, Rs.of, onOpt, slotR, R.d, PR.r, retR, toSlot, lentR, lent, R.isBw, keepAll, keepR, allOpt, bwOf, frzIt, frzAll, frz1, L2.atI, L2.ixN, itemsOf, c_le, c_lt, c_ge, c_gt, c_eq, c_ne, c_is, c_isnot, isNone, partI, p_min12, p_max12, p_tuplel, p_tuplet, p_listl, p_listt, p_sum, p_any, p_all, p_abs, p_inti, p_intb, o_add, o_sub, o_mul, o_fdiv, walkD]) (by rw [rI_len, LIM_eq]; omega) (lc_of (fun i : Nat => PyData.int (i : Int)) (fun x : Nat => PyData.int ((r.idxOf x : Nat) : Int)) fun x hx => ?_)
    refine ⟨[.fz (Wb n ts), .fz (.list (rI r)), .ow (rI (back r)), .fz (.int (x : Int)), .un, .fz (tupR T)], .fz (.int ((r.idxOf x : Nat) : Int)), rfl, bwt _ _, ?_, rfl⟩
    have hp := hplace x (sub_lt hTs hx)
    generalize rI (back r) = U1 at *
    generalize rI r = U2 at *
    generalize tupR T = U3 at *
    generalize Wb n ts = W1 at *
    simp [VL.run, Ent.code, evB, evS, ev, evs, evI, start', Rs.bind, Rs.then, Rs.of, onOpt, slotR, R.d, PR.r, retR, toSlot, lentR, lent, R.isBw, keepAll, keepR, allOpt, bwOf, frzIt, frzAll, frz1, L2.atI, L2.ixN, itemsOf, c_le, c_lt, c_ge, c_gt, c_eq, c_ne, c_is, c_isnot, isNone, partI, p_min12, p_max12, p_tuplel, p_tuplet, p_listl, p_listt, p_sum, p_any, p_all, p_abs, p_inti, p_intb, o_add, o_sub, o_mul, o_fdiv, c30_0, hp]
  have hq1 : ∀ (e3 : VL.Slot), ev ⟨fnF cd gl (k + 3), gl⟩ q30_1 [.fz (Wb n ts), .fz (.list (rI r)), .ow (rI (back r)), e3, .un, .un] = .ok (.nw (((trees n ts).map (renP r)).map tupR)) := fun e3 => by
    unfold q30_1
    have e : ((trees n ts).map (renP r)).map tupR = (trees n ts).map fun T => tupR (renP r T) := by rw [List.map_map]; rfl
    rw [e]
    refine ev_lcm (ds := (trees n ts).map tupR) ?_ ?_ (lc_of tupR (fun T => tupR (renP r T)) fun T hT => ?_)
    · generalize (trees n ts).map tupR = U at *
      generalize Wb n ts = W1 at *
      simp [VL.run, Ent.code, evB, evS, ev, evs, evI, start', Rs.bind, Rs.then, Rs.of, onOpt, slotR, R.d, PR.r, retR, toSlot, lentR, lent, R.isBw, keepAll, keepR, allOpt, bwOf, frzIt, frzAll, frz1, L2.atI, L2.ixN, itemsOf, c_le, c_lt, c_ge, c_gt, c_eq, c_ne, c_is, c_isnot, isNone, partI, p_min12, p_max12, p_tuplel, p_tuplet, p_listl, p_listt, p_sum, p_any, p_all, p_abs, p_inti, p_intb, o_add, o_sub, o_mul, o_fdiv, c22, walkD]
    · have h1 : (trees n ts).length ≤ (picks ts.length).length := by
        unfold trees
        rw [(sortL_perm lexN _).length_eq]
        exact List.length_filter_le _ _
      rw [picks_len] at h1
      have := Nat.pow_le_pow_right (n := 2) (by omega) hl8
      rw [List.length_map, LIM_eq]
      omega
    · refine ⟨[.fz (Wb n ts), .fz (.list (rI r)), .ow (rI (back r)), e3, .un, .fz (tupR T)], .fz (tupR (renP r T)), rfl, bwt _ _, ?_, rfl⟩
      have h0 := hq0 e3 T hT
      have hso := p_sortedN (T.map fun k => r.idxOf k)
      have ht := p_tupleR (sortL ltN (T.map fun k => r.idxOf k))
      have er : sortL ltN (T.map fun k => r.idxOf k) = renP r T := rfl
      rw [er] at hso ht
      generalize rI (T.map fun k => r.idxOf k) = U1 at *
      generalize rI (renP r T) = U2 at *
      generalize tupR (renP r T) = U3 at *
      simp [VL.run, Ent.code, evB, evS, ev, evs, evI, start', Rs.bind, Rs.then, Rs.of, onOpt, slotR, R.d, PR.r, retR, toSlot, lentR, lent, R.isBw, keepAll, keepR, allOpt, bwOf, frzIt, frzAll, frz1, L2.atI, L2.ixN, itemsOf, c_le, c_lt, c_ge, c_gt, c_eq, c_ne, c_is, c_isnot, isNone, partI, p_min12, p_max12, p_tuplel, p_tuplet, p_listl, p_listt, p_sum, p_any, p_all, p_abs, p_inti, p_intb, o_add, o_sub, o_mul, o_fdiv, c30_1, h0, hso, ht]
  have hso := p_sortedR (one_size (m := ts.length) (w := whole n ts) (renP_nd n h) (fun P hP => by
    obtain ⟨T, hT, rfl⟩ := List.mem_map.mp hP
    rw [renP_len]
    exact (trees_mem.mp hT).2.1) (fun z => trees_some n ts (List.map_eq_nil_iff.mp z)))
  rw [fn_eq (c := e30.code) rfl]
  have hb : bwOf i30_0 = [1] := rfl
  have hit : ∀ (A B C D2 E2 : VL.Slot), evI ⟨fnF cd gl (k + 3), gl⟩ i30_0 [A, .fz (.list (rI r)), B, C, D2, E2] = .ok (enumL 0 (rI r)) := fun A B C D2 E2 => by
    generalize rI r = U
    simp [VL.run, Ent.code, evB, evS, ev, evs, evI, start', Rs.bind, Rs.then, Rs.of, onOpt, slotR, R.d, PR.r, retR, toSlot, lentR, lent, R.isBw, keepAll, keepR, allOpt, bwOf, frzIt, frzAll, frz1, isiD, L2.atI, L2.ixN, itemsOf, c_le, c_lt, c_ge, c_gt, c_eq, c_ne, c_is, c_isnot, isNone, partI, p_lenl, p_lent, p_min2, p_max2, p_min12, p_max12, p_tuplel, p_tuplet, p_listl, p_listt, p_sum, p_any, p_all, p_abs, p_inti, p_intb, o_add, o_sub, o_mul, o_fdiv, o_mod, i_l, i_t, i30_0]
  have hlen : priD .len [.list (rI r)] = some (.v (.int (ts.length : Int))) := by rw [p_lenl, rI_len, hl]
  have hrep : binD .Mult (.list [.int 0]) (.int (ts.length : Int)) = some (.l (rI (List.replicate ts.length 0))) := by
    rw [o_rep _ _ ⟨by omega, by omega, by rw [LIM_eq]; simp; omega⟩, Int.toNat_natCast]
    have : ∀ n : Nat, (List.replicate n [PyData.int 0]).flatten = rI (List.replicate n 0) := by
      intro n
      unfold rI
      induction n with
      | zero => rfl
      | succ n ih => rw [List.replicate_succ, List.flatten_cons, ih, List.replicate_succ, List.map_cons]; rfl
    rw [this]
  have hq1 := hq1 e3
  generalize ((trees n ts).map (renP r)).map tupR = U6 at *
  generalize (sortL lexN ((trees n ts).map (renP r))).map tupR = U7 at *
  generalize enumL 0 (rI r) = U5 at *
  generalize rI (List.replicate ts.length 0) = U2 at *
  generalize rI (back r) = U3 at *
  generalize rI r = U at *
  generalize (ts.length : Int) = x1 at *
  generalize Wb n ts = W1 at *
  simp [VL.run, Ent.code, evB, evS, ev, evs, evI, start', Rs.bind, Rs.then, Rs.of, onOpt, slotR, R.d, PR.r, retR, toSlot, lentR, lent, R.isBw, keepAll, keepR, allOpt, bwOf, frzIt, frzAll, frz1, isiD, L2.atI, L2.ixN, itemsOf, c_le, c_lt, c_ge, c_gt, c_eq, c_ne, c_is, c_isnot, isNone, partI, p_lent, p_min2, p_max2, p_min12, p_max12, p_tuplel, p_tuplet, p_listl, p_listt, p_sum, p_any, p_all, p_abs, p_inti, p_intb, o_add, o_sub, o_mul, o_fdiv, o_mod, i_l, i_t, e30, b30, hb, hit, hlen, hrep, h1, hq1, hso]

theorem cut_ns (ns : List Int) (a b : Nat) : slcD (.list (ns.map PyData.int)) (some (a : Int)) (some (b : Int)) = some (.l (((ns.drop a).take (b - a)).map PyData.int)) := by
  rw [s_l, cutL_nat]
  simp [List.map_drop, List.map_take]
theorem step (k : Nat) (ns : List Int) (B C X7 : VL.Slot) (n n1 n2 p0 q0 : Nat) (R0 : List Nat) (t1 t2 : List (Int × Int)) (G : Glue n n1 n2 R0 p0 q0) (w1 : Web n1 t1) (w2 : Web n2 t2) (w : Web n (t1 ++ t2.map (renT R0))) :
    ∃ e9 e10 e11, evB ⟨fnF cd gl (k + 5), gl⟩ b31_0 [.fz (.list (ns.map .int)), B, C, .fz (Wb n1 t1), .fz (Wb n2 t2), .fz (.tuple ((mulP (byP n1 t1) (byP n2 t2)).map trT)), .ow ((sortL lexN (bothT t1.length (trees n1 t1) (trees n2 t2))).map tupR), X7, .fz (Wb n (t1 ++ t2.map (renT R0))), .un, .un, .un] =
      .nx [.fz (.list (ns.map .int)), B, C, .fz (Wb n1 t1), .fz (Wb n2 t2), .fz (.tuple ((mulP (byP n1 t1) (byP n2 t2)).map trT)), .ow ((sortL lexN (bothT t1.length (trees n1 t1) (trees n2 t2))).map tupR), X7, .fz (Wb n (t1 ++ t2.map (renT R0))), e9, e10, e11] := by
  have hP := byP_both G w1 w2
  have hT := trees_both G w1 w2
  have g21 := f21 (k + 1) n _ w
  have g22 := f22 (k + 2) n _ w
  have c1 := cut_ns ns 9 15
  have c2 := cut_ns ns 15 23
  have c3 := cut_ns ns 23 32
  rw [show ((9 : Nat) : Int) = 9 from rfl, show ((15 : Nat) : Int) = 15 from rfl] at c1
  rw [show ((15 : Nat) : Int) = 15 from rfl, show ((23 : Nat) : Int) = 23 from rfl] at c2
  rw [show ((23 : Nat) : Int) = 23 from rfl, show ((32 : Nat) : Int) = 32 from rfl] at c3
  have g29 := f29 (k + 2) n n1 n2 p0 q0 R0 t1 t2 G w1 w2 w ((ns.drop 9).take (15 - 9))
  have hl8 := w.len
  obtain ⟨r, hr, g25⟩ := f25 (k + 3) ((ns.drop 15).take (23 - 15)) (t1 ++ t2.map (renT R0)).length (by omega)
  obtain ⟨r2, hr2, g25b⟩ := f25 (k + 3) ((ns.drop 23).take (32 - 23)) n (by have := w.n9; omega)
  have g16 := f16 (k + 2) n _ hl8 r hr (.list (rI r)) (.inl rfl)
  have w3 := web_reo w hr
  have h21 := f21 (k + 1) n _ w3
  have h22 := f22 (k + 2) n _ w3
  rw [byP_reo w hr] at h21
  rw [trees_reo w hr] at h22
  have g30 := f30 (k + 1) n _ w r hr
  have g15 := f15 (k + 1) n _ w r2 hr2 (.list (rI r2)) (.inl rfl)
  have w4 := web_ren w hr2
  have i21 := f21 (k + 1) n _ w4
  have i22 := f22 (k + 2) n _ w4
  rw [byP_ren w hr2] at i21
  rw [trees_ren w hr2] at i22
  rw [hP] at g21 h21 i21
  rw [hT] at g22 i22
  have ne1 := poly_ne (mulP (byP n1 t1) (byP n2 t2))
  have ne2 := ne_tupRs (sortL lexN (bothT t1.length (trees n1 t1) (trees n2 t2)))
  have ne3 := ne_tupRs (sortL lexN ((trees n (t1 ++ t2.map (renT R0))).map (renP r)))
  have i0 : idxD (Wb n (t1 ++ t2.map (renT R0))) (.int 0) = some (.int (n : Int)) := rfl
  have i1 : idxD (Wb n (t1 ++ t2.map (renT R0))) (.int 1) = some (.tuple ((t1 ++ t2.map (renT R0)).map prT)) := rfl
  have hlen := p_lent ((t1 ++ t2.map (renT R0)).map prT)
  rw [List.length_map] at hlen
  have nls := nl_Wb n (reoT r (t1 ++ t2.map (renT R0)))
  refine ⟨.fz (.list (rI r)), .fz (Wb n (reoT r (t1 ++ t2.map (renT R0)))), .fz (Wb n ((t1 ++ t2.map (renT R0)).map (renT r2))), ?_⟩
  clear hP hT
  generalize (mulP (byP n1 t1) (byP n2 t2)).map trT = P1 at *
  generalize (sortL lexN (bothT t1.length (trees n1 t1) (trees n2 t2))).map tupR = P2 at *
  generalize (sortL lexN ((trees n (t1 ++ t2.map (renT R0))).map (renP r))).map tupR = P3 at *
  generalize Wb n (reoT r (t1 ++ t2.map (renT R0))) = W3 at *
  generalize Wb n ((t1 ++ t2.map (renT R0)).map (renT r2)) = W4 at *
  generalize Wb n (t1 ++ t2.map (renT R0)) = W0 at *
  generalize (t1 ++ t2.map (renT R0)).map prT = P4 at *
  generalize ((t1 ++ t2.map (renT R0)).length : Int) = x1 at *
  generalize Wb n1 t1 = W1 at *
  generalize Wb n2 t2 = W2 at *
  generalize ((ns.drop 9).take (15 - 9)).map PyData.int = U1 at *
  generalize ((ns.drop 15).take (23 - 15)).map PyData.int = U2 at *
  generalize ((ns.drop 23).take (32 - 23)).map PyData.int = U3 at *
  generalize ns.map PyData.int = U at *
  generalize rI r = U4 at *
  generalize rI r2 = U5 at *
  simp [VL.run, Ent.code, evB, evS, ev, evs, evI, start', Rs.bind, Rs.then, Rs.of, onOpt, slotR, R.d, PR.r, retR, toSlot, lentR, lent, R.isBw, keepAll, keepR, allOpt, bwOf, frzIt, frzAll, frz1, L2.atI, L2.ixN, itemsOf, c_le, c_lt, c_ge, c_gt, c_eq, c_ne, c_is, c_isnot, isNone, partI, p_min12, p_max12, p_tuplel, p_tuplet, p_listl, p_listt, p_sum, p_any, p_all, p_abs, p_inti, p_intb, o_add, o_sub, o_mul, o_fdiv, b31_0, g21, g22, c1, c2, c3, g29, g25, g25b, g16, h21, h22, g30, g15, i21, i22, ne1, ne2, ne3, i0, i1, hlen]

theorem few (x : Int) : ∃ few : Nat, few ≤ 4 ∧ idxD (.list [.int 2, .int 3, .int 2, .int 3, .int 2, .int 4, .int 2, .int 3]) (.int (x % 8)) = some (.int (few : Int)) := by
  have : x % 8 = 0 ∨ x % 8 = 1 ∨ x % 8 = 2 ∨ x % 8 = 3 ∨ x % 8 = 4 ∨ x % 8 = 5 ∨ x % 8 = 6 ∨ x % 8 = 7 := by omega
  rcases this with h | h | h | h | h | h | h | h <;> rw [h]
  · exact ⟨2, by omega, rfl⟩
  · exact ⟨3, by omega, rfl⟩
  · exact ⟨2, by omega, rfl⟩
  · exact ⟨3, by omega, rfl⟩
  · exact ⟨2, by omega, rfl⟩
  · exact ⟨4, by omega, rfl⟩
  · exact ⟨2, by omega, rfl⟩
  · exact ⟨3, by omega, rfl⟩
theorem plain' (k : Nat) (ns : List Int) : fnF cd gl (k + 6) 31 [.list (ns.map .int)] = .ok (.v (.bool true)) := by
  have ha := f23 (k + 4) ns 0
  rw [show ((0 : Nat) : Int) = 0 from rfl] at ha
  generalize at0 ns 0 = c at ha
  obtain ⟨fw, hfw, hsel⟩ := few (c / 81)
  have m1 := o_fdiv c 81 (by decide) (by decide)
  have m2 := o_mod (c / 81) 8 (by decide)
  have m3 := o_mod c 3 (by decide)
  have m4 := o_fdiv c 3 (by decide) (by decide)
  have m5 := o_mod (c / 3) 3 (by decide)
  obtain ⟨a1, ea1⟩ := Int.eq_ofNat_of_zero_le (Int.emod_nonneg c (show (3 : Int) ≠ 0 by decide))
  have la1 := Int.emod_lt_of_pos c (show (0 : Int) < 3 by decide)
  obtain ⟨a2, ea2⟩ := Int.eq_ofNat_of_zero_le (Int.emod_nonneg (c / 3) (show (3 : Int) ≠ 0 by decide))
  have la2 := Int.emod_lt_of_pos (c / 3) (show (0 : Int) < 3 by decide)
  rw [ea1] at la1
  rw [ea2] at la2
  have k1 := cut_ns ns 1 (1 + fw)
  have k2 := cut_ns ns 5 (5 + fw)
  rw [show ((1 + fw : Nat) : Int) = 1 + (fw : Int) by omega, show ((1 : Nat) : Int) = 1 from rfl] at k1
  rw [show ((5 + fw : Nat) : Int) = 5 + (fw : Int) by omega, show ((5 : Nat) : Int) = 5 from rfl] at k2
  obtain ⟨t1, w1, l1, g1⟩ := f24 (k + 4) ((ns.drop 1).take (1 + fw - 1)) (by simp; omega) (1 + a1) (by omega)
  obtain ⟨t2, w2, l2, g2⟩ := f24 (k + 4) ((ns.drop 5).take (5 + fw - 5)) (by simp; omega) (1 + a2) (by omega)
  generalize hn1 : 1 + a1 = n1 at *
  generalize hn2 : 1 + a2 = n2 at *
  have y1 : 1 + (a1 : Int) = (n1 : Int) := by omega
  have y2 : 1 + (a2 : Int) = (n2 : Int) := by omega
  rw [ea1] at m3
  rw [ea2] at m5
  have b1 := f21 (k + 1) n1 t1 w1
  have b2 := f21 (k + 1) n2 t2 w2
  obtain ⟨o1, q1⟩ := byP_ok w1
  obtain ⟨o2, q2⟩ := byP_ok w2
  have g10 := f10 (k + 3) (byP n1 t1) (byP n2 t2) (fun u hu => (o1 u hu).2.2.mono (by decide)) (fun u hu => (o2 u hu).2.2.mono (by decide)) (by
    have := Nat.mul_le_mul q1 q2
    omega)
  have g28 := f28 (k + 1) n1 n2 t1 t2 w1 w2 l1 l2
  let a : W2 := ⟨n1, t1⟩
  let b : W2 := ⟨n2, t2⟩
  have wa : a.ok := w1
  have wb : b.ok := w2
  have m6 := o_fdiv c 9 (by decide) (by decide)
  have m7 := o_fdiv c 27 (by decide) (by decide)
  have m8 := o_mod (c / 9) (n1 : Int) (by omega)
  have m9 := o_mod (c / 27) (n2 : Int) (by omega)
  obtain ⟨p, ep⟩ := Int.eq_ofNat_of_zero_le (Int.emod_nonneg (c / 9) (show (n1 : Int) ≠ 0 by omega))
  have lp := Int.emod_lt_of_pos (c / 9) (show (0 : Int) < (n1 : Int) by omega)
  obtain ⟨q, eq⟩ := Int.eq_ofNat_of_zero_le (Int.emod_nonneg (c / 27) (show (n2 : Int) ≠ 0 by omega))
  have lq := Int.emod_lt_of_pos (c / 27) (show (0 : Int) < (n2 : Int) by omega)
  rw [ep] at lp m8
  rw [eq] at lq m9
  have hp : p < a.n := by show p < n1; omega
  have hq : q < b.n := by show q < n2; omega
  have f1' : fits (due true a p b q) := ⟨by show n1 + n2 ≤ 9; omega, by rw [due_len]; show t1.length + t2.length ≤ 8; omega⟩
  have f2' : fits (due false a p b q) := ⟨by show n1 + n2 - 1 ≤ 9; omega, by rw [due_len]; show t1.length + t2.length ≤ 8; omega⟩
  have g18 := f18 (k + 3) a b wa wb p q
  have z1 : (due true a p b q).n ≤ 9 ∧ (due true a p b q).ts.length ≤ 8 := f1'
  have z2 : (due false a p b q).n ≤ 9 ∧ (due false a p b q).ts.length ≤ 8 := f2'
  rw [if_pos z1] at g18
  have g19 := f19 (k + 2) a b wa wb p q hp hq
  rw [if_pos z2] at g19
  have W1 : Web (due true a p b q).n (due true a p b q).ts := due_ok wa wb hp hq f1'
  have W2' : Web (due false a p b q).n (due false a p b q).ts := due_ok wa wb hp hq f2'
  have s1 := fun B C X7 => step k ns B C X7 (due true a p b q).n n1 n2 0 0 (places true a p b q) t1 t2 (glue_beside wa wb p q) w1 w2 W1
  have s2 := fun B C X7 => step k ns B C X7 (due false a p b q).n n1 n2 p q (places false a p b q) t1 t2 (glue_at wa wb hp hq) w1 w2 W2'
  have d1 : Wb (due true a p b q).n (t1 ++ t2.map (renT (places true a p b q))) = W2.d (due true a p b q) := rfl
  have d2 : Wb (due false a p b q).n (t1 ++ t2.map (renT (places false a p b q))) = W2.d (due false a p b q) := rfl
  rw [d1] at s1
  rw [d2] at s2
  have da : W2.d a = Wb n1 t1 := rfl
  have db : W2.d b = Wb n2 t2 := rfl
  rw [da, db] at g18 g19
  have i1 : idxD (Wb n1 t1) (.int 0) = some (.int (n1 : Int)) := rfl
  have i2 : idxD (Wb n2 t2) (.int 0) = some (.int (n2 : Int)) := rfl
  have nls := nl_Wb n1 t1
  have hloop : ∀ B C, forLoop (takes [8] true) (evB ⟨fnF cd gl (k + 5), gl⟩ b31_0) (killS [8, 9, 10, 11]) [W2.d (due true a p b q), W2.d (due false a p b q)] [.fz (.list (ns.map .int)), B, C, .fz (Wb n1 t1), .fz (Wb n2 t2), .fz (.tuple ((mulP (byP n1 t1) (byP n2 t2)).map trT)), .ow ((sortL lexN (bothT t1.length (trees n1 t1) (trees n2 t2))).map tupR), .fz (.list [W2.d (due true a p b q), W2.d (due false a p b q)]), .un, .un, .un, .un] =
      .nx [.fz (.list (ns.map .int)), B, C, .fz (Wb n1 t1), .fz (Wb n2 t2), .fz (.tuple ((mulP (byP n1 t1) (byP n2 t2)).map trT)), .ow ((sortL lexN (bothT t1.length (trees n1 t1) (trees n2 t2))).map tupR), .fz (.list [W2.d (due true a p b q), W2.d (due false a p b q)]), .un, .un, .un, .un] := fun B C => by
    obtain ⟨e9, e10, e11, z1⟩ := s1 B C (.fz (.list [W2.d (due true a p b q), W2.d (due false a p b q)]))
    obtain ⟨y9, y10, y11, z2⟩ := s2 B C (.fz (.list [W2.d (due true a p b q), W2.d (due false a p b q)]))
    rw [for_nx rfl z1, for_nx rfl z2, for_nil]
    simp [killS]
  rw [fn_eq (c := e31.code) rfl]
  clear s1 s2 W1 W2' f1' f2' d1 d2 da db z1 z2 hn1 hn2
  have hb1 : bwOf (.var 7) = [7] := rfl
  generalize W2.d (due true a p b q) = V1 at *
  generalize W2.d (due false a p b q) = V2 at *
  generalize (mulP (byP n1 t1) (byP n2 t2)).map trT = P1 at *
  generalize (sortL lexN (bothT t1.length (trees n1 t1) (trees n2 t2))).map tupR = P2 at *
  generalize (byP n1 t1).map trT = P3 at *
  generalize (byP n2 t2).map trT = P4 at *
  generalize Wb n1 t1 = W1 at *
  generalize Wb n2 t2 = W2 at *
  generalize ((ns.drop 1).take (1 + fw - 1)).map PyData.int = U1 at *
  generalize ((ns.drop 5).take (5 + fw - 5)).map PyData.int = U2 at *
  generalize ns.map PyData.int = U at *
  generalize c / 81 = x1 at *
  generalize x1 % 8 = x2 at *
  generalize c / 9 = x3 at *
  generalize c / 27 = x4 at *
  generalize c / 3 = x5 at *
  generalize (n1 : Int) = x6 at *
  generalize (n2 : Int) = x7 at *
  simp [VL.run, Ent.code, evB, evS, ev, evs, evI, start', Rs.bind, Rs.then, Rs.of, onOpt, slotR, R.d, PR.r, retR, toSlot, lentR, lent, R.isBw, keepAll, keepR, allOpt, bwOf, frzIt, frzAll, frz1, L2.atI, L2.ixN, itemsOf, c_le, c_lt, c_ge, c_gt, c_eq, c_ne, c_is, c_isnot, isNone, partI, p_min12, p_max12, p_tuplel, p_tuplet, p_listl, p_listt, p_sum, p_any, p_all, p_abs, p_inti, p_intb, o_add, o_sub, o_mul, o_fdiv, e31, b31, y1, y2, ha, hsel, m1, m2, m3, m4, m5, m6, m7, m8, m9, k1, k2, g1, g2, b1, b2, g10, g28, g18, g19, i1, i2, hloop, walkD]
theorem plain (ns : List Int) (hl : ns.length ≤ 63) : fnF cd gl 20 31 [.list (ns.map .int)] = .ok (.v (.bool true)) := plain' 14 ns

end C87

namespace C87
open PySem VL
theorem all_mk {l : PySem.W.OpenLaw} {w : World} {K : PySem.W.Frag} {h : Heap} {mg : Str → Option Value} {fa : Addr} (X : K.In h) (G : h.Ns mainGlobals mg) (hfa : mg (Str.ofString "law") = some (.ref fa))
    {f0 f1 f2 f3 f4 f5 f6 f7 f8 f9 f10 f11 f12 f13 f14 f15 f16 f17 f18 f19 f20 f21 f22 f23 f24 f25 f26 f27 f28 f29 f30 f31 : Addr} {od0 an0 od1 an1 od2 an2 od3 an3 od4 an4 od5 an5 od6 an6 od7 an7 od8 an8 od9 an9 od10 an10 od11 an11 od12 an12 od13 an13 od14 an14 od15 an15 od16 an16 od17 an17 od18 an18 od19 an19 od20 an20 od21 an21 od22 an22 od23 an23 od24 an24 od25 an25 od26 an26 od27 an27 od28 an28 od29 an29 od30 an30 od31 an31 : Option Addr} {sl0 sl1 sl2 sl3 sl4 sl5 sl6 sl7 sl8 sl9 sl10 sl11 sl12 sl13 sl14 sl15 sl16 sl17 sl18 sl19 sl20 sl21 sl22 sl23 sl24 sl25 sl26 sl27 sl28 sl29 sl30 sl31 : Array (Option Value)} {oc0 kV0 dc0 pm0 cd0 ct0 oc1 kV1 dc1 pm1 cd1 ct1 oc2 kV2 dc2 pm2 cd2 ct2 oc3 kV3 dc3 pm3 cd3 ct3 oc4 kV4 dc4 pm4 cd4 ct4 oc5 kV5 dc5 pm5 cd5 ct5 oc6 kV6 dc6 pm6 cd6 ct6 oc7 kV7 dc7 pm7 cd7 ct7 oc8 kV8 dc8 pm8 cd8 ct8 oc9 kV9 dc9 pm9 cd9 ct9 oc10 kV10 dc10 pm10 cd10 ct10 oc11 kV11 dc11 pm11 cd11 ct11 oc12 kV12 dc12 pm12 cd12 ct12 oc13 kV13 dc13 pm13 cd13 ct13 oc14 kV14 dc14 pm14 cd14 ct14 oc15 kV15 dc15 pm15 cd15 ct15 oc16 kV16 dc16 pm16 cd16 ct16 oc17 kV17 dc17 pm17 cd17 ct17 oc18 kV18 dc18 pm18 cd18 ct18 oc19 kV19 dc19 pm19 cd19 ct19 oc20 kV20 dc20 pm20 cd20 ct20 oc21 kV21 dc21 pm21 cd21 ct21 oc22 kV22 dc22 pm22 cd22 ct22 oc23 kV23 dc23 pm23 cd23 ct23 oc24 kV24 dc24 pm24 cd24 ct24 oc25 kV25 dc25 pm25 cd25 ct25 oc26 kV26 dc26 pm26 cd26 ct26 oc27 kV27 dc27 pm27 cd27 ct27 oc28 kV28 dc28 pm28 cd28 ct28 oc29 kV29 dc29 pm29 cd29 ct29 oc30 kV30 dc30 pm30 cd30 ct30 oc31 kV31 dc31 pm31 cd31 ct31 : Value}
    {gv0 gv1 : Value}
    {uA2_0 uA2_1 uA2_2 uA3_0 uA3_1 uA3_2 : Addr} {uD2_0 uD2_1 uD2_2 uD3_0 uD3_1 uD3_2 : Option Addr} {uN2_0 uN2_1 uN2_2 uN3_0 uN3_1 uN3_2 : Nat} {uS2_0 uS2_1 uS2_2 uS3_0 uS3_1 uS3_2 : Array (Option Value)}
    {uk2_1_0 uk2_1_1 uk2_1_2 uk2_2_0 uk2_2_1 uk2_2_2 uk3_1_0 uk3_1_1 uk3_1_2 uk3_2_0 uk3_2_1 uk3_2_2 : Tok}
    {tA16 : Addr} {tC16 : Value} {tD16 : Option Addr} {tN16 : Nat} {tS16 : Array (Option Value)}
    (a0 : PySem.W.nsIn K mainGlobals "is_whole" = some (some (.ref f0))) (l0 : K.lookup f0 = some ⟨oc0, od0, .func (PySem.W.fnOf "is_whole" "is_whole" (L2.defArgs (topS 9)) (L2.defBody (topS 9)) (L2.defScope (topS 9)) .none kV0 dc0 pm0 an0 cd0 ct0), sl0⟩) (c0 : PySem.W.codeIn K cd0 "is_whole" = true) (k0 : PySem.W.keepIn K (.ref f0) = true)
    (a1 : PySem.W.nsIn K mainGlobals "is_point" = some (some (.ref f1))) (l1 : K.lookup f1 = some ⟨oc1, od1, .func (PySem.W.fnOf "is_point" "is_point" (L2.defArgs (topS 10)) (L2.defBody (topS 10)) (L2.defScope (topS 10)) .none kV1 dc1 pm1 an1 cd1 ct1), sl1⟩) (c1 : PySem.W.codeIn K cd1 "is_point" = true) (k1 : PySem.W.keepIn K (.ref f1) = true)
    (a2 : PySem.W.nsIn K mainGlobals "numbers_in" = some (some (.ref f2))) (l2 : K.lookup f2 = some ⟨oc2, od2, .func (PySem.W.fnOf "numbers_in" "numbers_in" (L2.defArgs (topS 11)) (L2.defBody (topS 11)) (L2.defScope (topS 11)) .none kV2 dc2 pm2 an2 cd2 ct2), sl2⟩) (c2 : PySem.W.codeIn K cd2 "numbers_in" = true) (k2 : PySem.W.keepIn K (.ref f2) = true)
    (a3 : PySem.W.nsIn K mainGlobals "size_ahead" = some (some (.ref f3))) (l3 : K.lookup f3 = some ⟨oc3, od3, .func (PySem.W.fnOf "size_ahead" "size_ahead" (L2.defArgs (topS 12)) (L2.defBody (topS 12)) (L2.defScope (topS 12)) .none kV3 dc3 pm3 an3 cd3 ct3), sl3⟩) (c3 : PySem.W.codeIn K cd3 "size_ahead" = true) (k3 : PySem.W.keepIn K (.ref f3) = true)
    (a4 : PySem.W.nsIn K mainGlobals "all_picks" = some (some (.ref f4))) (l4 : K.lookup f4 = some ⟨oc4, od4, .func (PySem.W.fnOf "all_picks" "all_picks" (L2.defArgs (topS 13)) (L2.defBody (topS 13)) (L2.defScope (topS 13)) .none kV4 dc4 pm4 an4 cd4 ct4), sl4⟩) (c4 : PySem.W.codeIn K cd4 "all_picks" = true) (k4 : PySem.W.keepIn K (.ref f4) = true)
    (a5 : PySem.W.nsIn K mainGlobals "marks_of" = some (some (.ref f5))) (l5 : K.lookup f5 = some ⟨oc5, od5, .func (PySem.W.fnOf "marks_of" "marks_of" (L2.defArgs (topS 15)) (L2.defBody (topS 15)) (L2.defScope (topS 15)) .none kV5 dc5 pm5 an5 cd5 ct5), sl5⟩) (c5 : PySem.W.codeIn K cd5 "marks_of" = true) (k5 : PySem.W.keepIn K (.ref f5) = true)
    (a6 : PySem.W.nsIn K mainGlobals "rank_of" = some (some (.ref f6))) (l6 : K.lookup f6 = some ⟨oc6, od6, .func (PySem.W.fnOf "rank_of" "rank_of" (L2.defArgs (topS 16)) (L2.defBody (topS 16)) (L2.defScope (topS 16)) .none kV6 dc6 pm6 an6 cd6 ct6), sl6⟩) (c6 : PySem.W.codeIn K cd6 "rank_of" = true) (k6 : PySem.W.keepIn K (.ref f6) = true)
    (a7 : PySem.W.nsIn K mainGlobals "every_tie" = some (some (.ref f7))) (l7 : K.lookup f7 = some ⟨oc7, od7, .func (PySem.W.fnOf "every_tie" "every_tie" (L2.defArgs (topS 17)) (L2.defBody (topS 17)) (L2.defScope (topS 17)) .none kV7 dc7 pm7 an7 cd7 ct7), sl7⟩) (c7 : PySem.W.codeIn K cd7 "every_tie" = true) (k7 : PySem.W.keepIn K (.ref f7) = true)
    (a8 : PySem.W.nsIn K mainGlobals "gathered" = some (some (.ref f8))) (l8 : K.lookup f8 = some ⟨oc8, od8, .func (PySem.W.fnOf "gathered" "gathered" (L2.defArgs (topS 19)) (L2.defBody (topS 19)) (L2.defScope (topS 19)) .none kV8 dc8 pm8 an8 cd8 ct8), sl8⟩) (c8 : PySem.W.codeIn K cd8 "gathered" = true) (k8 : PySem.W.keepIn K (.ref f8) = true)
    (a9 : PySem.W.nsIn K mainGlobals "sum_of" = some (some (.ref f9))) (l9 : K.lookup f9 = some ⟨oc9, od9, .func (PySem.W.fnOf "sum_of" "sum_of" (L2.defArgs (topS 20)) (L2.defBody (topS 20)) (L2.defScope (topS 20)) .none kV9 dc9 pm9 an9 cd9 ct9), sl9⟩) (c9 : PySem.W.codeIn K cd9 "sum_of" = true) (k9 : PySem.W.keepIn K (.ref f9) = true)
    (a10 : PySem.W.nsIn K mainGlobals "product_of" = some (some (.ref f10))) (l10 : K.lookup f10 = some ⟨oc10, od10, .func (PySem.W.fnOf "product_of" "product_of" (L2.defArgs (topS 21)) (L2.defBody (topS 21)) (L2.defScope (topS 21)) .none kV10 dc10 pm10 an10 cd10 ct10), sl10⟩) (c10 : PySem.W.codeIn K cd10 "product_of" = true) (k10 : PySem.W.keepIn K (.ref f10) = true)
    (a11 : PySem.W.nsIn K mainGlobals "to_power" = some (some (.ref f11))) (l11 : K.lookup f11 = some ⟨oc11, od11, .func (PySem.W.fnOf "to_power" "to_power" (L2.defArgs (topS 22)) (L2.defBody (topS 22)) (L2.defScope (topS 22)) .none kV11 dc11 pm11 an11 cd11 ct11), sl11⟩) (c11 : PySem.W.codeIn K cd11 "to_power" = true) (k11 : PySem.W.keepIn K (.ref f11) = true)
    (a12 : PySem.W.nsIn K mainGlobals "in_order" = some (some (.ref f12))) (l12 : K.lookup f12 = some ⟨oc12, od12, .func (PySem.W.fnOf "in_order" "in_order" (L2.defArgs (topS 24)) (L2.defBody (topS 24)) (L2.defScope (topS 24)) .none kV12 dc12 pm12 an12 cd12 ct12), sl12⟩) (c12 : PySem.W.codeIn K cd12 "in_order" = true) (k12 : PySem.W.keepIn K (.ref f12) = true)
    (a13 : PySem.W.nsIn K mainGlobals "tie_at" = some (some (.ref f13))) (l13 : K.lookup f13 = some ⟨oc13, od13, .func (PySem.W.fnOf "tie_at" "tie_at" (L2.defArgs (topS 26)) (L2.defBody (topS 26)) (L2.defScope (topS 26)) .none kV13 dc13 pm13 an13 cd13 ct13), sl13⟩) (c13 : PySem.W.codeIn K cd13 "tie_at" = true) (k13 : PySem.W.keepIn K (.ref f13) = true)
    (a14 : PySem.W.nsIn K mainGlobals "is_places" = some (some (.ref f14))) (l14 : K.lookup f14 = some ⟨oc14, od14, .func (PySem.W.fnOf "is_places" "is_places" (L2.defArgs (topS 27)) (L2.defBody (topS 27)) (L2.defScope (topS 27)) .none kV14 dc14 pm14 an14 cd14 ct14), sl14⟩) (c14 : PySem.W.codeIn K cd14 "is_places" = true) (k14 : PySem.W.keepIn K (.ref f14) = true)
    (a15 : PySem.W.nsIn K mainGlobals "renumbered" = some (some (.ref f15))) (l15 : K.lookup f15 = some ⟨oc15, od15, .func (PySem.W.fnOf "renumbered" "renumbered" (L2.defArgs (topS 28)) (L2.defBody (topS 28)) (L2.defScope (topS 28)) .none kV15 dc15 pm15 an15 cd15 ct15), sl15⟩) (c15 : PySem.W.codeIn K cd15 "renumbered" = true) (k15 : PySem.W.keepIn K (.ref f15) = true)
    (a16 : PySem.W.nsIn K mainGlobals "reordered" = some (some (.ref f16))) (l16 : K.lookup f16 = some ⟨oc16, od16, .func (PySem.W.fnOf "reordered" "reordered" (L2.defArgs (topS 29)) (L2.defBody (topS 29)) (L2.defScope (topS 29)) (.ref tA16) kV16 dc16 pm16 an16 cd16 ct16), sl16⟩) (c16 : PySem.W.codeIn K cd16 "reordered" = true) (k16 : PySem.W.keepIn K (.ref f16) = true)
    (t16 : K.lookup tA16 = some ⟨tC16, tD16, .seq (List.toArray [Value.none]) tN16, tS16⟩)
    (a17 : PySem.W.nsIn K mainGlobals "want_room" = some (some (.ref f17))) (l17 : K.lookup f17 = some ⟨oc17, od17, .func (PySem.W.fnOf "want_room" "want_room" (L2.defArgs (topS 30)) (L2.defBody (topS 30)) (L2.defScope (topS 30)) .none kV17 dc17 pm17 an17 cd17 ct17), sl17⟩) (c17 : PySem.W.codeIn K cd17 "want_room" = true) (k17 : PySem.W.keepIn K (.ref f17) = true)
    (a18 : PySem.W.nsIn K mainGlobals "laid_beside" = some (some (.ref f18))) (l18 : K.lookup f18 = some ⟨oc18, od18, .func (PySem.W.fnOf "laid_beside" "laid_beside" (L2.defArgs (topS 31)) (L2.defBody (topS 31)) (L2.defScope (topS 31)) .none kV18 dc18 pm18 an18 cd18 ct18), sl18⟩) (c18 : PySem.W.codeIn K cd18 "laid_beside" = true) (k18 : PySem.W.keepIn K (.ref f18) = true)
    (a19 : PySem.W.nsIn K mainGlobals "laid_at" = some (some (.ref f19))) (l19 : K.lookup f19 = some ⟨oc19, od19, .func (PySem.W.fnOf "laid_at" "laid_at" (L2.defArgs (topS 32)) (L2.defBody (topS 32)) (L2.defScope (topS 32)) .none kV19 dc19 pm19 an19 cd19 ct19), sl19⟩) (c19 : PySem.W.codeIn K cd19 "laid_at" = true) (k19 : PySem.W.keepIn K (.ref f19) = true)
    (a20 : PySem.W.nsIn K mainGlobals "size_table" = some (some (.ref f20))) (l20 : K.lookup f20 = some ⟨oc20, od20, .func (PySem.W.fnOf "size_table" "size_table" (L2.defArgs (topS 36)) (L2.defBody (topS 36)) (L2.defScope (topS 36)) .none kV20 dc20 pm20 an20 cd20 ct20), sl20⟩) (c20 : PySem.W.codeIn K cd20 "size_table" = true) (k20 : PySem.W.keepIn K (.ref f20) = true)
    (a21 : PySem.W.nsIn K mainGlobals "by_picks" = some (some (.ref f21))) (l21 : K.lookup f21 = some ⟨oc21, od21, .func (PySem.W.fnOf "by_picks" "by_picks" (L2.defArgs (topS 37)) (L2.defBody (topS 37)) (L2.defScope (topS 37)) .none kV21 dc21 pm21 an21 cd21 ct21), sl21⟩) (c21 : PySem.W.codeIn K cd21 "by_picks" = true) (k21 : PySem.W.keepIn K (.ref f21) = true)
    (a22 : PySem.W.nsIn K mainGlobals "all_trees" = some (some (.ref f22))) (l22 : K.lookup f22 = some ⟨oc22, od22, .func (PySem.W.fnOf "all_trees" "all_trees" (L2.defArgs (topS 39)) (L2.defBody (topS 39)) (L2.defScope (topS 39)) .none kV22 dc22 pm22 an22 cd22 ct22), sl22⟩) (c22 : PySem.W.codeIn K cd22 "all_trees" = true) (k22 : PySem.W.keepIn K (.ref f22) = true)
    (a23 : PySem.W.nsIn K mainGlobals "_law_at" = some (some (.ref f23))) (l23 : K.lookup f23 = some ⟨oc23, od23, .func (PySem.W.fnOf "_law_at" "_law_at" (L2.defArgs (topS 41)) (L2.defBody (topS 41)) (L2.defScope (topS 41)) .none kV23 dc23 pm23 an23 cd23 ct23), sl23⟩) (c23 : PySem.W.codeIn K cd23 "_law_at" = true) (k23 : PySem.W.keepIn K (.ref f23) = true)
    (a24 : PySem.W.nsIn K mainGlobals "_law_web" = some (some (.ref f24))) (l24 : K.lookup f24 = some ⟨oc24, od24, .func (PySem.W.fnOf "_law_web" "_law_web" (L2.defArgs (topS 42)) (L2.defBody (topS 42)) (L2.defScope (topS 42)) .none kV24 dc24 pm24 an24 cd24 ct24), sl24⟩) (c24 : PySem.W.codeIn K cd24 "_law_web" = true) (k24 : PySem.W.keepIn K (.ref f24) = true)
    (a25 : PySem.W.nsIn K mainGlobals "_law_row" = some (some (.ref f25))) (l25 : K.lookup f25 = some ⟨oc25, od25, .func (PySem.W.fnOf "_law_row" "_law_row" (L2.defArgs (topS 43)) (L2.defBody (topS 43)) (L2.defScope (topS 43)) .none kV25 dc25 pm25 an25 cd25 ct25), sl25⟩) (c25 : PySem.W.codeIn K cd25 "_law_row" = true) (k25 : PySem.W.keepIn K (.ref f25) = true)
    (a26 : PySem.W.nsIn K mainGlobals "_law_pick" = some (some (.ref f26))) (l26 : K.lookup f26 = some ⟨oc26, od26, .func (PySem.W.fnOf "_law_pick" "_law_pick" (L2.defArgs (topS 44)) (L2.defBody (topS 44)) (L2.defScope (topS 44)) .none kV26 dc26 pm26 an26 cd26 ct26), sl26⟩) (c26 : PySem.W.codeIn K cd26 "_law_pick" = true) (k26 : PySem.W.keepIn K (.ref f26) = true)
    (a27 : PySem.W.nsIn K mainGlobals "_law_split" = some (some (.ref f27))) (l27 : K.lookup f27 = some ⟨oc27, od27, .func (PySem.W.fnOf "_law_split" "_law_split" (L2.defArgs (topS 45)) (L2.defBody (topS 45)) (L2.defScope (topS 45)) .none kV27 dc27 pm27 an27 cd27 ct27), sl27⟩) (c27 : PySem.W.codeIn K cd27 "_law_split" = true) (k27 : PySem.W.keepIn K (.ref f27) = true)
    (a28 : PySem.W.nsIn K mainGlobals "_law_both" = some (some (.ref f28))) (l28 : K.lookup f28 = some ⟨oc28, od28, .func (PySem.W.fnOf "_law_both" "_law_both" (L2.defArgs (topS 46)) (L2.defBody (topS 46)) (L2.defScope (topS 46)) .none kV28 dc28 pm28 an28 cd28 ct28), sl28⟩) (c28 : PySem.W.codeIn K cd28 "_law_both" = true) (k28 : PySem.W.keepIn K (.ref f28) = true)
    (a29 : PySem.W.nsIn K mainGlobals "_law_ranks" = some (some (.ref f29))) (l29 : K.lookup f29 = some ⟨oc29, od29, .func (PySem.W.fnOf "_law_ranks" "_law_ranks" (L2.defArgs (topS 47)) (L2.defBody (topS 47)) (L2.defScope (topS 47)) .none kV29 dc29 pm29 an29 cd29 ct29), sl29⟩) (c29 : PySem.W.codeIn K cd29 "_law_ranks" = true) (k29 : PySem.W.keepIn K (.ref f29) = true)
    (a30 : PySem.W.nsIn K mainGlobals "_law_renamed" = some (some (.ref f30))) (l30 : K.lookup f30 = some ⟨oc30, od30, .func (PySem.W.fnOf "_law_renamed" "_law_renamed" (L2.defArgs (topS 48)) (L2.defBody (topS 48)) (L2.defScope (topS 48)) .none kV30 dc30 pm30 an30 cd30 ct30), sl30⟩) (c30 : PySem.W.codeIn K cd30 "_law_renamed" = true) (k30 : PySem.W.keepIn K (.ref f30) = true)
    (a31 : PySem.W.nsIn K mainGlobals "law" = some (some (.ref f31))) (l31 : K.lookup f31 = some ⟨oc31, od31, .func (PySem.W.fnOf "law" "law" (L2.defArgs (topS 49)) (L2.defBody (topS 49)) (L2.defScope (topS 49)) .none kV31 dc31 pm31 an31 cd31 ct31), sl31⟩) (c31 : PySem.W.codeIn K cd31 "law" = true) (k31 : PySem.W.keepIn K (.ref f31) = true)
    (hg0 : PySem.W.nsIn K mainGlobals "MOST_TIES" = some (some gv0)) (hr0 : ∃ v : L2.V, L2.RelV v gv0 ∧ ∀ H, Rp K H v (.int 8))
    (hg1 : PySem.W.nsIn K mainGlobals "MOST_POINTS" = some (some gv1)) (hr1 : ∃ v : L2.V, L2.RelV v gv1 ∧ ∀ H, Rp K H v (.int 9))
    (hg2 : PySem.W.nsIn K mainGlobals "Y_LESS" = some (some (.ref uA2_0)))
    (u2_0 : K.lookup uA2_0 = some ⟨.type "tuple", uD2_0, .seq (List.toArray [.ref uA2_1, .ref uA2_2]) uN2_0, uS2_0⟩)
    (u2_1 : K.lookup uA2_1 = some ⟨.type "tuple", uD2_1, .seq (List.toArray [.int 0 uk2_1_0, .int 0 uk2_1_1, .int (-1) uk2_1_2]) uN2_1, uS2_1⟩)
    (u2_2 : K.lookup uA2_2 = some ⟨.type "tuple", uD2_2, .seq (List.toArray [.int 0 uk2_2_0, .int 1 uk2_2_1, .int 1 uk2_2_2]) uN2_2, uS2_2⟩)
    (hg3 : PySem.W.nsIn K mainGlobals "X_LESS" = some (some (.ref uA3_0)))
    (u3_0 : K.lookup uA3_0 = some ⟨.type "tuple", uD3_0, .seq (List.toArray [.ref uA3_1, .ref uA3_2]) uN3_0, uS3_0⟩)
    (u3_1 : K.lookup uA3_1 = some ⟨.type "tuple", uD3_1, .seq (List.toArray [.int 0 uk3_1_0, .int 0 uk3_1_1, .int (-1) uk3_1_2]) uN3_1, uS3_1⟩)
    (u3_2 : K.lookup uA3_2 = some ⟨.type "tuple", uD3_2, .seq (List.toArray [.int 1 uk3_2_0, .int 0 uk3_2_1, .int 1 uk3_2_2]) uN3_2, uS3_2⟩)
    {C2 C4 C1 C3 : Addr}
    (ca2 : PySem.W.nsIn K mainGlobals "NoOrder" = some (some (.ref C2)))
    (ca4 : PySem.W.nsIn K mainGlobals "NoPlaces" = some (some (.ref C4)))
    (ca1 : PySem.W.nsIn K mainGlobals "TooMany" = some (some (.ref C1)))
    (ca3 : PySem.W.nsIn K mainGlobals "NoPoint" = some (some (.ref C3)))
    (xhn : PySem.W.specialIn K (.builtin "object.__class__") "__get__" = some (some (.builtin "getset_descriptor.__get__"))) (xht : PySem.W.takesIn K (.builtin "object.__class__") = some true)
    (xx2 : PySem.W.excIn K C2 [.type "ValueError", .type "Exception", .type "BaseException", .type "object"] "ValueError.__new__" = true) (xk2 : PySem.W.keepIn K (.ref C2) = true) (xb2 : PySem.W.subIn K (.ref C2) (.type "BaseException") = some true) (xt2 : PySem.W.typeIn K (.ref C2) = some (.type "type"))
    (xg2 : PySem.W.findIn K (.ref C2) "__getattribute__" = some (some (.builtin "BaseException.__getattribute__"))) (xa2 : PySem.W.findIn K (.ref C2) "__getattr__" = some none) (xd2 : PySem.W.hasDictIn K C2 = true) (xc2 : PySem.W.findIn K (.ref C2) "__class__" = some (some (.builtin "object.__class__"))) (xm2 : PySem.W.mroIn K C2 (.type "object") = some true) (xv2 : PySem.W.kitOne K (.ref C2) (.type "ValueError") = some true)
    (y2_2 : PySem.W.kitOne K (.ref C2) (.ref C2) = some true) (e2_2 : PySem.W.exmOne K (.ref C2) (.ref C2) = some true)
    (y2_4 : PySem.W.kitOne K (.ref C2) (.ref C4) = some false) (e2_4 : PySem.W.exmOne K (.ref C2) (.ref C4) = some false)
    (y2_1 : PySem.W.kitOne K (.ref C2) (.ref C1) = some false) (e2_1 : PySem.W.exmOne K (.ref C2) (.ref C1) = some false)
    (y2_3 : PySem.W.kitOne K (.ref C2) (.ref C3) = some false) (e2_3 : PySem.W.exmOne K (.ref C2) (.ref C3) = some false)
    (xx4 : PySem.W.excIn K C4 [.type "ValueError", .type "Exception", .type "BaseException", .type "object"] "ValueError.__new__" = true) (xk4 : PySem.W.keepIn K (.ref C4) = true) (xb4 : PySem.W.subIn K (.ref C4) (.type "BaseException") = some true) (xt4 : PySem.W.typeIn K (.ref C4) = some (.type "type"))
    (xg4 : PySem.W.findIn K (.ref C4) "__getattribute__" = some (some (.builtin "BaseException.__getattribute__"))) (xa4 : PySem.W.findIn K (.ref C4) "__getattr__" = some none) (xd4 : PySem.W.hasDictIn K C4 = true) (xc4 : PySem.W.findIn K (.ref C4) "__class__" = some (some (.builtin "object.__class__"))) (xm4 : PySem.W.mroIn K C4 (.type "object") = some true) (xv4 : PySem.W.kitOne K (.ref C4) (.type "ValueError") = some true)
    (y4_2 : PySem.W.kitOne K (.ref C4) (.ref C2) = some false) (e4_2 : PySem.W.exmOne K (.ref C4) (.ref C2) = some false)
    (y4_4 : PySem.W.kitOne K (.ref C4) (.ref C4) = some true) (e4_4 : PySem.W.exmOne K (.ref C4) (.ref C4) = some true)
    (y4_1 : PySem.W.kitOne K (.ref C4) (.ref C1) = some false) (e4_1 : PySem.W.exmOne K (.ref C4) (.ref C1) = some false)
    (y4_3 : PySem.W.kitOne K (.ref C4) (.ref C3) = some false) (e4_3 : PySem.W.exmOne K (.ref C4) (.ref C3) = some false)
    (xx1 : PySem.W.excIn K C1 [.type "ValueError", .type "Exception", .type "BaseException", .type "object"] "ValueError.__new__" = true) (xk1 : PySem.W.keepIn K (.ref C1) = true) (xb1 : PySem.W.subIn K (.ref C1) (.type "BaseException") = some true) (xt1 : PySem.W.typeIn K (.ref C1) = some (.type "type"))
    (xg1 : PySem.W.findIn K (.ref C1) "__getattribute__" = some (some (.builtin "BaseException.__getattribute__"))) (xa1 : PySem.W.findIn K (.ref C1) "__getattr__" = some none) (xd1 : PySem.W.hasDictIn K C1 = true) (xc1 : PySem.W.findIn K (.ref C1) "__class__" = some (some (.builtin "object.__class__"))) (xm1 : PySem.W.mroIn K C1 (.type "object") = some true) (xv1 : PySem.W.kitOne K (.ref C1) (.type "ValueError") = some true)
    (y1_2 : PySem.W.kitOne K (.ref C1) (.ref C2) = some false) (e1_2 : PySem.W.exmOne K (.ref C1) (.ref C2) = some false)
    (y1_4 : PySem.W.kitOne K (.ref C1) (.ref C4) = some false) (e1_4 : PySem.W.exmOne K (.ref C1) (.ref C4) = some false)
    (y1_1 : PySem.W.kitOne K (.ref C1) (.ref C1) = some true) (e1_1 : PySem.W.exmOne K (.ref C1) (.ref C1) = some true)
    (y1_3 : PySem.W.kitOne K (.ref C1) (.ref C3) = some false) (e1_3 : PySem.W.exmOne K (.ref C1) (.ref C3) = some false)
    (xx3 : PySem.W.excIn K C3 [.type "ValueError", .type "Exception", .type "BaseException", .type "object"] "ValueError.__new__" = true) (xk3 : PySem.W.keepIn K (.ref C3) = true) (xb3 : PySem.W.subIn K (.ref C3) (.type "BaseException") = some true) (xt3 : PySem.W.typeIn K (.ref C3) = some (.type "type"))
    (xg3 : PySem.W.findIn K (.ref C3) "__getattribute__" = some (some (.builtin "BaseException.__getattribute__"))) (xa3 : PySem.W.findIn K (.ref C3) "__getattr__" = some none) (xd3 : PySem.W.hasDictIn K C3 = true) (xc3 : PySem.W.findIn K (.ref C3) "__class__" = some (some (.builtin "object.__class__"))) (xm3 : PySem.W.mroIn K C3 (.type "object") = some true) (xv3 : PySem.W.kitOne K (.ref C3) (.type "ValueError") = some true)
    (y3_2 : PySem.W.kitOne K (.ref C3) (.ref C2) = some false) (e3_2 : PySem.W.exmOne K (.ref C3) (.ref C2) = some false)
    (y3_4 : PySem.W.kitOne K (.ref C3) (.ref C4) = some false) (e3_4 : PySem.W.exmOne K (.ref C3) (.ref C4) = some false)
    (y3_1 : PySem.W.kitOne K (.ref C3) (.ref C1) = some false) (e3_1 : PySem.W.exmOne K (.ref C3) (.ref C1) = some false)
    (y3_3 : PySem.W.kitOne K (.ref C3) (.ref C3) = some true) (e3_3 : PySem.W.exmOne K (.ref C3) (.ref C3) = some true)
    (z0 : PySem.W.nsIn K mainGlobals "len" = some none)
    (z1 : PySem.W.nsIn K mainGlobals "min" = some none)
    (z2 : PySem.W.nsIn K mainGlobals "max" = some none)
    (z3 : PySem.W.nsIn K mainGlobals "sum" = some none)
    (z4 : PySem.W.nsIn K mainGlobals "sorted" = some none)
    (z5 : PySem.W.nsIn K mainGlobals "any" = some none)
    (z6 : PySem.W.nsIn K mainGlobals "all" = some none)
    (z7 : PySem.W.nsIn K mainGlobals "abs" = some none)
    (z8 : PySem.W.nsIn K mainGlobals "tuple" = some none)
    (z9 : PySem.W.nsIn K mainGlobals "list" = some none)
    (z10 : PySem.W.nsIn K mainGlobals "int" = some none)
    (z11 : PySem.W.nsIn K mainGlobals "str" = some none)
    (z12 : PySem.W.nsIn K mainGlobals "range" = some none)
    (z13 : PySem.W.nsIn K mainGlobals "enumerate" = some none)
    (z14 : PySem.W.nsIn K mainGlobals "zip" = some none)
    (z15 : PySem.W.nsIn K mainGlobals "reversed" = some none)
    (z16 : PySem.W.nsIn K mainGlobals "isinstance" = some none)
    (z17 : PySem.W.nsIn K mainGlobals "bool" = some none)
    (z18 : PySem.W.nsIn K mainGlobals "set" = some none)
    (z19 : PySem.W.nsIn K mainGlobals "ValueError" = some none)
    : ∃ fd : FuncData, (∀ (s : Shared) (v : Value), PySem.BindsTo s fd ⟨[v], []⟩ [("_law_script", v)]) ∧ ∀ base : Heap, K.In base → base.Ns mainGlobals mg → L2.FnOk l.prog w K mg base (L2.CX l.prog w) 20 fa fd ["_law_script"] (spL K 1 (fnF cd gl 20 31)) := by
  have e := hfa.symm.trans (PySem.W.mg_of X G a31)
  cases e
  have r2_2 : ∀ H, Rp K H (.ref uA2_2) (.tuple [.int 0, .int 1, .int 1]) := rp_ktup (xs := [.int 0, .int 1, .int 1]) u2_2 rfl (by simp) (.cons ⟨_, rfl⟩ (.cons ⟨_, rfl⟩ (.cons ⟨_, rfl⟩ .nil))) fun H => (.cons (.int _) (.cons (.int _) (.cons (.int _) .nil)))
  have r2_1 : ∀ H, Rp K H (.ref uA2_1) (.tuple [.int 0, .int 0, .int (-1)]) := rp_ktup (xs := [.int 0, .int 0, .int (-1)]) u2_1 rfl (by simp) (.cons ⟨_, rfl⟩ (.cons ⟨_, rfl⟩ (.cons ⟨_, rfl⟩ .nil))) fun H => (.cons (.int _) (.cons (.int _) (.cons (.int _) .nil)))
  have r2_0 : ∀ H, Rp K H (.ref uA2_0) (.tuple [.tuple [.int 0, .int 0, .int (-1)], .tuple [.int 0, .int 1, .int 1]]) := rp_ktup (xs := [L2.V.ref uA2_1, L2.V.ref uA2_2]) u2_0 rfl (by simp) (.cons rfl (.cons rfl .nil)) fun H => (.cons (r2_1 H) (.cons (r2_2 H) .nil))
  have hr2 : ∃ v : L2.V, L2.RelV v (.ref uA2_0) ∧ ∀ H, Rp K H v (.tuple [.tuple [.int 0, .int 0, .int (-1)], .tuple [.int 0, .int 1, .int 1]]) := ⟨.ref uA2_0, rfl, r2_0⟩
  have r3_2 : ∀ H, Rp K H (.ref uA3_2) (.tuple [.int 1, .int 0, .int 1]) := rp_ktup (xs := [.int 1, .int 0, .int 1]) u3_2 rfl (by simp) (.cons ⟨_, rfl⟩ (.cons ⟨_, rfl⟩ (.cons ⟨_, rfl⟩ .nil))) fun H => (.cons (.int _) (.cons (.int _) (.cons (.int _) .nil)))
  have r3_1 : ∀ H, Rp K H (.ref uA3_1) (.tuple [.int 0, .int 0, .int (-1)]) := rp_ktup (xs := [.int 0, .int 0, .int (-1)]) u3_1 rfl (by simp) (.cons ⟨_, rfl⟩ (.cons ⟨_, rfl⟩ (.cons ⟨_, rfl⟩ .nil))) fun H => (.cons (.int _) (.cons (.int _) (.cons (.int _) .nil)))
  have r3_0 : ∀ H, Rp K H (.ref uA3_0) (.tuple [.tuple [.int 0, .int 0, .int (-1)], .tuple [.int 1, .int 0, .int 1]]) := rp_ktup (xs := [L2.V.ref uA3_1, L2.V.ref uA3_2]) u3_0 rfl (by simp) (.cons rfl (.cons rfl .nil)) fun H => (.cons (r3_1 H) (.cons (r3_2 H) .nil))
  have hr3 : ∃ v : L2.V, L2.RelV v (.ref uA3_0) ∧ ∀ H, Rp K H v (.tuple [.tuple [.int 0, .int 0, .int (-1)], .tuple [.int 1, .int 0, .int 1]]) := ⟨.ref uA3_0, rfl, r3_0⟩
  have F16 : L2.FunD K (e16).x (e16).qual (L2.defArgs (e16).st) (L2.defBody (e16).st) (L2.defScope (e16).st) [.non] [] f16 _ := ⟨⟨_, _, _, _, _, _, _, _, _, _, rfl, l16, c16, .inr ⟨by simp, _, _, [Value.none], _, rfl, t16, rfl, (.cons rfl .nil)⟩, .inl rfl⟩, k16⟩
  have b16 : ∀ u, u ≤ 1 → ∃ ds, L2.Vals (List.drop (1 - u) [.non]) ds ∧ L2.Binds K _ ["web", "order"] ds := fun u hu => match u, hu with | 0, _ => F16.binds1 (ps := ["web", "order"]) 2 1 (by simp) rfl (fun _ _ _ _ _ _ _ us its h1 h2 => match us, h1, its, h2 with | [_, _], _, [_], _ => ⟨_, rfl, rfl⟩) | 1, _ => F16.binds1 (ps := ["web", "order"]) 1 0 (by simp) rfl (fun _ _ _ _ _ _ _ us its h1 h2 => match us, h1, its, h2 with | [_], _, [_], _ => ⟨_, rfl, rfl⟩) | u + 2, hu => absurd hu (by omega)
  have F0 := L2.fun_mk (st := topS 9) l0 c0 k0
  have b0 := F0.binds (ps := ["thing"]) fun _ _ _ _ _ _ us hl => match us, hl with | [_], _ => rfl
  have F1 := L2.fun_mk (st := topS 10) l1 c1 k1
  have b1 := F1.binds (ps := ["points", "thing"]) fun _ _ _ _ _ _ us hl => match us, hl with | [_, _], _ => rfl
  have F2 := L2.fun_mk (st := topS 11) l2 c2 k2
  have b2 := F2.binds (ps := ["mask", "many"]) fun _ _ _ _ _ _ us hl => match us, hl with | [_, _], _ => rfl
  have F3 := L2.fun_mk (st := topS 12) l3 c3 k3
  have b3 := F3.binds (ps := ["pick"]) fun _ _ _ _ _ _ us hl => match us, hl with | [_], _ => rfl
  have F4 := L2.fun_mk (st := topS 13) l4 c4 k4
  have b4 := F4.binds (ps := ["web"]) fun _ _ _ _ _ _ us hl => match us, hl with | [_], _ => rfl
  have F5 := L2.fun_mk (st := topS 15) l5 c5 k5
  have b5 := F5.binds (ps := ["web", "pick"]) fun _ _ _ _ _ _ us hl => match us, hl with | [_, _], _ => rfl
  have F6 := L2.fun_mk (st := topS 16) l6 c6 k6
  have b6 := F6.binds (ps := ["web", "pick"]) fun _ _ _ _ _ _ us hl => match us, hl with | [_, _], _ => rfl
  have F7 := L2.fun_mk (st := topS 17) l7 c7 k7
  have b7 := F7.binds (ps := ["web"]) fun _ _ _ _ _ _ us hl => match us, hl with | [_], _ => rfl
  have F8 := L2.fun_mk (st := topS 19) l8 c8 k8
  have b8 := F8.binds (ps := ["terms"]) fun _ _ _ _ _ _ us hl => match us, hl with | [_], _ => rfl
  have F9 := L2.fun_mk (st := topS 20) l9 c9 k9
  have b9 := F9.binds (ps := ["one", "other"]) fun _ _ _ _ _ _ us hl => match us, hl with | [_, _], _ => rfl
  have F10 := L2.fun_mk (st := topS 21) l10 c10 k10
  have b10 := F10.binds (ps := ["one", "other"]) fun _ _ _ _ _ _ us hl => match us, hl with | [_, _], _ => rfl
  have F11 := L2.fun_mk (st := topS 22) l11 c11 k11
  have b11 := F11.binds (ps := ["poly", "k"]) fun _ _ _ _ _ _ us hl => match us, hl with | [_, _], _ => rfl
  have F12 := L2.fun_mk (st := topS 24) l12 c12 k12
  have b12 := F12.binds (ps := ["web", "order"]) fun _ _ _ _ _ _ us hl => match us, hl with | [_, _], _ => rfl
  have F13 := L2.fun_mk (st := topS 26) l13 c13 k13
  have b13 := F13.binds (ps := ["a", "b"]) fun _ _ _ _ _ _ us hl => match us, hl with | [_, _], _ => rfl
  have F14 := L2.fun_mk (st := topS 27) l14 c14 k14
  have b14 := F14.binds (ps := ["points", "places"]) fun _ _ _ _ _ _ us hl => match us, hl with | [_, _], _ => rfl
  have F15 := L2.fun_mk (st := topS 28) l15 c15 k15
  have b15 := F15.binds (ps := ["web", "places"]) fun _ _ _ _ _ _ us hl => match us, hl with | [_, _], _ => rfl
  have F17 := L2.fun_mk (st := topS 30) l17 c17 k17
  have b17 := F17.binds (ps := ["points", "ties"]) fun _ _ _ _ _ _ us hl => match us, hl with | [_, _], _ => rfl
  have F18 := L2.fun_mk (st := topS 31) l18 c18 k18
  have b18 := F18.binds (ps := ["one", "other"]) fun _ _ _ _ _ _ us hl => match us, hl with | [_, _], _ => rfl
  have F19 := L2.fun_mk (st := topS 32) l19 c19 k19
  have b19 := F19.binds (ps := ["one", "p", "other", "q"]) fun _ _ _ _ _ _ us hl => match us, hl with | [_, _, _, _], _ => rfl
  have F20 := L2.fun_mk (st := topS 36) l20 c20 k20
  have b20 := F20.binds (ps := ["web"]) fun _ _ _ _ _ _ us hl => match us, hl with | [_], _ => rfl
  have F21 := L2.fun_mk (st := topS 37) l21 c21 k21
  have b21 := F21.binds (ps := ["web"]) fun _ _ _ _ _ _ us hl => match us, hl with | [_], _ => rfl
  have F22 := L2.fun_mk (st := topS 39) l22 c22 k22
  have b22 := F22.binds (ps := ["web"]) fun _ _ _ _ _ _ us hl => match us, hl with | [_], _ => rfl
  have F23 := L2.fun_mk (st := topS 41) l23 c23 k23
  have b23 := F23.binds (ps := ["_law_script", "_law_k"]) fun _ _ _ _ _ _ us hl => match us, hl with | [_, _], _ => rfl
  have F24 := L2.fun_mk (st := topS 42) l24 c24 k24
  have b24 := F24.binds (ps := ["_law_cells", "_law_points"]) fun _ _ _ _ _ _ us hl => match us, hl with | [_, _], _ => rfl
  have F25 := L2.fun_mk (st := topS 43) l25 c25 k25
  have b25 := F25.binds (ps := ["_law_cells", "_law_many"]) fun _ _ _ _ _ _ us hl => match us, hl with | [_, _], _ => rfl
  have F26 := L2.fun_mk (st := topS 44) l26 c26 k26
  have b26 := F26.binds (ps := ["_law_mask", "_law_many"]) fun _ _ _ _ _ _ us hl => match us, hl with | [_, _], _ => rfl
  have F27 := L2.fun_mk (st := topS 45) l27 c27 k27
  have b27 := F27.binds (ps := ["_law_pick_here", "_law_many"]) fun _ _ _ _ _ _ us hl => match us, hl with | [_, _], _ => rfl
  have F28 := L2.fun_mk (st := topS 46) l28 c28 k28
  have b28 := F28.binds (ps := ["_law_one", "_law_other"]) fun _ _ _ _ _ _ us hl => match us, hl with | [_, _], _ => rfl
  have F29 := L2.fun_mk (st := topS 47) l29 c29 k29
  have b29 := F29.binds (ps := ["_law_web_here", "_law_one", "_law_other", "_law_masks"]) fun _ _ _ _ _ _ us hl => match us, hl with | [_, _, _, _], _ => rfl
  have F30 := L2.fun_mk (st := topS 48) l30 c30 k30
  have b30 := F30.binds (ps := ["_law_web_here", "_law_row_here"]) fun _ _ _ _ _ _ us hl => match us, hl with | [_, _], _ => rfl
  have F31 := L2.fun_mk (st := topS 49) l31 c31 k31
  have b31 := F31.binds (ps := ["_law_script"]) fun _ _ _ _ _ _ us hl => match us, hl with | [_], _ => rfl
  let ca : Nat → Option Addr := fun c => if c = 2 then some C2 else if c = 4 then some C4 else if c = 1 then some C1 else if c = 3 then some C3 else none
  have ew : ExW K mg (xrT ca) exs rcs := by
    refine ewT (fun t ht => ?_) (fun t ht => ?_) (fun c D hcD => ?_)
    · simp only [exs, List.mem_cons, List.not_mem_nil, or_false] at ht
      rcases ht with rfl | rfl | rfl | rfl
      · exact ⟨_, PySem.W.mg_of X G ca2⟩
      · exact ⟨_, PySem.W.mg_of X G ca4⟩
      · exact ⟨_, PySem.W.mg_of X G ca1⟩
      · exact ⟨_, PySem.W.mg_of X G ca3⟩
    · simp only [rcs, List.mem_cons, List.not_mem_nil, or_false] at ht
      rcases ht with rfl | rfl | rfl | rfl
      · exact ⟨C2, rfl, ⟨PySem.W.mg_of X G ca2, xx2, xk2, xb2, xt2⟩⟩
      · exact ⟨C4, rfl, ⟨PySem.W.mg_of X G ca4, xx4, xk4, xb4, xt4⟩⟩
      · exact ⟨C1, rfl, ⟨PySem.W.mg_of X G ca1, xx1, xk1, xb1, xt1⟩⟩
      · exact ⟨C3, rfl, ⟨PySem.W.mg_of X G ca3, xx3, xk3, xb3, xt3⟩⟩
    · by_cases hc2 : c = 2
      · subst hc2
        have eD : C2 = D := Option.some.inj hcD
        subst eD
        refine ⟨⟨xg2, xa2, xb2, xd2, xc2, xhn, xht, xm2⟩, xv2, fun t ht T mT => ?_⟩
        simp only [exs, List.mem_cons, List.not_mem_nil, or_false] at ht
        rcases ht with rfl | rfl | rfl | rfl
        · have eT := (PySem.W.mg_of X G ca2).symm.trans mT
          cases eT
          exact ⟨y2_2, e2_2⟩
        · have eT := (PySem.W.mg_of X G ca4).symm.trans mT
          cases eT
          exact ⟨y2_4, e2_4⟩
        · have eT := (PySem.W.mg_of X G ca1).symm.trans mT
          cases eT
          exact ⟨y2_1, e2_1⟩
        · have eT := (PySem.W.mg_of X G ca3).symm.trans mT
          cases eT
          exact ⟨y2_3, e2_3⟩
      by_cases hc4 : c = 4
      · subst hc4
        have eD : C4 = D := Option.some.inj hcD
        subst eD
        refine ⟨⟨xg4, xa4, xb4, xd4, xc4, xhn, xht, xm4⟩, xv4, fun t ht T mT => ?_⟩
        simp only [exs, List.mem_cons, List.not_mem_nil, or_false] at ht
        rcases ht with rfl | rfl | rfl | rfl
        · have eT := (PySem.W.mg_of X G ca2).symm.trans mT
          cases eT
          exact ⟨y4_2, e4_2⟩
        · have eT := (PySem.W.mg_of X G ca4).symm.trans mT
          cases eT
          exact ⟨y4_4, e4_4⟩
        · have eT := (PySem.W.mg_of X G ca1).symm.trans mT
          cases eT
          exact ⟨y4_1, e4_1⟩
        · have eT := (PySem.W.mg_of X G ca3).symm.trans mT
          cases eT
          exact ⟨y4_3, e4_3⟩
      by_cases hc1 : c = 1
      · subst hc1
        have eD : C1 = D := Option.some.inj hcD
        subst eD
        refine ⟨⟨xg1, xa1, xb1, xd1, xc1, xhn, xht, xm1⟩, xv1, fun t ht T mT => ?_⟩
        simp only [exs, List.mem_cons, List.not_mem_nil, or_false] at ht
        rcases ht with rfl | rfl | rfl | rfl
        · have eT := (PySem.W.mg_of X G ca2).symm.trans mT
          cases eT
          exact ⟨y1_2, e1_2⟩
        · have eT := (PySem.W.mg_of X G ca4).symm.trans mT
          cases eT
          exact ⟨y1_4, e1_4⟩
        · have eT := (PySem.W.mg_of X G ca1).symm.trans mT
          cases eT
          exact ⟨y1_1, e1_1⟩
        · have eT := (PySem.W.mg_of X G ca3).symm.trans mT
          cases eT
          exact ⟨y1_3, e1_3⟩
      by_cases hc3 : c = 3
      · subst hc3
        have eD : C3 = D := Option.some.inj hcD
        subst eD
        refine ⟨⟨xg3, xa3, xb3, xd3, xc3, xhn, xht, xm3⟩, xv3, fun t ht T mT => ?_⟩
        simp only [exs, List.mem_cons, List.not_mem_nil, or_false] at ht
        rcases ht with rfl | rfl | rfl | rfl
        · have eT := (PySem.W.mg_of X G ca2).symm.trans mT
          cases eT
          exact ⟨y3_2, e3_2⟩
        · have eT := (PySem.W.mg_of X G ca4).symm.trans mT
          cases eT
          exact ⟨y3_4, e3_4⟩
        · have eT := (PySem.W.mg_of X G ca1).symm.trans mT
          cases eT
          exact ⟨y3_1, e3_1⟩
        · have eT := (PySem.W.mg_of X G ca3).symm.trans mT
          cases eT
          exact ⟨y3_3, e3_3⟩
      exfalso
      have : ca c = none := by simp only [ca, hc2, hc4, hc1, hc3, if_false]
      rw [this] at hcD
      cases hcD
  refine ⟨_, fun s v => .of_eq rfl, fun base _ _ => (law_ok (kx := kx0 K) (xr := xrT ca) (T := T) (gls := gls) (exs := exs) (rcs := rcs) (gl := gl) (cd := cd) (e := e31) rfl (nx0 K) ew (fun e he => List.all_eq_true.mp t_ok e he) (fun e he => ?_) (fun e he => ?_) (fun g x d h1 h2 => ?_) (fun x hx => ?_) ?_ (fnMk_of F31) 19).imp fun vs H Q E h => spL_imp h⟩
  · simp only [T, List.mem_cons, List.not_mem_nil, or_false] at he
    rcases he with rfl | rfl | rfl | rfl | rfl | rfl | rfl | rfl | rfl | rfl | rfl | rfl | rfl | rfl | rfl | rfl | rfl | rfl | rfl | rfl | rfl | rfl | rfl | rfl | rfl | rfl | rfl | rfl | rfl | rfl | rfl | rfl <;> rfl
  · simp only [T, List.mem_cons, List.not_mem_nil, or_false] at he
    rcases he with rfl | rfl | rfl | rfl | rfl | rfl | rfl | rfl | rfl | rfl | rfl | rfl | rfl | rfl | rfl | rfl | rfl | rfl | rfl | rfl | rfl | rfl | rfl | rfl | rfl | rfl | rfl | rfl | rfl | rfl | rfl | rfl
    · exact ent_at F0 (PySem.W.mg_of X G a0) rfl b0
    · exact ent_at F1 (PySem.W.mg_of X G a1) rfl b1
    · exact ent_at F2 (PySem.W.mg_of X G a2) rfl b2
    · exact ent_at F3 (PySem.W.mg_of X G a3) rfl b3
    · exact ent_at F4 (PySem.W.mg_of X G a4) rfl b4
    · exact ent_at F5 (PySem.W.mg_of X G a5) rfl b5
    · exact ent_at F6 (PySem.W.mg_of X G a6) rfl b6
    · exact ent_at F7 (PySem.W.mg_of X G a7) rfl b7
    · exact ent_at F8 (PySem.W.mg_of X G a8) rfl b8
    · exact ent_at F9 (PySem.W.mg_of X G a9) rfl b9
    · exact ent_at F10 (PySem.W.mg_of X G a10) rfl b10
    · exact ent_at F11 (PySem.W.mg_of X G a11) rfl b11
    · exact ent_at F12 (PySem.W.mg_of X G a12) rfl b12
    · exact ent_at F13 (PySem.W.mg_of X G a13) rfl b13
    · exact ent_at F14 (PySem.W.mg_of X G a14) rfl b14
    · exact ent_at F15 (PySem.W.mg_of X G a15) rfl b15
    · exact ent_atD F16 (PySem.W.mg_of X G a16) (fun _ => (.cons .non .nil)) b16 (by decide +kernel)
    · exact ent_at F17 (PySem.W.mg_of X G a17) rfl b17
    · exact ent_at F18 (PySem.W.mg_of X G a18) rfl b18
    · exact ent_at F19 (PySem.W.mg_of X G a19) rfl b19
    · exact ent_at F20 (PySem.W.mg_of X G a20) rfl b20
    · exact ent_at F21 (PySem.W.mg_of X G a21) rfl b21
    · exact ent_at F22 (PySem.W.mg_of X G a22) rfl b22
    · exact ent_at F23 (PySem.W.mg_of X G a23) rfl b23
    · exact ent_at F24 (PySem.W.mg_of X G a24) rfl b24
    · exact ent_at F25 (PySem.W.mg_of X G a25) rfl b25
    · exact ent_at F26 (PySem.W.mg_of X G a26) rfl b26
    · exact ent_at F27 (PySem.W.mg_of X G a27) rfl b27
    · exact ent_at F28 (PySem.W.mg_of X G a28) rfl b28
    · exact ent_at F29 (PySem.W.mg_of X G a29) rfl b29
    · exact ent_at F30 (PySem.W.mg_of X G a30) rfl b30
    · exact ent_at F31 (PySem.W.mg_of X G a31) rfl b31
  · rcases g with _ | _ | _ | _ | g
    · cases h1; cases h2
      obtain ⟨v, q1, q2⟩ := hr0
      exact ⟨v, _, PySem.W.mg_of X G hg0, q1, q2⟩
    · cases h1; cases h2
      obtain ⟨v, q1, q2⟩ := hr1
      exact ⟨v, _, PySem.W.mg_of X G hg1, q1, q2⟩
    · cases h1; cases h2
      obtain ⟨v, q1, q2⟩ := hr2
      exact ⟨v, _, PySem.W.mg_of X G hg2, q1, q2⟩
    · cases h1; cases h2
      obtain ⟨v, q1, q2⟩ := hr3
      exact ⟨v, _, PySem.W.mg_of X G hg3, q1, q2⟩
    · cases h1
  · simp only [blts, List.mem_cons, List.not_mem_nil, or_false] at hx
    rcases hx with rfl | rfl | rfl | rfl | rfl | rfl | rfl | rfl | rfl | rfl | rfl | rfl | rfl | rfl | rfl | rfl | rfl | rfl | rfl | rfl
    · exact PySem.W.mg_none_of X G z0
    · exact PySem.W.mg_none_of X G z1
    · exact PySem.W.mg_none_of X G z2
    · exact PySem.W.mg_none_of X G z3
    · exact PySem.W.mg_none_of X G z4
    · exact PySem.W.mg_none_of X G z5
    · exact PySem.W.mg_none_of X G z6
    · exact PySem.W.mg_none_of X G z7
    · exact PySem.W.mg_none_of X G z8
    · exact PySem.W.mg_none_of X G z9
    · exact PySem.W.mg_none_of X G z10
    · exact PySem.W.mg_none_of X G z11
    · exact PySem.W.mg_none_of X G z12
    · exact PySem.W.mg_none_of X G z13
    · exact PySem.W.mg_none_of X G z14
    · exact PySem.W.mg_none_of X G z15
    · exact PySem.W.mg_none_of X G z16
    · exact PySem.W.mg_none_of X G z17
    · exact PySem.W.mg_none_of X G z18
    · exact PySem.W.mg_none_of X G z19
  · simp [T]
end C87
open PySem PySem.W PyProof.Rows in
set_option maxHeartbeats 0 in
theorem PySem.Challenge.cw_manycounts_k87_whole_products_holds : PySem.Challenge.rw_manycounts_k87_whole_products.Holds := by
  w_on; o_law; k_head; (case hw => w_witness2)
  k_fill
  refine L2.walk_of (l := PySem.Challenge.rw_manycounts_k87_whole_products) (n := 63) (k := 20) (x := "_law_script") (CX := fun w => L2.CX PySem.Challenge.rw_manycounts_k87_whole_products.prog w) (sp := fun w => VL.spL _ 1 (VL.fnF C87.cd C87.gl 20 31)) rfl (by decide) rfl ⟨rfl, by decide, by decide⟩ (fun w h Y => PySem.W.kIn_of Y) ?F (fun _ _ a ns hl _ hS => VL.spL_law (C87.plain ns hl) hS) (fun _ _ _ _ _ h => VL.cx_no h)
  case F =>
    intro w mg fa h KX G hmg
    refine' C87.all_mk KX G hmg ?a0 ?l0 ?c0 ?k0 ?a1 ?l1 ?c1 ?k1 ?a2 ?l2 ?c2 ?k2 ?a3 ?l3 ?c3 ?k3 ?a4 ?l4 ?c4 ?k4 ?a5 ?l5 ?c5 ?k5 ?a6 ?l6 ?c6 ?k6 ?a7 ?l7 ?c7 ?k7 ?a8 ?l8 ?c8 ?k8 ?a9 ?l9 ?c9 ?k9 ?a10 ?l10 ?c10 ?k10 ?a11 ?l11 ?c11 ?k11 ?a12 ?l12 ?c12 ?k12 ?a13 ?l13 ?c13 ?k13 ?a14 ?l14 ?c14 ?k14 ?a15 ?l15 ?c15 ?k15 ?a16 ?l16 ?c16 ?k16 ?t16 ?a17 ?l17 ?c17 ?k17 ?a18 ?l18 ?c18 ?k18 ?a19 ?l19 ?c19 ?k19 ?a20 ?l20 ?c20 ?k20 ?a21 ?l21 ?c21 ?k21 ?a22 ?l22 ?c22 ?k22 ?a23 ?l23 ?c23 ?k23 ?a24 ?l24 ?c24 ?k24 ?a25 ?l25 ?c25 ?k25 ?a26 ?l26 ?c26 ?k26 ?a27 ?l27 ?c27 ?k27 ?a28 ?l28 ?c28 ?k28 ?a29 ?l29 ?c29 ?k29 ?a30 ?l30 ?c30 ?k30 ?a31 ?l31 ?c31 ?k31 ?hg0 ?hr0 ?hg1 ?hr1 ?hg2 ?u2_0 ?u2_1 ?u2_2 ?hg3 ?u3_0 ?u3_1 ?u3_2 ?ca2 ?ca4 ?ca1 ?ca3 ?xhn ?xht ?xx2 ?xk2 ?xb2 ?xt2 ?xg2 ?xa2 ?xd2 ?xc2 ?xm2 ?xv2 ?y2_2 ?e2_2 ?y2_4 ?e2_4 ?y2_1 ?e2_1 ?y2_3 ?e2_3 ?xx4 ?xk4 ?xb4 ?xt4 ?xg4 ?xa4 ?xd4 ?xc4 ?xm4 ?xv4 ?y4_2 ?e4_2 ?y4_4 ?e4_4 ?y4_1 ?e4_1 ?y4_3 ?e4_3 ?xx1 ?xk1 ?xb1 ?xt1 ?xg1 ?xa1 ?xd1 ?xc1 ?xm1 ?xv1 ?y1_2 ?e1_2 ?y1_4 ?e1_4 ?y1_1 ?e1_1 ?y1_3 ?e1_3 ?xx3 ?xk3 ?xb3 ?xt3 ?xg3 ?xa3 ?xd3 ?xc3 ?xm3 ?xv3 ?y3_2 ?e3_2 ?y3_4 ?e3_4 ?y3_1 ?e3_1 ?y3_3 ?e3_3 ?z0 ?z1 ?z2 ?z3 ?z4 ?z5 ?z6 ?z7 ?z8 ?z9 ?z10 ?z11 ?z12 ?z13 ?z14 ?z15 ?z16 ?z17 ?z18 ?z19
    (case a0 => k_is); (case l0 => k_is); (case c0 => k_is); (case k0 => k_is); (case a1 => k_is); (case l1 => k_is); (case c1 => k_is); (case k1 => k_is); (case a2 => k_is); (case l2 => k_is); (case c2 => k_is); (case k2 => k_is); (case a3 => k_is); (case l3 => k_is); (case c3 => k_is); (case k3 => k_is); (case a4 => k_is); (case l4 => k_is); (case c4 => k_is); (case k4 => k_is); (case a5 => k_is); (case l5 => k_is); (case c5 => k_is); (case k5 => k_is); (case a6 => k_is); (case l6 => k_is); (case c6 => k_is); (case k6 => k_is); (case a7 => k_is); (case l7 => k_is); (case c7 => k_is); (case k7 => k_is); (case a8 => k_is); (case l8 => k_is); (case c8 => k_is); (case k8 => k_is); (case a9 => k_is); (case l9 => k_is); (case c9 => k_is); (case k9 => k_is); (case a10 => k_is); (case l10 => k_is); (case c10 => k_is); (case k10 => k_is); (case a11 => k_is); (case l11 => k_is); (case c11 => k_is); (case k11 => k_is); (case a12 => k_is); (case l12 => k_is); (case c12 => k_is); (case k12 => k_is); (case a13 => k_is); (case l13 => k_is); (case c13 => k_is); (case k13 => k_is); (case a14 => k_is); (case l14 => k_is); (case c14 => k_is); (case k14 => k_is); (case a15 => k_is); (case l15 => k_is); (case c15 => k_is); (case k15 => k_is); (case a16 => k_is); (case l16 => k_is); (case c16 => k_is); (case k16 => k_is); (case t16 => k_is); (case a17 => k_is); (case l17 => k_is); (case c17 => k_is); (case k17 => k_is); (case a18 => k_is); (case l18 => k_is); (case c18 => k_is); (case k18 => k_is); (case a19 => k_is); (case l19 => k_is); (case c19 => k_is); (case k19 => k_is); (case a20 => k_is); (case l20 => k_is); (case c20 => k_is); (case k20 => k_is); (case a21 => k_is); (case l21 => k_is); (case c21 => k_is); (case k21 => k_is); (case a22 => k_is); (case l22 => k_is); (case c22 => k_is); (case k22 => k_is); (case a23 => k_is); (case l23 => k_is); (case c23 => k_is); (case k23 => k_is); (case a24 => k_is); (case l24 => k_is); (case c24 => k_is); (case k24 => k_is); (case a25 => k_is); (case l25 => k_is); (case c25 => k_is); (case k25 => k_is); (case a26 => k_is); (case l26 => k_is); (case c26 => k_is); (case k26 => k_is); (case a27 => k_is); (case l27 => k_is); (case c27 => k_is); (case k27 => k_is); (case a28 => k_is); (case l28 => k_is); (case c28 => k_is); (case k28 => k_is); (case a29 => k_is); (case l29 => k_is); (case c29 => k_is); (case k29 => k_is); (case a30 => k_is); (case l30 => k_is); (case c30 => k_is); (case k30 => k_is); (case a31 => k_is); (case l31 => k_is); (case c31 => k_is); (case k31 => k_is); (case hg0 => k_is); (case hg1 => k_is); (case hg2 => k_is); (case u2_0 => k_is); (case u2_1 => k_is); (case u2_2 => k_is); (case hg3 => k_is); (case u3_0 => k_is); (case u3_1 => k_is); (case u3_2 => k_is); (case ca2 => k_is); (case ca4 => k_is); (case ca1 => k_is); (case ca3 => k_is); (case xhn => k_is); (case xht => k_is); (case xx2 => k_exc); (case xk2 => k_is); (case xb2 => k_is); (case xt2 => k_is); (case xg2 => k_is); (case xa2 => k_is); (case xd2 => k_is); (case xc2 => k_is); (case xm2 => k_is); (case xv2 => first | k_is | decide +kernel | rfl); (case y2_2 => first | k_is | decide +kernel | rfl); (case e2_2 => first | k_is | decide +kernel | rfl); (case y2_4 => first | k_is | decide +kernel | rfl); (case e2_4 => first | k_is | decide +kernel | rfl); (case y2_1 => first | k_is | decide +kernel | rfl); (case e2_1 => first | k_is | decide +kernel | rfl); (case y2_3 => first | k_is | decide +kernel | rfl); (case e2_3 => first | k_is | decide +kernel | rfl); (case xx4 => k_exc); (case xk4 => k_is); (case xb4 => k_is); (case xt4 => k_is); (case xg4 => k_is); (case xa4 => k_is); (case xd4 => k_is); (case xc4 => k_is); (case xm4 => k_is); (case xv4 => first | k_is | decide +kernel | rfl); (case y4_2 => first | k_is | decide +kernel | rfl); (case e4_2 => first | k_is | decide +kernel | rfl); (case y4_4 => first | k_is | decide +kernel | rfl); (case e4_4 => first | k_is | decide +kernel | rfl); (case y4_1 => first | k_is | decide +kernel | rfl); (case e4_1 => first | k_is | decide +kernel | rfl); (case y4_3 => first | k_is | decide +kernel | rfl); (case e4_3 => first | k_is | decide +kernel | rfl); (case xx1 => k_exc); (case xk1 => k_is); (case xb1 => k_is); (case xt1 => k_is); (case xg1 => k_is); (case xa1 => k_is); (case xd1 => k_is); (case xc1 => k_is); (case xm1 => k_is); (case xv1 => first | k_is | decide +kernel | rfl); (case y1_2 => first | k_is | decide +kernel | rfl); (case e1_2 => first | k_is | decide +kernel | rfl); (case y1_4 => first | k_is | decide +kernel | rfl); (case e1_4 => first | k_is | decide +kernel | rfl); (case y1_1 => first | k_is | decide +kernel | rfl); (case e1_1 => first | k_is | decide +kernel | rfl); (case y1_3 => first | k_is | decide +kernel | rfl); (case e1_3 => first | k_is | decide +kernel | rfl); (case xx3 => k_exc); (case xk3 => k_is); (case xb3 => k_is); (case xt3 => k_is); (case xg3 => k_is); (case xa3 => k_is); (case xd3 => k_is); (case xc3 => k_is); (case xm3 => k_is); (case xv3 => first | k_is | decide +kernel | rfl); (case y3_2 => first | k_is | decide +kernel | rfl); (case e3_2 => first | k_is | decide +kernel | rfl); (case y3_4 => first | k_is | decide +kernel | rfl); (case e3_4 => first | k_is | decide +kernel | rfl); (case y3_1 => first | k_is | decide +kernel | rfl); (case e3_1 => first | k_is | decide +kernel | rfl); (case y3_3 => first | k_is | decide +kernel | rfl); (case e3_3 => first | k_is | decide +kernel | rfl); (case z0 => k_is); (case z1 => k_is); (case z2 => k_is); (case z3 => k_is); (case z4 => k_is); (case z5 => k_is); (case z6 => k_is); (case z7 => k_is); (case z8 => k_is); (case z9 => k_is); (case z10 => k_is); (case z11 => k_is); (case z12 => k_is); (case z13 => k_is); (case z14 => k_is); (case z15 => k_is); (case z16 => k_is); (case z17 => k_is); (case z18 => k_is); (case z19 => k_is); (case hr0 => exact ⟨.int 8, ⟨_, rfl⟩, fun _ => .int _⟩); (case hr1 => exact ⟨.int 9, ⟨_, rfl⟩, fun _ => .int _⟩)

