import PyProof.Rows.All
import Wide.All
import OpenK.AllK
import Wide.FinOn
import HandS.ForSpec
import HandS.Comp
import HandS.Dict
import HandS.Iter
import HandS.Text
import HandS.DictComp
import HandS.Deep
import HandS.TupAny
import HandS.Wide
import HandS.IsInst
import HandS.Codes
import HandS.ExcInit
import HandS.TryMany
import HandS.ExcField
import KE.DataMinMax
import KE.SortData
import KE.KExcSuper
import KE.GoesEnum
import KE.GoesMore
import KE.KSuper
import HandS.TupLe
import HandS.SortOrd
import HandS.HeadHook2
import HandS.HeadEnd
import HandS.Head2
import HandS.Head1
import HandS.Head0
import PySem.Challenge.RW_graftbook_k56_whole_normal_forms
set_option Elab.async false
set_option linter.all false
set_option maxRecDepth 100000
set_option maxHeartbeats 4000000
/-! The data layer: values as data over tracked cells; states of pure defs. -/
namespace G
open PySem L2

/-! ### data over tracked cells -/
def kvz (ks : List Int) (vs : List V) : List (Key × V) := List.zipWith (fun k v => ((Sum.inl k : Key), v)) ks vs
def kdz (ks : List Int) (ds : List PyData) : List (PyData × PyData) := List.zipWith (fun k d => (PyData.int k, d)) ks ds
mutual
inductive Rp (H : Hp) : V → PyData → Prop
  | non : Rp H .non .none
  | bl (b : Bool) : Rp H (.bl b) (.bool b)
  | int (i : Int) : Rp H (.int i) (.int i)
  | str (x : Str) : Rp H (.str x) (.str x)
  | lst {a : Addr} {vs : List V} {ds : List PyData} : H a = some (.lst vs) → RpAll H vs ds → Rp H (.ref a) (.list ds)
  | tup {a : Addr} {vs : List V} {ds : List PyData} : H a = some (.tup vs) → RpAll H vs ds → Rp H (.ref a) (.tuple ds)
  | dct {a : Addr} {ks : List Int} {vs : List V} {ds : List PyData} {kvd : List (PyData × PyData)} : H a = some (.dK (kvz ks vs)) → ks.length = vs.length → RpAll H vs ds → kvd = kdz ks ds → Rp H (.ref a) (.dict kvd)
inductive RpAll (H : Hp) : List V → List PyData → Prop
  | nil : RpAll H [] []
  | cons {v : V} {vs : List V} {d : PyData} {ds : List PyData} : Rp H v d → RpAll H vs ds → RpAll H (v :: vs) (d :: ds)
end
section
variable {H H' : Hp}
mutual
theorem Rp.same (e : Same H H') : ∀ {v : V} {d : PyData}, Rp H v d → Rp H' v d
  | _, _, .non => .non
  | _, _, .bl b => .bl b
  | _, _, .int i => .int i
  | _, _, .str x => .str x
  | _, _, .lst h r => .lst (e _ _ h) (RpAll.same e r)
  | _, _, .tup h r => .tup (e _ _ h) (RpAll.same e r)
  | _, _, .dct h l r z => .dct (e _ _ h) l (RpAll.same e r) z
theorem RpAll.same (e : Same H H') : ∀ {vs : List V} {ds : List PyData}, RpAll H vs ds → RpAll H' vs ds
  | _, _, .nil => .nil
  | _, _, .cons h r => .cons (Rp.same e h) (RpAll.same e r)
end
theorem RpAll.length : ∀ {vs : List V} {ds : List PyData}, RpAll H vs ds → vs.length = ds.length
  | _, _, .nil => rfl
  | _, _, .cons _ r => congrArg Nat.succ r.length
theorem RpAll.get : ∀ {vs : List V} {ds : List PyData} {i : Nat} {d : PyData}, RpAll H vs ds → ds[i]? = some d → ∃ v, vs[i]? = some v ∧ Rp H v d
  | _, _, _, _, .nil, e => by simp at e
  | _, _, 0, _, .cons h _, e => by simp at e; subst e; exact ⟨_, rfl, h⟩
  | _, _, i + 1, _, .cons _ r, e => by
    obtain ⟨v, h1, h2⟩ := RpAll.get (i := i) r (by simpa using e)
    exact ⟨v, by simpa using h1, h2⟩
theorem RpAll.getV : ∀ {vs : List V} {ds : List PyData} {i : Nat} {v : V}, RpAll H vs ds → vs[i]? = some v → ∃ d, ds[i]? = some d ∧ Rp H v d
  | _, _, _, _, .nil, e => by simp at e
  | _, _, 0, _, .cons h _, e => by simp at e; subst e; exact ⟨_, rfl, h⟩
  | _, _, i + 1, _, .cons _ r, e => by
    obtain ⟨v, h1, h2⟩ := RpAll.getV (i := i) r (by simpa using e)
    exact ⟨v, by simpa using h1, h2⟩
theorem RpAll.append : ∀ {vs us : List V} {ds es : List PyData}, RpAll H vs ds → RpAll H us es → RpAll H (vs ++ us) (ds ++ es)
  | _, _, _, _, .nil, s => s
  | _, _, _, _, .cons h r, s => .cons h (r.append s)
theorem RpAll.take : ∀ {vs : List V} {ds : List PyData} (n : Nat), RpAll H vs ds → RpAll H (vs.take n) (ds.take n)
  | _, _, 0, _ => .nil
  | _, _, _ + 1, .nil => .nil
  | _, _, n + 1, .cons h r => .cons h (r.take n)
theorem RpAll.drop : ∀ {vs : List V} {ds : List PyData} (n : Nat), RpAll H vs ds → RpAll H (vs.drop n) (ds.drop n)
  | _, _, 0, r => r
  | _, _, _ + 1, .nil => .nil
  | _, _, n + 1, .cons _ r => r.drop n
theorem RpAll.set {v : V} {d : PyData} (h : Rp H v d) : ∀ {vs : List V} {ds : List PyData} (i : Nat), RpAll H vs ds → RpAll H (vs.set i v) (ds.set i d)
  | _, _, _, .nil => .nil
  | _, _, 0, .cons _ r => .cons h r
  | _, _, i + 1, .cons h' r => .cons h' (r.set h i)
theorem RpAll.erase : ∀ {vs : List V} {ds : List PyData} (i : Nat), RpAll H vs ds → RpAll H (vs.eraseIdx i) (ds.eraseIdx i)
  | _, _, _, .nil => .nil
  | _, _, 0, .cons _ r => r
  | _, _, i + 1, .cons h' r => .cons h' (r.erase i)
theorem RpAll.one {v : V} {d : PyData} (h : Rp H v d) : RpAll H [v] [d] := .cons h .nil
theorem RpAll.ints : ∀ (ns : List Int), RpAll H (ns.map V.int) (ns.map PyData.int)
  | [] => .nil
  | n :: r => .cons (.int n) (RpAll.ints r)
theorem RpAll.ints_inv : ∀ {vs : List V} {ns : List Int}, RpAll H vs (ns.map PyData.int) → vs = ns.map V.int
  | _, [], r => by
    have r' : RpAll H _ [] := r
    cases r'; rfl
  | _, n :: ns, r => by
    have r' : RpAll H _ (.int n :: ns.map PyData.int) := r
    cases r' with
    | cons h t => cases h; rw [RpAll.ints_inv t]; rfl
theorem RpAll.bools_inv : ∀ {vs : List V} {bs : List Bool}, RpAll H vs (bs.map PyData.bool) → vs = bs.map V.bl
  | _, [], r => by
    have r' : RpAll H _ [] := r
    cases r'; rfl
  | _, n :: ns, r => by
    have r' : RpAll H _ (.bool n :: ns.map PyData.bool) := r
    cases r' with
    | cons h t => cases h; rw [RpAll.bools_inv t]; rfl
theorem RpAll.strs_inv : ∀ {vs : List V} {xs : List Str}, RpAll H vs (xs.map PyData.str) → vs = xs.map V.str
  | _, [], r => by
    have r' : RpAll H _ [] := r
    cases r'; rfl
  | _, n :: ns, r => by
    have r' : RpAll H _ (.str n :: ns.map PyData.str) := r
    cases r' with
    | cons h t => cases h; rw [RpAll.strs_inv t]; rfl
/-- an item by a Python place -/
theorem RpAll.atI {vs : List V} {ds : List PyData} {i : Int} {d : PyData} (r : RpAll H vs ds) (e : atI ds i = some d) : ∃ v, L2.atI vs i = some v ∧ Rp H v d := by
  unfold L2.atI at e ⊢
  rw [r.length]
  cases q : ixN ds.length i with
  | none => rw [q] at e; cases e
  | some j =>
    rw [q] at e
    exact r.get (i := j) e
/-! to the layer's own word, no dict inside -/
mutual
theorem Rp.dp {K : PySem.W.Frag} : ∀ (d : PyData) (v : V), PyData.canLay0 d = true → Rp H v d → Dp K H v d
  | .none, _, _, h => by cases h; exact .non
  | .bool b, _, _, h => by cases h; exact .bl b
  | .int i, _, _, h => by cases h; exact .int i
  | .str x, _, _, h => by cases h; exact .str x
  | .list ds, _, c, h => by
    cases h with
    | lst h r => exact .lst (SqL.of h) (RpAll.dp ds _ (by simpa [PyData.canLay0] using c) r)
  | .tuple ds, _, c, h => by
    cases h with
    | tup h r => exact .tup (SqT.of h) (RpAll.dp ds _ (by simpa [PyData.canLay0] using c) r)
  | .dict _, _, c, _ => by simp [PyData.canLay0] at c
theorem RpAll.dp {K : PySem.W.Frag} : ∀ (ds : List PyData) (vs : List V), PyData.canLayAll0 ds = true → RpAll H vs ds → DpAll K H vs ds
  | [], _, _, h => by cases h; exact .nil
  | d :: ds, _, c, h => by
    have c' : PyData.canLay0 d = true ∧ PyData.canLayAll0 ds = true := by simpa [PyData.canLayAll0] using c
    cases h with
    | cons h1 h2 => exact .cons (Rp.dp d _ c'.1 h1) (RpAll.dp ds _ c'.2 h2)
end
end
theorem shaped_lay {d : PyData} (h : SeqAt.shaped d = true) : PyData.canLay0 d = true := by
  unfold SeqAt.shaped at h
  simp only [Bool.and_eq_true] at h
  exact h.1

/-! ### the shared part of a heap -/
def shr (O : Addr → Bool) (H : Hp) : Hp := fun a => if O a = true then none else H a
theorem shr_sub (O : Addr → Bool) (H : Hp) : Same (shr O H) H := fun a o h => by
  unfold shr at h
  by_cases c : O a = true
  · rw [if_pos c] at h; cases h
  · rw [if_neg c] at h; exact h
theorem shr_same {O : Addr → Bool} {H H' : Hp} (e : Same H H') : Same (shr O H) (shr O H') := fun a o h => by
  unfold shr at h ⊢
  by_cases c : O a = true
  · rw [if_pos c] at h; cases h
  · rw [if_neg c] at h ⊢; exact e a o h
theorem shr_at {O : Addr → Bool} {H : Hp} {a : Addr} {o : HO} (h : H a = some o) (c : O a = false) : shr O H a = some o := by
  unfold shr; rw [c]; exact h
theorem shr_mono {O O' : Addr → Bool} {H : Hp} (h : ∀ a, O' a = true → O a = true) : Same (shr O H) (shr O' H) := fun a o e => by
  unfold shr at e ⊢
  by_cases c : O a = true
  · rw [if_pos c] at e; cases e
  · rw [if_neg c] at e
    by_cases c' : O' a = true
    · exact absurd (h a c') c
    · rw [if_neg c']; exact e
/-- a write at an owned place -/
theorem shr_upd {O : Addr → Bool} {H : Hp} {l : Addr} {o : HO} (h : O l = true) : shr O (upd H l o) = shr O H := by
  funext a
  unfold shr
  by_cases c : O a = true
  · rw [if_pos c, if_pos c]
  · rw [if_neg c, if_neg c]
    exact upd_ne fun e => c (by rw [e]; exact h)
theorem same_new {H : Hp} {p : Addr} {o : HO} (h : H p = none) : Same H (upd H p o) := fun b u q => by rw [upd_ne (ne_of_none q h)]; exact q

/-- kept but at the writable places -/
def Kp (N : Addr → Bool) (B H : Hp) : Prop := ∀ a o, N a = false → B a = some o → H a = some o
theorem Kp.refl {N : Addr → Bool} {B : Hp} : Kp N B B := fun _ _ _ h => h
theorem Kp.trans {N : Addr → Bool} {A B C : Hp} (a : Kp N A B) (b : Kp N B C) : Kp N A C := fun x o n h => b x o n (a x o n h)
theorem Kp.same {N : Addr → Bool} {B H H' : Hp} (k : Kp N B H) (e : Same H H') : Kp N B H' := fun a o n h => e a o (k a o n h)
theorem Kp.upd {N : Addr → Bool} {B H : Hp} {l : Addr} {o : HO} (k : Kp N B H) (h : N l = true) : Kp N B (upd H l o) := fun a u n e => by
  rw [upd_ne fun q => by rw [q, h] at n; cases n]; exact k a u n e
theorem Kp.wide {N N' : Addr → Bool} {B H : Hp} (k : Kp N B H) (h : ∀ a, N a = true → N' a = true) : Kp N' B H := fun a o n e => k a o (by
  cases q : N a with
  | false => rfl
  | true => rw [h a q] at n; cases n) e

/-! ### states -/
/-- what is known of a slot -/
inductive SD where
  | any | dat (d : PyData) | raw (v : V)
def SlotOk (G : Hp) : Option V → SD → Prop
  | _, .any => True
  | some v, .dat d => Rp G v d
  | none, .dat _ => False
  | o, .raw v => o = some v
/-- what an owned object holds -/
inductive OC where
  | lst (ds : List PyData)
  | dct (ks : List Int) (ds : List PyData)
  | raw (o : HO)
def Holds (G H : Hp) (l : Addr) : OC → Prop
  | .lst ds => ∃ vs, H l = some (.lst vs) ∧ RpAll G vs ds
  | .dct ks ds => ∃ vs, H l = some (.dK (kvz ks vs)) ∧ ks.length = vs.length ∧ RpAll G vs ds
  | .raw o => H l = some o
theorem Holds.same {G H G' H' : Hp} {l : Addr} {c : OC} (h : Holds G H l c) (e : Same H H') (g : Same G G') : Holds G' H' l c := by
  cases c with
  | lst ds => obtain ⟨vs, a, r⟩ := h; exact ⟨vs, e _ _ a, r.same g⟩
  | dct ks ds => obtain ⟨vs, a, z, r⟩ := h; exact ⟨vs, e _ _ a, z, r.same g⟩
  | raw o => exact e _ _ h
/-- the frame of a def's proof: O owned (kept from data), N writable among them, P writable for the caller, O0 owned at the entry, H0 the entry's heap, Bs further heaps that stand -/
structure Fm where
  O : Addr → Bool
  N : Addr → Bool
  P : Addr → Bool
  O0 : Addr → Bool
  H0 : Hp
  Bs : List Hp
def Fm.push (F : Fm) (B : Hp) : Fm := { F with Bs := B :: F.Bs }
def orA (O : Addr → Bool) (l : Addr) : Addr → Bool := fun a => O a || a == l
def Fm.own (F : Fm) (l : Addr) : Fm := { F with O := orA F.O l, N := orA F.N l }
theorem orA_l {O : Addr → Bool} {l a : Addr} (h : O a = true) : orA O l a = true := by unfold orA; rw [h]; rfl
theorem orA_r {O : Addr → Bool} {l : Addr} : orA O l l = true := by unfold orA; simp
theorem orA_cases {O : Addr → Bool} {l a : Addr} (h : orA O l a = true) : O a = true ∨ a = l := by
  unfold orA at h
  simpa using h
structure S (F : Fm) (M : List (Addr × OC)) (δ : List SD) (σ : St) (H : Hp) : Prop where
  sl : Paired (SlotOk (shr F.O H)) σ δ
  dom : ∀ a, F.O a = true → H a ≠ none
  nsub : ∀ a, F.N a = true → F.O a = true
  osub : ∀ a, F.O0 a = true → F.O a = true
  kp0 : Kp F.N F.H0 H
  fr : ∀ a, F.N a = true → F.P a = true ∨ (F.H0 a = none ∧ F.O0 a = false)
  kps : ∀ B ∈ F.Bs, Kp F.N B H
  own : ∀ p ∈ M, F.O p.1 = true ∧ Holds (shr F.O H) H p.1 p.2
  nd : (M.map (·.1)).Nodup

theorem pr_get {α β : Type} {F : α → β → Prop} : ∀ {xs : List α} {ys : List β} {i : Nat} {y : β}, Paired F xs ys → ys[i]? = some y → ∃ x, xs[i]? = some x ∧ F x y
  | _, _, _, _, .nil, e => by simp at e
  | _, _, 0, _, .cons h _, e => by simp at e; subst e; exact ⟨_, rfl, h⟩
  | _, _, i + 1, _, .cons _ r, e => by
    obtain ⟨v, h1, h2⟩ := pr_get (i := i) r (by simpa using e)
    exact ⟨v, by simpa using h1, h2⟩
theorem pr_set {α β : Type} {F : α → β → Prop} {x : α} {y : β} (h : F x y) : ∀ {xs : List α} {ys : List β} (i : Nat), Paired F xs ys → Paired F (xs.set i x) (ys.set i y)
  | _, _, _, .nil => .nil
  | _, _, 0, .cons _ r => .cons h r
  | _, _, i + 1, .cons h' r => .cons h' (pr_set h i r)
theorem SlotOk.same {G G' : Hp} (e : Same G G') {o : Option V} {d : SD} (h : SlotOk G o d) : SlotOk G' o d := by
  cases d with
  | any => cases o <;> trivial
  | dat d => cases o with
    | none => exact h
    | some v => exact Rp.same e h
  | raw v => cases o <;> exact h
theorem SlotOk.to_any {G : Hp} {o : Option V} : SlotOk G o .any := by cases o <;> trivial
section
variable {F : Fm} {M : List (Addr × OC)} {δ δ' : List SD} {σ : St} {H H' : Hp}
theorem S.same (s : S F M δ σ H) (e : Same H H') : S F M δ σ H' where
  sl := Paired.mapP s.sl fun _ _ h => h.same (shr_same e)
  dom := fun a o h => by
    cases q : H a with
    | none => exact s.dom a o q
    | some u => rw [e a u q] at h; cases h
  nsub := s.nsub
  osub := s.osub
  kp0 := s.kp0.same e
  fr := s.fr
  kps := fun B hB => (s.kps B hB).same e
  own := fun p hp => ⟨(s.own p hp).1, (s.own p hp).2.same e (shr_same e)⟩
  nd := s.nd
theorem S.slots (s : S F M δ σ H) {σ' : St} (h : Paired (SlotOk (shr F.O H)) σ' δ') : S F M δ' σ' H :=
  ⟨h, s.dom, s.nsub, s.osub, s.kp0, s.fr, s.kps, s.own, s.nd⟩
theorem S.set (s : S F M δ σ H) {v : V} {d : PyData} (r : Rp (shr F.O H) v d) (i : Nat) : S F M (δ.set i (.dat d)) (σ.set i (some v)) H :=
  s.slots (pr_set (show SlotOk _ (some v) (.dat d) from r) i s.sl)
theorem S.setRaw (s : S F M δ σ H) (v : V) (i : Nat) : S F M (δ.set i (.raw v)) (σ.set i (some v)) H :=
  s.slots (pr_set (show SlotOk (shr F.O H) (some v) (.raw v) from rfl) i s.sl)
theorem S.wipe1 (s : S F M δ σ H) (i : Nat) : S F M (δ.set i .any) (σ.set i none) H :=
  s.slots (pr_set (show SlotOk (shr F.O H) none .any from trivial) i s.sl)
/-- less is known of slots -/
inductive Le : List SD → List SD → Prop
  | nil : Le [] []
  | any {d : SD} {l m : List SD} : Le l m → Le (d :: l) (.any :: m)
  | eq {d : SD} {l m : List SD} : Le l m → Le (d :: l) (d :: m)
theorem Le.refl : ∀ (l : List SD), Le l l
  | [] => .nil
  | _ :: l => .eq (Le.refl l)
theorem le_slots {G : Hp} : ∀ {σ : St} {δ δ' : List SD}, Le δ δ' → Paired (SlotOk G) σ δ → Paired (SlotOk G) σ δ'
  | _, _, _, .nil, h => h
  | _, _, _, .any l, .cons _ r => .cons SlotOk.to_any (le_slots l r)
  | _, _, _, .eq l, .cons h r => .cons h (le_slots l r)
theorem S.le (s : S F M δ σ H) (l : Le δ δ') : S F M δ' σ H := s.slots (le_slots l s.sl)
theorem S.get (s : S F M δ σ H) {i : Nat} {d : PyData} (h : δ[i]? = some (.dat d)) : ∃ v, σ[i]? = some (some v) ∧ Rp (shr F.O H) v d := by
  obtain ⟨o, h1, h2⟩ := pr_get s.sl h
  cases o with
  | none => exact h2.elim
  | some v => exact ⟨v, h1, h2⟩
theorem S.getRaw (s : S F M δ σ H) {i : Nat} {v : V} (h : δ[i]? = some (.raw v)) : σ[i]? = some (some v) := by
  obtain ⟨o, h1, h2⟩ := pr_get s.sl h
  have : o = some v := by cases o <;> exact h2
  rw [this] at h1
  exact h1
theorem S.push (s : S F M δ σ H) : S (F.push H) M δ σ H :=
  ⟨s.sl, s.dom, s.nsub, s.osub, s.kp0, s.fr, fun B hB => (List.mem_cons.mp hB).elim (fun e => by rw [e]; exact Kp.refl) (s.kps B), s.own, s.nd⟩
theorem S.pop {B : Hp} (s : S (F.push B) M δ σ H) : S F M δ σ H :=
  ⟨s.sl, s.dom, s.nsub, s.osub, s.kp0, s.fr, fun B' hB => s.kps B' (List.mem_cons_of_mem _ hB), s.own, s.nd⟩
theorem S.top {B : Hp} (s : S (F.push B) M δ σ H) : Kp F.N B H := s.kps B List.mem_cons_self
/-- what was shared at B is shared still -/
theorem S.shared {B : Hp} (s : S F M δ σ H) (k : Kp F.N B H) : Same (shr F.O B) (shr F.O H) := fun a o h => by
  unfold shr at h ⊢
  by_cases c : F.O a = true
  · rw [if_pos c] at h; cases h
  · rw [if_neg c] at h ⊢
    refine k a o ?_ h
    cases q : F.N a with
    | false => rfl
    | true => exact absurd (s.nsub a q) c
/-- a new object that will be written: it is owned -/
theorem S.newOwn (s : S F M δ σ H) {l : Addr} {o : HO} {c : OC} (hn : H l = none) (hc : Holds (shr F.O H) (upd H l o) l c) : S (F.own l) ((l, c) :: M) δ σ (upd H l o) := by
  have hO : F.O l = false := by
    cases q : F.O l with
    | false => rfl
    | true => exact absurd hn (s.dom l q)
  have e : Same H (upd H l o) := same_new hn
  have es : shr (F.own l).O (upd H l o) = shr F.O H := by
    funext a
    unfold shr
    by_cases ca : a = l
    · subst ca
      rw [if_pos (show (F.own a).O a = true from orA_r)]
      by_cases c2 : F.O a = true
      · rw [if_pos c2]
      · rw [if_neg c2]; exact hn.symm
    · by_cases c2 : F.O a = true
      · rw [if_pos c2, if_pos (show (F.own l).O a = true from orA_l c2)]
      · rw [if_neg c2, if_neg (show ¬ (F.own l).O a = true from fun q => (orA_cases q).elim c2 ca), upd_ne ca]
  have hH0 : F.H0 l = none := by
    cases q : F.H0 l with
    | none => rfl
    | some u =>
      have hN : F.N l = false := by
        cases q2 : F.N l with
        | false => rfl
        | true => rw [s.nsub l q2] at hO; cases hO
      have := s.kp0 l u hN q
      rw [hn] at this; cases this
  have hO0 : F.O0 l = false := by
    cases q : F.O0 l with
    | false => rfl
    | true => rw [s.osub l q] at hO; cases hO
  refine ⟨by rw [es]; exact s.sl, fun a h q => ?_, fun a h => ?_, fun a h => orA_l (s.osub a h), ?_, fun a h => ?_, fun B hB => ?_, fun p hp => ?_, ?_⟩
  · rcases orA_cases h with h | h
    · have hne : a ≠ l := fun z => by rw [z, hO] at h; cases h
      rw [upd_ne hne] at q
      exact s.dom a h q
    · subst h
      rw [upd_same] at q; cases q
  · rcases orA_cases h with h | h
    · exact orA_l (s.nsub a h)
    · subst h; exact orA_r
  · exact (s.kp0.same e).wide fun a h => orA_l h
  · rcases orA_cases h with h | h
    · exact s.fr a h
    · subst h; exact .inr ⟨hH0, hO0⟩
  · exact ((s.kps B hB).same e).wide fun a h => orA_l h
  · rw [es]
    rcases List.mem_cons.mp hp with rfl | hp
    · exact ⟨orA_r, hc⟩
    · refine ⟨orA_l (s.own p hp).1, (s.own p hp).2.same e (Same.refl _)⟩
  · rw [List.map_cons]
    refine List.nodup_cons.mpr ⟨fun hm => ?_, s.nd⟩
    obtain ⟨p, hp, hl⟩ := List.mem_map.mp hm
    have := (s.own p hp).1
    rw [hl, hO] at this; cases this
/-- an owned object is written -/
theorem S.write (s : S F M δ σ H) {l : Addr} {o : HO} {c c' : OC} {j : Nat} (hj : M[j]? = some (l, c)) (hN : F.N l = true) (hc : Holds (shr F.O H) (upd H l o) l c') : S F (M.set j (l, c')) δ σ (upd H l o) := by
  have hO := s.nsub l hN
  have es : shr F.O (upd H l o) = shr F.O H := shr_upd hO
  have hmap : (M.set j (l, c')).map (·.1) = M.map (·.1) := by
    rw [List.map_set]
    obtain ⟨hlt, he⟩ := List.getElem?_eq_some_iff.mp hj
    apply List.ext_getElem?
    intro i
    by_cases hi : i = j
    · subst hi
      rw [List.getElem?_set_self (by rw [List.length_map]; exact hlt), List.getElem?_map, hj]; rfl
    · rw [List.getElem?_set_ne (Ne.symm hi)]
  refine ⟨by rw [es]; exact s.sl, fun a h q => ?_, s.nsub, s.osub, s.kp0.upd hN, s.fr, fun B hB => (s.kps B hB).upd hN, fun p hp => ?_, by rw [hmap]; exact s.nd⟩
  · by_cases ca : a = l
    · subst ca; rw [upd_same] at q; cases q
    · rw [upd_ne ca] at q; exact s.dom a h q
  · rw [es]
    obtain ⟨i, hi⟩ := List.mem_iff_getElem?.mp hp
    by_cases hij : i = j
    · subst hij
      obtain ⟨hlt, _⟩ := List.getElem?_eq_some_iff.mp hj
      rw [List.getElem?_set_self hlt] at hi
      cases hi
      exact ⟨hO, hc⟩
    · rw [List.getElem?_set_ne (Ne.symm hij)] at hi
      have hpm : p ∈ M := List.mem_iff_getElem?.mpr ⟨i, hi⟩
      obtain ⟨h1, h2⟩ := s.own p hpm
      have hne : p.1 ≠ l := fun z => hij (by
        refine nodup_ix' s.nd (x := l) ?_ ?_
        · rw [List.getElem?_map, hi]; exact congrArg some z
        · rw [List.getElem?_map, hj]; rfl)
      refine ⟨h1, ?_⟩
      obtain ⟨pl, pc⟩ := p
      cases pc with
      | lst ds => obtain ⟨vs, a, r⟩ := h2; exact ⟨vs, by rw [upd_ne hne]; exact a, r⟩
      | dct ks ds => obtain ⟨vs, a, z, r⟩ := h2; exact ⟨vs, by rw [upd_ne hne]; exact a, z, r⟩
      | raw o => show upd H l _ pl = some _; rw [upd_ne hne]; exact h2
where
  nodup_ix' {α : Type} {l : List α} (hN : l.Nodup) {i j : Nat} {x : α} (a : l[i]? = some x) (b : l[j]? = some x) : i = j := by
    obtain ⟨h1, e1⟩ := List.getElem?_eq_some_iff.mp a
    obtain ⟨h2, e2⟩ := List.getElem?_eq_some_iff.mp b
    exact (List.getElem_inj hN).mp (e1.trans e2.symm)
end
end G
set_option Elab.async false
set_option linter.all false
set_option maxRecDepth 100000
set_option maxHeartbeats 4000000
/-! The data layer 2: expressions, tests, arguments by data. -/
namespace G
open PySem L2

section
variable (F : Fm) (M : List (Addr × OC)) (δ : List SD)
def Ev (te : TE) (d : PyData) : Prop := ∀ (σ : St) (H : Hp), S F M δ σ H → ∀ Q : VK, (∀ v H', S F M δ σ H' → Same H H' → Rp (shr F.O H') v d → Q v H') → te σ H Q
/-- a value as it is (an owned object) -/
def Er (te : TE) (v : V) : Prop := ∀ (σ : St) (H : Hp), S F M δ σ H → ∀ Q : VK, (∀ H', S F M δ σ H' → Same H H' → Q v H') → te σ H Q
def Et (tt : TT) (b : Bool) : Prop := ∀ (σ : St) (H : Hp), S F M δ σ H → ∀ Q : Bool → Hp → Prop, (∀ H', S F M δ σ H' → Same H H' → Q b H') → tt σ H Q
def Ea (ta : TA) (ds : List PyData) : Prop := ∀ (σ : St) (H : Hp), S F M δ σ H → ∀ Q : List V → Hp → Prop, (∀ vs H', S F M δ σ H' → Same H H' → RpAll (shr F.O H') vs ds → Q vs H') → ta σ H Q
def Eo (to : TO) (o : Option Int) : Prop := ∀ (σ : St) (H : Hp), S F M δ σ H → ∀ Q : Option Int → Hp → Prop, (∀ H', S F M δ σ H' → Same H H' → Q o H') → to σ H Q
end
section
variable {F : Fm} {M : List (Addr × OC)} {δ : List SD} {K : PySem.W.Frag} {ta tb tc te ti : TE} {d e : PyData} {tt tu : TT} {a b : Bool} {i j : Int} {x y : Str}

theorem ev_is {d e : PyData} (h : Ev F M δ te d) (q : d = e) : Ev F M δ te e := q ▸ h
theorem et_is {a b : Bool} (h : Et F M δ tt a) (q : a = b) : Et F M δ tt b := q ▸ h
theorem ev_var {i : Nat} (h : δ[i]? = some (.dat d)) : Ev F M δ (tVar i) d := fun σ H s Q q => by
  obtain ⟨v, h1, h2⟩ := s.get h
  exact ⟨v, h1, q v H s (Same.refl H) h2⟩
theorem er_var {i : Nat} {v : V} (h : δ[i]? = some (.raw v)) : Er F M δ (tVar i) v := fun σ H s Q q => ⟨v, s.getRaw h, q H s (Same.refl H)⟩
theorem ev_int : Ev F M δ (tC (.int i)) (.int i) := fun σ H s Q q => q _ H s (Same.refl H) (.int i)
theorem ev_bl : Ev F M δ (tC (.bl b)) (.bool b) := fun σ H s Q q => q _ H s (Same.refl H) (.bl b)
theorem ev_non : Ev F M δ (tC .non) .none := fun σ H s Q q => q _ H s (Same.refl H) .non
theorem ev_str : Ev F M δ (tC (.str x)) (.str x) := fun σ H s Q q => q _ H s (Same.refl H) (.str x)

/-! operators on two values that need no heap -/
/-- the rule r gives z on x and y -/
def R2V (r : R2) (x y z : V) : Prop := ∀ (H : Hp) (Q : VK), Q z H → r x y H Q
theorem rp_scal {G : Hp} {v : V} {d : PyData} (h : Rp G v d) : (∀ i, d = .int i → v = .int i) ∧ (∀ b, d = .bool b → v = .bl b) ∧ (∀ x, d = .str x → v = .str x) ∧ (d = .none → v = .non) := by
  refine ⟨fun i e => ?_, fun b e => ?_, fun x e => ?_, fun e => ?_⟩ <;> subst e <;> cases h <;> rfl
theorem Rp.int_inv {G : Hp} {v : V} (h : Rp G v (.int i)) : v = .int i := (rp_scal h).1 _ rfl
theorem Rp.bl_inv {G : Hp} {v : V} (h : Rp G v (.bool b)) : v = .bl b := (rp_scal h).2.1 _ rfl
theorem Rp.str_inv {G : Hp} {v : V} (h : Rp G v (.str x)) : v = .str x := (rp_scal h).2.2.1 _ rfl
theorem Rp.non_inv {G : Hp} {v : V} (h : Rp G v .none) : v = .non := (rp_scal h).2.2.2 rfl
theorem Rp.tup_inv {G : Hp} {v : V} {ds : List PyData} (h : Rp G v (.tuple ds)) : ∃ a vs, v = .ref a ∧ G a = some (.tup vs) ∧ RpAll G vs ds := by
  cases h with
  | tup h r => exact ⟨_, _, rfl, h, r⟩
theorem Rp.lst_inv {G : Hp} {v : V} {ds : List PyData} (h : Rp G v (.list ds)) : ∃ a vs, v = .ref a ∧ G a = some (.lst vs) ∧ RpAll G vs ds := by
  cases h with
  | lst h r => exact ⟨_, _, rfl, h, r⟩
theorem Rp.nonref {G : Hp} {v : V} (h : Rp G v d) : v = .non ↔ d = .none := by
  cases h <;> simp
/-- two ints to an int -/
theorem ev_ii {r : R2} {k : Int} (ha : Ev F M δ ta (.int i)) (hb : Ev F M δ tb (.int j)) (hr : R2V r (.int i) (.int j) (.int k)) : Ev F M δ (tOp r ta tb) (.int k) := fun σ H s Q q => by
  refine ha σ H s _ fun v H1 s1 e1 r1 => hb σ H1 s1 _ fun u H2 s2 e2 r2 => ?_
  rw [r1.int_inv, r2.int_inv]
  exact hr H2 Q (q _ H2 s2 (e1.trans e2) (.int k))
theorem ev_ib {r : R2} {k : Bool} (ha : Ev F M δ ta (.int i)) (hb : Ev F M δ tb (.int j)) (hr : R2V r (.int i) (.int j) (.bl k)) : Ev F M δ (tOp r ta tb) (.bool k) := fun σ H s Q q => by
  refine ha σ H s _ fun v H1 s1 e1 r1 => hb σ H1 s1 _ fun u H2 s2 e2 r2 => ?_
  rw [r1.int_inv, r2.int_inv]
  exact hr H2 Q (q _ H2 s2 (e1.trans e2) (.bl k))
theorem r2_I0 {g : Int → Int → V} : R2V (rI0 g) (.int i) (.int j) (g i j) := fun H Q q => ⟨i, j, rfl, rfl, q⟩
theorem r2_I {C : Int → Int → Prop} {g : Int → Int → V} (c : C i j) : R2V (rI C g) (.int i) (.int j) (g i j) := fun H Q q => ⟨i, j, rfl, rfl, c, q⟩
theorem ev_add (ha : Ev F M δ ta (.int i)) (hb : Ev F M δ tb (.int j)) : Ev F M δ (tOp (rI0 fun i j => .int (i + j)) ta tb) (.int (i + j)) := ev_ii ha hb r2_I0
theorem ev_sub (ha : Ev F M δ ta (.int i)) (hb : Ev F M δ tb (.int j)) : Ev F M δ (tOp (rI0 fun i j => .int (i - j)) ta tb) (.int (i - j)) := ev_ii ha hb r2_I0
theorem ev_lt (ha : Ev F M δ ta (.int i)) (hb : Ev F M δ tb (.int j)) : Ev F M δ (tOp (rI0 fun i j => .bl (decide (i < j))) ta tb) (.bool (decide (i < j))) := ev_ib ha hb r2_I0
theorem ev_le (ha : Ev F M δ ta (.int i)) (hb : Ev F M δ tb (.int j)) : Ev F M δ (tOp (rI0 fun i j => .bl (decide (i ≤ j))) ta tb) (.bool (decide (i ≤ j))) := ev_ib ha hb r2_I0
theorem ev_gt (ha : Ev F M δ ta (.int i)) (hb : Ev F M δ tb (.int j)) : Ev F M δ (tOp (rI0 fun i j => .bl (decide (j < i))) ta tb) (.bool (decide (j < i))) := ev_ib ha hb r2_I0
theorem ev_ge (ha : Ev F M δ ta (.int i)) (hb : Ev F M δ tb (.int j)) : Ev F M δ (tOp (rI0 fun i j => .bl (decide (j ≤ i))) ta tb) (.bool (decide (j ≤ i))) := ev_ib ha hb r2_I0
theorem ev_mul (ha : Ev F M δ ta (.int i)) (hb : Ev F M δ tb (.int j)) (c : CMul i j) : Ev F M δ (tOp (rI CMul fun i j => .int (i * j)) ta tb) (.int (i * j)) := ev_ii ha hb (r2_I c)
theorem ev_mod (ha : Ev F M δ ta (.int i)) (hb : Ev F M δ tb (.int j)) (c : 0 < j) : Ev F M δ (tOp (rI (fun _ j => 0 < j) fun i j => .int (i % j)) ta tb) (.int (i % j)) := ev_ii ha hb (r2_I (C := fun _ j => 0 < j) c)
theorem ev_neg (ha : Ev F M δ ta (.int i)) : Ev F M δ (tUn (rU fun i => .int (-i)) ta) (.int (-i)) := fun σ H s Q q => by
  refine ha σ H s _ fun v H1 s1 e1 r1 => ?_
  rw [r1.int_inv]
  exact ⟨i, rfl, q _ H1 s1 e1 (.int _)⟩
/-- == and != -/
theorem ev_eq (ha : Ev F M δ ta d) (hb : Ev F M δ tb e) (sd : SeqAt.shaped d = true) (se : SeqAt.shaped e = true) : Ev F M δ (tOp (rEqD K) ta tb) (.bool (PyData.eqv d e)) := fun σ H s Q q => by
  refine ha σ H s _ fun v H1 s1 e1 r1 => hb σ H1 s1 _ fun u H2 s2 e2 r2 => ?_
  exact ⟨d, e, Rp.dp _ _ (shaped_lay sd) ((r1.same (shr_same e2)).same (shr_sub _ _)), Rp.dp _ _ (shaped_lay se) (r2.same (shr_sub _ _)), sd, se, q _ H2 s2 (e1.trans e2) (.bl _)⟩
theorem ev_ne (ha : Ev F M δ ta d) (hb : Ev F M δ tb e) (sd : SeqAt.shaped d = true) (se : SeqAt.shaped e = true) : Ev F M δ (tOp (rNeD K) ta tb) (.bool (!PyData.eqv d e)) := fun σ H s Q q => by
  refine ha σ H s _ fun v H1 s1 e1 r1 => hb σ H1 s1 _ fun u H2 s2 e2 r2 => ?_
  exact ⟨d, e, Rp.dp _ _ (shaped_lay sd) ((r1.same (shr_same e2)).same (shr_sub _ _)), Rp.dp _ _ (shaped_lay se) (r2.same (shr_sub _ _)), sd, se, q _ H2 s2 (e1.trans e2) (.bl _)⟩
theorem eqv_ints (i j : Int) : PyData.eqv (.int i) (.int j) = decide (i = j) := by
  simp [PyData.eqv]
  by_cases h : i = j <;> simp [h]
theorem eqv_strs (x y : Str) : PyData.eqv (.str x) (.str y) = decide (x = y) := by
  simp [PyData.eqv]
  by_cases h : x = y <;> simp [h]
theorem eqv_bools (a b : Bool) : PyData.eqv (.bool a) (.bool b) = decide (a = b) := by
  simp [PyData.eqv]
  cases a <;> cases b <;> rfl
theorem sh_int : SeqAt.shaped (.int i) = true := rfl
theorem sh_str (h : PyData.strOk x = true) : SeqAt.shaped (.str x) = true := by
  unfold SeqAt.shaped
  have h1 : PyData.canLay0 (.str x) = true := by simpa [PyData.canLay0] using h
  have h2 : PyData.depth (.str x) = 0 := by simp [PyData.depth]
  rw [h1, h2]
  rfl
theorem sh_bl : SeqAt.shaped (.bool b) = true := rfl
theorem sh_non : SeqAt.shaped .none = true := rfl
theorem ev_eqI (ha : Ev F M δ ta (.int i)) (hb : Ev F M δ tb (.int j)) : Ev F M δ (tOp (rEqD K) ta tb) (.bool (decide (i = j))) := by
  rw [← eqv_ints]; exact ev_eq ha hb sh_int sh_int
theorem ev_neI (ha : Ev F M δ ta (.int i)) (hb : Ev F M δ tb (.int j)) : Ev F M δ (tOp (rNeD K) ta tb) (.bool (!decide (i = j))) := by
  rw [← eqv_ints]; exact ev_ne ha hb sh_int sh_int
theorem ev_eqS (ha : Ev F M δ ta (.str x)) (hb : Ev F M δ tb (.str y)) (hx : PyData.strOk x = true := by decide +kernel) (hy : PyData.strOk y = true := by decide +kernel) : Ev F M δ (tOp (rEqD K) ta tb) (.bool (decide (x = y))) := by
  rw [← eqv_strs]; exact ev_eq ha hb (sh_str hx) (sh_str hy)
theorem ev_neS (ha : Ev F M δ ta (.str x)) (hb : Ev F M δ tb (.str y)) (hx : PyData.strOk x = true := by decide +kernel) (hy : PyData.strOk y = true := by decide +kernel) : Ev F M δ (tOp (rNeD K) ta tb) (.bool (!decide (x = y))) := by
  rw [← eqv_strs]; exact ev_ne ha hb (sh_str hx) (sh_str hy)
theorem ev_eqB (ha : Ev F M δ ta (.bool a)) (hb : Ev F M δ tb (.bool b)) : Ev F M δ (tOp (rEqD K) ta tb) (.bool (decide (a = b))) := by
  rw [← eqv_bools]; exact ev_eq ha hb sh_bl sh_bl
/-- is None, is not None -/
def isNon : PyData → Bool
  | .none => true
  | _ => false
theorem isNon_v {G : Hp} {v : V} (h : Rp G v d) : decide (v = .non) = isNon d := by
  cases h <;> rfl
theorem ev_isN (ha : Ev F M δ ta d) : Ev F M δ (tOp (fun x y H Q => y = .non ∧ Q (.bl (decide (x = .non))) H) ta (tC .non)) (.bool (isNon d)) := fun σ H s Q q => by
  refine ha σ H s _ fun v H1 s1 e1 r1 => ⟨rfl, ?_⟩
  rw [isNon_v r1]
  exact q _ H1 s1 e1 (.bl _)
theorem ev_notN (ha : Ev F M δ ta d) : Ev F M δ (tOp (fun x y H Q => y = .non ∧ Q (.bl (!decide (x = .non))) H) ta (tC .non)) (.bool (!isNon d)) := fun σ H s Q q => by
  refine ha σ H s _ fun v H1 s1 e1 r1 => ⟨rfl, ?_⟩
  rw [isNon_v r1]
  exact q _ H1 s1 e1 (.bl _)
/-- in a list of data -/
theorem ev_in {ds : List PyData} (ha : Ev F M δ ta d) (hb : Ev F M δ tb (.list ds)) (sd : SeqAt.shaped d = true) (sl : SeqAt.shaped (.list ds) = true) : Ev F M δ (tOp (rInD K) ta tb) (.bool (ds.any fun z => PyData.eqv z d)) := fun σ H s Q q => by
  refine ha σ H s _ fun v H1 s1 e1 r1 => hb σ H1 s1 _ fun u H2 s2 e2 r2 => ?_
  exact ⟨d, ds, Rp.dp _ _ (shaped_lay sd) ((r1.same (shr_same e2)).same (shr_sub _ _)), Rp.dp _ _ (shaped_lay sl) (r2.same (shr_sub _ _)), sd, sl, q _ H2 s2 (e1.trans e2) (.bl _)⟩
theorem ev_notIn {ds : List PyData} (ha : Ev F M δ ta d) (hb : Ev F M δ tb (.list ds)) (sd : SeqAt.shaped d = true) (sl : SeqAt.shaped (.list ds) = true) : Ev F M δ (tOp (rNotInD K) ta tb) (.bool (!ds.any fun z => PyData.eqv z d)) := fun σ H s Q q => by
  refine ha σ H s _ fun v H1 s1 e1 r1 => hb σ H1 s1 _ fun u H2 s2 e2 r2 => ?_
  exact ⟨d, ds, Rp.dp _ _ (shaped_lay sd) ((r1.same (shr_same e2)).same (shr_sub _ _)), Rp.dp _ _ (shaped_lay sl) (r2.same (shr_sub _ _)), sd, sl, q _ H2 s2 (e1.trans e2) (.bl _)⟩
/-- .. in an owned list -/
theorem own_rp (s : S F M δ σ H) {l : Addr} {ds : List PyData} (hm : (l, OC.lst ds) ∈ M) : Rp H (.ref l) (.list ds) := by
  obtain ⟨_, vs, h, r⟩ := s.own _ hm
  exact .lst h (r.same (shr_sub _ _))
theorem ev_notInO {l : Addr} {ds : List PyData} (ha : Ev F M δ ta d) (hb : Er F M δ tb (.ref l)) (hm : (l, OC.lst ds) ∈ M) (sd : SeqAt.shaped d = true) (sl : SeqAt.shaped (.list ds) = true) : Ev F M δ (tOp (rNotInD K) ta tb) (.bool (!ds.any fun z => PyData.eqv z d)) := fun σ H s Q q => by
  refine ha σ H s _ fun v H1 s1 e1 r1 => hb σ H1 s1 _ fun H2 s2 e2 => ?_
  exact ⟨d, ds, Rp.dp _ _ (shaped_lay sd) ((r1.same (shr_same e2)).same (shr_sub _ _)), Rp.dp _ _ (shaped_lay sl) (own_rp s2 hm), sd, sl, q _ H2 s2 (e1.trans e2) (.bl _)⟩
/-- a sign in a text -/
theorem ev_inS {c : Nat} (ha : Ev F M δ ta (.str ⟨#[c]⟩)) (hb : Ev F M δ tb (.str y)) : Ev F M δ (tOp (fun x y H Q => ∃ (c : Nat) (z : Str), x = .str ⟨#[c]⟩ ∧ y = .str z ∧ Q (.bl (decide (c ∈ z.cps.toList))) H) ta tb) (.bool (decide (c ∈ y.cps.toList))) := fun σ H s Q q => by
  refine ha σ H s _ fun v H1 s1 e1 r1 => hb σ H1 s1 _ fun u H2 s2 e2 r2 => ?_
  exact ⟨c, y, r1.str_inv, r2.str_inv, q _ H2 s2 (e1.trans e2) (.bl _)⟩
theorem ev_notInS {c : Nat} (ha : Ev F M δ ta (.str ⟨#[c]⟩)) (hb : Ev F M δ tb (.str y)) : Ev F M δ (tOp (fun x y H Q => ∃ (c : Nat) (z : Str), x = .str ⟨#[c]⟩ ∧ y = .str z ∧ Q (.bl (!decide (c ∈ z.cps.toList))) H) ta tb) (.bool (!decide (c ∈ y.cps.toList))) := fun σ H s Q q => by
  refine ha σ H s _ fun v H1 s1 e1 r1 => hb σ H1 s1 _ fun u H2 s2 e2 r2 => ?_
  exact ⟨c, y, r1.str_inv, r2.str_inv, q _ H2 s2 (e1.trans e2) (.bl _)⟩

/-! arguments, displays -/
theorem ea_nil : Ea F M δ tNil [] := fun σ H s Q q => q [] H s (Same.refl H) .nil
theorem ea_cons {tr : TA} {ds : List PyData} (ha : Ev F M δ ta d) (hr : Ea F M δ tr ds) : Ea F M δ (tCons ta tr) (d :: ds) := fun σ H s Q q =>
  ha σ H s _ fun v H1 s1 e1 r1 => hr σ H1 s1 _ fun vs H2 s2 e2 r2 => q _ H2 s2 (e1.trans e2) (.cons (r1.same (shr_same e2)) r2)
theorem S.fresh (s : S F M δ σ H) {p : Addr} (h : H p = none) : F.O p = false := by
  cases q : F.O p with
  | false => rfl
  | true => exact absurd h (s.dom p q)
theorem ev_tup {tr : TA} {ds : List PyData} (h : Ea F M δ tr ds) (hl : ds.length ≤ 16777216 := by first | decide | (simp only [List.length_cons, List.length_nil]; decide)) : Ev F M δ (tTup tr) (.tuple ds) := fun σ H s Q q =>
  h σ H s _ fun vs H1 s1 e1 r1 => ⟨by rw [r1.length, sizeLine_eq]; exact hl, fun p hp => by
    have e2 := same_new (o := .tup vs) hp
    exact q _ _ (s1.same e2) (e1.trans e2) (.tup (shr_at upd_same (s1.fresh hp)) (r1.same (shr_same e2)))⟩
theorem ev_lst {tr : TA} {ds : List PyData} (h : Ea F M δ tr ds) (hl : ds.length ≤ 16777216 := by first | decide | (simp only [List.length_cons, List.length_nil]; decide)) : Ev F M δ (tLst tr) (.list ds) := fun σ H s Q q =>
  h σ H s _ fun vs H1 s1 e1 r1 => ⟨by rw [r1.length, sizeLine_eq]; exact hl, fun p hp => by
    have e2 := same_new (o := .lst vs) hp
    exact q _ _ (s1.same e2) (e1.trans e2) (.lst (shr_at upd_same (s1.fresh hp)) (r1.same (shr_same e2)))⟩

/-! subscripts -/
theorem seqL {G : Hp} {a : Addr} {vs : List V} {O : Addr → Bool} {H : Hp} (h : shr O H a = some (.lst vs)) : SqL K H a vs := SqL.of (shr_sub _ _ _ _ h)
theorem ev_ixT {ds : List PyData} (ha : Ev F M δ ta (.tuple ds)) (hi : Ev F M δ ti (.int i)) (h : atI ds i = some d) : Ev F M δ (tOp (rIx K) ta ti) d := fun σ H s Q q => by
  refine ha σ H s _ fun v H1 s1 e1 r1 => hi σ H1 s1 _ fun u H2 s2 e2 r2 => ?_
  obtain ⟨p, vs, rfl, hp, rv⟩ := (r1.same (shr_same e2)).tup_inv
  obtain ⟨w, hw, rw'⟩ := rv.atI h
  rw [r2.int_inv]
  exact .inr (.inl ⟨p, vs, i, w, rfl, rfl, SqT.of (shr_sub _ _ _ _ hp), hw, q w H2 s2 (e1.trans e2) rw'⟩)
theorem ev_ixL {ds : List PyData} (ha : Ev F M δ ta (.list ds)) (hi : Ev F M δ ti (.int i)) (h : atI ds i = some d) : Ev F M δ (tOp (rIx K) ta ti) d := fun σ H s Q q => by
  refine ha σ H s _ fun v H1 s1 e1 r1 => hi σ H1 s1 _ fun u H2 s2 e2 r2 => ?_
  obtain ⟨p, vs, rfl, hp, rv⟩ := (r1.same (shr_same e2)).lst_inv
  obtain ⟨w, hw, rw'⟩ := rv.atI h
  rw [r2.int_inv]
  exact .inl ⟨p, vs, i, w, rfl, rfl, SqL.of (shr_sub _ _ _ _ hp), hw, q w H2 s2 (e1.trans e2) rw'⟩
theorem ev_ixO {l : Addr} {ds : List PyData} (ha : Er F M δ ta (.ref l)) (hi : Ev F M δ ti (.int i)) (hm : (l, OC.lst ds) ∈ M) (h : atI ds i = some d) : Ev F M δ (tOp (rIx K) ta ti) d := fun σ H s Q q => by
  refine ha σ H s _ fun H1 s1 e1 => hi σ H1 s1 _ fun u H2 s2 e2 r2 => ?_
  obtain ⟨_, vs, hp, rv⟩ := s2.own _ hm
  obtain ⟨w, hw, rw'⟩ := rv.atI h
  rw [r2.int_inv]
  exact .inl ⟨l, vs, i, w, rfl, rfl, SqL.of hp, hw, q w H2 s2 (e1.trans e2) rw'⟩
theorem ev_ixS {c : Nat} (ha : Ev F M δ ta (.str x)) (hi : Ev F M δ ti (.int i)) (hl : x.length ≤ 16777216) (h : atI x.cps.toList i = some c) : Ev F M δ (tOp (rIx K) ta ti) (.str ⟨#[c]⟩) := fun σ H s Q q => by
  refine ha σ H s _ fun v H1 s1 e1 r1 => hi σ H1 s1 _ fun u H2 s2 e2 r2 => ?_
  rw [r1.str_inv, r2.int_inv]
  exact .inr (.inr ⟨x, i, c, rfl, rfl, by rw [sizeLine_eq]; exact hl, h, q _ H2 s2 (e1.trans e2) (.str _)⟩)

/-! slices -/
def cut {α : Type} (xs : List α) (lo hi : Option Int) : List α := (xs.drop (HT.sIx xs.length 0 lo)).take (HT.sIx xs.length xs.length hi - HT.sIx xs.length 0 lo)
theorem RpAll.cut {H : Hp} {vs : List V} {ds : List PyData} (r : RpAll H vs ds) (lo hi : Option Int) : RpAll H (cutV vs lo hi) (cut ds lo hi) := by
  unfold cutV _root_.G.cut
  rw [r.length]
  exact (r.drop _).take _
theorem eo_none : Eo F M δ tNoPart none := fun σ H s Q q => q H s (Same.refl H)
theorem eo_some (h : Ev F M δ te (.int i)) : Eo F M δ (tPart te) (some i) := fun σ H s Q q => by
  refine h σ H s _ fun v H1 s1 e1 r1 => ?_
  rw [r1.int_inv]
  exact ⟨i, rfl, q H1 s1 e1⟩
theorem ev_slL {tl th : TO} {lo hi : Option Int} {ds : List PyData} (h : Ev F M δ te (.list ds)) (h1 : Eo F M δ tl lo) (h2 : Eo F M δ th hi) : Ev F M δ (tSl (rSlL K) te tl th) (.list (cut ds lo hi)) := fun σ H s Q q => by
  refine h σ H s _ fun v H1 s1 e1 r1 => h1 σ H1 s1 _ fun H2 s2 e2 => h2 σ H2 s2 _ fun H3 s3 e3 => ?_
  obtain ⟨p, vs, rfl, hp, rv⟩ := (r1.same (shr_same (e2.trans e3))).lst_inv
  refine ⟨p, vs, rfl, SqL.of (shr_sub _ _ _ _ hp), fun t ht => ?_⟩
  have e4 := same_new (o := .lst (cutV vs lo hi)) ht
  exact q _ _ (s3.same e4) ((e1.trans e2).trans (e3.trans e4)) (.lst (shr_at upd_same (s3.fresh ht)) ((rv.cut lo hi).same (shr_same e4)))
theorem ev_slT {tl th : TO} {lo hi : Option Int} {ds : List PyData} (h : Ev F M δ te (.tuple ds)) (h1 : Eo F M δ tl lo) (h2 : Eo F M δ th hi) : Ev F M δ (tSl (rSlA K) te tl th) (.tuple (cut ds lo hi)) := fun σ H s Q q => by
  refine h σ H s _ fun v H1 s1 e1 r1 => h1 σ H1 s1 _ fun H2 s2 e2 => h2 σ H2 s2 _ fun H3 s3 e3 => ?_
  have r3 := r1.same (shr_same (e2.trans e3))
  obtain ⟨p, vs, rfl, hp, rv⟩ := r3.tup_inv
  refine ⟨p, vs, rfl, SqT.of (shr_sub _ _ _ _ hp), fun hw => ?_, fun _ t ht => ?_⟩
  · refine q _ _ s3 (e1.trans (e2.trans e3)) ?_
    have hc : cut ds lo hi = ds := by
      unfold cut
      rw [← rv.length, hw.1, hw.2, List.drop_zero, Nat.sub_zero, rv.length, List.take_length]
    rw [hc]
    exact r3
  · have e4 := same_new (o := .tup (cutV vs lo hi)) ht
    exact q _ _ (s3.same e4) ((e1.trans e2).trans (e3.trans e4)) (.tup (shr_at upd_same (s3.fresh ht)) ((rv.cut lo hi).same (shr_same e4)))
theorem cut_to {α : Type} (xs : List α) (k : Nat) : cut xs none (some (k : Int)) = xs.take k := by
  unfold cut
  rw [HT.sIx_none, HT.sIx_nat, List.drop_zero, Nat.sub_zero]
  rcases Nat.le_total k xs.length with h | h
  · rw [Nat.min_eq_left h]
  · rw [Nat.min_eq_right h, List.take_length, List.take_of_length_le h]
theorem cut_from {α : Type} (xs : List α) (k : Nat) : cut xs (some (k : Int)) none = xs.drop k := by
  unfold cut
  rw [HT.sIx_none, HT.sIx_nat]
  rcases Nat.le_total k xs.length with h | h
  · rw [Nat.min_eq_left h, List.take_of_length_le (by rw [List.length_drop]; exact Nat.le_refl _)]
  · rw [Nat.min_eq_right h, List.drop_of_length_le h, List.drop_of_length_le (Nat.le_refl _), List.take_nil]
theorem cut_both {α : Type} (xs : List α) (j k : Nat) : cut xs (some (j : Int)) (some (k : Int)) = (xs.drop j).take (k - j) := by
  unfold cut
  rw [HT.sIx_nat, HT.sIx_nat]
  rcases Nat.le_total j xs.length with h | h
  · rw [Nat.min_eq_left h]
    rcases Nat.le_total k xs.length with h' | h'
    · rw [Nat.min_eq_left h']
    · rw [Nat.min_eq_right h', List.take_of_length_le (by rw [List.length_drop]; exact Nat.le_refl _), List.take_of_length_le (by rw [List.length_drop]; omega)]
  · rw [Nat.min_eq_right h, List.drop_of_length_le h, List.drop_of_length_le (Nat.le_refl _), List.take_nil, List.take_nil]

/-! + of tuples and lists -/
theorem ev_catT {ds es : List PyData} (ha : Ev F M δ ta (.tuple ds)) (hb : Ev F M δ tb (.tuple es)) (hl : ds.length + es.length ≤ 16777216) : Ev F M δ (tOp (rCatA K) ta tb) (.tuple (ds ++ es)) := fun σ H s Q q => by
  refine ha σ H s _ fun v H1 s1 e1 r1 => hb σ H1 s1 _ fun u H2 s2 e2 r2 => ?_
  have r1' := r1.same (shr_same e2)
  obtain ⟨p, vs, rfl, hp, rv⟩ := r1'.tup_inv
  obtain ⟨p2, us, rfl, hp2, ru⟩ := r2.tup_inv
  refine ⟨p, p2, vs, us, rfl, rfl, SqT.of (shr_sub _ _ _ _ hp), SqT.of (shr_sub _ _ _ _ hp2), by rw [rv.length, ru.length, sizeLine_eq]; exact hl, fun h => ?_, fun _ h => ?_, fun _ _ t ht => ?_⟩
  · subst h
    cases rv
    exact q _ _ s2 (e1.trans e2) r2
  · subst h
    cases ru
    refine q _ _ s2 (e1.trans e2) ?_
    rw [List.append_nil]
    exact r1'
  · have e4 := same_new (o := .tup (vs ++ us)) ht
    exact q _ _ (s2.same e4) ((e1.trans e2).trans e4) (.tup (shr_at upd_same (s2.fresh ht)) ((rv.append ru).same (shr_same e4)))
theorem ev_catL {ds es : List PyData} (ha : Ev F M δ ta (.list ds)) (hb : Ev F M δ tb (.list es)) (hl : ds.length + es.length ≤ 16777216) : Ev F M δ (tOp rCat ta tb) (.list (ds ++ es)) := fun σ H s Q q => by
  refine ha σ H s _ fun v H1 s1 e1 r1 => hb σ H1 s1 _ fun u H2 s2 e2 r2 => ?_
  obtain ⟨p, vs, rfl, hp, rv⟩ := (r1.same (shr_same e2)).lst_inv
  obtain ⟨p2, us, rfl, hp2, ru⟩ := r2.lst_inv
  refine ⟨p, p2, vs, us, rfl, rfl, shr_sub _ _ _ _ hp, shr_sub _ _ _ _ hp2, by rw [rv.length, ru.length, sizeLine_eq]; exact hl, fun t ht => ?_⟩
  have e4 := same_new (o := .lst (vs ++ us)) ht
  exact q _ _ (s2.same e4) ((e1.trans e2).trans e4) (.lst (shr_at upd_same (s2.fresh ht)) ((rv.append ru).same (shr_same e4)))

/-! built-ins -/
abbrev rLenX (K : PySem.W.Frag) : List V → Hp → VK → Prop := fun xs H Q => ∃ x n, xs = [x] ∧ LenV K x H n ∧ Q (.int n) H
theorem ev_lenL {ds : List PyData} (h : Ev F M δ te (.list ds)) : Ev F M δ (tCB (rLenX K) (tCons te tNil)) (.int (ds.length : Int)) := fun σ H s Q q => by
  refine h σ H s _ fun v H1 s1 e1 r1 => ?_
  obtain ⟨p, vs, rfl, hp, rv⟩ := r1.lst_inv
  exact ⟨_, ds.length, rfl, .inl ⟨vs, SqL.of (shr_sub _ _ _ _ hp), rv.length.symm⟩, q _ H1 s1 e1 (.int _)⟩
theorem ev_lenT {ds : List PyData} (h : Ev F M δ te (.tuple ds)) : Ev F M δ (tCB (rLenX K) (tCons te tNil)) (.int (ds.length : Int)) := fun σ H s Q q => by
  refine h σ H s _ fun v H1 s1 e1 r1 => ?_
  obtain ⟨p, vs, rfl, hp, rv⟩ := r1.tup_inv
  exact ⟨_, ds.length, rfl, .inr ⟨vs, SqT.of (shr_sub _ _ _ _ hp), rv.length.symm⟩, q _ H1 s1 e1 (.int _)⟩
theorem ev_lenS (h : Ev F M δ te (.str x)) (hl : x.length ≤ 16777216) : Ev F M δ (tCB (rLenX K) (tCons te tNil)) (.int (x.length : Int)) := fun σ H s Q q => by
  refine h σ H s _ fun v H1 s1 e1 r1 => ?_
  rw [r1.str_inv]
  exact ⟨_, x.length, rfl, ⟨by rw [sizeLine_eq]; exact hl, rfl⟩, q _ H1 s1 e1 (.int _)⟩
theorem ev_lenO {l : Addr} {ds : List PyData} (h : Er F M δ te (.ref l)) (hm : (l, OC.lst ds) ∈ M) : Ev F M δ (tCB (rLenX K) (tCons te tNil)) (.int (ds.length : Int)) := fun σ H s Q q => by
  refine h σ H s _ fun H1 s1 e1 => ?_
  obtain ⟨_, vs, hp, rv⟩ := s1.own _ hm
  exact ⟨_, ds.length, rfl, .inl ⟨vs, SqL.of hp, rv.length.symm⟩, q _ H1 s1 e1 (.int _)⟩
/-- list(x) of a list or a tuple: new -/
abbrev rListX (K : PySem.W.Frag) : List V → Hp → VK → Prop := fun xs H Q => ∃ p ys, xs = [.ref p] ∧ (SqL K H p ys ∨ SqT K H p ys) ∧ ∀ l, H l = none → Q (.ref l) (upd H l (.lst ys))
def seqOf (d : PyData) (ds : List PyData) : Prop := d = .list ds ∨ d = .tuple ds
theorem seq_inv {G : Hp} {v : V} {ds : List PyData} (h : Rp G v d) (q : seqOf d ds) : ∃ a vs, v = .ref a ∧ RpAll G vs ds ∧ ((d = .list ds ∧ G a = some (.lst vs)) ∨ (d = .tuple ds ∧ G a = some (.tup vs))) := by
  rcases q with rfl | rfl
  · obtain ⟨a, vs, rfl, h1, h2⟩ := h.lst_inv
    exact ⟨a, vs, rfl, h2, .inl ⟨rfl, h1⟩⟩
  · obtain ⟨a, vs, rfl, h1, h2⟩ := h.tup_inv
    exact ⟨a, vs, rfl, h2, .inr ⟨rfl, h1⟩⟩
theorem ev_list {ds : List PyData} (h : Ev F M δ te d) (hq : seqOf d ds) : Ev F M δ (tCB (rListX K) (tCons te tNil)) (.list ds) := fun σ H s Q q => by
  refine h σ H s _ fun v H1 s1 e1 r1 => ?_
  obtain ⟨a, vs, rfl, rv, hc⟩ := seq_inv r1 hq
  refine ⟨a, vs, rfl, ?_, fun t ht => ?_⟩
  · rcases hc with ⟨_, hc⟩ | ⟨_, hc⟩
    · exact .inl (SqL.of (shr_sub _ _ _ _ hc))
    · exact .inr (SqT.of (shr_sub _ _ _ _ hc))
  · have e4 := same_new (o := .lst vs) ht
    exact q _ _ (s1.same e4) (e1.trans e4) (.lst (shr_at upd_same (s1.fresh ht)) (rv.same (shr_same e4)))
abbrev rTupleX (K : PySem.W.Frag) : List V → Hp → VK → Prop := fun xs H Q => ∃ p ys, xs = [.ref p] ∧ ((SqL K H p ys ∧ ∀ l, H l = none → Q (.ref l) (upd H l (.tup ys))) ∨ (SqT K H p ys ∧ Q (.ref p) H))
theorem ev_tuple {ds : List PyData} (h : Ev F M δ te d) (hq : seqOf d ds) : Ev F M δ (tCB (rTupleX K) (tCons te tNil)) (.tuple ds) := fun σ H s Q q => by
  refine h σ H s _ fun v H1 s1 e1 r1 => ?_
  obtain ⟨a, vs, rfl, rv, hc⟩ := seq_inv r1 hq
  refine ⟨a, vs, rfl, ?_⟩
  rcases hc with ⟨_, hc⟩ | ⟨_, hc⟩
  · refine .inl ⟨SqL.of (shr_sub _ _ _ _ hc), fun t ht => ?_⟩
    have e4 := same_new (o := .tup vs) ht
    exact q _ _ (s1.same e4) (e1.trans e4) (.tup (shr_at upd_same (s1.fresh ht)) (rv.same (shr_same e4)))
  · exact .inr ⟨SqT.of (shr_sub _ _ _ _ hc), q _ _ s1 e1 (.tup hc rv)⟩
/-- tuple of an owned list -/
theorem ev_tupleO {l : Addr} {ds : List PyData} (h : Er F M δ te (.ref l)) (hm : (l, OC.lst ds) ∈ M) : Ev F M δ (tCB (rTupleX K) (tCons te tNil)) (.tuple ds) := fun σ H s Q q => by
  refine h σ H s _ fun H1 s1 e1 => ?_
  obtain ⟨_, vs, hp, rv⟩ := s1.own _ hm
  refine ⟨l, vs, rfl, .inl ⟨SqL.of hp, fun t ht => ?_⟩⟩
  have e4 := same_new (o := .tup vs) ht
  exact q _ _ (s1.same e4) (e1.trans e4) (.tup (shr_at upd_same (s1.fresh ht)) (rv.same (shr_same e4)))
/-- isinstance(x, T) -/
def tyName : PyData → String
  | .none => "NoneType"
  | .bool _ => "bool"
  | .int _ => "int"
  | .str _ => "str"
  | .list _ => "list"
  | .tuple _ => "tuple"
  | .dict _ => "dict"
theorem tyx_of {H : Hp} {v : V} (h : Rp H v d) : TyX K H v (.type (tyName d)) := by
  cases h with
  | non => exact .base .non
  | bl b => exact .base (.bl b)
  | int i => exact .base (.int i)
  | str x => exact .base (.str x)
  | lst h _ => exact .base (.lst h)
  | tup h _ => exact .base (.tup h)
  | dct h _ _ _ => exact .base (.dK h)
theorem ev_isi {T : String} (h : Ev F M δ te d) (hk : kitB (tyName d) T = some b) : Ev F M δ (tCB (rIsi K) (tCons te (tCons (tC (.ty T)) tNil))) (.bool b) := fun σ H s Q q => by
  refine h σ H s _ fun v H1 s1 e1 r1 => ?_
  exact ⟨v, .ty T, _, _, b, rfl, .ty T, tyx_of (r1.same (shr_sub _ _)), kit_ty hk, q _ H1 s1 e1 (.bl _)⟩
/-- int(x) of an int, of a bool -/
theorem ev_int1 {r : List V → Hp → VK → Prop} {k : Int} (h : Ev F M δ te d) (hr : ∀ v, (∀ G, Rp G v d → ∀ H Q, Q (.int k) H → r [v] H Q)) : Ev F M δ (tCB r (tCons te tNil)) (.int k) := fun σ H s Q q => by
  refine h σ H s _ fun v H1 s1 e1 r1 => ?_
  exact hr v _ r1 H1 Q (q _ H1 s1 e1 (.int _))
/-- all(xs) -/
theorem ev_all {bs : List Bool} (h : Ev F M δ te (.list (bs.map PyData.bool))) : Ev F M δ (tCB (rAll K) (tCons te tNil)) (.bool (bs.all id)) := fun σ H s Q q => by
  refine h σ H s _ fun v H1 s1 e1 r1 => ?_
  obtain ⟨p, vs, rfl, hp, rv⟩ := r1.lst_inv
  rw [rv.bools_inv] at hp
  exact ⟨p, bs, rfl, SqL.of (shr_sub _ _ _ _ hp), q _ H1 s1 e1 (.bl _)⟩

/-! if-expressions, and, or, not, tests -/
theorem ev_ifE (ht : Et F M δ tt b) (h1 : b = true → Ev F M δ ta d) (h2 : b = false → Ev F M δ tb d) : Ev F M δ (tIf tt ta tb) d := fun σ H s Q q => by
  refine ht σ H s _ fun H1 s1 e1 => ?_
  cases b with
  | true => exact h1 rfl σ H1 s1 _ fun v H2 s2 e2 r2 => q v H2 s2 (e1.trans e2) r2
  | false => exact h2 rfl σ H1 s1 _ fun v H2 s2 e2 r2 => q v H2 s2 (e1.trans e2) r2
theorem ev_andV (h1 : Ev F M δ ta (.bool a)) (h2 : a = true → Ev F M δ tb (.bool b)) : Ev F M δ (tAndV ta tb) (.bool (a && b)) := fun σ H s Q q => by
  refine h1 σ H s _ fun v H1 s1 e1 r1 => ⟨a, r1.bl_inv, ?_⟩
  cases a with
  | true => exact h2 rfl σ H1 s1 _ fun v H2 s2 e2 r2 => q v H2 s2 (e1.trans e2) r2
  | false => exact q _ H1 s1 e1 (.bl _)
theorem ev_orV (h1 : Ev F M δ ta (.bool a)) (h2 : a = false → Ev F M δ tb (.bool b)) : Ev F M δ (tOrV ta tb) (.bool (a || b)) := fun σ H s Q q => by
  refine h1 σ H s _ fun v H1 s1 e1 r1 => ⟨a, r1.bl_inv, ?_⟩
  cases a with
  | false => exact h2 rfl σ H1 s1 _ fun v H2 s2 e2 r2 => q v H2 s2 (e1.trans e2) r2
  | true => exact q _ H1 s1 e1 (.bl _)
theorem ev_notV (h1 : Ev F M δ ta (.bool a)) : Ev F M δ (tNotV ta) (.bool (!a)) := fun σ H s Q q => by
  refine h1 σ H s _ fun v H1 s1 e1 r1 => ⟨a, r1.bl_inv, q _ H1 s1 e1 (.bl _)⟩
theorem et_test (h : Ev F M δ te (.bool b)) : Et F M δ (tTest te) b := fun σ H s Q q => h σ H s _ fun v H1 s1 e1 r1 => ⟨b, r1.bl_inv, q H1 s1 e1⟩
theorem et_B (h : Ev F M δ te (.bool b)) : Et F M δ (tB te) b := fun σ H s Q q => h σ H s _ fun v H1 s1 e1 r1 => ⟨b, r1.bl_inv, q H1 s1 e1⟩
theorem et_and (h1 : Et F M δ tt a) (h2 : a = true → Et F M δ tu b) : Et F M δ (tAnd tt tu) (a && b) := fun σ H s Q q => by
  refine h1 σ H s _ fun H1 s1 e1 => ?_
  cases a with
  | true => exact h2 rfl σ H1 s1 _ fun H2 s2 e2 => q H2 s2 (e1.trans e2)
  | false => exact q H1 s1 e1
theorem et_or (h1 : Et F M δ tt a) (h2 : a = false → Et F M δ tu b) : Et F M δ (tOr tt tu) (a || b) := fun σ H s Q q => by
  refine h1 σ H s _ fun H1 s1 e1 => ?_
  cases a with
  | false => exact h2 rfl σ H1 s1 _ fun H2 s2 e2 => q H2 s2 (e1.trans e2)
  | true => exact q H1 s1 e1
theorem et_not (h : Et F M δ tt a) : Et F M δ (tNot tt) (!a) := fun σ H s Q q => h σ H s _ fun H1 s1 e1 => q H1 s1 e1
theorem et_yes : Et F M δ tYes true := fun σ H s Q q => q H s (Same.refl H)
/-- a < b < c -/
theorem ev_chain {r r' : R2} {l : Int} (ha : Ev F M δ ta (.int i)) (hb : Ev F M δ tb (.int j)) (hc : a = true → Ev F M δ tc (.int l)) (hr : R2V r (.int i) (.int j) (.bl a)) (hr' : R2V r' (.int j) (.int l) (.bl b)) :
    Ev F M δ (tChain r r' ta tb tc) (.bool (a && b)) := fun σ H s Q q => by
  refine ha σ H s _ fun v H1 s1 e1 r1 => hb σ H1 s1 _ fun u H2 s2 e2 r2 => ?_
  rw [r1.int_inv, r2.int_inv]
  refine hr H2 _ ⟨a, rfl, ?_⟩
  cases a with
  | true =>
    refine hc rfl σ H2 s2 _ fun w H3 s3 e3 r3 => ?_
    rw [r3.int_inv]
    exact hr' H3 _ (q _ H3 s3 (e1.trans (e2.trans e3)) (.bl _))
  | false => exact q _ H2 s2 (e1.trans e2) (.bl _)

/-! a dict of int keys that is data -/
def kdGet (ks : List Int) (ds : List PyData) (k : Int) : Option PyData := (ks.zip ds).lookup k
theorem kvz_valV : ∀ {ks : List Int} {vs : List V} {ds : List PyData} {G : Hp} (k : Int), ks.length = vs.length → RpAll G vs ds →
    (∀ d, kdGet ks ds k = some d → ∃ v, valV (kvz ks vs) (Sum.inl k) = some v ∧ Rp G v d) ∧ (kdGet ks ds k = none → valV (kvz ks vs) (Sum.inl k) = none)
  | [], vs, ds, G, k, h, r => by
    cases vs with
    | nil => exact ⟨fun d q => by simp [kdGet] at q, fun _ => rfl⟩
    | cons _ _ => simp at h
  | x :: ks, [], _, _, _, h, _ => by simp at h
  | x :: ks, v :: vs, _, G, k, h, .cons (d := d0) (ds := ds) hv r => by
    obtain ⟨i1, i2⟩ := kvz_valV (ks := ks) (vs := vs) (ds := ds) k (by simpa using h) r
    have e : kvz (x :: ks) (v :: vs) = ((Sum.inl x : Key), v) :: kvz ks vs := rfl
    have e2 : kdGet (x :: ks) (d0 :: ds) k = if k == x then some d0 else kdGet ks ds k := by
      unfold kdGet
      rw [List.zip_cons_cons, List.lookup_cons]
      cases k == x <;> rfl
    rw [e, e2]
    unfold valV at i1 i2 ⊢
    by_cases c : k = x
    · subst c
      rw [if_pos (by simp)]
      refine ⟨fun d q => ⟨v, by simp, by cases q; exact hv⟩, fun q => by cases q⟩
    · have c1 : (k == x) = false := by simpa using c
      have c2 : ¬ (Sum.inl x : Key) = Sum.inl k := fun q => c (Sum.inl.inj q).symm
      rw [c1, List.find?_cons_of_neg (by simpa using c2)]
      exact ⟨i1, i2⟩
theorem dget_of {ks : List Int} {ds : List PyData} {H : Hp} {v : V} (k : Int) (h : Rp H v (.dict (kdz ks ds))) (hl : ks.length = ds.length) :
    ∃ a o, v = .ref a ∧ (∀ G, Same H G → DGet G a (.int k) o) ∧ o.isSome = (kdGet ks ds k).isSome ∧ ∀ d, kdGet ks ds k = some d → ∃ u, o = some u ∧ Rp H u d := by
  cases h with
  | @dct a ks' vs ds' _ h1 h2 h3 hk =>
    have inj : ∀ {ks ks' : List Int} {ds ds' : List PyData}, ks.length = ds.length → ks'.length = ds'.length → kdz ks ds = kdz ks' ds' → ks = ks' ∧ ds = ds' := by
      intro ks
      induction ks with
      | nil =>
        intro ks' ds ds' e1 e2 e3
        cases ds with
        | cons _ _ => simp at e1
        | nil =>
          cases ks' with
          | nil => cases ds' with
            | nil => exact ⟨rfl, rfl⟩
            | cons _ _ => simp at e2
          | cons _ _ => cases ds' with
            | nil => simp at e2
            | cons _ _ => simp [kdz] at e3
      | cons x xs ih =>
        intro ks' ds ds' e1 e2 e3
        cases ds with
        | nil => simp at e1
        | cons d ds =>
          cases ks' with
          | nil => cases ds' <;> simp [kdz] at e3
          | cons x' xs' => cases ds' with
            | nil => simp at e2
            | cons d' ds' =>
              have e3' : (PyData.int x, d) :: kdz xs ds = (PyData.int x', d') :: kdz xs' ds' := e3
              injection e3' with p1 p2
              injection p1 with p3 p4
              injection p3 with p5
              obtain ⟨q1, q2⟩ := ih (by simpa using e1) (by simpa using e2) p2
              exact ⟨by rw [p5, q1], by rw [p4, q2]⟩
    obtain ⟨rfl, rfl⟩ := inj hl (h2.trans h3.length) hk
    obtain ⟨i1, i2⟩ := kvz_valV (ks := ks) (vs := vs) (ds := ds) k h2 h3
    refine ⟨a, valV (kvz ks vs) (Sum.inl k), rfl, fun Z e => DGet.k (k := Sum.inl k) (e _ _ h1), ?_, fun d q => i1 d q⟩
    cases q : kdGet ks ds k with
    | none => rw [i2 q]; rfl
    | some d => obtain ⟨u, hu, _⟩ := i1 d q; rw [hu]; rfl
theorem ev_din {ks : List Int} {ds : List PyData} {k : Int} (hk : Ev F M δ ti (.int k)) (hd : Ev F M δ te (.dict (kdz ks ds))) (hl : ks.length = ds.length) : Ev F M δ (tDIn ti te) (.bool (kdGet ks ds k).isSome) := fun σ H s Q q => by
  refine hk σ H s _ fun v H1 s1 e1 r1 => hd σ H1 s1 _ fun u H2 s2 e2 r2 => ?_
  obtain ⟨a, o, rfl, g, hs, _⟩ := dget_of k r2 hl
  rw [r1.int_inv]
  refine ⟨a, o, rfl, g _ (shr_sub _ _), ?_⟩
  rw [hs]
  exact q _ H2 s2 (e1.trans e2) (.bl _)
theorem ev_dnotin {ks : List Int} {ds : List PyData} {k : Int} (hk : Ev F M δ ti (.int k)) (hd : Ev F M δ te (.dict (kdz ks ds))) (hl : ks.length = ds.length) : Ev F M δ (tDNotIn ti te) (.bool (!(kdGet ks ds k).isSome)) := fun σ H s Q q => by
  refine hk σ H s _ fun v H1 s1 e1 r1 => hd σ H1 s1 _ fun u H2 s2 e2 r2 => ?_
  obtain ⟨a, o, rfl, g, hs, _⟩ := dget_of k r2 hl
  rw [r1.int_inv]
  refine ⟨a, o, rfl, g _ (shr_sub _ _), ?_⟩
  rw [hs]
  exact q _ H2 s2 (e1.trans e2) (.bl _)
theorem ev_dget {ks : List Int} {ds : List PyData} {k : Int} (hd : Ev F M δ te (.dict (kdz ks ds))) (hk : Ev F M δ ti (.int k)) (hl : ks.length = ds.length) (hg : kdGet ks ds k = some d) : Ev F M δ (tDGet te ti) d := fun σ H s Q q => by
  refine hd σ H s _ fun v H1 s1 e1 r1 => hk σ H1 s1 _ fun u H2 s2 e2 r2 => ?_
  obtain ⟨a, o, rfl, g, _, hs⟩ := dget_of k (r1.same (shr_same e2)) hl
  obtain ⟨w, rfl, rw'⟩ := hs d hg
  rw [r2.int_inv]
  exact ⟨a, w, rfl, g _ (shr_sub _ _), q w H2 s2 (e1.trans e2) rw'⟩
end
end G
set_option Elab.async false
set_option linter.all false
set_option maxRecDepth 100000
set_option maxHeartbeats 4000000
/-! The data layer 3: what is walked, comprehensions, statements, promises. -/
namespace G
open PySem L2

/-! ### what is walked -/
structure ItD (J : It) (G : Hp) (ds : List PyData) : Prop where
  go : ∀ i H, Same G H → i < ds.length → J.go i H
  stop : ∀ H, Same G H → J.stop ds.length H
  yld : ∀ i H x H' d, Same G H → ds[i]? = some d → J.yld i H x H' → Same H H' ∧ ∀ Z : Hp, Same G Z → (∀ a o, H a = none → H' a = some o → Z a = some o) → Rp Z x d
def Evi (F : Fm) (M : List (Addr × OC)) (δ : List SD) (wi : TI) (ds : List PyData) : Prop := ∀ (σ : St) (H : Hp), S F M δ σ H → ∀ R : It → Hp → Prop, (∀ J H1, S F M δ σ H1 → Same H H1 → ItD J (shr F.O H1) ds → R J H1) → wi σ H R
/-- a list or a tuple -/
def iSeq (K : PySem.W.Frag) (tl : TE) : TI := fun σ H R => tl σ H fun x H1 => ∃ a, x = .ref a ∧ (((∃ xs, SqL K H1 a xs) ∧ R (Itl K a) H1) ∨ ((∃ xs, SqT K H1 a xs) ∧ R (Itt K a) H1))
theorem pi_seq {X : Cx} {tg l : Expr} {tl : TE} (hl : PE X l tl) : PI X tg l (iSeq X.K tl) := by
  refine ⟨fun pins s σ H R I h => ?_⟩
  refine thn (hl.run pins s σ H _ I h) fun v s1 ⟨x, H1, I1, r1, q1⟩ => ?_
  obtain ⟨a, e, q⟩ := q1
  subst e
  cases r1
  rcases q with ⟨⟨xs, hq⟩, q⟩ | ⟨⟨xs, hq⟩, q⟩
  · obtain ⟨its, rv, p, hz⟩ := I1.list hq
    refine wpAny_pyIter_list p.isList ?_
    refine ⟨s1.heap.objs.size, [s1.heap.objs.size], _, _, H1, rfl, I1.kept (t' := s1.toks) fun b o e => Heap.get?_push_of_some _ e, turn_list a _, ⟨_, Heap.get?_push_size _ rfl, rfl, rfl⟩, fun b hb => ?_, q⟩
    have e : b = s1.heap.objs.size := by simpa using hb
    subst e
    exact I1.fpOk (Nat.le_refl _) (I1.hok.fresh (Nat.le_refl _))
  · obtain ⟨its, rv, p, hz⟩ := I1.tuple hq
    refine wpAny_pyIter_tuple (show s1.heap.IsTuple a its.toArray from p) ?_
    refine ⟨s1.heap.objs.size, [s1.heap.objs.size], _, _, H1, rfl, I1.kept (t' := s1.toks) fun b o e => Heap.get?_push_of_some _ e, turn_tuple a _, ⟨_, Heap.get?_push_size _ rfl, rfl, rfl⟩, fun b hb => ?_, q⟩
    have e : b = s1.heap.objs.size := by simpa using hb
    subst e
    exact I1.fpOk (Nat.le_refl _) (I1.hok.fresh (Nat.le_refl _))
section
variable {F : Fm} {M : List (Addr × OC)} {δ : List SD} {K : PySem.W.Frag} {ta tb te : TE} {d e : PyData} {i j : Int} {x : Str}
theorem itd_list {G : Hp} {a : Addr} {vs : List V} {ds : List PyData} (h : G a = some (.lst vs)) (r : RpAll G vs ds) : ItD (Itl K a) G ds where
  go := fun i H e hi => by
    obtain ⟨v, hv, _⟩ := r.get (List.getElem?_eq_getElem hi)
    exact ⟨vs, v, SqL.of (e _ _ h), hv⟩
  stop := fun H e => ⟨vs, SqL.of (e _ _ h), by rw [r.length]; exact Nat.le_refl _⟩
  yld := fun i H x H' d e hd y => by
    obtain ⟨rfl, hx⟩ := y
    obtain ⟨v, hv, rv⟩ := r.get hd
    have := hx vs (SqL.of (e _ _ h))
    rw [hv] at this
    cases this
    exact ⟨Same.refl _, fun Z z _ => rv.same z⟩
theorem itd_tup {G : Hp} {a : Addr} {vs : List V} {ds : List PyData} (h : G a = some (.tup vs)) (r : RpAll G vs ds) : ItD (Itt K a) G ds where
  go := fun i H e hi => by
    obtain ⟨v, hv, _⟩ := r.get (List.getElem?_eq_getElem hi)
    exact ⟨vs, v, SqT.of (e _ _ h), hv⟩
  stop := fun H e => ⟨vs, SqT.of (e _ _ h), by rw [r.length]; exact Nat.le_refl _⟩
  yld := fun i H x H' d e hd y => by
    obtain ⟨rfl, hx⟩ := y
    obtain ⟨v, hv, rv⟩ := r.get hd
    have := hx vs (SqT.of (e _ _ h))
    rw [hv] at this
    cases this
    exact ⟨Same.refl _, fun Z z _ => rv.same z⟩
theorem ei_seq {ds : List PyData} (h : Ev F M δ te d) (hq : seqOf d ds) : Evi F M δ (iSeq K te) ds := fun σ H s R q => by
  refine h σ H s _ fun v H1 s1 e1 r1 => ?_
  obtain ⟨a, vs, rfl, rv, hc⟩ := seq_inv r1 hq
  refine ⟨a, rfl, ?_⟩
  rcases hc with ⟨_, hc⟩ | ⟨_, hc⟩
  · exact .inl ⟨⟨vs, SqL.of (shr_sub _ _ _ _ hc)⟩, q _ H1 s1 e1 (itd_list hc rv)⟩
  · exact .inr ⟨⟨vs, SqT.of (shr_sub _ _ _ _ hc)⟩, q _ H1 s1 e1 (itd_tup hc rv)⟩
def rngD (lo : Int) (n : Nat) : List PyData := (List.range n).map fun k => .int (lo + (k : Nat))
theorem itd_rng {G : Hp} (lo : Int) (n : Nat) : ItD (Itr lo n) G (rngD lo n) where
  go := fun i H e hi => by
    have : i < n := by simpa [rngD] using hi
    exact this
  stop := fun H e => by show n ≤ (rngD lo n).length; simp [rngD]
  yld := fun i H x H' d e hd y => by
    obtain ⟨rfl, rfl⟩ := y
    unfold rngD at hd
    rw [List.getElem?_map] at hd
    cases q : (List.range n)[i]? with
    | none => rw [q] at hd; cases hd
    | some k =>
      rw [q] at hd
      have hk : k = i := by
        obtain ⟨h1, h2⟩ := List.getElem?_eq_some_iff.mp q
        rw [List.getElem_range] at h2
        exact h2.symm
      subst hk
      cases hd
      exact ⟨Same.refl _, fun Z _ _ => .int _⟩
theorem ei_range1 (h : Ev F M δ te (.int i)) (h1 : -4611686018427387904 ≤ i) (h2 : i < 4611686018427387904) : Evi F M δ (iRng1 (tCons te tNil)) (rngD 0 i.toNat) := fun σ H s R q => by
  refine h σ H s _ fun v H1 s1 e1 r1 => ?_
  rw [r1.int_inv]
  exact ⟨i, rfl, h1, h2, q _ H1 s1 e1 (itd_rng 0 _)⟩
theorem ei_range2 (ha : Ev F M δ ta (.int i)) (hb : Ev F M δ tb (.int j)) (h1 : -4611686018427387904 ≤ i ∧ i < 4611686018427387904 ∧ -4611686018427387904 ≤ j ∧ j < 4611686018427387904) : Evi F M δ (iRng2 (tCons ta (tCons tb tNil))) (rngD i (j - i).toNat) := fun σ H s R q => by
  refine ha σ H s _ fun v H1 s1 e1 r1 => hb σ H1 s1 _ fun u H2 s2 e2 r2 => ?_
  rw [r1.int_inv, r2.int_inv]
  exact ⟨i, j, rfl, h1, q _ H2 s2 (e1.trans e2) (itd_rng i _)⟩
def sgnD (x : Str) : List PyData := x.cps.toList.map fun c => .str ⟨#[c]⟩
theorem itd_str {G : Hp} (x : Str) : ItD (Its x) G (sgnD x) where
  go := fun i H e hi => by
    have : i < x.cps.size := by simpa [sgnD] using hi
    exact this
  stop := fun H e => by show x.cps.size ≤ (sgnD x).length; simp [sgnD]
  yld := fun i H v H' d e hd y => by
    obtain ⟨rfl, c, hc, rfl⟩ := y
    unfold sgnD at hd
    rw [List.getElem?_map] at hd
    have hc' : x.cps.toList[i]? = some c := by rw [Array.getElem?_toList]; exact hc
    rw [hc'] at hd
    cases hd
    exact ⟨Same.refl _, fun Z _ _ => .str _⟩
theorem ei_str (h : Ev F M δ te (.str x)) : Evi F M δ (iStr te) (sgnD x) := fun σ H s R q => by
  refine h σ H s _ fun v H1 s1 e1 r1 => ?_
  exact ⟨x, r1.str_inv, q _ H1 s1 e1 (itd_str x)⟩

/-! ### targets -/
def Tg (g : TG) (d : PyData) (δ δ' : List SD) : Prop := ∀ (F : Fm) (M : List (Addr × OC)) (σ : St) (H : Hp) (v : V), S F M δ σ H → Rp (shr F.O H) v d → ∀ Q : St → Hp → Prop, (∀ σ', S F M δ' σ' H → Q σ' H) → g v σ H Q
def Tgs (g : TGs) (ds : List PyData) (δ δ' : List SD) : Prop := ∀ (F : Fm) (M : List (Addr × OC)) (σ : St) (H : Hp) (vs : List V), S F M δ σ H → RpAll (shr F.O H) vs ds → ∀ Q : St → Hp → Prop, (∀ σ', S F M δ' σ' H → Q σ' H) → g vs σ H Q
theorem tg_name {i : Nat} : Tg (gName i) d δ (δ.set i (.dat d)) := fun F M σ H v s r Q q => q _ (s.set r i)
theorem tgs_nil : Tgs gNil [] δ δ := fun F M σ H vs s r Q q => by
  cases r
  exact ⟨rfl, q σ s⟩
theorem tgs_cons {g : TG} {gs : TGs} {ds : List PyData} {δ1 δ2 : List SD} (h : Tg g d δ δ1) (hr : Tgs gs ds δ1 δ2) : Tgs (gCons g gs) (d :: ds) δ δ2 := fun F M σ H vs s r Q q => by
  cases r with
  | cons r1 r2 => exact ⟨_, _, rfl, h F M σ H _ s r1 _ fun σ1 s1 => hr F M σ1 H _ s1 r2 Q q⟩
theorem tg_tup {gs : TGs} {ds : List PyData} {δ' : List SD} {n : Nat} (h : Tgs gs ds δ δ') (hn : ds.length = n := by rfl) : Tg (gTup K n gs) (.tuple ds) δ δ' := fun F M σ H v s r Q q => by
  obtain ⟨a, vs, rfl, h1, h2⟩ := r.tup_inv
  exact ⟨a, vs, rfl, SqT.of (shr_sub _ _ _ _ h1), by rw [h2.length, hn], h F M σ H vs s h2 Q q⟩

/-! ### comprehensions -/
theorem wipe_one (σ : St) (s : Nat) : wipe σ [s] = σ.set s none := rfl
/-- the state within a comprehension: the new list at D is owned -/
theorem ev_lcF {wi : TI} {sl : Nat} {tt : TT} {ds : List PyData} {p : PyData → Bool} {f : PyData → PyData} (hw : Evi F M δ wi ds) (hlen : ds.length < 16777216 := by decide)
    (ht : ∀ (F' : Fm) (M' : List (Addr × OC)) (d : PyData), d ∈ ds → Et F' M' (δ.set sl (.dat d)) tt (p d))
    (he : ∀ (F' : Fm) (M' : List (Addr × OC)) (d : PyData), d ∈ ds → p d = true → Ev F' M' (δ.set sl (.dat d)) te (f d)) :
    Ev F M δ (tLc wi (gName sl) tt te [sl]) (.list ((ds.filter p).map f)) := fun σ H s Q q => by
  refine hw σ H s _ fun J H1 s1 e1 it => ?_
  intro D hD
  have sO : F.O D = false := s1.fresh hD
  have f0 : S (F.own D) ((D, OC.lst []) :: M) δ σ (upd H1 D (.lst [])) := s1.newOwn hD ⟨[], upd_same, .nil⟩
  have hG : Same (shr F.O H1) (shr (F.own D).O (upd H1 D (.lst []))) := by
    intro a o h
    have hne : a ≠ D := fun z => by rw [z] at h; rw [shr_sub _ _ _ _ h] at hD; cases hD
    refine shr_at (by rw [upd_ne hne]; exact shr_sub _ _ _ _ h) ?_
    cases c : (F.own D).O a with
    | false => rfl
    | true =>
      rcases orA_cases c with c | c
      · unfold shr at h; rw [if_pos c] at h; cases h
      · exact absurd c hne
  refine ⟨fun i m H' => m = ds.length - i ∧ i ≤ ds.length ∧ S ((F.own D).push (upd H1 D (.lst []))) ((D, OC.lst (((ds.take i).filter p).map f)) :: M) δ σ H' ∧ Same H1 H', ⟨ds.length, by simp, Nat.zero_le _, f0.push, same_new hD⟩, ?_⟩
  rintro i m H' ⟨rfl, hi, si, se⟩
  have hGH : Same (shr F.O H1) (shr (F.own D).O H') := hG.trans (si.shared (F := (F.own D).push _) (si.kps _ List.mem_cons_self))
  have hsame : Same (shr F.O H1) H' := hGH.trans (shr_sub _ _)
  by_cases hlt : i < ds.length
  · refine .inr ⟨it.go i H' hsame hlt, fun H'' => S ((F.own D).push (upd H1 D (.lst []))) ((D, OC.lst (((ds.take (i + 1)).filter p).map f)) :: M) δ σ H'' ∧ Same H1 H'', fun H'' hN => ⟨ds.length - (i + 1), by omega, rfl, by omega, hN.1, hN.2⟩, fun x H2 hy => ?_⟩
    have hd : ds[i]? = some ds[i] := List.getElem?_eq_getElem hlt
    have htake : ds.take (i + 1) = ds.take i ++ [ds[i]] := by rw [List.take_succ, hd]; rfl
    obtain ⟨e2, hx⟩ := it.yld i H' x H2 ds[i] hsame hd hy
    have s2 := si.same e2
    have rx : Rp (shr (F.own D).O H2) x ds[i] := hx _ (hGH.trans (shr_same e2)) fun a o hn ho => shr_at ho (si.fresh (F := (F.own D).push _) hn)
    show _ ∧ _
    refine ⟨by simp [wipe], ?_⟩
    have hσ : S ((F.own D).push (upd H1 D (.lst []))) ((D, OC.lst (((ds.take i).filter p).map f)) :: M) (δ.set sl (.dat ds[i])) ((wipe σ [sl]).set sl (some x)) H2 := by
      have := (s2.wipe1 sl).set (F := (F.own D).push _) rx sl
      rw [List.set_set] at this
      exact this
    refine ht _ _ _ (List.getElem_mem hlt) _ H2 hσ _ fun H3 s3 e3 => ?_
    cases hp : p ds[i] with
    | true =>
      rw [if_pos rfl]
      refine he _ _ _ (List.getElem_mem hlt) hp _ H3 s3 _ fun y H4 s4 e4 r4 => ?_
      obtain ⟨_, vs, hv, rv⟩ := s4.own (D, OC.lst _) List.mem_cons_self
      have hl : vs.length < sizeLine := by
        rw [rv.length, sizeLine_eq, List.length_map]
        have := List.length_filter_le p (ds.take i)
        rw [List.length_take] at this
        omega
      refine ⟨vs, hv, hl, ?_⟩
      have sw := s4.write (F := (F.own D).push _) (j := 0) (c' := OC.lst (((ds.take i).filter p).map f ++ [f ds[i]])) (o := .lst (vs ++ [y])) rfl orA_r ⟨_, upd_same, rv.append (.one r4)⟩
      have eM : ((ds.take (i + 1)).filter p).map f = ((ds.take i).filter p).map f ++ [f ds[i]] := by
        rw [htake, List.filter_append, List.map_append]
        congr 1
        rw [List.filter_cons_of_pos hp]; rfl
      rw [eM]
      have e14 : Same H1 H4 := se.trans (e2.trans (e3.trans e4))
      exact ⟨sw.slots (Paired.mapP si.sl fun _ _ h => h.same (by rw [shr_upd (show ((F.own D).push _).O D = true from orA_r)]; exact shr_same (e2.trans (e3.trans e4)))), fun a o h => by rw [upd_ne (ne_of_none h hD)]; exact e14 a o h⟩
    | false =>
      rw [if_neg Bool.false_ne_true]
      have eM : ((ds.take (i + 1)).filter p).map f = ((ds.take i).filter p).map f := by
        rw [htake, List.filter_append, List.filter_cons_of_neg (by rw [hp]; exact Bool.false_ne_true)]
        simp
      rw [eM]
      exact ⟨(si.same (e2.trans e3)), se.trans (e2.trans e3)⟩
  · have hi' : i = ds.length := by omega
    subst hi'
    refine .inl ⟨it.stop H' hsame, ?_⟩
    rw [List.take_length] at si
    obtain ⟨_, vs, hv, rv⟩ := si.own (D, OC.lst _) List.mem_cons_self
    have sub : Same (shr (F.own D).O H') (shr F.O H') := shr_mono fun a h => orA_l h
    refine q _ H' (s1.same se) (e1.trans se) (.lst (shr_at hv sO) (rv.same sub))
end
end G
set_option Elab.async false
set_option linter.all false
set_option maxRecDepth 100000
set_option maxHeartbeats 4000000
/-! The data layer 4: statements, loops, promises. -/
namespace G
open PySem L2
section
variable {F : Fm} {M : List (Addr × OC)} {δ δ' : List SD} {σ : St} {H : Hp} {K : PySem.W.Frag} {ta : TA} {te to ti tv : TE} {d e : PyData} {tt : TT} {b : Bool} {i j : Nat} {t u : TS} {D : Ends} {g : TG} {l : Addr}

theorem ev_lc {wi : TI} {sl : Nat} {ds : List PyData} {f : PyData → PyData} (hw : Evi F M δ wi ds) (he : ∀ (F' : Fm) (M' : List (Addr × OC)) (d : PyData), d ∈ ds → Ev F' M' (δ.set sl (.dat d)) te (f d)) (hlen : ds.length < 16777216 := by decide) :
    Ev F M δ (tLc wi (gName sl) tYes te [sl]) (.list (ds.map f)) := by
  have := ev_lcF (p := fun _ => true) (f := f) (te := te) (tt := tYes) hw hlen (fun F' M' d hd => et_yes) (fun F' M' d hd _ => he F' M' d hd)
  rw [List.filter_eq_self.mpr (fun _ _ => rfl)] at this
  exact this

/-! ### plain statements -/
theorem st_seq (h : t { D with nx := u D } σ H) : tSeq t u D σ H := h
theorem st_asg (he : Ev F M δ te d) (s : S F M δ σ H) (k : ∀ σ' H', S F M (δ.set i (.dat d)) σ' H' → D.nx σ' H') : tAsg te (gName i) D σ H :=
  he σ H s _ fun v H1 s1 _ r1 => k _ _ (s1.set r1 i)
theorem st_asgR {v : V} (he : Er F M δ te v) (s : S F M δ σ H) (k : ∀ σ' H', S F M (δ.set i (.raw v)) σ' H' → D.nx σ' H') : tAsg te (gName i) D σ H :=
  he σ H s _ fun H1 s1 _ => k _ _ (s1.setRaw v i)
theorem st_asgG (he : Ev F M δ te d) (hg : Tg g d δ δ') (s : S F M δ σ H) (k : ∀ σ' H', S F M δ' σ' H' → D.nx σ' H') : tAsg te g D σ H :=
  he σ H s _ fun v H1 s1 _ r1 => hg F M σ H1 v s1 r1 _ fun σ' s' => k σ' H1 s'
theorem st_ret (he : Ev F M δ te d) (s : S F M δ σ H) (k : ∀ v H', S F M δ σ H' → Rp (shr F.O H') v d → D.rt v H') : tRet te D σ H :=
  he σ H s _ fun v H1 s1 _ r1 => k v H1 s1 r1
theorem st_drop (he : Ev F M δ te d) (s : S F M δ σ H) (k : ∀ H', S F M δ σ H' → D.nx σ H') : tDrop te D σ H :=
  he σ H s _ fun v H1 s1 _ r1 => k H1 s1
theorem st_if (ht : Et F M δ tt b) (s : S F M δ σ H) (k1 : b = true → ∀ H', S F M δ σ H' → t D σ H') (k2 : b = false → ∀ H', S F M δ σ H' → u D σ H') : tIfS tt t u D σ H :=
  ht σ H s _ fun H1 s1 _ => by
    cases b with
    | true => exact k1 rfl H1 s1
    | false => exact k2 rfl H1 s1
theorem st_yes (ht : Et F M δ tt true) (s : S F M δ σ H) (k : ∀ H', S F M δ σ H' → t D σ H') : tIfS tt t u D σ H := st_if ht s (fun _ => k) fun h => nomatch h
theorem st_no (ht : Et F M δ tt false) (s : S F M δ σ H) (k : ∀ H', S F M δ σ H' → u D σ H') : tIfS tt t u D σ H := st_if ht s (fun h => nomatch h) fun _ => k
theorem st_next (q : D.nx σ H) : tNext D σ H := q

/-! ### owned lists and dicts -/
/-- x = [..], written later on -/
theorem st_own {ds : List PyData} (he : Ea F M δ ta ds) (hl : ds.length ≤ 16777216 := by decide) (s : S F M δ σ H)
    (k : ∀ l σ' H', F.O0 l = false → S (F.own l) ((l, OC.lst ds) :: M) (δ.set i (.raw (.ref l))) σ' H' → D.nx σ' H') : tAsg (tLst ta) (gName i) D σ H :=
  he σ H s _ fun vs H1 s1 _ r1 => ⟨by rw [r1.length, sizeLine_eq]; exact hl, fun p hp => by
    have hO0 : F.O0 p = false := by
      cases q : F.O0 p with
      | false => rfl
      | true => exact absurd hp (s1.dom p (s1.osub p q))
    exact k p _ _ hO0 ((s1.newOwn (o := .lst vs) (c := .lst ds) hp ⟨vs, upd_same, r1⟩).setRaw _ i)⟩
theorem st_ownD (s : S F M δ σ H) (k : ∀ l σ' H', F.O0 l = false → S (F.own l) ((l, OC.dct [] []) :: M) (δ.set i (.raw (.ref l))) σ' H' → D.nx σ' H') : tAsg tDNewK (gName i) D σ H :=
  fun p hp => by
    have hO0 : F.O0 p = false := by
      cases q : F.O0 p with
      | false => rfl
      | true => exact absurd hp (s.dom p (s.osub p q))
    exact k p _ _ hO0 ((s.newOwn (o := .dK []) (c := .dct [] []) hp ⟨[], upd_same, rfl, .nil⟩).setRaw _ i)
theorem mem_of_get {M : List (Addr × OC)} {p : Addr × OC} (h : M[j]? = some p) : p ∈ M := List.mem_iff_getElem?.mpr ⟨j, h⟩
/-- x.append(e) -/
theorem st_append {ds : List PyData} (hx : Er F M δ to (.ref l)) (he : Ev F M δ te d) (hm : M[j]? = some (l, OC.lst ds)) (hN : F.N l = true) (hl : ds.length < 16777216) (s : S F M δ σ H)
    (k : ∀ H', S F (M.set j (l, OC.lst (ds ++ [d]))) δ σ H' → D.nx σ H') : tDrop (tBM K "list" rAppend to (tCons te tNil)) D σ H :=
  hx σ H s _ fun H1 s1 _ => by
    obtain ⟨_, vs, hv, rv⟩ := s1.own _ (mem_of_get hm)
    refine ⟨.inl ⟨rfl, vs, SqL.of hv⟩, ?_⟩
    refine he σ H1 s1 _ fun v H2 s2 _ r2 => ?_
    obtain ⟨_, vs2, hv2, rv2⟩ := s2.own _ (mem_of_get hm)
    exact ⟨l, vs2, v, rfl, rfl, hv2, by rw [rv2.length, sizeLine_eq]; exact hl, k _ (s2.write hm hN ⟨_, upd_same, rv2.append (.one r2)⟩)⟩
/-- x.extend(y) -/
theorem st_extend {ds es : List PyData} (hx : Er F M δ to (.ref l)) (he : Ev F M δ te (.list es)) (hm : M[j]? = some (l, OC.lst ds)) (hN : F.N l = true) (hl : ds.length + es.length ≤ 16777216) (s : S F M δ σ H)
    (k : ∀ H', S F (M.set j (l, OC.lst (ds ++ es))) δ σ H' → D.nx σ H') : tDrop (tBM K "list" rExtend to (tCons te tNil)) D σ H :=
  hx σ H s _ fun H1 s1 _ => by
    obtain ⟨_, vs, hv, rv⟩ := s1.own _ (mem_of_get hm)
    refine ⟨.inl ⟨rfl, vs, SqL.of hv⟩, ?_⟩
    refine he σ H1 s1 _ fun v H2 s2 _ r2 => ?_
    obtain ⟨_, vs2, hv2, rv2⟩ := s2.own _ (mem_of_get hm)
    obtain ⟨p, us, rfl, hu, ru⟩ := r2.lst_inv
    exact ⟨l, p, vs2, us, rfl, rfl, hv2, shr_sub _ _ _ _ hu, by rw [rv2.length, ru.length, sizeLine_eq]; exact hl, k _ (s2.write hm hN ⟨_, upd_same, rv2.append ru⟩)⟩
/-- y = x.pop() -/
theorem st_popE {ds : List PyData} (hx : Er F M δ to (.ref l)) (hm : M[j]? = some (l, OC.lst (ds ++ [d]))) (hN : F.N l = true) (s : S F M δ σ H)
    (k : ∀ σ' H', S F (M.set j (l, OC.lst ds)) (δ.set i (.dat d)) σ' H' → D.nx σ' H') : tAsg (tBM0 K "list" rPop to) (gName i) D σ H :=
  hx σ H s _ fun H1 s1 _ => by
    obtain ⟨_, vs, hv, rv⟩ := s1.own _ (mem_of_get hm)
    refine ⟨.inl ⟨rfl, vs, SqL.of hv⟩, ?_⟩
    have hlen : vs.length = ds.length + 1 := by rw [rv.length, List.length_append]; rfl
    obtain ⟨v, hv2, r2⟩ := rv.get (i := ds.length) (d := d) (by rw [List.getElem?_append_right (Nat.le_refl _), Nat.sub_self]; rfl)
    refine ⟨l, vs, v, rfl, rfl, hv, by rw [hlen]; exact hv2, ?_⟩
    have hd : RpAll (shr F.O H1) vs.dropLast ds := by
      have := rv.take ds.length
      rw [List.take_append_of_le_length (Nat.le_refl _), List.take_length] at this
      rw [List.dropLast_eq_take, hlen]
      exact this
    have sw := s1.write (o := .lst vs.dropLast) hm hN (c' := OC.lst ds) ⟨_, upd_same, hd⟩
    exact k _ _ (sw.set (by rw [shr_upd (s1.nsub l hN)]; exact r2) i)
theorem kvz_len {ks : List Int} {vs : List V} (hz : ks.length = vs.length) : (kvz ks vs).length = ks.length := by unfold kvz; rw [List.length_zipWith, hz, Nat.min_self]
theorem putK_new {ks : List Int} {vs : List V} {k : Int} {v : V} (hnew : k ∉ ks) (hz : ks.length = vs.length) : putK (kvz ks vs) (Sum.inl k : Key) v = kvz (ks ++ [k]) (vs ++ [v]) := by
  have hno : ((kvz ks vs).any fun kv => decide (kv.1 = (Sum.inl k : Key))) = false := by
    rw [List.any_eq_false]
    rintro ⟨a, b⟩ hm'
    have : a ∈ (kvz ks vs).map (·.1) := List.mem_map_of_mem (f := (·.1)) hm'
    have hk : ∀ {ks : List Int} {vs : List V} {a : Key}, a ∈ (kvz ks vs).map (·.1) → ∃ k ∈ ks, a = Sum.inl k := by
      intro ks
      induction ks with
      | nil => intro vs a h; simp [kvz] at h
      | cons x ks ih =>
        intro vs a h
        cases vs with
        | nil => simp [kvz] at h
        | cons y vs =>
          have h' : a = Sum.inl x ∨ a ∈ (kvz ks vs).map (·.1) := by simpa [kvz] using h
          rcases h' with h' | h'
          · exact ⟨x, List.mem_cons_self, h'⟩
          · obtain ⟨z, hz, e⟩ := ih h'
            exact ⟨z, List.mem_cons_of_mem _ hz, e⟩
    obtain ⟨z, hz, e⟩ := hk this
    have hne : a ≠ Sum.inl k := fun h => hnew (by rw [e] at h; cases h; exact hz)
    simpa using hne
  unfold putK
  rw [hno]
  unfold kvz
  rw [List.zipWith_append hz]
  rfl
/-- d[k] = v, a new key of an owned dict -/
theorem st_dput {ks : List Int} {ds : List PyData} {k : Int} (hv : Ev F M δ tv d) (hx : Er F M δ to (.ref l)) (hi : Ev F M δ ti (.int k)) (hm : M[j]? = some (l, OC.dct ks ds)) (hN : F.N l = true) (hnew : k ∉ ks) (hl : ks.length < 16777216) (s : S F M δ σ H)
    (q : ∀ H', S F (M.set j (l, OC.dct (ks ++ [k]) (ds ++ [d]))) δ σ H' → D.nx σ H') : sDPut to ti tv D σ H :=
  hv σ H s _ fun v H1 s1 _ r1 => hx σ H1 s1 _ fun H2 s2 e2 => hi σ H2 s2 _ fun w H3 s3 e3 r3 => by
    obtain ⟨_, vs, hc, hz, rv⟩ := s3.own _ (mem_of_get hm)
    rw [r3.int_inv]
    have hkl : (kvz ks vs).length = ks.length := by unfold kvz; rw [List.length_zipWith, hz, Nat.min_self]
    have hput := putK_new (v := v) hnew hz
    refine ⟨l, _, rfl, DPut.k (k := Sum.inl k) hc (by rw [hkl, sizeLine_eq]; exact hl), ?_⟩
    rw [hput]
    refine q _ (s3.write hm hN ⟨_, upd_same, by rw [List.length_append, List.length_append, hz]; rfl, rv.append (.one (r1.same (shr_same (e2.trans e3))))⟩)
theorem ev_dinO {ks : List Int} {ds : List PyData} {k : Int} (hk : Ev F M δ ti (.int k)) (hd : Er F M δ to (.ref l)) (hm : (l, OC.dct ks ds) ∈ M) (hl : ks.length = ds.length) : Ev F M δ (tDIn ti to) (.bool (kdGet ks ds k).isSome) := fun σ H s Q q => by
  refine hk σ H s _ fun v H1 s1 e1 r1 => hd σ H1 s1 _ fun H2 s2 e2 => ?_
  obtain ⟨_, vs, h1, h2, h3⟩ := s2.own _ hm
  obtain ⟨a, o, ea, g, hs, _⟩ := dget_of k (Rp.dct h1 h2 (h3.same (shr_sub _ _)) rfl) hl
  cases ea
  rw [r1.int_inv]
  refine ⟨l, o, rfl, g _ (Same.refl _), ?_⟩
  rw [hs]
  exact q _ H2 s2 (e1.trans e2) (.bl _)
/-- an owned list becomes data again -/
theorem S.release {ds : List PyData} (s : S (F.own l) ((l, OC.lst ds) :: M) δ σ H) (hB : F.Bs = []) (hH : F.H0 l = none) (hF : F.O l = false) (hM : ∀ p ∈ M, F.O p.1 = true) (hn : ∀ a, F.N a = true → F.O a = true) (ho : ∀ a, F.O0 a = true → F.O a = true) :
    S F M δ σ H ∧ Rp (shr F.O H) (.ref l) (.list ds) := by
  have sub : Same (shr (F.own l).O H) (shr F.O H) := shr_mono fun a h => orA_l h
  have hN : ∀ a, F.N a = true → (F.own l).N a = true := fun a h => orA_l h
  have hNl : F.N l = false := by
    cases q : F.N l with
    | false => rfl
    | true => rw [hn l q] at hF; cases hF
  obtain ⟨_, vs, hv, rv⟩ := s.own _ List.mem_cons_self
  refine ⟨⟨Paired.mapP s.sl fun _ _ h => h.same sub, fun a h => s.dom a (orA_l h), hn, ho, fun a o h e => ?_, fun a h => s.fr a (orA_l h), fun B hB' => (by rw [hB] at hB'; cases hB'), fun p hp => ⟨hM p hp, (s.own p (List.mem_cons_of_mem _ hp)).2.same (Same.refl _) sub⟩, (List.nodup_cons.mp (by simpa using s.nd)).2⟩, .lst (shr_at hv hF) (rv.same sub)⟩
  have hne : a ≠ l := fun z => by
    have e' : F.H0 a = some o := e
    rw [z, hH] at e'; cases e'
  refine s.kp0 a o ?_ e
  cases q : (F.own l).N a with
  | false => rfl
  | true =>
    rcases orA_cases q with q | q
    · rw [h] at q; cases q
    · exact absurd q hne

/-! ### loops -/
theorem st_for {α : Type} {wi : TI} {tb : TS} {ds : List PyData} (Mf : Nat → α → List (Addr × OC)) (δf : Nat → α → List SD) (ok : Nat → α → Prop) (a0 : α) (hw : Evi F M δ wi ds) (s : S F M δ σ H)
    (h0 : ok 0 a0) (hM : Mf 0 a0 = M := by rfl) (hle : Le δ (δf 0 a0))
    (turn : ∀ (B : Hp) (i : Nat) (a : α) (d : PyData) (σ : St) (H : Hp) (v : V), ds[i]? = some d → ok i a → S (F.push B) (Mf i a) (δf i a) σ H → Rp (shr F.O H) v d →
      g v σ H fun σ2 H2 => tb { D with nx := fun σ' H' => ∃ a', ok (i + 1) a' ∧ S (F.push B) (Mf (i + 1) a') (δf (i + 1) a') σ' H', ct := fun σ' H' => ∃ a', ok (i + 1) a' ∧ S (F.push B) (Mf (i + 1) a') (δf (i + 1) a') σ' H', bk := D.nx } σ2 H2)
    (done : ∀ (a : α) (σ : St) (H : Hp), ok ds.length a → S F (Mf ds.length a) (δf ds.length a) σ H → D.nx σ H) : tFor wi g tb D σ H :=
  hw σ H s _ fun J H1 s1 e1 it => by
    subst hM
    refine ⟨fun i m σ' H' => m = ds.length - i ∧ i ≤ ds.length ∧ ∃ a, ok i a ∧ S (F.push H1) (Mf i a) (δf i a) σ' H', ⟨ds.length, by simp, Nat.zero_le _, a0, h0, (s1.push).le hle⟩, ?_⟩
    rintro i m σ' H' ⟨rfl, hi, a, oka, si⟩
    have hG : Same (shr F.O H1) (shr F.O H') := si.shared (F := F.push H1) si.top
    have hsame : Same (shr F.O H1) H' := hG.trans (shr_sub _ _)
    by_cases hlt : i < ds.length
    · refine .inr ⟨it.go i H' hsame hlt, fun σ'' H'' => ∃ a', ok (i + 1) a' ∧ S (F.push H1) (Mf (i + 1) a') (δf (i + 1) a') σ'' H'', fun σ'' H'' hN => ⟨ds.length - (i + 1), by omega, rfl, by omega, hN⟩, fun x H2 hy => ?_⟩
      have hd : ds[i]? = some ds[i] := List.getElem?_eq_getElem hlt
      obtain ⟨e2, hx⟩ := it.yld i H' x H2 ds[i] hsame hd hy
      have s2 := si.same e2
      have rx : Rp (shr F.O H2) x ds[i] := hx _ (hG.trans (shr_same e2)) fun a o hn ho => shr_at ho (si.fresh (F := F.push H1) hn)
      exact turn H1 i a ds[i] σ' H2 x hd oka s2 rx
    · have hi' : i = ds.length := by omega
      subst hi'
      exact .inl ⟨it.stop H' hsame, done a σ' H' oka si.pop⟩
/-- .. the turn's target is a name -/
theorem tg_use {Q : St → Hp → Prop} {v : V} (hg : Tg g d δ δ') (s : S F M δ σ H) (r : Rp (shr F.O H) v d) (k : ∀ σ', S F M δ' σ' H → Q σ' H) : g v σ H Q := hg F M σ H v s r Q k
theorem st_while {tb : TS} (W : Nat → St → Hp → Prop) (h0 : ∃ m, W m σ H)
    (turn : ∀ m σ H, W m σ H → tt σ H fun b H1 => if b = true then ∃ N : St → Hp → Prop, (∀ σ' H', N σ' H' → ∃ m', m' < m ∧ W m' σ' H') ∧ tb { D with nx := N, ct := N, bk := D.nx } σ H1 else D.nx σ H1) : tWhile tt tb D σ H := ⟨W, h0, turn⟩
end

/-! ### .. with a statement behind -/
section
variable {F : Fm} {M : List (Addr × OC)} {δ δ' : List SD} {σ : St} {H : Hp} {K : PySem.W.Frag} {ta : TA} {te to ti tv : TE} {d e : PyData} {tt : TT} {b : Bool} {i j : Nat} {t t2 u : TS} {D : Ends} {g : TG} {l : Addr}
theorem sq_asg (he : Ev F M δ te d) (s : S F M δ σ H) (k : ∀ σ' H', S F M (δ.set i (.dat d)) σ' H' → u D σ' H') : tSeq (tAsg te (gName i)) u D σ H := st_asg (D := { D with nx := u D }) he s k
theorem sq_asgR {v : V} (he : Er F M δ te v) (s : S F M δ σ H) (k : ∀ σ' H', S F M (δ.set i (.raw v)) σ' H' → u D σ' H') : tSeq (tAsg te (gName i)) u D σ H := st_asgR (D := { D with nx := u D }) he s k
theorem sq_asgG (he : Ev F M δ te d) (hg : Tg g d δ δ') (s : S F M δ σ H) (k : ∀ σ' H', S F M δ' σ' H' → u D σ' H') : tSeq (tAsg te g) u D σ H := st_asgG (D := { D with nx := u D }) he hg s k
theorem sq_drop (he : Ev F M δ te d) (s : S F M δ σ H) (k : ∀ H', S F M δ σ H' → u D σ H') : tSeq (tDrop te) u D σ H := st_drop (D := { D with nx := u D }) he s k
theorem sq_if (ht : Et F M δ tt b) (s : S F M δ σ H) (k1 : b = true → ∀ H', S F M δ σ H' → t { D with nx := u D } σ H') (k2 : b = false → ∀ H', S F M δ σ H' → t2 { D with nx := u D } σ H') : tSeq (tIfS tt t t2) u D σ H := st_if (D := { D with nx := u D }) ht s k1 k2
/-- an if without else -/
theorem sq_ifN (ht : Et F M δ tt b) (s : S F M δ σ H) (k1 : b = true → ∀ H', S F M δ σ H' → t { D with nx := u D } σ H') (k2 : b = false → ∀ H', S F M δ σ H' → u D σ H') : tSeq (tIfS tt t tNext) u D σ H := st_if (D := { D with nx := u D }) ht s k1 k2
theorem sq_noN (ht : Et F M δ tt false) (s : S F M δ σ H) (k2 : ∀ H', S F M δ σ H' → u D σ H') : tSeq (tIfS tt t tNext) u D σ H := sq_ifN ht s (fun h => nomatch h) fun _ => k2
theorem sq_yesN (ht : Et F M δ tt true) (s : S F M δ σ H) (k1 : ∀ H', S F M δ σ H' → t { D with nx := u D } σ H') : tSeq (tIfS tt t tNext) u D σ H := sq_ifN ht s (fun _ => k1) (fun h => nomatch h)
theorem sq_own {ds : List PyData} (he : Ea F M δ ta ds) (s : S F M δ σ H)
    (k : ∀ l σ' H', F.O0 l = false → S (F.own l) ((l, OC.lst ds) :: M) (δ.set i (.raw (.ref l))) σ' H' → u D σ' H') (hl : ds.length ≤ 16777216 := by first | decide | (simp only [List.length_cons, List.length_nil]; decide)) : tSeq (tAsg (tLst ta) (gName i)) u D σ H := st_own (D := { D with nx := u D }) he hl s k
theorem sq_ownD (s : S F M δ σ H) (k : ∀ l σ' H', F.O0 l = false → S (F.own l) ((l, OC.dct [] []) :: M) (δ.set i (.raw (.ref l))) σ' H' → u D σ' H') : tSeq (tAsg tDNewK (gName i)) u D σ H := st_ownD (D := { D with nx := u D }) s k
theorem sq_append {ds : List PyData} (j : Nat) (hx : Er F M δ to (.ref l)) (he : Ev F M δ te d) (hm : M[j]? = some (l, OC.lst ds)) (hN : F.N l = true) (hl : ds.length < 16777216) (s : S F M δ σ H)
    (k : ∀ H', S F (M.set j (l, OC.lst (ds ++ [d]))) δ σ H' → u D σ H') : tSeq (tDrop (tBM K "list" rAppend to (tCons te tNil))) u D σ H := st_append (D := { D with nx := u D }) hx he hm hN hl s k
theorem sq_popE {ds : List PyData} (j : Nat) (hx : Er F M δ to (.ref l)) (hm : M[j]? = some (l, OC.lst (ds ++ [d]))) (hN : F.N l = true) (s : S F M δ σ H)
    (k : ∀ σ' H', S F (M.set j (l, OC.lst ds)) (δ.set i (.dat d)) σ' H' → u D σ' H') : tSeq (tAsg (tBM0 K "list" rPop to) (gName i)) u D σ H := st_popE (D := { D with nx := u D }) hx hm hN s k
theorem sq_dput {ks : List Int} {ds : List PyData} {k : Int} (j : Nat) (hv : Ev F M δ tv d) (hx : Er F M δ to (.ref l)) (hi : Ev F M δ ti (.int k)) (hm : M[j]? = some (l, OC.dct ks ds)) (hN : F.N l = true) (hnew : k ∉ ks) (hl : ks.length < 16777216) (s : S F M δ σ H)
    (q : ∀ H', S F (M.set j (l, OC.dct (ks ++ [k]) (ds ++ [d]))) δ σ H' → u D σ H') : tSeq (sDPut to ti tv) u D σ H := st_dput (D := { D with nx := u D }) hv hx hi hm hN hnew hl s q
theorem sq_for {α : Type} {wi : TI} {tb : TS} {ds : List PyData} (Mf : Nat → α → List (Addr × OC)) (δf : Nat → α → List SD) (ok : Nat → α → Prop) (a0 : α) (hw : Evi F M δ wi ds) (s : S F M δ σ H)
    (h0 : ok 0 a0) (hM : Mf 0 a0 = M) (hle : Le δ (δf 0 a0))
    (turn : ∀ (B : Hp) (i : Nat) (a : α) (d : PyData) (σ : St) (H : Hp) (v : V), ds[i]? = some d → ok i a → S (F.push B) (Mf i a) (δf i a) σ H → Rp (shr F.O H) v d →
      g v σ H fun σ2 H2 => tb { D with nx := fun σ' H' => ∃ a', ok (i + 1) a' ∧ S (F.push B) (Mf (i + 1) a') (δf (i + 1) a') σ' H', ct := fun σ' H' => ∃ a', ok (i + 1) a' ∧ S (F.push B) (Mf (i + 1) a') (δf (i + 1) a') σ' H', bk := u D } σ2 H2)
    (done : ∀ (a : α) (σ : St) (H : Hp), ok ds.length a → S F (Mf ds.length a) (δf ds.length a) σ H → u D σ H) : tSeq (tFor wi g tb) u D σ H :=
  st_for (D := { D with nx := u D }) Mf δf ok a0 hw s h0 hM hle turn done
theorem sq_while {tb : TS} (W : Nat → St → Hp → Prop) (h0 : ∃ m, W m σ H)
    (turn : ∀ m σ H, W m σ H → tt σ H fun b H1 => if b = true then ∃ N : St → Hp → Prop, (∀ σ' H', N σ' H' → ∃ m', m' < m ∧ W m' σ' H') ∧ tb { D with nx := N, ct := N, bk := u D } σ H1 else u D σ H1) : tSeq (tWhile tt tb) u D σ H :=
  st_while (D := { D with nx := u D }) W h0 turn
end

/-! ### promises -/
/-- a pure def: data to data -/
def PureSp (R : List PyData → PyData → Prop) : Sp := fun vs H Q _ => ∃ (O : Addr → Bool) (ds : List PyData) (d : PyData), (∀ a, O a = true → H a ≠ none) ∧ RpAll (shr O H) vs ds ∧ R ds d ∧ ∀ v H', Same H H' → Rp (shr O H') v d → Q v H'
/-- what a def that may raise comes to -/
inductive Out where
  | ret (d : PyData)
  | exc (C : Addr) (fs : List (Str × PyData))
def OutOk (O : Addr → Bool) (H : Hp) (Q : VK) (E : XK) : Out → Prop
  | .ret d => ∀ v H', Same H H' → Rp (shr O H') v d → Q v H'
  | .exc C fs => ∀ dd H' vs, Same H H' → H' dd = some (.xd ((fs.map (·.1)).zip vs)) → RpAll (shr O H') vs (fs.map (·.2)) → E (.ref C) (some dd) H'
def SpX (R : List PyData → Out → Prop) : Sp := fun vs H Q E => ∃ (O : Addr → Bool) (ds : List PyData) (o : Out), (∀ a, O a = true → H a ≠ none) ∧ RpAll (shr O H) vs ds ∧ R ds o ∧ OutOk O H Q E o
def F0 (O : Addr → Bool) (H : Hp) : Fm := ⟨O, fun _ => false, fun _ => false, O, H, []⟩
theorem paired_start {G : Hp} : ∀ {vs : List V} {ds : List PyData} (n : Nat), RpAll G vs ds → Paired (SlotOk G) (vs.map some ++ List.replicate n none) (ds.map SD.dat ++ List.replicate n SD.any)
  | _, _, 0, .nil => .nil
  | _, _, n + 1, .nil => by
    rw [List.replicate_succ, List.replicate_succ]
    exact .cons trivial (paired_start (vs := []) (ds := []) n .nil)
  | _, _, n, .cons h r => .cons h (paired_start n r)
theorem S.start {O : Addr → Bool} {H : Hp} {vs : List V} {ds : List PyData} {N : List Str} {δ : List SD} (hO : ∀ a, O a = true → H a ≠ none) (r : RpAll (shr O H) vs ds) (hδ : δ = ds.map SD.dat ++ List.replicate (N.length - ds.length) SD.any) : S (F0 O H) [] δ (start N vs) H := by
  refine ⟨?_, hO, fun a h => Bool.noConfusion (show false = true from h), fun a h => h, Kp.refl, fun a h => Bool.noConfusion (show false = true from h), fun B h => absurd (show B ∈ ([] : List Hp) from h) (by simp), fun p h => absurd h (by simp), List.nodup_nil⟩
  subst hδ
  have := paired_start (N.length - ds.length) r
  rw [← r.length] at this
  unfold L2.start
  rw [← r.length]
  exact this
section
variable {F : Fm} {M : List (Addr × OC)} {δ : List SD} {σ : St} {H : Hp} {ta : TA} {d : PyData} {ds : List PyData}
theorem S.pureSame {H0 H : Hp} (s : S F M δ σ H) (h0 : F.H0 = H0) (hP : ∀ a, F.P a = false) : Same H0 H := fun a o h => by
  subst h0
  refine s.kp0 a o ?_ h
  cases q : F.N a with
  | false => rfl
  | true =>
    rcases s.fr a q with z | z
    · rw [hP] at z; cases z
    · rw [z.1] at h; cases h
theorem ev_call {R : List PyData → PyData → Prop} {E : XK} (ha : Ea F M δ ta ds) (hR : R ds d) : Ev F M δ (tCall (PureSp R) [] E ta) d := fun σ H s Q q => by
  refine ha σ H s _ fun vs H1 s1 e1 r1 => ?_
  refine ⟨F.O, ds, d, s1.dom, by rw [List.append_nil]; exact r1, hR, fun v H' e r => q v H' (s1.same e) (e1.trans e) r⟩
theorem ev_callS {R : List PyData → PyData → Prop} {E : St → XK} (ha : Ea F M δ ta ds) (hR : R ds d) : Ev F M δ (tCallS (PureSp R) E ta) d := fun σ H s Q q => by
  refine ha σ H s _ fun vs H1 s1 e1 r1 => ?_
  exact ⟨F.O, ds, d, s1.dom, r1, hR, fun v H' e r => q v H' (s1.same e) (e1.trans e) r⟩
/-- .. of a def that may raise, but does not here -/
theorem ev_callX {R : List PyData → Out → Prop} {E : XK} (ha : Ea F M δ ta ds) (hR : R ds (.ret d)) : Ev F M δ (tCall (SpX R) [] E ta) d := fun σ H s Q q => by
  refine ha σ H s _ fun vs H1 s1 e1 r1 => ?_
  refine ⟨F.O, ds, .ret d, s1.dom, by rw [List.append_nil]; exact r1, hR, fun v H' e r => q v H' (s1.same e) (e1.trans e) r⟩
/-- .. and raises here -/
theorem tx_call {R : List PyData → Out → Prop} {E : XK} {Q : VK} {C : Addr} {fs : List (Str × PyData)} (ha : Ea F M δ ta ds) (hR : R ds (.exc C fs)) (s : S F M δ σ H)
    (k : ∀ dd H' vs, S F M δ σ H' → H' dd = some (.xd ((fs.map (·.1)).zip vs)) → RpAll (shr F.O H') vs (fs.map (·.2)) → E (.ref C) (some dd) H') : tCall (SpX R) [] E ta σ H Q :=
  ha σ H s _ fun vs H1 s1 e1 r1 => ⟨F.O, ds, .exc C fs, s1.dom, by rw [List.append_nil]; exact r1, hR, fun dd H' us e h r => k dd H' us (s1.same e) h r⟩
end
end G
set_option Elab.async false
set_option linter.all false
set_option maxRecDepth 100000
set_option maxHeartbeats 4000000
/-! The data layer 5: defs by name. -/
namespace G
open PySem PySem.Spec PyProof.Rows L2
theorem own_l {F : Fm} {l : Addr} : (F.own l).N l = true := orA_r
theorem own_lp {F : Fm} {l : Addr} {B : Hp} : ((F.own l).push B).N l = true := orA_r
theorem own_lpp {F : Fm} {l : Addr} {B B' : Hp} : (((F.own l).push B).push B').N l = true := orA_r
section
variable {F : Fm} {M : List (Addr × OC)} {δ : List SD} {σ : L2.St} {H H0 : Hp} {O : Addr → Bool} {te : TE} {d : PyData} {ds : List PyData} {l : Addr} {D : Ends}
/-- a def's return, from any state of its own -/
theorem st_retM (he : Ev F M δ te d) (s : S F M δ σ H) (k : ∀ v H', Same H0 H' → Rp (shr O H') v d → D.rt v H') (h0 : F.H0 = H0 := by rfl) (hP : ∀ a, F.P a = false := by intro _; rfl) (hO : F.O0 = O := by rfl) : tRet te D σ H :=
  st_ret he s fun v H' s' r => k v H' (s'.pureSame h0 hP) (r.same (shr_mono fun a h => s'.osub a (by rw [hO]; exact h)))
/-- an owned list is handed out -/
theorem st_retO {F1 : Fm} (hx : Er (F1.own l) ((l, OC.lst ds) :: M) δ te (.ref l)) (s : S (F1.own l) ((l, OC.lst ds) :: M) δ σ H) (k : ∀ v H', Same H0 H' → Rp (shr O H') v (.list ds) → D.rt v H') (h0 : F1.H0 = H0 := by rfl) (hP : ∀ a, F1.P a = false := by intro _; rfl) (hO : F1.O0 = O := by rfl) : tRet te D σ H :=
  hx σ H s _ fun H' s' _ => by
    obtain ⟨_, vs, hv, rv⟩ := s'.own _ List.mem_cons_self
    have hl : O l = false := by
      rcases s'.fr l (show (F1.own l).N l = true from orA_r) with z | z
      · have := hP l
        rw [show (F1.own l).P l = F1.P l from rfl, this] at z; cases z
      · rw [← hO]; exact z.2
    exact k _ H' (s'.pureSame h0 hP) (.lst (shr_at hv hl) (rv.same (shr_mono fun a h => s'.osub a (by rw [← hO] at h; exact h))))
end
/-- a def of the text as it stands behind the top -/
def Df (K : PySem.W.Frag) (mg : Str → Option Value) (x : Str) (st : Stmt) (ps : List Str) : Prop := ∃ f fd, Fun K x x st f fd ∧ mg x = some (.ref f) ∧ Binds K fd ps []
/-- it keeps a promise -/
structure Cl (P : Program) (w : World) (K : PySem.W.Frag) (mg : Str → Option Value) (base : Heap) (CX : CXT) (k : Nat) (x : Str) (ps : List Str) (sp : Sp) : Prop where
  ex : ∃ f fd, FnOk P w K mg base CX k f fd ps sp ∧ mg x = some (.ref f) ∧ PySem.W.keepIn K (.ref f) = true ∧ Binds K fd ps []
section
variable {P : Program} {w : World} {K : PySem.W.Frag} {mg : Str → Option Value} {base : Heap} {CX : CXT} {j k : Nat} {x : Str} {ps N : List Str} {sp : Sp} {st : Stmt}
theorem Cl.imp {sp' : Sp} (c : Cl P w K mg base CX k x ps sp) (h : ∀ vs H Q E, sp' vs H Q E → sp vs H Q E) : Cl P w K mg base CX k x ps sp' := by
  obtain ⟨f, fd, F, m, kp, b⟩ := c.ex
  exact ⟨f, fd, F.imp h, m, kp, b⟩
theorem pure_ok {R : List PyData → PyData → Prop} (D : Df K mg x st ps) (Sc : FnScope N ps (defScope st)) (hlen : ∀ ds d, R ds d → ds.length = ps.length)
    (hbody : ∀ (f : Addr) (cdv : Value) (A : Around) (outer : List Env) (s : Shared) (H : Hp) (E : XK), Room k (A.deeper (envOfC x (defScope st) s.heap.objs.size f cdv)) →
      ∃ t, PSs (cxOf CX0 P w K mg base N x (defScope st) f cdv A outer s H E).nox (defBody st) t ∧ ∀ (O : Addr → Bool) (ds : List PyData) (d : PyData) (σ : L2.St), R ds d → S (F0 O H) [] (ds.map SD.dat ++ List.replicate (N.length - ds.length) SD.any) σ H →
        ∀ Q : VK, (∀ v H', Same H H' → Rp (shr O H') v d → Q v H') → t { nx := fun _ H' => Q .non H', rt := Q } σ H) : Cl P w K mg base CX0 (k + 1) x ps (PureSp R) := by
  obtain ⟨f, fd, F, m, b⟩ := D
  refine ⟨f, fd, F.ok Sc (fun vs H Q E h => ?_) (fun cdv A outer s H vs Q E hr h => ?_), m, F.kp, b⟩
  · obtain ⟨O, ds, d, _, r, hR, _⟩ := h
    rw [r.length]; exact hlen ds d hR
  · obtain ⟨t, ht, hq⟩ := hbody f cdv A outer s H E hr
    obtain ⟨O, ds, d, hO, r, hR, q⟩ := h
    exact ⟨t, ht, hq O ds d _ hR (S.start hO r rfl) Q q⟩
theorem spx_ok {R : List PyData → Out → Prop} (D : Df K mg x st ps) (Sc : FnScope N ps (defScope st)) (hlen : ∀ ds d, R ds d → ds.length = ps.length)
    (hbody : ∀ (f : Addr) (cdv : Value) (A : Around) (outer : List Env) (s : Shared) (H : Hp) (E : XK), Room k (A.deeper (envOfC x (defScope st) s.heap.objs.size f cdv)) →
      ∃ t, PSs (cxOf (L2.CX P w) P w K mg base N x (defScope st) f cdv A outer s H E) (defBody st) t ∧ ∀ (O : Addr → Bool) (ds : List PyData) (o : Out) (σ : L2.St), R ds o → S (F0 O H) [] (ds.map SD.dat ++ List.replicate (N.length - ds.length) SD.any) σ H →
        ∀ Q : VK, OutOk O H Q E o → t { nx := fun _ H' => Q .non H', rt := Q } σ H) : Cl P w K mg base (L2.CX P w) (k + 1) x ps (SpX R) := by
  obtain ⟨f, fd, F, m, b⟩ := D
  refine ⟨f, fd, F.okX Sc (fun vs H Q E h => ?_) (fun cdv A outer s H vs Q E hr h => ?_), m, F.kp, b⟩
  · obtain ⟨O, ds, d, _, r, hR, _⟩ := h
    rw [r.length]; exact hlen ds d hR
  · obtain ⟨t, ht, hq⟩ := hbody f cdv A outer s H E hr
    obtain ⟨O, ds, d, hO, r, hR, q⟩ := h
    exact ⟨t, ht, hq O ds d _ hR (S.start hO r rfl) Q q⟩
theorem cl_none {R : List PyData → PyData → Prop} (D : Df K mg x st ps) (h : ∀ ds d, ¬ R ds d) : Cl P w K mg base CX k x ps (PureSp R) := by
  obtain ⟨f, fd, F, m, b⟩ := D
  have no : ∀ vs H Q E, ¬ PureSp R vs H Q E := fun vs H Q E q => by
    obtain ⟨O, ds, d, _, _, hR, _⟩ := q
    exact h _ _ hR
  exact ⟨f, fd, ⟨fun vs H Q E q => absurd q (no vs H Q E), fun A outer s H args us vs Q E _ _ _ _ q => absurd q (no vs H Q E)⟩, m, F.kp, b⟩
end
section
variable {X : Cx} {CX : CXT} {j k : Nat} {x : Str} {ps : List Str} {sp : Sp} {E : XK} {e : Expr} {es : List Expr} {t : TA} {p pos : Pos}
theorem pe_k (c : Cl X.prog X.w X.K X.mg X.base CX k x ps sp) (hr : Room j X.A) (hk : k ≤ j) (hg : Gl X x) (hx : Passes CX X E) (ha : PA X (e :: es) t)
    (hdb : (x == ("__debug__" : Str)) = false := by decide) (he : starEach (e :: es) X.env = (false, eval e X.env) :: starEach es X.env := by rfl) (hpl : (backTo pos (starEach es X.env)).any (·.1) = false := by rfl) :
    PE X (.Call (.Name x p) (e :: es) [] pos) (tCall sp [] E t) := by
  obtain ⟨f, fd, F, hm, kp, b⟩ := c.ex
  exact pe_call F (hr.mono hk) hg hm kp b .nil hx ha hdb he hpl
theorem pe_kS {E : L2.St → XK} (c : Cl X.prog X.w X.K X.mg X.base CX k x ps sp) (hr : Room j X.A) (hk : k ≤ j) (hg : Gl X x) (hx : ∀ σ, PassesAt CX X σ (E σ)) (ha : PA X (e :: es) t)
    (hdb : (x == ("__debug__" : Str)) = false := by decide) (he : starEach (e :: es) X.env = (false, eval e X.env) :: starEach es X.env := by rfl) (hpl : (backTo pos (starEach es X.env)).any (·.1) = false := by rfl) :
    PE X (.Call (.Name x p) (e :: es) [] pos) (tCallS sp E t) := by
  obtain ⟨f, fd, F, hm, kp, b⟩ := c.ex
  exact pe_callS F (hr.mono hk) hg hm kp b hx ha hdb he hpl
end
end G
set_option Elab.async false
set_option linter.all false
set_option maxRecDepth 100000
set_option maxHeartbeats 4000000
/-! A dict comprehension with int keys. -/
namespace G
open PySem L2
theorem wipe_get (σ : L2.St) : ∀ (vs : List Nat) (j : Nat), (wipe σ vs)[j]? = if j ∈ vs ∧ j < σ.length then some none else σ[j]?
  | [], j => by simp [wipe]
  | v :: vs, j => by
    show ((wipe σ vs).set v none)[j]? = _
    rw [List.getElem?_set, wipe_length, wipe_get σ vs j]
    by_cases h : v = j
    · subst h
      by_cases h2 : v < σ.length
      · rw [if_pos rfl, if_pos h2, if_pos ⟨List.mem_cons_self, h2⟩]
      · rw [if_pos rfl, if_neg h2, if_neg (fun q => h2 q.2), List.getElem?_eq_none_iff.mpr (by omega)]
    · rw [if_neg h]
      have e : (j ∈ v :: vs ∧ j < σ.length) = (j ∈ vs ∧ j < σ.length) := by
        rw [List.mem_cons]
        exact propext ⟨fun q => ⟨q.1.resolve_left (fun z => h z.symm), q.2⟩, fun q => ⟨.inr q.1, q.2⟩⟩
      simp only [e]
theorem wipe_set {σ : L2.St} {vs : List Nat} {i : Nat} {x : Option V} (h : i ∈ vs) : wipe (σ.set i x) vs = wipe σ vs := by
  apply List.ext_getElem?
  intro j
  rw [wipe_get, wipe_get, List.length_set]
  by_cases hj : j ∈ vs ∧ j < σ.length
  · rw [if_pos hj, if_pos hj]
  · rw [if_neg hj, if_neg hj, List.getElem?_set]
    by_cases hij : i = j
    · subst hij
      have hlt : ¬ i < σ.length := fun q => hj ⟨h, q⟩
      rw [if_pos rfl, if_neg hlt, List.getElem?_eq_none_iff.mpr (by omega)]
    · rw [if_neg hij]
theorem wipe_wipe {σ : L2.St} {vs : List Nat} : wipe (wipe σ vs) vs = wipe σ vs := by
  apply List.ext_getElem?
  intro j
  rw [wipe_get, wipe_length]
  by_cases hj : j ∈ vs ∧ j < σ.length
  · rw [if_pos hj, wipe_get, if_pos hj]
  · rw [if_neg hj]
def wipeD (δ : List SD) : List Nat → List SD
  | [] => δ
  | v :: vs => (wipeD δ vs).set v .any
section
variable {F : Fm} {M : List (Addr × OC)} {δ : List SD} {σ : L2.St} {H : Hp} {K : PySem.W.Frag} {te tk tv : TE}
theorem S.wipes (s : S F M δ σ H) : ∀ vs : List Nat, S F M (wipeD δ vs) (wipe σ vs) H
  | [] => s
  | v :: vs => (S.wipes s vs).wipe1 v
theorem ev_dc {wi : TI} {g : TG} {vs : List Nat} {ds : List PyData} {kf : PyData → Int} {vf : PyData → PyData} {δf : PyData → List SD} (hw : Evi F M δ wi ds) (hnd : (ds.map kf).Nodup)
    (hg : ∀ (F' : Fm) (M' : List (Addr × OC)) (d : PyData) (σ : L2.St) (H : Hp) (v : V), d ∈ ds → S F' M' (wipeD δ vs) (wipe σ vs) H → Rp (shr F'.O H) v d → ∀ Q : L2.St → Hp → Prop, (∀ σ2, S F' M' (δf d) σ2 H → wipe σ2 vs = wipe σ vs → Q σ2 H) → g v (wipe σ vs) H Q)
    (hk : ∀ (F' : Fm) (M' : List (Addr × OC)) (d : PyData), d ∈ ds → Ev F' M' (δf d) tk (.int (kf d)))
    (hv : ∀ (F' : Fm) (M' : List (Addr × OC)) (d : PyData), d ∈ ds → Ev F' M' (δf d) tv (vf d)) (hlen : ds.length < 16777216) :
    Ev F M δ (tDc wi g tYes tk tv vs) (.dict (kdz (ds.map kf) (ds.map vf))) := fun σ H s Q q => by
  refine hw σ H s _ fun J H1 s1 e1 it => ?_
  intro D hD
  have sO : F.O D = false := s1.fresh hD
  have f0 : S (F.own D) ((D, OC.dct [] []) :: M) δ σ (upd H1 D (.dK [])) := s1.newOwn (o := .dK []) (c := .dct [] []) hD ⟨[], upd_same, rfl, .nil⟩
  have hG : Same (shr F.O H1) (shr (F.own D).O (upd H1 D (.dK []))) := by
    intro a o h
    have hne : a ≠ D := fun z => by rw [z] at h; rw [shr_sub _ _ _ _ h] at hD; cases hD
    refine shr_at (by rw [upd_ne hne]; exact shr_sub _ _ _ _ h) ?_
    cases c : (F.own D).O a with
    | false => rfl
    | true =>
      rcases orA_cases c with c | c
      · unfold shr at h; rw [if_pos c] at h; cases h
      · exact absurd c hne
  refine ⟨fun i m H' => m = ds.length - i ∧ i ≤ ds.length ∧ S ((F.own D).push (upd H1 D (.dK []))) ((D, OC.dct ((ds.take i).map kf) ((ds.take i).map vf)) :: M) δ σ H' ∧ Same H1 H', ⟨ds.length, by simp, Nat.zero_le _, f0.push, same_new hD⟩, ?_⟩
  rintro i m H' ⟨rfl, hi, si, se⟩
  have hGH : Same (shr F.O H1) (shr (F.own D).O H') := hG.trans (si.shared (F := (F.own D).push _) (si.kps _ List.mem_cons_self))
  have hsame : Same (shr F.O H1) H' := hGH.trans (shr_sub _ _)
  by_cases hlt : i < ds.length
  · refine .inr ⟨it.go i H' hsame hlt, fun H'' => S ((F.own D).push (upd H1 D (.dK []))) ((D, OC.dct ((ds.take (i + 1)).map kf) ((ds.take (i + 1)).map vf)) :: M) δ σ H'' ∧ Same H1 H'', fun H'' hN => ⟨ds.length - (i + 1), by omega, rfl, by omega, hN.1, hN.2⟩, fun x H2 hy => ?_⟩
    have hd : ds[i]? = some ds[i] := List.getElem?_eq_getElem hlt
    have hmem : ds[i] ∈ ds := List.getElem_mem hlt
    have htake : ds.take (i + 1) = ds.take i ++ [ds[i]] := by rw [List.take_succ, hd]; rfl
    obtain ⟨e2, hx⟩ := it.yld i H' x H2 ds[i] hsame hd hy
    have s2 := si.same e2
    have rx : Rp (shr (F.own D).O H2) x ds[i] := hx _ (hGH.trans (shr_same e2)) fun a o hn ho => shr_at ho (si.fresh (F := (F.own D).push _) hn)
    refine hg _ _ ds[i] σ H2 x hmem (s2.wipes vs) rx _ fun σ3 s3 hw3 => ⟨hw3, ?_⟩
    refine hk _ _ _ hmem σ3 H2 s3 _ fun y H4 s4 e4 r4 => hv _ _ _ hmem σ3 H4 s4 _ fun z H5 s5 e5 r5 => ?_
    obtain ⟨_, us, hc, hz, rv⟩ := s5.own (D, OC.dct _ _) List.mem_cons_self
    have hnew : kf ds[i] ∉ (ds.take i).map kf := by
      have hn2 : ((ds.take (i + 1)).map kf).Nodup := by
        have : ((ds.take (i + 1)).map kf).Sublist (ds.map kf) := (List.take_sublist _ _).map kf
        exact hnd.sublist this
      rw [htake, List.map_append] at hn2
      have := (List.nodup_append.mp hn2).2.2
      intro hm
      exact this _ hm _ (by simp) rfl
    refine ⟨_, Sum.inl (kf ds[i]), r4.int_inv, hc, ?_, ?_⟩
    · rw [kvz_len hz, sizeLine_eq, List.length_map, List.length_take]; omega
    · rw [putK_new hnew hz, htake, List.map_append, List.map_append]
      have sw := s5.write (F := (F.own D).push _) (j := 0) (c' := OC.dct ((ds.take i).map kf ++ [kf ds[i]]) ((ds.take i).map vf ++ [vf ds[i]])) (o := .dK (kvz ((ds.take i).map kf ++ [kf ds[i]]) (us ++ [z]))) rfl orA_r ⟨_, upd_same, by rw [List.length_append, List.length_append, hz]; rfl, rv.append (.one r5)⟩
      have e15 : Same H1 H5 := se.trans (e2.trans (e4.trans e5))
      exact ⟨sw.slots (Paired.mapP si.sl fun _ _ h => h.same (by rw [shr_upd (show ((F.own D).push _).O D = true from orA_r)]; exact shr_same (e2.trans (e4.trans e5)))), fun a o h => by rw [upd_ne (ne_of_none h hD)]; exact e15 a o h⟩
  · have hi' : i = ds.length := by omega
    subst hi'
    refine .inl ⟨it.stop H' hsame, ?_⟩
    rw [List.take_length] at si
    obtain ⟨_, us, hc, hz, rv⟩ := si.own (D, OC.dct _ _) List.mem_cons_self
    have sub : Same (shr (F.own D).O H') (shr F.O H') := shr_mono fun a h => orA_l h
    exact q _ H' (s1.same se) (e1.trans se) (.dct (shr_at hc sO) hz (rv.same sub) rfl)
end
end G
set_option Elab.async false
set_option linter.all false
set_option maxRecDepth 100000
set_option maxHeartbeats 4000000
/-! The text's defs, and what the top has left of them. -/
namespace G
open PySem L2
def topS (i : Nat) : Stmt := PySem.Challenge.pw_graftbook_k56_whole_normal_forms.main.body.getD i (.Pass ⟨0, 0, 0, 0⟩)
abbrev s_GraftError : Stmt := topS 1
abbrev s_InvalidPlot : Stmt := topS 2
abbrev s_InvalidScript : Stmt := topS 3
abbrev s_Refusal : Stmt := topS 4
abbrev s_is_int : Stmt := topS 8
abbrev s_is_count : Stmt := topS 9
abbrev s_has_size : Stmt := topS 10
abbrev s_is_word : Stmt := topS 11
abbrev s_is_plot_value : Stmt := topS 13
abbrev s_need_plot : Stmt := topS 14
abbrev s_spots_of : Stmt := topS 15
abbrev s_spots_below : Stmt := topS 16
abbrev s_with_places : Stmt := topS 17
abbrev s_places_of : Stmt := topS 18
abbrev s_row_at : Stmt := topS 19
abbrev s_spot_with : Stmt := topS 20
abbrev s_with_row : Stmt := topS 21
abbrev s_taken_out : Stmt := topS 22
abbrev s_put_in : Stmt := topS 23
abbrev s_worded : Stmt := topS 24
abbrev s_is_mark : Stmt := topS 26
abbrev s_is_deed : Stmt := topS 27
abbrev s_need_deed : Stmt := topS 28
abbrev s_refusal_of : Stmt := topS 29
abbrev s_reason_at : Stmt := topS 30
abbrev s_is_inside : Stmt := topS 31
abbrev s_run_deed : Stmt := topS 32
abbrev s_plot_behind_deed : Stmt := topS 33
abbrev s_need_script : Stmt := topS 35
abbrev s_run : Stmt := topS 36
abbrev s_need_scripts : Stmt := topS 38
abbrev s_reached : Stmt := topS 39
abbrev s_met : Stmt := topS 40
abbrev s_are_free : Stmt := topS 41
abbrev s_need_histories : Stmt := topS 43
abbrev s_swapped_at : Stmt := topS 44
abbrev s_can_swap : Stmt := topS 45
abbrev s_deeds_in : Stmt := topS 46
abbrev s_every_order : Stmt := topS 47
abbrev s_normal : Stmt := topS 48
abbrev s_same_deeds : Stmt := topS 49
abbrev s__law_mixed : Stmt := topS 51
abbrev s__law_pool : Stmt := topS 52
abbrev s__law_draw : Stmt := topS 53
abbrev s__law_same : Stmt := topS 54
abbrev s__law_index : Stmt := topS 55
abbrev s__law_end : Stmt := topS 56
abbrev s__law_reason : Stmt := topS 57
abbrev s__law_put : Stmt := topS 58
abbrev s__law_done : Stmt := topS 59
abbrev s__law_run : Stmt := topS 60
abbrev s__law_free : Stmt := topS 61
abbrev s__law_plot : Stmt := topS 62
abbrev s__law_word : Stmt := topS 63
abbrev s__law_bad : Stmt := topS 64
abbrev s__law_raw : Stmt := topS 65
abbrev s__law_deed : Stmt := topS 66
abbrev s__law_is_deed : Stmt := topS 67
abbrev s__law_history : Stmt := topS 68
abbrev s__law_fault : Stmt := topS 69
abbrev s__law_in_order : Stmt := topS 70
abbrev s__law_swaps : Stmt := topS 71
abbrev s__law_orders : Stmt := topS 72
abbrev s__law_forms : Stmt := topS 73
abbrev s__law_told : Stmt := topS 74
abbrev s__law_other : Stmt := topS 75
abbrev s__law_handed : Stmt := topS 76
abbrev s__law_both : Stmt := topS 77
abbrev s__law_good : Stmt := topS 78
abbrev s_law : Stmt := topS 79
abbrev LETT : Str := "abcdefghijklmnopqrstuvwxyz"
structure Txt (K : PySem.W.Frag) (mg : Str → Option Value) : Prop where
  d_is_int : Df K mg "is_int" s_is_int ["value"]
  d_is_count : Df K mg "is_count" s_is_count ["value"]
  d_has_size : Df K mg "has_size" s_has_size ["value", "size"]
  d_is_word : Df K mg "is_word" s_is_word ["value"]
  d_is_plot_value : Df K mg "is_plot_value" s_is_plot_value ["value"]
  d_need_plot : Df K mg "need_plot" s_need_plot ["value"]
  d_spots_of : Df K mg "spots_of" s_spots_of ["t"]
  d_spots_below : Df K mg "spots_below" s_spots_below ["row", "parent"]
  d_with_places : Df K mg "with_places" s_with_places ["row", "parent"]
  d_places_of : Df K mg "places_of" s_places_of ["t"]
  d_row_at : Df K mg "row_at" s_row_at ["t", "parent"]
  d_spot_with : Df K mg "spot_with" s_spot_with ["t", "m"]
  d_with_row : Df K mg "with_row" s_with_row ["t", "parent", "row"]
  d_taken_out : Df K mg "taken_out" s_taken_out ["t", "m"]
  d_put_in : Df K mg "put_in" s_put_in ["t", "spot", "parent", "behind"]
  d_worded : Df K mg "worded" s_worded ["t", "m", "new"]
  d_is_mark : Df K mg "is_mark" s_is_mark ["value"]
  d_is_deed : Df K mg "is_deed" s_is_deed ["value"]
  d_need_deed : Df K mg "need_deed" s_need_deed ["value"]
  d_refusal_of : Df K mg "refusal_of" s_refusal_of ["t", "deed"]
  d_reason_at : Df K mg "reason_at" s_reason_at ["t", "deed"]
  d_is_inside : Df K mg "is_inside" s_is_inside ["places", "parent", "m"]
  d_run_deed : Df K mg "run_deed" s_run_deed ["t", "deed"]
  d_plot_behind_deed : Df K mg "plot_behind_deed" s_plot_behind_deed ["t", "deed"]
  d_need_script : Df K mg "need_script" s_need_script ["script"]
  d_run : Df K mg "run" s_run ["t", "script"]
  d_need_scripts : Df K mg "need_scripts" s_need_scripts ["t", "p", "q"]
  d_reached : Df K mg "reached" s_reached ["t", "script"]
  d_met : Df K mg "met" s_met ["t", "p", "q"]
  d_are_free : Df K mg "are_free" s_are_free ["t", "d", "e"]
  d_need_histories : Df K mg "need_histories" s_need_histories ["history", "other"]
  d_swapped_at : Df K mg "swapped_at" s_swapped_at ["row", "k"]
  d_can_swap : Df K mg "can_swap" s_can_swap ["deeds", "k"]
  d_deeds_in : Df K mg "deeds_in" s_deeds_in ["deeds", "numbers"]
  d_every_order : Df K mg "every_order" s_every_order ["history"]
  d_normal : Df K mg "normal" s_normal ["history"]
  d_same_deeds : Df K mg "same_deeds" s_same_deeds ["history", "other"]
  d__law_mixed : Df K mg "_law_mixed" s__law_mixed ["_law_a", "_law_b"]
  d__law_pool : Df K mg "_law_pool" s__law_pool ["_law_script"]
  d__law_draw : Df K mg "_law_draw" s__law_draw ["_law_pool_here", "_law_many"]
  d__law_same : Df K mg "_law_same" s__law_same ["_law_actual", "_law_due"]
  d__law_index : Df K mg "_law_index" s__law_index ["_law_rows", "_law_mark"]
  d__law_end : Df K mg "_law_end" s__law_end ["_law_rows", "_law_at"]
  d__law_reason : Df K mg "_law_reason" s__law_reason ["_law_rows", "_law_deed_here"]
  d__law_put : Df K mg "_law_put" s__law_put ["_law_rows", "_law_block", "_law_parent", "_law_behind"]
  d__law_done : Df K mg "_law_done" s__law_done ["_law_rows", "_law_deed_here"]
  d__law_run : Df K mg "_law_run" s__law_run ["_law_rows", "_law_deeds"]
  d__law_free : Df K mg "_law_free" s__law_free ["_law_rows", "_law_deed_here", "_law_other_here"]
  d__law_plot : Df K mg "_law_plot" s__law_plot ["_law_rows", "_law_parent"]
  d__law_word : Df K mg "_law_word" s__law_word ["_law_pool_here"]
  d__law_bad : Df K mg "_law_bad" s__law_bad ["_law_pool_here"]
  d__law_raw : Df K mg "_law_raw" s__law_raw ["_law_pool_here"]
  d__law_deed : Df K mg "_law_deed" s__law_deed ["_law_pool_here", "_law_rows"]
  d__law_is_deed : Df K mg "_law_is_deed" s__law_is_deed ["_law_deed_here"]
  d__law_history : Df K mg "_law_history" s__law_history ["_law_pool_here", "_law_many", "_law_spoilt"]
  d__law_fault : Df K mg "_law_fault" s__law_fault ["_law_histories"]
  d__law_in_order : Df K mg "_law_in_order" s__law_in_order ["_law_rows"]
  d__law_swaps : Df K mg "_law_swaps" s__law_swaps ["_law_history_here", "_law_order"]
  d__law_orders : Df K mg "_law_orders" s__law_orders ["_law_history_here"]
  d__law_forms : Df K mg "_law_forms" s__law_forms ["_law_history_here"]
  d__law_told : Df K mg "_law_told" s__law_told ["_law_word_here", "_law_history_here", "_law_other_here"]
  d__law_other : Df K mg "_law_other" s__law_other ["_law_pool_here", "_law_history_here"]
  d__law_handed : Df K mg "_law_handed" s__law_handed ["_law_pool_here", "_law_history_here"]
  d__law_both : Df K mg "_law_both" s__law_both ["_law_history_here", "_law_other_here", "_law_same_here"]
  d__law_good : Df K mg "_law_good" s__law_good ["_law_history_here", "_law_handed_here"]
  d_law : Df K mg "law" s_law ["_law_script"]
  z_len : mg "len" = none
  z_isinstance : mg "isinstance" = none
  z_int : mg "int" = none
  z_bool : mg "bool" = none
  z_str : mg "str" = none
  z_tuple : mg "tuple" = none
  z_list : mg "list" = none
  z_all : mg "all" = none
  z_range : mg "range" = none
  z_enumerate : mg "enumerate" = none
  z_sorted : mg "sorted" = none
  z_min : mg "min" = none
  LETTERS : ∃ u, mg "LETTERS" = some u ∧ RelV (.str LETT) u
  MOST_LETTERS : ∃ u, mg "MOST_LETTERS" = some u ∧ RelV (.int 8) u
theorem units65 {k : Nat} {A : Around} (hr : Room k A) : A.units + 65 < cLine := by have := hr.un; omega
end G
set_option Elab.async false
set_option linter.all false
set_option maxRecDepth 100000
set_option maxHeartbeats 4000000
namespace G
open PySem L2
/-! ### isinstance over data -/
def is_int : PyData → Bool
  | .bool _ => true
  | .int _ => true
  | _ => false
theorem kit_int : ∀ d, kitB (tyName d) "int" = some (is_int d)
  | .none => (by decide +kernel : kitB "NoneType" "int" = some false)
  | .bool _ => (by decide +kernel : kitB "bool" "int" = some true)
  | .int _ => (by decide +kernel : kitB "int" "int" = some true)
  | .str _ => (by decide +kernel : kitB "str" "int" = some false)
  | .list _ => (by decide +kernel : kitB "list" "int" = some false)
  | .tuple _ => (by decide +kernel : kitB "tuple" "int" = some false)
  | .dict _ => (by decide +kernel : kitB "dict" "int" = some false)
def is_bool : PyData → Bool
  | .bool _ => true
  | _ => false
theorem kit_bool : ∀ d, kitB (tyName d) "bool" = some (is_bool d)
  | .none => (by decide +kernel : kitB "NoneType" "bool" = some false)
  | .bool _ => (by decide +kernel : kitB "bool" "bool" = some true)
  | .int _ => (by decide +kernel : kitB "int" "bool" = some false)
  | .str _ => (by decide +kernel : kitB "str" "bool" = some false)
  | .list _ => (by decide +kernel : kitB "list" "bool" = some false)
  | .tuple _ => (by decide +kernel : kitB "tuple" "bool" = some false)
  | .dict _ => (by decide +kernel : kitB "dict" "bool" = some false)
def is_str : PyData → Bool
  | .str _ => true
  | _ => false
theorem kit_str : ∀ d, kitB (tyName d) "str" = some (is_str d)
  | .none => (by decide +kernel : kitB "NoneType" "str" = some false)
  | .bool _ => (by decide +kernel : kitB "bool" "str" = some false)
  | .int _ => (by decide +kernel : kitB "int" "str" = some false)
  | .str _ => (by decide +kernel : kitB "str" "str" = some true)
  | .list _ => (by decide +kernel : kitB "list" "str" = some false)
  | .tuple _ => (by decide +kernel : kitB "tuple" "str" = some false)
  | .dict _ => (by decide +kernel : kitB "dict" "str" = some false)
def is_tuple : PyData → Bool
  | .tuple _ => true
  | _ => false
theorem kit_tuple : ∀ d, kitB (tyName d) "tuple" = some (is_tuple d)
  | .none => (by decide +kernel : kitB "NoneType" "tuple" = some false)
  | .bool _ => (by decide +kernel : kitB "bool" "tuple" = some false)
  | .int _ => (by decide +kernel : kitB "int" "tuple" = some false)
  | .str _ => (by decide +kernel : kitB "str" "tuple" = some false)
  | .list _ => (by decide +kernel : kitB "list" "tuple" = some false)
  | .tuple _ => (by decide +kernel : kitB "tuple" "tuple" = some true)
  | .dict _ => (by decide +kernel : kitB "dict" "tuple" = some false)
def is_list : PyData → Bool
  | .list _ => true
  | _ => false
theorem kit_list : ∀ d, kitB (tyName d) "list" = some (is_list d)
  | .none => (by decide +kernel : kitB "NoneType" "list" = some false)
  | .bool _ => (by decide +kernel : kitB "bool" "list" = some false)
  | .int _ => (by decide +kernel : kitB "int" "list" = some false)
  | .str _ => (by decide +kernel : kitB "str" "list" = some false)
  | .list _ => (by decide +kernel : kitB "list" "list" = some true)
  | .tuple _ => (by decide +kernel : kitB "tuple" "list" = some false)
  | .dict _ => (by decide +kernel : kitB "dict" "list" = some false)
/-! ### leaves -/
def isIntD : PyData → Bool
  | .int _ => true
  | _ => false
def countD : PyData → Bool
  | .int i => decide (0 ≤ i)
  | _ => false
def markD : PyData → Bool
  | .int i => decide (0 < i)
  | _ => false
def sizeD (n : Int) : PyData → Bool
  | .tuple xs => decide ((xs.length : Int) = n)
  | _ => false
def R_is_int (ds : List PyData) (d : PyData) : Prop := ∃ v, ds = [v] ∧ d = .bool (isIntD v)
def R_is_count (ds : List PyData) (d : PyData) : Prop := ∃ v, ds = [v] ∧ d = .bool (countD v)
def R_is_mark (ds : List PyData) (d : PyData) : Prop := ∃ v, ds = [v] ∧ d = .bool (markD v)
def R_has_size (ds : List PyData) (d : PyData) : Prop := ∃ v n, ds = [v, .int n] ∧ d = .bool (sizeD n v)
def letterOk (c : Nat) : Bool := decide (c ∈ LETT.cps.toList)
def wordOk (x : Str) : Bool := decide (1 ≤ x.length) && decide (x.length ≤ 8) && x.cps.toList.all letterOk
def isWordD : PyData → Bool
  | .str x => wordOk x
  | _ => false
def R_is_word (ds : List PyData) (d : PyData) : Prop := ∃ v, ds = [v] ∧ (∀ x, v = .str x → x.length ≤ 16777216) ∧ d = .bool (isWordD v)
section
variable {P : Program} {w : World} {K : PySem.W.Frag} {mg : Str → Option Value} {base : Heap}
theorem sc_is_int : FnScope ["value"] ["value"] (defScope s_is_int) := ⟨rfl, rfl, rfl, by decide +kernel, rfl, by decide +kernel, by decide +kernel⟩
theorem c_is_int (T : Txt K mg) : Cl P w K mg base CX0 1 "is_int" ["value"] (PureSp R_is_int) := by
  refine pure_ok T.d_is_int sc_is_int (fun ds d h => by obtain ⟨v, rfl, _⟩ := h; rfl) (fun f cdv A outer s H E hr => ⟨_, (pss_one (ps_ret (pe_and (pe_callB call_isi (by rfl) T.z_isinstance (by decide +kernel) (pa_cons (pv 0) (pa_cons (pe_bltn (v := .ty "int") (u := .type "int") (by rfl) T.z_int (by decide +kernel) rfl) pa_nil))) (pe_one (pe_not (pe_callB call_isi (by rfl) T.z_isinstance (by decide +kernel) (pa_cons (pv 0) (pa_cons (pe_bltn (v := .ty "bool") (u := .type "bool") (by rfl) T.z_bool (by decide +kernel) rfl) pa_nil)))))))), ?_⟩)
  rintro O ds d σ ⟨v, rfl, rfl⟩ s Q q
  refine st_ret (d := .bool (isIntD v)) ?_ s (fun u H' s' r => q u H' (s'.pureSame rfl fun _ => rfl) r)
  exact ev_is (ev_andV (ev_isi (ev_var rfl) (kit_int _)) (fun _ => ev_notV (ev_isi (ev_var rfl) (kit_bool _)))) (by cases v <;> rfl)
theorem sc_is_count : FnScope ["value"] ["value"] (defScope s_is_count) := ⟨rfl, rfl, rfl, by decide +kernel, rfl, by decide +kernel, by decide +kernel⟩
theorem c_is_count (T : Txt K mg) : Cl P w K mg base CX0 2 "is_count" ["value"] (PureSp R_is_count) := by
  refine pure_ok T.d_is_count sc_is_count (fun ds d h => by obtain ⟨v, rfl, _⟩ := h; rfl) (fun f cdv A outer s H E hr => ⟨_, (pss_one (ps_ret (pe_and (pe_k (c_is_int T) hr (by decide) rfl pass0 (pa_cons (pv 0) pa_nil)) (pe_one (pe_cmpR op_ge (pv 0) pe_int (nomark _)))))), ?_⟩)
  rintro O ds d σ ⟨v, rfl, rfl⟩ s Q q
  refine st_ret (d := .bool (countD v)) ?_ s (fun u H' s' r => q u H' (s'.pureSame rfl fun _ => rfl) r)
  have h1 : Ev (F0 O H) [] [.dat v] (tCall (PureSp R_is_int) [] E0 (tCons (tVar 0) tNil)) (.bool (isIntD v)) := ev_call (ea_cons (ev_var rfl) ea_nil) ⟨v, rfl, rfl⟩
  cases v <;> first
    | exact ev_andV (a := false) (b := true) h1 (fun h => nomatch h)
    | exact ev_andV (a := true) h1 (fun _ => ev_ge (ev_var rfl) ev_int)
theorem sc_is_mark : FnScope ["value"] ["value"] (defScope s_is_mark) := ⟨rfl, rfl, rfl, by decide +kernel, rfl, by decide +kernel, by decide +kernel⟩
theorem c_is_mark (T : Txt K mg) : Cl P w K mg base CX0 2 "is_mark" ["value"] (PureSp R_is_mark) := by
  refine pure_ok T.d_is_mark sc_is_mark (fun ds d h => by obtain ⟨v, rfl, _⟩ := h; rfl) (fun f cdv A outer s H E hr => ⟨_, (pss_one (ps_ret (pe_and (pe_k (c_is_int T) hr (by decide) rfl pass0 (pa_cons (pv 0) pa_nil)) (pe_one (pe_cmpR op_gt (pv 0) pe_int (nomark _)))))), ?_⟩)
  rintro O ds d σ ⟨v, rfl, rfl⟩ s Q q
  refine st_ret (d := .bool (markD v)) ?_ s (fun u H' s' r => q u H' (s'.pureSame rfl fun _ => rfl) r)
  have h1 : Ev (F0 O H) [] [.dat v] (tCall (PureSp R_is_int) [] E0 (tCons (tVar 0) tNil)) (.bool (isIntD v)) := ev_call (ea_cons (ev_var rfl) ea_nil) ⟨v, rfl, rfl⟩
  cases v <;> first
    | exact ev_andV (a := false) (b := true) h1 (fun h => nomatch h)
    | exact ev_andV (a := true) h1 (fun _ => ev_gt (ev_var rfl) ev_int)
theorem sc_has_size : FnScope ["value", "size"] ["value", "size"] (defScope s_has_size) := ⟨rfl, rfl, rfl, by decide +kernel, rfl, by decide +kernel, by decide +kernel⟩
theorem c_has_size (T : Txt K mg) : Cl P w K mg base CX0 1 "has_size" ["value", "size"] (PureSp R_has_size) := by
  refine pure_ok T.d_has_size sc_has_size (fun ds d h => by obtain ⟨v, n, rfl, _⟩ := h; rfl) (fun f cdv A outer s H E hr => ⟨_, (pss_one (ps_ret (pe_and (pe_callB call_isi (by rfl) T.z_isinstance (by decide +kernel) (pa_cons (pv 0) (pa_cons (pe_bltn (v := .ty "tuple") (u := .type "tuple") (by rfl) T.z_tuple (by decide +kernel) rfl) pa_nil))) (pe_one (pe_cmpR (op_eqD hr.units) (pe_callB call_len (by rfl) T.z_len PySem.boot_len (pa_cons (pv 0) pa_nil)) (pv 1) (nomark _)))))), ?_⟩)
  rintro O ds d σ ⟨v, n, rfl, rfl⟩ s Q q
  refine st_ret (d := .bool (sizeD n v)) ?_ s (fun u H' s' r => q u H' (s'.pureSame rfl fun _ => rfl) r)
  cases v <;> first
    | exact ev_andV (a := false) (b := true) (ev_isi (ev_var rfl) (kit_tuple _)) (fun h => nomatch h)
    | exact ev_andV (a := true) (ev_isi (ev_var rfl) (kit_tuple _)) (fun _ => ev_eqI (ev_lenT (ev_var rfl)) (ev_var rfl))
theorem sc_is_word : FnScope ["value", "sign"] ["value"] (defScope s_is_word) := ⟨rfl, rfl, rfl, by decide +kernel, rfl, by decide +kernel, by decide +kernel⟩
theorem c_is_word (T : Txt K mg) : Cl P w K mg base CX0 1 "is_word" ["value"] (PureSp R_is_word) := by
  refine pure_ok T.d_is_word sc_is_word (fun ds d h => by obtain ⟨v, rfl, _⟩ := h; rfl) (fun f cdv A outer s H E hr => ⟨_, (pss_cons (ps_if (PW.pt (pw_or (pt_not (pt_val (pe_callB call_isi (by rfl) T.z_isinstance (by decide +kernel) (pa_cons (pv 0) (pa_cons (pe_bltn (v := .ty "str") (u := .type "str") (by rfl) T.z_str (by decide +kernel) rfl) pa_nil))))) (pw_or1 (pt_not (pt_chain op_le op_le pe_int (pe_callB call_len (by rfl) T.z_len PySem.boot_len (pa_cons (pv 0) pa_nil)) (C8.pe_gc rfl T.MOST_LETTERS)))))) (pss_one (ps_ret pe_bl)) pss_nil)
    (pss_one (ps_ret (pe_callB (cr_all rfl) (by rfl) T.z_all (by decide +kernel) (pa_cons (pe_lc (own := [("sign", 1)]) (g := gName 1) (tt := tYes) rfl sc_is_word.nd (pi_str (pv 0)) (blkOk_by (own := [("sign", 1)]) (N := ["value", "sign"]) (sc := (defScope s_is_word)) (by decide +kernel)) (fun _ _ _ _ _ => (pg_name (i := 1) sc_is_word.nd rfl (Or.inl rfl))) (fun _ _ _ _ _ => pts_nil) (fun _ _ _ _ _ => (pe_cmpR op_in_sign (pv 1) (C8.pe_gc rfl T.LETTERS) rfl))) pa_nil))))), ?_⟩)
  rintro O ds d σ ⟨v, rfl, hl, rfl⟩ s Q q
  have no : ∀ b : Bool, isWordD v = b → ∀ u H', S (F0 O H) [] [.dat v, .any] σ H' → Rp (shr O H') u (.bool b) → Q u H' := fun b hb u H' s' r => q u H' (s'.pureSame rfl fun _ => rfl) (by rw [hb]; exact r)
  cases v with
  | str x =>
    have hx := hl x rfl
    have h1 : Et (F0 O H) [] [.dat (.str x), .any] (tNot (tB (tCB (rIsi K) (tCons (tVar 0) (tCons (tC (.ty "str")) tNil))))) false := et_not (a := true) (et_B (ev_isi (ev_var rfl) (kit_str _)))
    refine st_seq (st_if (et_or h1 fun _ => et_not (et_test (ev_chain ev_int (ev_lenS (ev_var rfl) hx) (fun _ => ev_int) r2_I0 r2_I0))) s (fun hb H1 s1 => ?_) (fun hb H1 s1 => ?_))
    · refine st_ret ev_bl s1 (no false ?_)
      show wordOk x = false
      have hb' : (decide ((1 : Int) ≤ (x.length : Int)) && decide ((x.length : Int) ≤ 8)) = false := by
        cases h : (decide ((1 : Int) ≤ (x.length : Int)) && decide ((x.length : Int) ≤ 8)) with
        | false => rfl
        | true => rw [h] at hb; cases hb
      unfold wordOk
      cases h1 : decide (1 ≤ x.length) with
      | false => rfl
      | true =>
        cases h2 : decide (x.length ≤ 8) with
        | false => rfl
        | true =>
          have a1 := of_decide_eq_true h1
          have a2 := of_decide_eq_true h2
          rw [decide_eq_true (by omega), decide_eq_true (by omega)] at hb'
          cases hb'
    · have hb' : (decide ((1 : Int) ≤ (x.length : Int)) && decide ((x.length : Int) ≤ 8)) = true := by
        cases h : (decide ((1 : Int) ≤ (x.length : Int)) && decide ((x.length : Int) ≤ 8)) with
        | true => rfl
        | false => rw [h] at hb; cases hb
      rw [Bool.and_eq_true] at hb'
      have a1 := of_decide_eq_true hb'.1
      have a2 := of_decide_eq_true hb'.2
      have a3 : x.cps.size ≤ 8 := by
        have : x.length ≤ 8 := by omega
        exact this
      have hlc := ev_lc (F := F0 O H) (M := []) (δ := [.dat (.str x), .any]) (wi := iStr (tVar 0)) (sl := 1) (te := tOp (fun x y H Q => ∃ (c : Nat) (z : Str), x = .str ⟨#[c]⟩ ∧ y = .str z ∧ Q (.bl (decide (c ∈ z.cps.toList))) H) (tVar 1) (tC (.str LETT)))
        (f := fun d => match d with | .str y => .bool (decide (y.cps.toList.all letterOk = true)) | _ => .bool true) (ei_str (ev_var rfl))
        (fun F' M' d hd => by
          obtain ⟨c, _, rfl⟩ := List.mem_map.mp hd
          refine ev_is (ev_inS (c := c) (y := LETT) ?_ ev_str) ?_
          · exact ev_var rfl
          show PyData.bool (letterOk c) = .bool (decide (([c] : List Nat).all letterOk = true))
          simp)
        (by unfold sgnD; rw [List.length_map, Array.length_toList]; exact Nat.lt_of_le_of_lt a3 (by decide))
      have hm : (sgnD x).map (fun d => match d with | .str y => PyData.bool (decide (y.cps.toList.all letterOk = true)) | _ => .bool true) = (x.cps.toList.map letterOk).map PyData.bool := by
        unfold sgnD
        rw [List.map_map, List.map_map]
        refine List.map_congr_left fun c _ => ?_
        show PyData.bool (decide (([c] : List Nat).all letterOk = true)) = PyData.bool (letterOk c)
        simp
      rw [hm] at hlc
      refine st_ret (ev_all hlc) s1 (no _ ?_)
      show wordOk x = _
      unfold wordOk
      rw [decide_eq_true (by omega : 1 ≤ x.length), decide_eq_true (by omega : x.length ≤ 8), List.all_map]
      rfl
  | _ =>
    refine st_seq (st_yes (et_or (a := true) (b := true) (et_not (a := false) (et_B (ev_isi (ev_var rfl) (kit_str _)))) (fun h => nomatch h)) s fun H1 s1 => ?_)
    exact st_ret ev_bl s1 (no false rfl)
end
end G
set_option Elab.async false
set_option linter.all false
set_option maxRecDepth 100000
set_option maxHeartbeats 4000000
/-! What the program computes on plots: plain functions. -/
namespace G
open PySem L2
/-- a row of spots: the first spot's mark, word, children; the other spots -/
inductive Fo where
  | nil
  | cons (m : Int) (w : Str) (c r : Fo)
  deriving DecidableEq
def spotD (m : Int) (w : Str) (ch : List PyData) : PyData := .tuple [.int m, .str w, .tuple ch]
namespace Fo
def enc : Fo → List PyData
  | .nil => []
  | .cons m w c r => spotD m w c.enc :: r.enc
def dep : Fo → Nat
  | .nil => 0
  | .cons _ _ c r => max (c.dep + 1) r.dep
def size : Fo → Nat
  | .nil => 0
  | .cons _ _ c r => 1 + (c.size + r.size)
def marks : Fo → List Int
  | .nil => []
  | .cons m _ c r => m :: (c.marks ++ r.marks)
def words : Fo → List Str
  | .nil => []
  | .cons _ w c r => w :: (c.words ++ r.words)
/-- a spot with its children, parent and left neighbour -/
structure Sp where
  m : Int
  w : Str
  c : Fo
  p : Int
  b : Int
/-- all spots in preorder -/
def sp (p b : Int) : Fo → List Sp
  | .nil => []
  | .cons m w c r => ⟨m, w, c, p, b⟩ :: (c.sp m 0 ++ r.sp p m)
def spE (s : Sp) : PyData := .tuple [.int s.m, .str s.w, .tuple s.c.enc, .int s.p, .int s.b]
/-- the row's own spots -/
def tops (p b : Int) : Fo → List Sp
  | .nil => []
  | .cons m w c r => ⟨m, w, c, p, b⟩ :: r.tops p m
def topE (s : Sp) : PyData := .tuple [spotD s.m s.w s.c.enc, .int s.p, .int s.b]
def at? (t : Fo) (m : Int) : Option Sp := (t.sp 0 0).find? fun s => decide (s.m = m)
def rowAt (t : Fo) (p : Int) : Fo := if p = 0 then t else match t.at? p with
  | some s => s.c
  | none => .nil
def spotWith (t : Fo) (m : Int) : PyData := match t.at? m with
  | some s => spotD s.m s.w s.c.enc
  | none => .none
def withRow (p : Int) (row : Fo) : Fo → Fo
  | .nil => .nil
  | .cons m w c r => .cons m w (if m = p then row else withRow p row c) (withRow p row r)
def takenOut (m : Int) : Fo → Fo
  | .nil => .nil
  | .cons k w c r => if k = m then r.takenOut m else .cons k w (c.takenOut m) (r.takenOut m)
def worded (m : Int) (new : Str) : Fo → Fo
  | .nil => .nil
  | .cons k w c r => .cons k (if k = m then new else w) (c.worded m new) (r.worded m new)
/-- the place behind the last b -/
def atOf (b : Int) : Fo → Nat → Nat → Nat
  | .nil, _, a => a
  | .cons m _ _ r, k, a => r.atOf b (k + 1) (if m = b then k + 1 else a)
def insAt (m : Int) (w : Str) (c : Fo) : Nat → Fo → Fo
  | 0, t => .cons m w c t
  | _ + 1, .nil => .cons m w c .nil
  | n + 1, .cons k u d r => .cons k u d (insAt m w c n r)
def putIn (t : Fo) (m : Int) (w : Str) (c : Fo) (p b : Int) : Fo :=
  if p = 0 then insAt m w c (t.atOf b 0 0) t else withRow p (insAt m w c ((t.rowAt p).atOf b 0 0) (t.rowAt p)) t
/-- a plot -/
structure Ok (t : Fo) : Prop where
  nd : t.marks.Nodup
  pos : ∀ m ∈ t.marks, 0 < m
  wd : ∀ w ∈ t.words, wordOk w = true
/-- the parent of a mark -/
def par (t : Fo) (m : Int) : Int := match t.at? m with
  | some s => s.p
  | none => 0
def insd (t : Fo) (k m : Int) : Bool := decide (k = m) || decide (k ∈ (t.rowAt m).marks)

theorem enc_length (t : Fo) : ∀ p b, t.enc.length = (t.tops p b).length := by
  induction t with
  | nil => intro p b; rfl
  | cons m w c r _ ih => intro p b; show r.enc.length + 1 = (r.tops p m).length + 1; rw [ih p m]
theorem sp_length (t : Fo) : ∀ p b, (t.sp p b).length = t.size := by
  induction t with
  | nil => intro p b; rfl
  | cons m w c r ihc ihr =>
    intro p b
    show (c.sp m 0 ++ r.sp p m).length + 1 = 1 + (c.size + r.size)
    rw [List.length_append, ihc, ihr]; omega
theorem enc_le (t : Fo) : t.enc.length ≤ t.size := by
  induction t with
  | nil => exact Nat.le_refl _
  | cons m w c r _ ih => show r.enc.length + 1 ≤ 1 + (c.size + r.size); omega
theorem sp_marks (t : Fo) : ∀ p b, (t.sp p b).map (·.m) = t.marks := by
  induction t with
  | nil => intro p b; rfl
  | cons m w c r ihc ihr =>
    intro p b
    show m :: (c.sp m 0 ++ r.sp p m).map (·.m) = m :: (c.marks ++ r.marks)
    rw [List.map_append, ihc, ihr]
theorem enc_insAt (m : Int) (w : Str) (c : Fo) : ∀ (n : Nat) (t : Fo), n ≤ t.enc.length → (insAt m w c n t).enc = t.enc.take n ++ [spotD m w c.enc] ++ t.enc.drop n
  | 0, t, _ => rfl
  | n + 1, .nil, h => absurd h (by simp [enc])
  | n + 1, .cons k u d r, h => by
    show spotD k u d.enc :: (insAt m w c n r).enc = _
    rw [enc_insAt m w c n r (by simpa [enc] using h)]
    rfl
theorem atOf_le (b : Int) : ∀ (t : Fo) (k a : Nat), a ≤ k + t.enc.length → t.atOf b k a ≤ k + t.enc.length
  | .nil, k, a, h => h
  | .cons m w c r, k, a, h => by
    show r.atOf b (k + 1) _ ≤ k + (r.enc.length + 1)
    have := atOf_le b r (k + 1) (if m = b then k + 1 else a) (by
      have h' : a ≤ k + (r.enc.length + 1) := h
      split <;> omega)
    omega
end Fo

/-! deeds -/
inductive Deed where
  | add (m : Int) (w : Str) (p b : Int)
  | drop (m : Int)
  | move (m p b : Int)
  | word (m : Int) (w : Str)
  deriving DecidableEq
namespace Deed
def enc : Deed → PyData
  | .add m w p b => .tuple [.str "add", .int m, .str w, .int p, .int b]
  | .drop m => .tuple [.str "drop", .int m]
  | .move m p b => .tuple [.str "move", .int m, .int p, .int b]
  | .word m w => .tuple [.str "word", .int m, .str w]
def mark : Deed → Int
  | .add m _ _ _ => m
  | .drop m => m
  | .move m _ _ => m
  | .word m _ => m
/-- it is a deed by its form -/
def good : Deed → Bool
  | .add m w p b => decide (0 < m) && (wordOk w && (decide (0 ≤ p) && decide (0 ≤ b)))
  | .drop m => decide (0 < m)
  | .move m p b => decide (0 < m) && (decide (0 ≤ p) && decide (0 ≤ b))
  | .word m w => decide (0 < m) && wordOk w
end Deed
open Fo
/-- the reason why a deed is refused at a plot -/
def badPlace (t : Fo) (m p b : Int) : Bool := !decide (b = 0) && (decide (b = m) || (!decide (b ∈ t.marks) || !decide (t.par b = p)))
def reasonAt (t : Fo) : Deed → Option Str
  | .add m _ p b => if m ∈ t.marks then some "mark" else if p ≠ 0 ∧ p ∉ t.marks then some "parent" else if badPlace t m p b = true then some "behind" else none
  | .drop m => if m ∉ t.marks then some "mark" else if (t.rowAt m).enc.length > 0 then some "children" else none
  | .move m p b => if m ∉ t.marks then some "mark" else if p ≠ 0 ∧ p ∉ t.marks then some "parent" else if t.insd p m = true then some "inside" else if badPlace t m p b = true then some "behind" else none
  | .word m _ => if m ∉ t.marks then some "mark" else none
def behindT (t : Fo) : Deed → Fo
  | .add m w p b => t.putIn m w .nil p b
  | .drop m => t.takenOut m
  | .move m p b => match t.at? m with
    | some s => (t.takenOut m).putIn s.m s.w s.c p b
    | none => t
  | .word m w => t.worded m w
/-- a loop's step along a list -/
theorem drop_step {α : Type} {ds : List α} {i : Nat} {d x : α} {xs : List α} (h : ds[i]? = some d) (e : ds.drop i = x :: xs) : d = x ∧ ds.drop (i + 1) = xs := by
  have h1 : (ds.drop i)[0]? = some d := by rw [List.getElem?_drop, Nat.add_zero]; exact h
  rw [e] at h1
  refine ⟨(Option.some.inj h1).symm, ?_⟩
  have : ds.drop (i + 1) = (ds.drop i).drop 1 := by rw [List.drop_drop]
  rw [this, e]; rfl
theorem drop_some {α : Type} {ds : List α} {i : Nat} {d : α} (h : ds[i]? = some d) : ds.drop i ≠ [] := by
  intro e
  have h1 : (ds.drop i)[0]? = some d := by rw [List.getElem?_drop, Nat.add_zero]; exact h
  rw [e] at h1; cases h1
end G
set_option Elab.async false
set_option linter.all false
set_option maxRecDepth 100000
set_option maxHeartbeats 4000000
/-! enumerate of a tuple. -/
namespace G
open PySem PySem.Spec PyProof.Rows L2
open AutoSeq1 (wpAny_loadPart')
abbrev titO (l : Addr) : Obj := { cls := .type "tuple_iterator", data := .fields #[.ref l, .int 0 0] }
abbrev enuO (a : Addr) : Obj := { cls := .type "enumerate", data := .fields #[.none, .bool false, .ref a, rawInt 0, .none, .none] }
theorem enum_new_tup (l : Addr) (items : Array Value) (n : Nat) (dct : Option Addr) (sl : Array (Option Value)) :
    Meets (Builtin.«enumerate.__new__» ⟨[.type "enumerate", .ref l], []⟩) (fun _ R s => s.heap.get? l = some { cls := .type "tuple", dict := dct, data := .seq items n, slots := sl } ∧
      R (.ok (.ret (.ref (s.heap.push (titO l)).objs.size))) { s with heap := (s.heap.push (titO l)).push (enuO s.heap.objs.size) }) :=
  .of_wp fun prog w A R ⟨hp, g, d, tk, os⟩ ⟨hl, h⟩ => by
    have := sub_enumerate
    have hL : hp.IsTuple l items := ⟨_, hl, rfl, n, rfl⟩
    wp_walk using wpAny_loadPart' hl
    refine wpAny_stack_any fun st => wpAny_pure ?_
    split
    · rename_i c _ _ _ _ _
      cases (c == Value.type "enumerate") <;> wp_walk using wpAny_loadPart' hl, wpAny_pyIter_tuple hL
      all_goals exact ⟨_, rfl, h⟩
    · wp_walk using wpAny_loadPart' hl, wpAny_pyIter_tuple hL
      exact ⟨_, rfl, h⟩
theorem enum_tup {prog : Program} {w : World} {A : Around} {E : Value → Shared → Prop} {s : Shared} {l : Addr} {items : Array Value} {Q : Value → Shared → Prop} (hL : s.heap.IsTuple l items)
    (h : ∀ h', IsEnum h' (s.heap.objs.size + 1) s.heap.objs.size 0 .none → h'.IsTupleIter s.heap.objs.size l 0 → (∀ b o, s.heap.get? b = some o → h'.get? b = some o) → Q (.ref (s.heap.objs.size + 1)) { s with heap := h' }) :
    wpAny (model prog w) A (call (.type "enumerate") [.ref l]) Q E s := by
  obtain ⟨⟨c, dct, dt, sl⟩, hl, hc, n, hd⟩ := hL
  simp only at hc hd
  subst hc hd
  refine callType_new F.called_enumerate (by decide) (F.typeCall_enumerate_1 _) (F.newCall_enumerate_1 _) (fun obj => F.args_object_init_2 obj _) F.entry_enumerate_new (enum_new_tup l items n dct sl) ⟨hl, ?_⟩
  have hz : (s.heap.push (titO l)).objs.size = s.heap.objs.size + 1 := Heap.size_push ..
  have he := Heap.get?_push_size (s.heap.push (titO l)) (o := enuO s.heap.objs.size) rfl
  show _ ∧ _
  rw [hz] at he ⊢
  exact ⟨⟨_, he, rfl⟩, h _ he ⟨_, Heap.get?_push_of_some _ (Heap.get?_push_size _ rfl), rfl, rfl⟩ fun b o x => Heap.get?_push_of_some _ (Heap.get?_push_of_some _ x)⟩
/-- the tuple at a, each item in a new pair -/
def IteT (K : PySem.W.Frag) (a : Addr) : It :=
  ⟨fun i H => ∃ (xs : List V) (x : V), SqT K H a xs ∧ xs[i]? = some x, fun i H v H' => ∃ T x, v = .ref T ∧ H T = none ∧ H' = upd H T (.tup [.int (i : Nat), x]) ∧ ∀ xs, SqT K H a xs → xs[i]? = some x, fun i H => ∃ xs : List V, SqT K H a xs ∧ xs.length ≤ i⟩
theorem two_mem {e it b : Addr} (hb : b ∈ [e, it]) : b = e ∨ b = it := by simpa using hb
theorem turn_enumT {P : Program} {w : World} {K : PySem.W.Frag} {elts : List Expr} {kk : Nat} {tpos : Pos} (a e it : Addr) :
    Turn P w K (.Tuple elts kk tpos) (IteT K a) [e, it] e (fun i h => (∃ old, IsEnum h e it ((i : Nat) : Int) old) ∧ h.IsTupleIter it a i ∧ e ≠ it ∧ a ≠ it ∧ a ≠ e) where
  mem := by simp
  obj := fun i h ⟨⟨old, he⟩, ⟨o, ho, hc, hd⟩, _⟩ b hb => by
    rcases two_mem hb with rfl | rfl
    · exact ⟨_, he, fun v q => nomatch q⟩
    · exact ⟨o, ho, fun v q => by rw [hd] at q; cases q⟩
  keep := fun i h h' ⟨⟨old, he⟩, hi, hne⟩ k => ⟨⟨old, k e (by simp) _ he⟩, hi.at fun o q => k it (by simp) o q, hne⟩
  item := by
    intro X hP hw hK hc i pins s σ H E I hf ⟨⟨old, he⟩, hit, hne, ha1, ha2⟩ ⟨xs, x, hq, hx⟩
    subst hP hw hK
    obtain ⟨its, rv, p, hz⟩ := I.tuple hq
    have hpt : s.heap.IsTuple a its.toArray := p
    obtain ⟨u, hu, ru⟩ := rv.get hx
    have hlt : i < its.toArray.size := by
      rw [List.size_toArray]
      exact (List.getElem?_eq_some_iff.mp hu).1
    have hel : e < s.heap.objs.size := Heap.lt_size he
    have hil : it < s.heap.objs.size := let ⟨_, q, _⟩ := hit; Heap.lt_size q
    have D := Draws.tuple (prog := X.prog) (w := X.w) (A := X.A.in1) (I.ok.hd hc) it a ha1 its.toArray
    refine wpAny_pyNext_enum_itemD D he ⟨hit, hpt⟩ hlt hne (by simp [hne, Ne.symm ha2]) fun y h' tk hy ho st' hT hsz hk => ?_
    have hyu : y = u := by
      have hy' : its.toArray[i]? = some y := hy
      rw [List.getElem?_toArray, hu] at hy'
      exact (Option.some.inj hy').symm
    subst hyu
    refine ⟨_, rfl, wpAny_letOwnedTupleGo_enum (s := { s with heap := h', toks := tk + 1 }) ho fun h'' he' sb => ?_⟩
    have hT2 := (sb.2 _ (Nat.ne_of_gt hel)).trans hT
    have new : ObjOk X.prog X.w (upd H s.heap.objs.size (.tup [.int (i : Nat), x])) h'' s.heap.objs.size (.tup [.int (i : Nat), x]) :=
      ⟨by show 2 ≤ sizeLine; decide, [.int i tk, y], .cons ⟨_, rfl⟩ (.cons ru .nil), ⟨_, hT2, rfl, _, rfl⟩⟩
    have keep : ∀ b ob, b ∉ [e, it] → s.heap.get? b = some ob → h''.get? b = some ob := fun b ob hb q => by
      have h1 : b ≠ e := fun z => hb (by simp [z])
      have h2 : b ≠ it := fun z => hb (by simp [z])
      exact (sb.2 b h1).trans (hk b ob h1 h2 q)
    have I1 := I.turnedNew (t' := tk + 1) (ch := [e, it]) keep hf (Nat.le_refl _) new
    refine ⟨.ref s.heap.objs.size, _, I1, rfl, ⟨_, x, rfl, I.hok.fresh (Nat.le_refl _), rfl, fun ys hy => by rw [I.tuple_inj hy hq]; exact hx⟩, ⟨⟨y, ?_⟩, st'.1.at fun o q => (sb.2 it (Ne.symm hne)).trans q, hne, ha1, ha2⟩, fun b hb => ?_⟩
    · rw [show ((i + 1 : Nat) : Int) = (i : Int) + 1 by omega]; exact he'
    · rw [upd_ne]
      · exact (hf b hb).1
      · rcases two_mem hb with rfl | rfl
        · exact Nat.ne_of_lt hel
        · exact Nat.ne_of_lt hil
  done := by
    intro X hP hw hK hc i pins s σ H E I hf ⟨⟨old, he⟩, hit, hne, ha1, ha2⟩ ⟨xs, hq, hx⟩
    subst hP hw hK
    obtain ⟨its, rv, p, hz⟩ := I.tuple hq
    have hpt : s.heap.IsTuple a its.toArray := p
    obtain ⟨f0, f1, f2, f3, f4, f5⟩ := hf it (by simp)
    have hT : s.TypeIs (.ref e) "enumerate" := ⟨_, he, rfl⟩
    have hnone : its.toArray[i]? = none := by
      rw [List.getElem?_toArray]
      exact List.getElem?_eq_none_iff.mpr (by rw [← rv.length]; exact hx)
    unfold pyNext
    refine wpAny_bind (wpAny_attempt (wpAny_callSpecial?_slot (name := Str.ofString "__next__") hT F.slot_enumerate_next (wpAny_call_entry F.slot_enumerate_next hT F.entry_enumerate_next ?_ (F.args_enumerate_next_1 _))))
    show wpAny _ _ (field (.ref e) 2 >>= _) _ _ _
    refine wpAny_bind (wpAny_field he rfl (x := .ref it) rfl (wpAny_bind (wpAny_nextOf_tuple_end (I.ok.hd hc) hit hpt hnone fun h' x he' ⟨o, ho, hc⟩ => ?_)))
    refine wpAny_bind (wpAny_isInstance (T := "StopIteration") (b := true) ⟨o, ho, hc⟩ isSubtype_stop (wpAny_pure ⟨rfl, ?_⟩))
    exact I.turned (t' := s.toks) (fun b o hb q => he' b o hb q) f0 f1 f3 f4 f5
  self := fun A i s Q E ⟨⟨_, he⟩, _⟩ h => wpAny_pyIter_enum he h
def iEnumT (K : PySem.W.Frag) (ta : TA) : TI := fun σ H R => ta σ H fun vs H1 => ∃ a xs, vs = [.ref a] ∧ SqT K H1 a xs ∧ R (IteT K a) H1
theorem pi_enumT {X : Cx} {e : Expr} {ta : TA} {p pos tpos : Pos} {elts : List Expr} {kk : Nat} (hg : Gl X "enumerate") (hm : X.mg "enumerate" = none) (ha : PA X [e] ta) (hs : starEach [e] X.env = [(false, eval e X.env)] := by rfl) :
    PI X (.Tuple elts kk tpos) (.Call (.Name "enumerate" p) [e] [] pos) (iEnumT X.K ta) := by
  refine ⟨fun pins s σ H R I h => ?_⟩
  refine Call_ (ld_blt I hg hm boot_enumerate (PyProof.Rows.callWith_type1 (thn (ha.run pos pins s σ H _ I h) fun us s1 ⟨vs, H1, I1, r1, a, xs, ex, hq, q⟩ => ?_) hs rfl))
  subst ex
  cases r1 with
  | cons r rr =>
    cases rr
    cases r
    obtain ⟨its, rv, p', hz⟩ := I1.tuple hq
    have hal : a < s1.heap.objs.size := p'.lt
    refine enum_tup p' fun h' he hit hk => wpAny_pyIter_enum he ?_
    have I2 : Inv X pins σ H1 { s1 with heap := h' } := I1.kept (t' := s1.toks) hk
    refine ⟨s1.heap.objs.size + 1, [s1.heap.objs.size + 1, s1.heap.objs.size], _, _, H1, rfl, I2, turn_enumT a (s1.heap.objs.size + 1) s1.heap.objs.size, ⟨⟨.none, he⟩, hit, Nat.succ_ne_self _, Nat.ne_of_lt hal, Nat.ne_of_lt (Nat.lt_succ_of_lt hal)⟩, fun b hb => ?_, q⟩
    have hle : s1.heap.objs.size ≤ b := by
      rcases two_mem hb with rfl | rfl
      · exact Nat.le_succ _
      · exact Nat.le_refl _
    exact I1.fpOk hle (I1.hok.fresh hle)
/-- over data -/
def enumD (ds : List PyData) : List PyData := ds.zipIdx.map fun x => .tuple [.int (x.2 : Nat), x.1]
theorem itd_enumT {K : PySem.W.Frag} {G : Hp} {a : Addr} {vs : List V} {ds : List PyData} (h : G a = some (.tup vs)) (r : RpAll G vs ds) : ItD (IteT K a) G (enumD ds) where
  go := fun i H e hi => by
    have hi' : i < ds.length := by simpa [enumD] using hi
    obtain ⟨v, hv, _⟩ := r.get (List.getElem?_eq_getElem hi')
    exact ⟨vs, v, SqT.of (e _ _ h), hv⟩
  stop := fun H e => ⟨vs, SqT.of (e _ _ h), by rw [r.length]; simp [enumD]⟩
  yld := fun i H x H' d e hd y => by
    obtain ⟨T, z, rfl, hT, rfl, hx⟩ := y
    unfold enumD at hd
    rw [List.getElem?_map, List.getElem?_zipIdx] at hd
    cases q : ds[i]? with
    | none => rw [q] at hd; cases hd
    | some c =>
      rw [q] at hd
      obtain ⟨v, hv, rv⟩ := r.get q
      have hz := hx vs (SqT.of (e _ _ h))
      rw [hv] at hz
      cases hz
      simp only [Option.map_some, Option.some.injEq, Nat.zero_add] at hd
      subst hd
      exact ⟨same_new hT, fun Z hZ hn => .tup (hn T _ hT upd_same) (.cons (.int _) (.cons (rv.same hZ) .nil))⟩
theorem ei_enumT {F : Fm} {M : List (Addr × OC)} {δ : List SD} {K : PySem.W.Frag} {te : TE} {ds : List PyData} (h : Ev F M δ te (.tuple ds)) : Evi F M δ (iEnumT K (tCons te tNil)) (enumD ds) := fun σ H s R q => by
  refine h σ H s _ fun v H1 s1 e1 r1 => ?_
  obtain ⟨a, vs, rfl, hc, rv⟩ := r1.tup_inv
  exact ⟨a, vs, rfl, SqT.of (shr_sub _ _ _ _ hc), q _ H1 s1 e1 (itd_enumT hc rv)⟩
end G
set_option Elab.async false
set_option linter.all false
set_option maxRecDepth 100000
set_option maxHeartbeats 4000000
namespace G
open PySem L2 Fo
/-! ### plots: the program's defs -/
def R_with_places (ds : List PyData) (d : PyData) : Prop := ∃ (t : Fo) (p : Int), ds = [.tuple t.enc, .int p] ∧ t.size ≤ 1000 ∧ d = .list ((t.tops p 0).map topE)
def R_spots_below (n : Nat) (ds : List PyData) (d : PyData) : Prop := ∃ (t : Fo) (p : Int), ds = [.tuple t.enc, .int p] ∧ t.dep < n ∧ t.size ≤ 1000 ∧ d = .list ((t.sp p 0).map spE)
theorem enc_nil {t : Fo} (h : t.enc = []) : t = .nil := by
  cases t with
  | nil => rfl
  | cons m w c r => exact absurd h (List.cons_ne_nil _ _)
theorem drop_all {α : Type} {l : List α} {xs : List α} (h : l.drop l.length = xs) : xs = [] := by
  rw [List.drop_of_length_le (Nat.le_refl _)] at h
  exact h.symm
section
variable {P : Program} {w : World} {K : PySem.W.Frag} {mg : Str → Option Value} {base : Heap}
theorem sc_with_places : FnScope ["row", "parent", "found", "behind", "spot"] ["row", "parent"] (defScope s_with_places) := ⟨rfl, rfl, rfl, by decide +kernel, rfl, by decide +kernel, by decide +kernel⟩
theorem c_with_places (T : Txt K mg) : Cl P w K mg base CX0 1 "with_places" ["row", "parent"] (PureSp R_with_places) := by
  refine pure_ok T.d_with_places sc_with_places (fun ds d h => by obtain ⟨t, p, rfl, _⟩ := h; rfl) (fun f cdv A outer s H E hr => ⟨_, (pss_cons (ps_set (i := 2) sc_with_places.nd rfl (Or.inl rfl) (pe_lst pa_nil))
    (pss_cons (ps_set (i := 3) sc_with_places.nd rfl (Or.inl rfl) pe_int)
    (pss_cons (ps_for PassesOwn.never rfl (pi_seq (pv 0)) (pg_name (i := 4) sc_with_places.nd rfl (Or.inl rfl))
    (pss_cons (ps_expr (pe_bm PySem.F.plainAttrs_list PySem.F.slot_list_append PySem.F.type_list_append mt_append (pv 2) (pa_cons (pe_tup (pa_cons (pv 4) (pa_cons (pv 1) (pa_cons (pv 3) pa_nil)))) pa_nil)))
    (pss_one (ps_set (i := 3) sc_with_places.nd rfl (Or.inl rfl) (pe_ix ix_seq (pv 4) pe_int (fun _ _ => rfl))))))
    (pss_one (ps_ret (pv 2)))))), ?_⟩)
  rintro O ds d σ ⟨t, p, rfl, hs, rfl⟩ s Q q
  refine sq_own ea_nil s fun l σ1 H1 hl s1 => ?_
  refine sq_asg ev_int s1 fun σ2 H2 s2 => ?_
  refine sq_for (α := Fo × Int × List PyData) (fun _ a => [(l, .lst a.2.2)]) (fun _ a => [.dat (.tuple t.enc), .dat (.int p), .raw (.ref l), .dat (.int a.2.1), .any])
    (fun i a => t.enc.drop i = a.1.enc ∧ a.2.2 ++ (a.1.tops p a.2.1).map topE = (t.tops p 0).map topE) (t, 0, []) (ei_seq (ev_var rfl) (.inr rfl)) s2 ⟨rfl, rfl⟩ rfl (Le.refl _) ?_ ?_
  · rintro B i ⟨rest, b, acc⟩ d σ H v hd ⟨h1, h2⟩ s r
    dsimp only at h1 h2 s
    cases rest with
    | nil => exact absurd h1 (drop_some hd)
    | cons m w c rest =>
      obtain ⟨rfl, h3⟩ := drop_step hd h1
      have hlen : acc.length < 16777216 := by
        have e := congrArg List.length h2
        rw [List.length_append, List.length_map, List.length_map, ← enc_length] at e
        have := enc_le t
        rw [← enc_length] at e
        omega
      refine tg_use tg_name s r fun σ1 s1 => ?_
      refine sq_append 0 (er_var rfl) (ev_tup (ea_cons (ev_var rfl) (ea_cons (ev_var rfl) (ea_cons (ev_var rfl) ea_nil)))) rfl own_lp hlen s1 fun H2 s2 => ?_
      refine st_asg (ev_ixT (ev_var rfl) ev_int rfl) s2 fun σ3 H3 s3 => ⟨(rest, m, acc ++ [topE ⟨m, w, c, p, b⟩]), ⟨h3, ?_⟩, s3.le (.eq (.eq (.eq (.eq (.any .nil)))))⟩
      rw [← h2, List.append_assoc]; rfl
  · rintro ⟨rest, b, acc⟩ σ H ⟨h1, h2⟩ s
    dsimp only at h1 h2 s
    have := enc_nil (drop_all h1)
    subst this
    have h2' : acc = (t.tops p 0).map topE := by simpa [tops] using h2
    subst h2'
    exact st_retO (er_var rfl) s q
theorem sc_spots_below : FnScope ["row", "parent", "found", "spot", "above", "behind", "mark", "word", "children"] ["row", "parent"] (defScope s_spots_below) := ⟨rfl, rfl, rfl, by decide +kernel, rfl, by decide +kernel, by decide +kernel⟩
theorem c_spots_below (T : Txt K mg) : ∀ n : Nat, Cl P w K mg base CX0 (n + 1) "spots_below" ["row", "parent"] (PureSp (R_spots_below n))
  | 0 => cl_none T.d_spots_below fun ds d h => by obtain ⟨t, p, _, h, _⟩ := h; exact absurd h (Nat.not_lt_zero _)
  | n + 1 => by
    have c_rec := c_spots_below T n
    refine pure_ok T.d_spots_below sc_spots_below (fun ds d h => by obtain ⟨t, p, rfl, _⟩ := h; rfl) (fun f cdv A outer s H E hr => ⟨_, (pss_cons (ps_set (i := 2) sc_spots_below.nd rfl (Or.inl rfl) (pe_lst pa_nil))
    (pss_cons (ps_for PassesOwn.never rfl (pi_seq (pe_k (c_with_places T) hr (by omega) rfl pass0 (pa_cons (pv 0) (pa_cons (pv 1) pa_nil)))) (pg_tup rfl (pgs_cons (pg_name (i := 3) sc_spots_below.nd rfl (Or.inl rfl)) (pgs_cons (pg_name (i := 4) sc_spots_below.nd rfl (Or.inl rfl)) (pgs_cons (pg_name (i := 5) sc_spots_below.nd rfl (Or.inl rfl)) pgs_nil))))
    (pss_cons (ps_asg (pv 3) (pg_tup rfl (pgs_cons (pg_name (i := 6) sc_spots_below.nd rfl (Or.inl rfl)) (pgs_cons (pg_name (i := 7) sc_spots_below.nd rfl (Or.inl rfl)) (pgs_cons (pg_name (i := 8) sc_spots_below.nd rfl (Or.inl rfl)) pgs_nil)))))
    (pss_cons (ps_expr (pe_bm PySem.F.plainAttrs_list PySem.F.slot_list_append PySem.F.type_list_append mt_append (pv 2) (pa_cons (pe_tup (pa_cons (pv 6) (pa_cons (pv 7) (pa_cons (pv 8) (pa_cons (pv 4) (pa_cons (pv 5) pa_nil)))))) pa_nil)))
    (pss_one (ps_expr (pe_bm PySem.F.plainAttrs_list PySem.F.slot_list_extend PySem.F.type_list_extend mt_extend (pv 2) (pa_cons (pe_k c_rec hr (Nat.le_refl _) rfl pass0 (pa_cons (pv 8) (pa_cons (pv 6) pa_nil))) pa_nil)))))))
    (pss_one (ps_ret (pv 2))))), ?_⟩)
    rintro O ds d σ ⟨t, p, rfl, hn, hs, rfl⟩ s Q q
    refine sq_own ea_nil s fun l σ1 H1 hl s1 => ?_
    refine sq_for (α := Fo × Int × List PyData) (fun _ a => [(l, .lst a.2.2)]) (fun _ a => [.dat (.tuple t.enc), .dat (.int p), .raw (.ref l), .any, .any, .any, .any, .any, .any])
      (fun i a => ((t.tops p 0).map topE).drop i = (a.1.tops p a.2.1).map topE ∧ a.2.2 ++ (a.1.sp p a.2.1).map spE = (t.sp p 0).map spE ∧ a.1.dep < n + 1) (t, 0, []) (ei_seq (ev_call (ea_cons (ev_var rfl) (ea_cons (ev_var rfl) ea_nil)) ⟨t, p, rfl, hs, rfl⟩) (.inl rfl)) s1 ⟨rfl, rfl, hn⟩ rfl (Le.refl _) ?_ ?_
    · rintro B i ⟨rest, b, acc⟩ d σ H v hd ⟨h1, h2, hdep⟩ s r
      dsimp only at h1 h2 hdep s
      cases rest with
      | nil => exact absurd h1 (drop_some hd)
      | cons m w c rest =>
        obtain ⟨rfl, h3⟩ := drop_step hd h1
        have hlen : acc.length + (1 + (c.size + rest.size)) ≤ 1000 := by
          have e := congrArg List.length h2
          simp only [List.length_append, List.length_map, sp_length] at e
          have e' : acc.length + (1 + (c.size + rest.size)) = t.size := e
          omega
        have hc : c.dep < n ∧ rest.dep < n + 1 := by
          have : max (c.dep + 1) rest.dep < n + 1 := hdep
          omega
        have hcs : c.size ≤ 1000 := by omega
        refine tg_use (tg_tup (tgs_cons tg_name (tgs_cons tg_name (tgs_cons tg_name tgs_nil)))) s r fun σ1 s1 => ?_
        refine sq_asgG (ev_var rfl) (tg_tup (tgs_cons tg_name (tgs_cons tg_name (tgs_cons tg_name tgs_nil)))) s1 fun σ2 H2 s2 => ?_
        refine sq_append 0 (er_var rfl) (ev_tup (ea_cons (ev_var rfl) (ea_cons (ev_var rfl) (ea_cons (ev_var rfl) (ea_cons (ev_var rfl) (ea_cons (ev_var rfl) ea_nil)))))) rfl own_lp (by omega) s2 fun H3 s3 => ?_
        refine st_extend (j := 0) (er_var rfl) (ev_call (ea_cons (ev_var rfl) (ea_cons (ev_var rfl) ea_nil)) ⟨c, m, rfl, hc.1, hcs, rfl⟩) rfl own_lp ?_ s3 fun H4 s4 => ⟨(rest, m, acc ++ [spE ⟨m, w, c, p, b⟩] ++ (c.sp m 0).map spE), ⟨h3, ?_, hc.2⟩, s4.le (.eq (.eq (.eq (.any (.any (.any (.any (.any (.any .nil)))))))))⟩
        · simp only [List.length_append, List.length_map, sp_length, List.length_cons, List.length_nil]
          omega
        · rw [← h2]
          show _ = acc ++ (spE ⟨m, w, c, p, b⟩ :: (c.sp m 0 ++ rest.sp p m).map spE)
          rw [List.map_append, List.append_assoc, List.append_assoc]; rfl
    · rintro ⟨rest, b, acc⟩ σ H ⟨h1, h2, _⟩ s
      dsimp only at h1 h2 s
      have hz : (rest.tops p b).map topE = [] := drop_all h1
      cases rest with
      | cons _ _ _ _ => exact absurd hz (List.cons_ne_nil _ _)
      | nil =>
        have h2' : acc = (t.sp p 0).map spE := by simpa [sp] using h2
        subst h2'
        exact st_retO (er_var rfl) s q
end
end G
set_option Elab.async false
set_option linter.all false
set_option maxRecDepth 100000
set_option maxHeartbeats 4000000
namespace G
open PySem L2 Fo
/-! ### plots: the program's defs, 2 -/
def Fit (t : Fo) : Prop := t.dep < 20 ∧ t.size ≤ 1000
def R_spots_of (ds : List PyData) (d : PyData) : Prop := ∃ t : Fo, ds = [.tuple t.enc] ∧ Fit t ∧ d = .list ((t.sp 0 0).map spE)
def plE (s : Fo.Sp) : PyData := .tuple [.str s.w, .int s.p, .int s.b]
def placesD (t : Fo) : PyData := .dict (kdz t.marks ((t.sp 0 0).map plE))
def R_places_of (ds : List PyData) (d : PyData) : Prop := ∃ t : Fo, ds = [.tuple t.enc] ∧ Fit t ∧ t.marks.Nodup ∧ d = placesD t
def R_row_at (ds : List PyData) (d : PyData) : Prop := ∃ (t : Fo) (p : Int), ds = [.tuple t.enc, .int p] ∧ Fit t ∧ d = .tuple (t.rowAt p).enc
def R_spot_with (ds : List PyData) (d : PyData) : Prop := ∃ (t : Fo) (m : Int), ds = [.tuple t.enc, .int m] ∧ Fit t ∧ d = t.spotWith m
def R_with_row (n : Nat) (ds : List PyData) (d : PyData) : Prop := ∃ (t r : Fo) (p : Int), ds = [.tuple t.enc, .int p, .tuple r.enc] ∧ t.dep < n ∧ t.size ≤ 1000 ∧ d = .tuple (if p = 0 then r else withRow p r t).enc
def R_taken_out (n : Nat) (ds : List PyData) (d : PyData) : Prop := ∃ (t : Fo) (m : Int), ds = [.tuple t.enc, .int m] ∧ t.dep < n ∧ t.size ≤ 1000 ∧ d = .tuple (takenOut m t).enc
def R_worded (n : Nat) (ds : List PyData) (d : PyData) : Prop := ∃ (t : Fo) (m : Int) (w : Str), ds = [.tuple t.enc, .int m, .str w] ∧ t.dep < n ∧ t.size ≤ 1000 ∧ d = .tuple (worded m w t).enc
def R_put_in (ds : List PyData) (d : PyData) : Prop := ∃ (t c : Fo) (m : Int) (w : Str) (p b : Int), ds = [.tuple t.enc, spotD m w c.enc, .int p, .int b] ∧ Fit t ∧ d = .tuple (putIn t m w c p b).enc
/-- the first that fits, from a place on -/
theorem find_drop {α : Type} {l : List α} {f : α → Bool} {i : Nat} (h : ∀ j x, j < i → l[j]? = some x → f x = false) : l.find? f = (l.drop i).find? f := by
  induction i generalizing l with
  | zero => rfl
  | succ i ih =>
    cases l with
    | nil => rfl
    | cons y l =>
      rw [List.find?_cons_of_neg (by rw [h 0 y (by omega) rfl]; exact Bool.false_ne_true)]
      exact ih fun j x hj hx => h (j + 1) x (by omega) hx
section
variable {P : Program} {w : World} {K : PySem.W.Frag} {mg : Str → Option Value} {base : Heap}
theorem sc_spots_of : FnScope ["t"] ["t"] (defScope s_spots_of) := ⟨rfl, rfl, rfl, by decide +kernel, rfl, by decide +kernel, by decide +kernel⟩
theorem c_spots_of (T : Txt K mg) : Cl P w K mg base CX0 22 "spots_of" ["t"] (PureSp R_spots_of) := by
  refine pure_ok T.d_spots_of sc_spots_of (fun ds d h => by obtain ⟨t, rfl, _⟩ := h; rfl) (fun f cdv A outer s H E hr => ⟨_, (pss_one (ps_ret (pe_k (c_spots_below T 20) hr (by decide) rfl pass0 (pa_cons (pv 0) (pa_cons pe_int pa_nil))))), ?_⟩)
  rintro O ds d σ ⟨t, rfl, ⟨h1, h2⟩, rfl⟩ s Q q
  exact st_retM (ev_call (ea_cons (ev_var rfl) (ea_cons ev_int ea_nil)) ⟨t, 0, rfl, h1, h2, rfl⟩) s q
theorem sc_places_of : FnScope ["t", "mark", "word", "_", "parent", "behind"] ["t"] (defScope s_places_of) := ⟨rfl, rfl, rfl, by decide +kernel, rfl, by decide +kernel, by decide +kernel⟩
theorem c_places_of (T : Txt K mg) : Cl P w K mg base CX0 23 "places_of" ["t"] (PureSp R_places_of) := by
  refine pure_ok T.d_places_of sc_places_of (fun ds d h => by obtain ⟨t, rfl, _⟩ := h; rfl) (fun f cdv A outer s H E hr => ⟨_, (pss_one (ps_ret (pe_dc (own := [("mark", 1), ("word", 2), ("_", 3), ("parent", 4), ("behind", 5)]) (g := gTup K 5 (gCons (gName 1) (gCons (gName 2) (gCons (gName 3) (gCons (gName 4) (gCons (gName 5) gNil)))))) (tt := tYes) rfl sc_places_of.nd (pi_seq (pe_k (c_spots_of T) hr (by decide) rfl pass0 (pa_cons (pv 0) pa_nil))) (blkOk_by (own := [("mark", 1), ("word", 2), ("_", 3), ("parent", 4), ("behind", 5)]) (N := ["t", "mark", "word", "_", "parent", "behind"]) (sc := (defScope s_places_of)) (by decide +kernel)) (fun _ _ _ _ _ => (pg_tup rfl (pgs_cons (pg_name (i := 1) sc_places_of.nd rfl (Or.inl rfl)) (pgs_cons (pg_name (i := 2) sc_places_of.nd rfl (Or.inl rfl)) (pgs_cons (pg_name (i := 3) sc_places_of.nd rfl (Or.inl rfl)) (pgs_cons (pg_name (i := 4) sc_places_of.nd rfl (Or.inl rfl)) (pgs_cons (pg_name (i := 5) sc_places_of.nd rfl (Or.inl rfl)) pgs_nil))))))) (fun _ _ _ _ _ => pts_nil) (fun _ _ _ _ _ => (pv 1)) (fun _ _ _ _ _ => (pe_tup (pa_cons (pv 2) (pa_cons (pv 4) (pa_cons (pv 5) pa_nil)))))))), ?_⟩)
  rintro O ds d σ ⟨t, rfl, ht, hnd, rfl⟩ s Q q
  let kf : PyData → Int := fun d => match d with | .tuple (.int m :: _) => m | _ => 0
  let vf : PyData → PyData := fun d => match d with | .tuple [_, w, _, p, b] => .tuple [w, p, b] | _ => .none
  have hk : ((t.sp 0 0).map spE).map kf = t.marks := by rw [← sp_marks t 0 0, List.map_map]; rfl
  have hv : ((t.sp 0 0).map spE).map vf = (t.sp 0 0).map plE := by rw [List.map_map]; rfl
  have := ev_dc (F := F0 O H) (M := []) (δ := [.dat (.tuple t.enc), .any, .any, .any, .any, .any]) (wi := iSeq K (tCall (PureSp R_spots_of) [] E0 (tCons (tVar 0) tNil))) (g := gTup K 5 (gCons (gName 1) (gCons (gName 2) (gCons (gName 3) (gCons (gName 4) (gCons (gName 5) gNil)))))) (vs := [1, 2, 3, 4, 5])
    (tk := tVar 1) (tv := tTup (tCons (tVar 2) (tCons (tVar 4) (tCons (tVar 5) tNil)))) (kf := kf) (vf := vf)
    (δf := fun d => match d with | .tuple [m, w, c, p, b] => [.dat (.tuple t.enc), .dat m, .dat w, .dat c, .dat p, .dat b] | _ => [])
    (ei_seq (ev_call (ea_cons (ev_var rfl) ea_nil) ⟨t, rfl, ht, rfl⟩) (.inl rfl)) (by rw [hk]; exact hnd)
    (fun F' M' d σ H v hd s r Q q => by
      obtain ⟨x, _, rfl⟩ := List.mem_map.mp hd
      obtain ⟨a, vs, rfl, h1, h2⟩ := r.tup_inv
      obtain ⟨u1, u2, u3, u4, u5, rfl⟩ : ∃ u1 u2 u3 u4 u5, vs = [u1, u2, u3, u4, u5] := by
        cases h2 with | cons _ h2 => cases h2 with | cons _ h2 => cases h2 with | cons _ h2 => cases h2 with | cons _ h2 => cases h2 with | cons _ h2 => cases h2; exact ⟨_, _, _, _, _, rfl⟩
      cases h2 with | cons r1 h2 => cases h2 with | cons r2 h2 => cases h2 with | cons r3 h2 => cases h2 with | cons r4 h2 => cases h2 with | cons r5 h2 =>
      refine ⟨a, _, rfl, SqT.of (shr_sub _ _ _ _ h1), rfl, _, _, rfl, _, _, rfl, _, _, rfl, _, _, rfl, _, _, rfl, rfl, q _ (((((s.set r1 1).set r2 2).set r3 3).set r4 4).set r5 5) ?_⟩
      rw [wipe_set (by decide), wipe_set (by decide), wipe_set (by decide), wipe_set (by decide), wipe_set (by decide), wipe_wipe])
    (fun F' M' d hd => by
      obtain ⟨x, _, rfl⟩ := List.mem_map.mp hd
      exact ev_var rfl)
    (fun F' M' d hd => by
      obtain ⟨x, _, rfl⟩ := List.mem_map.mp hd
      exact ev_tup (ea_cons (ev_var rfl) (ea_cons (ev_var rfl) (ea_cons (ev_var rfl) ea_nil))))
    (by rw [List.length_map, sp_length]; exact Nat.lt_of_le_of_lt ht.2 (by decide))
  rw [hk, hv] at this
  exact st_retM this s q
theorem sc_row_at : FnScope ["t", "parent", "mark", "_", "children"] ["t", "parent"] (defScope s_row_at) := ⟨rfl, rfl, rfl, by decide +kernel, rfl, by decide +kernel, by decide +kernel⟩
theorem c_row_at (T : Txt K mg) : Cl P w K mg base CX0 23 "row_at" ["t", "parent"] (PureSp R_row_at) := by
  refine pure_ok T.d_row_at sc_row_at (fun ds d h => by obtain ⟨t, p, rfl, _⟩ := h; rfl) (fun f cdv A outer s H E hr => ⟨_, (pss_cons (ps_if (pt_cmpR (op_eqD hr.units) (pv 1) pe_int (nomark _)) (pss_one (ps_ret (pv 0))) pss_nil)
    (pss_cons (ps_for PassesOwn.never rfl (pi_seq (pe_k (c_spots_of T) hr (by decide) rfl pass0 (pa_cons (pv 0) pa_nil))) (pg_tup rfl (pgs_cons (pg_name (i := 2) sc_row_at.nd rfl (Or.inl rfl)) (pgs_cons (pg_name (i := 3) sc_row_at.nd rfl (Or.inl rfl)) (pgs_cons (pg_name (i := 4) sc_row_at.nd rfl (Or.inl rfl)) (pgs_cons (pg_name (i := 3) sc_row_at.nd rfl (Or.inl rfl)) (pgs_cons (pg_name (i := 3) sc_row_at.nd rfl (Or.inl rfl)) pgs_nil))))))
    (pss_one (ps_if (pt_cmpR (op_eqD hr.units) (pv 2) (pv 1) (nomark _)) (pss_one (ps_ret (pv 4))) pss_nil)))
    (pss_one (ps_ret (pe_tup pa_nil))))), ?_⟩)
  rintro O ds d σ ⟨t, p, rfl, ht, rfl⟩ s Q q
  refine sq_ifN (et_test (ev_eqI (ev_var rfl) ev_int)) s (fun hb H1 s1 => ?_) fun hb H1 s1 => ?_
  · have hp : p = 0 := of_decide_eq_true hb
    refine st_retM (ev_var (d := .tuple (t.rowAt p).enc) ?_) s1 q
    unfold rowAt; rw [if_pos hp]; rfl
  have hp : p ≠ 0 := of_decide_eq_false hb
  refine sq_for (α := Unit) (fun _ _ => []) (fun _ _ => [.dat (.tuple t.enc), .dat (.int p), .any, .any, .any]) (fun i _ => ∀ j x, j < i → (t.sp 0 0)[j]? = some x → decide (x.m = p) = false) ()
    (ei_seq (ev_call (ea_cons (ev_var rfl) ea_nil) ⟨t, rfl, ht, rfl⟩) (.inl rfl)) s1 (fun j x h => absurd h (Nat.not_lt_zero _)) rfl (Le.refl _) ?_ ?_
  · rintro B i ⟨⟩ d σ H v hd h1 s r
    rw [List.getElem?_map] at hd
    cases hx : (t.sp 0 0)[i]? with
    | none => rw [hx] at hd; cases hd
    | some x =>
      rw [hx] at hd
      cases hd
      refine tg_use (tg_tup (tgs_cons tg_name (tgs_cons tg_name (tgs_cons tg_name (tgs_cons tg_name (tgs_cons tg_name tgs_nil)))))) s r fun σ1 s1 => ?_
      refine st_if (et_test (ev_eqI (ev_var rfl) (ev_var rfl))) s1 (fun hb H2 s2 => ?_) fun hb H2 s2 => ?_
      · refine st_retM (ev_var (d := .tuple (t.rowAt p).enc) ?_) s2 q
        have : t.at? p = some x := by
          unfold at?
          rw [find_drop (i := i) h1, List.drop_eq_getElem_cons (List.getElem?_eq_some_iff.mp hx).1, (List.getElem?_eq_some_iff.mp hx).2]
          exact List.find?_cons_of_pos hb
        unfold rowAt
        rw [if_neg hp, this]; rfl
      · refine ⟨(), fun j y hj hy => ?_, s2.le (.eq (.eq (.any (.any (.any .nil)))))⟩
        by_cases hji : j = i
        · subst hji
          rw [hx] at hy; cases hy
          exact hb
        · exact h1 j y (by omega) hy
  · rintro ⟨⟩ σ H h1 s
    refine st_retM (d := .tuple (t.rowAt p).enc) (ev_is (ev_tup ea_nil) ?_) s q
    have : t.at? p = none := by
      unfold at?
      rw [find_drop h1, List.length_map, List.drop_of_length_le (Nat.le_refl _)]; rfl
    unfold rowAt
    rw [if_neg hp, this]; rfl
theorem sc_spot_with : FnScope ["t", "m", "mark", "word", "children", "_"] ["t", "m"] (defScope s_spot_with) := ⟨rfl, rfl, rfl, by decide +kernel, rfl, by decide +kernel, by decide +kernel⟩
theorem c_spot_with (T : Txt K mg) : Cl P w K mg base CX0 23 "spot_with" ["t", "m"] (PureSp R_spot_with) := by
  refine pure_ok T.d_spot_with sc_spot_with (fun ds d h => by obtain ⟨t, p, rfl, _⟩ := h; rfl) (fun f cdv A outer s H E hr => ⟨_, (pss_cons (ps_for PassesOwn.never rfl (pi_seq (pe_k (c_spots_of T) hr (by decide) rfl pass0 (pa_cons (pv 0) pa_nil))) (pg_tup rfl (pgs_cons (pg_name (i := 2) sc_spot_with.nd rfl (Or.inl rfl)) (pgs_cons (pg_name (i := 3) sc_spot_with.nd rfl (Or.inl rfl)) (pgs_cons (pg_name (i := 4) sc_spot_with.nd rfl (Or.inl rfl)) (pgs_cons (pg_name (i := 5) sc_spot_with.nd rfl (Or.inl rfl)) (pgs_cons (pg_name (i := 5) sc_spot_with.nd rfl (Or.inl rfl)) pgs_nil))))))
    (pss_one (ps_if (pt_cmpR (op_eqD hr.units) (pv 2) (pv 1) (nomark _)) (pss_one (ps_ret (pe_tup (pa_cons (pv 2) (pa_cons (pv 3) (pa_cons (pv 4) pa_nil)))))) pss_nil)))
    (pss_one (ps_ret pe_non))), ?_⟩)
  rintro O ds d σ ⟨t, p, rfl, ht, rfl⟩ s Q q
  refine sq_for (α := Unit) (fun _ _ => []) (fun _ _ => [.dat (.tuple t.enc), .dat (.int p), .any, .any, .any, .any]) (fun i _ => ∀ j x, j < i → (t.sp 0 0)[j]? = some x → decide (x.m = p) = false) ()
    (ei_seq (ev_call (ea_cons (ev_var rfl) ea_nil) ⟨t, rfl, ht, rfl⟩) (.inl rfl)) s (fun j x h => absurd h (Nat.not_lt_zero _)) rfl (Le.refl _) ?_ ?_
  · rintro B i ⟨⟩ d σ H v hd h1 s r
    rw [List.getElem?_map] at hd
    cases hx : (t.sp 0 0)[i]? with
    | none => rw [hx] at hd; cases hd
    | some x =>
      rw [hx] at hd
      cases hd
      refine tg_use (tg_tup (tgs_cons tg_name (tgs_cons tg_name (tgs_cons tg_name (tgs_cons tg_name (tgs_cons tg_name tgs_nil)))))) s r fun σ1 s1 => ?_
      refine st_if (et_test (ev_eqI (ev_var rfl) (ev_var rfl))) s1 (fun hb H2 s2 => ?_) fun hb H2 s2 => ?_
      · refine st_retM (d := t.spotWith p) (ev_is (ev_tup (ea_cons (ev_var rfl) (ea_cons (ev_var rfl) (ea_cons (ev_var rfl) ea_nil)))) ?_) s2 q
        have : t.at? p = some x := by
          unfold at?
          rw [find_drop (i := i) h1, List.drop_eq_getElem_cons (List.getElem?_eq_some_iff.mp hx).1, (List.getElem?_eq_some_iff.mp hx).2]
          exact List.find?_cons_of_pos hb
        unfold spotWith
        rw [this]; rfl
      · refine ⟨(), fun j y hj hy => ?_, s2.le (.eq (.eq (.any (.any (.any (.any .nil))))))⟩
        by_cases hji : j = i
        · subst hji
          rw [hx] at hy; cases hy
          exact hb
        · exact h1 j y (by omega) hy
  · rintro ⟨⟩ σ H h1 s
    refine st_retM (d := t.spotWith p) (ev_is ev_non ?_) s q
    have : t.at? p = none := by
      unfold at?
      rw [find_drop h1, List.length_map, List.drop_of_length_le (Nat.le_refl _)]; rfl
    unfold spotWith
    rw [this]
end
end G
set_option Elab.async false
set_option linter.all false
set_option maxRecDepth 100000
set_option maxHeartbeats 4000000
namespace G
open PySem L2 Fo
/-! ### plots: the program's defs, 3 -/
theorem withRow_enc_length (p : Int) (r t : Fo) : (withRow p r t).enc.length = t.enc.length := by
  induction t with
  | nil => rfl
  | cons m w c t _ ih => show (withRow p r t).enc.length + 1 = t.enc.length + 1; rw [ih]
theorem worded_enc_length (m : Int) (w : Str) (t : Fo) : (worded m w t).enc.length = t.enc.length := by
  induction t with
  | nil => rfl
  | cons k u c t _ ih => show (worded m w t).enc.length + 1 = t.enc.length + 1; rw [ih]
theorem takenOut_enc_le (m : Int) (t : Fo) : (takenOut m t).enc.length ≤ t.enc.length := by
  induction t with
  | nil => exact Nat.le_refl _
  | cons k u c t _ ih =>
    show (if k = m then takenOut m t else .cons k u (takenOut m c) (takenOut m t)).enc.length ≤ t.enc.length + 1
    split
    · omega
    · show (takenOut m t).enc.length + 1 ≤ _; omega
theorem fit_row {t c r : Fo} {m : Int} {w : Str} {n : Nat} (h : (Fo.cons m w c r).dep < n + 1) : c.dep < n ∧ r.dep < n + 1 := by
  have : max (c.dep + 1) r.dep < n + 1 := h
  omega
/-- what a rest of a row still has of its spots is among the whole's -/
theorem size_drop : ∀ {t rest : Fo} {i : Nat}, t.enc.drop i = rest.enc → rest.size ≤ t.size := by
  have inj : ∀ {a b : Fo}, a.enc = b.enc → a = b := by
    intro a
    induction a with
    | nil => intro b h; exact (enc_nil (show b.enc = [] from h.symm)).symm
    | cons m w c r ihc ihr =>
      intro b h
      cases b with
      | nil => exact absurd h (List.cons_ne_nil _ _)
      | cons m' w' c' r' =>
        have h' : spotD m w c.enc :: r.enc = spotD m' w' c'.enc :: r'.enc := h
        injection h' with h1 h2
        unfold spotD at h1
        injection h1 with h1
        injection h1 with h3 h4
        injection h4 with h5 h6
        injection h6 with h7 h8
        injection h3 with h3
        injection h5 with h5
        injection h7 with h7
        rw [h3, h5, ihc h7, ihr h2]
  intro t
  induction t with
  | nil =>
    intro rest i h
    have : rest.enc = [] := by rw [← h]; exact List.drop_nil
    rw [enc_nil this]; exact Nat.le_refl _
  | cons m w c r _ ih =>
    intro rest i h
    cases i with
    | zero =>
      have := inj (a := .cons m w c r) (b := rest) h
      rw [this]; exact Nat.le_refl _
    | succ i =>
      have := ih (rest := rest) (i := i) h
      show rest.size ≤ 1 + (c.size + r.size)
      omega
section
variable {P : Program} {w : World} {K : PySem.W.Frag} {mg : Str → Option Value} {base : Heap}
theorem sc_with_row : FnScope ["t", "parent", "row", "made", "mark", "word", "children"] ["t", "parent", "row"] (defScope s_with_row) := ⟨rfl, rfl, rfl, by decide +kernel, rfl, by decide +kernel, by decide +kernel⟩
theorem c_with_row (T : Txt K mg) : ∀ n : Nat, Cl P w K mg base CX0 (n + 1) "with_row" ["t", "parent", "row"] (PureSp (R_with_row n))
  | 0 => cl_none T.d_with_row fun ds d h => by obtain ⟨t, r, p, _, h, _⟩ := h; exact absurd h (Nat.not_lt_zero _)
  | n + 1 => by
    have c_rec := c_with_row T n
    refine pure_ok T.d_with_row sc_with_row (fun ds d h => by obtain ⟨t, r, p, rfl, _⟩ := h; rfl) (fun f cdv A outer s H E hr => ⟨_, (pss_cons (ps_if (pt_cmpR (op_eqD hr.units) (pv 1) pe_int (nomark _)) (pss_one (ps_ret (pv 2))) pss_nil)
    (pss_cons (ps_set (i := 3) sc_with_row.nd rfl (Or.inl rfl) (pe_lst pa_nil))
    (pss_cons (ps_for PassesOwn.never rfl (pi_seq (pv 0)) (pg_tup rfl (pgs_cons (pg_name (i := 4) sc_with_row.nd rfl (Or.inl rfl)) (pgs_cons (pg_name (i := 5) sc_with_row.nd rfl (Or.inl rfl)) (pgs_cons (pg_name (i := 6) sc_with_row.nd rfl (Or.inl rfl)) pgs_nil))))
    (pss_one (ps_if (pt_cmpR (op_eqD hr.units) (pv 4) (pv 1) (nomark _)) (pss_one (ps_expr (pe_bm PySem.F.plainAttrs_list PySem.F.slot_list_append PySem.F.type_list_append mt_append (pv 3) (pa_cons (pe_tup (pa_cons (pv 4) (pa_cons (pv 5) (pa_cons (pv 2) pa_nil)))) pa_nil)))) (pss_one (ps_expr (pe_bm PySem.F.plainAttrs_list PySem.F.slot_list_append PySem.F.type_list_append mt_append (pv 3) (pa_cons (pe_tup (pa_cons (pv 4) (pa_cons (pv 5) (pa_cons (pe_k c_rec hr (Nat.le_refl _) rfl pass0 (pa_cons (pv 6) (pa_cons (pv 1) (pa_cons (pv 2) pa_nil)))) pa_nil)))) pa_nil)))))))
    (pss_one (ps_ret (pe_callTy call_tuple_of (by rfl) T.z_tuple (by decide +kernel) (pa_cons (pv 3) pa_nil))))))), ?_⟩)
    rintro O ds d σ ⟨t, r, p, rfl, hn, hs, rfl⟩ s Q q
    refine sq_ifN (et_test (ev_eqI (ev_var rfl) ev_int)) s (fun hb H1 s1 => ?_) fun hb H1 s1 => ?_
    · have hp : p = 0 := of_decide_eq_true hb
      rw [if_pos hp] at q
      exact st_retM (ev_var rfl) s1 q
    have hp : p ≠ 0 := of_decide_eq_false hb
    rw [if_neg hp] at q
    refine sq_own ea_nil s1 fun l σ2 H2 hl s2 => ?_
    refine sq_for (α := Fo × List PyData) (fun _ a => [(l, .lst a.2)]) (fun _ a => [.dat (.tuple t.enc), .dat (.int p), .dat (.tuple r.enc), .raw (.ref l), .any, .any, .any])
      (fun i a => t.enc.drop i = a.1.enc ∧ a.2 ++ (withRow p r a.1).enc = (withRow p r t).enc ∧ a.1.dep < n + 1) (t, []) (ei_seq (ev_var rfl) (.inr rfl)) s2 ⟨rfl, rfl, hn⟩ rfl (Le.refl _) ?_ ?_
    · rintro B i ⟨rest, acc⟩ d σ H v hd ⟨h1, h2, hdep⟩ s rv
      dsimp only at h1 h2 hdep s
      cases rest with
      | nil => exact absurd h1 (drop_some hd)
      | cons m w c rest =>
        obtain ⟨rfl, h3⟩ := drop_step hd h1
        have hlen : acc.length < 16777216 := by
          have e := congrArg List.length h2
          rw [List.length_append, withRow_enc_length, withRow_enc_length] at e
          have := enc_le t
          omega
        have hc := fit_row (t := t) hdep
        have hcs : c.size ≤ 1000 := by
          have := size_drop h1
          have : 1 + (c.size + rest.size) ≤ t.size := this
          omega
        refine tg_use (tg_tup (tgs_cons tg_name (tgs_cons tg_name (tgs_cons tg_name tgs_nil)))) s rv fun σ1 s1 => ?_
        refine st_if (et_test (ev_eqI (ev_var rfl) (ev_var rfl))) s1 (fun hb H2 s2 => ?_) fun hb H2 s2 => ?_
        · have hm : m = p := of_decide_eq_true hb
          refine st_append (j := 0) (er_var rfl) (ev_tup (ea_cons (ev_var rfl) (ea_cons (ev_var rfl) (ea_cons (ev_var rfl) ea_nil)))) rfl own_lp hlen s2 fun H3 s3 => ⟨(rest, acc ++ [spotD m w r.enc]), ⟨h3, ?_, hc.2⟩, s3.le (.eq (.eq (.eq (.eq (.any (.any (.any .nil)))))))⟩
          rw [← h2, List.append_assoc]
          show _ = acc ++ spotD m w (if m = p then r else withRow p r c).enc :: (withRow p r rest).enc
          rw [if_pos hm]; rfl
        · have hm : m ≠ p := of_decide_eq_false hb
          refine st_append (j := 0) (er_var rfl) (ev_tup (ea_cons (ev_var rfl) (ea_cons (ev_var rfl) (ea_cons (ev_call (d := .tuple (withRow p r c).enc) (ea_cons (ev_var rfl) (ea_cons (ev_var rfl) (ea_cons (ev_var rfl) ea_nil))) ⟨c, r, p, rfl, hc.1, hcs, by rw [if_neg hp]⟩) ea_nil)))) rfl own_lp hlen s2 fun H3 s3 => ⟨(rest, acc ++ [spotD m w (withRow p r c).enc]), ⟨h3, ?_, hc.2⟩, s3.le ?_⟩
          · rw [← h2, List.append_assoc]
            show _ = acc ++ spotD m w (if m = p then r else withRow p r c).enc :: (withRow p r rest).enc
            rw [if_neg hm]; rfl
          · exact (.eq (.eq (.eq (.eq (.any (.any (.any .nil)))))))
    · rintro ⟨rest, acc⟩ σ H ⟨h1, h2, _⟩ s
      dsimp only at h1 h2 s
      have := enc_nil (drop_all h1)
      subst this
      have h2' : acc = (withRow p r t).enc := by simpa [withRow, enc] using h2
      subst h2'
      exact st_retM (ev_tupleO (er_var rfl) List.mem_cons_self) s q
theorem sc_taken_out : FnScope ["t", "m", "made", "mark", "word", "children"] ["t", "m"] (defScope s_taken_out) := ⟨rfl, rfl, rfl, by decide +kernel, rfl, by decide +kernel, by decide +kernel⟩
theorem c_taken_out (T : Txt K mg) : ∀ n : Nat, Cl P w K mg base CX0 (n + 1) "taken_out" ["t", "m"] (PureSp (R_taken_out n))
  | 0 => cl_none T.d_taken_out fun ds d h => by obtain ⟨t, p, _, h, _⟩ := h; exact absurd h (Nat.not_lt_zero _)
  | n + 1 => by
    have c_rec := c_taken_out T n
    refine pure_ok T.d_taken_out sc_taken_out (fun ds d h => by obtain ⟨t, p, rfl, _⟩ := h; rfl) (fun f cdv A outer s H E hr => ⟨_, (pss_cons (ps_set (i := 2) sc_taken_out.nd rfl (Or.inl rfl) (pe_lst pa_nil))
    (pss_cons (ps_for PassesOwn.never rfl (pi_seq (pv 0)) (pg_tup rfl (pgs_cons (pg_name (i := 3) sc_taken_out.nd rfl (Or.inl rfl)) (pgs_cons (pg_name (i := 4) sc_taken_out.nd rfl (Or.inl rfl)) (pgs_cons (pg_name (i := 5) sc_taken_out.nd rfl (Or.inl rfl)) pgs_nil))))
    (pss_one (ps_if (pt_cmpR (op_neD hr.units) (pv 3) (pv 1) (nomark _)) (pss_one (ps_expr (pe_bm PySem.F.plainAttrs_list PySem.F.slot_list_append PySem.F.type_list_append mt_append (pv 2) (pa_cons (pe_tup (pa_cons (pv 3) (pa_cons (pv 4) (pa_cons (pe_k c_rec hr (Nat.le_refl _) rfl pass0 (pa_cons (pv 5) (pa_cons (pv 1) pa_nil))) pa_nil)))) pa_nil)))) pss_nil)))
    (pss_one (ps_ret (pe_callTy call_tuple_of (by rfl) T.z_tuple (by decide +kernel) (pa_cons (pv 2) pa_nil)))))), ?_⟩)
    rintro O ds d σ ⟨t, p, rfl, hn, hs, rfl⟩ s Q q
    refine sq_own ea_nil s fun l σ2 H2 hl s2 => ?_
    refine sq_for (α := Fo × List PyData) (fun _ a => [(l, .lst a.2)]) (fun _ a => [.dat (.tuple t.enc), .dat (.int p), .raw (.ref l), .any, .any, .any])
      (fun i a => t.enc.drop i = a.1.enc ∧ a.2 ++ (takenOut p a.1).enc = (takenOut p t).enc ∧ a.1.dep < n + 1) (t, []) (ei_seq (ev_var rfl) (.inr rfl)) s2 ⟨rfl, rfl, hn⟩ rfl (Le.refl _) ?_ ?_
    · rintro B i ⟨rest, acc⟩ d σ H v hd ⟨h1, h2, hdep⟩ s rv
      dsimp only at h1 h2 hdep s
      cases rest with
      | nil => exact absurd h1 (drop_some hd)
      | cons m w c rest =>
        obtain ⟨rfl, h3⟩ := drop_step hd h1
        have hlen : acc.length < 16777216 := by
          have e := congrArg List.length h2
          rw [List.length_append] at e
          have := enc_le t
          have := takenOut_enc_le p t
          omega
        have hc := fit_row (t := t) hdep
        have hcs : c.size ≤ 1000 := by
          have := size_drop h1
          have : 1 + (c.size + rest.size) ≤ t.size := this
          omega
        refine tg_use (tg_tup (tgs_cons tg_name (tgs_cons tg_name (tgs_cons tg_name tgs_nil)))) s rv fun σ1 s1 => ?_
        refine st_if (et_test (ev_neI (ev_var rfl) (ev_var rfl))) s1 (fun hb H2 s2 => ?_) fun hb H2 s2 => ?_
        · have hm : m ≠ p := by simpa using hb
          refine st_append (j := 0) (er_var rfl) (ev_tup (ea_cons (ev_var rfl) (ea_cons (ev_var rfl) (ea_cons (ev_call (ea_cons (ev_var rfl) (ea_cons (ev_var rfl) ea_nil)) ⟨c, p, rfl, hc.1, hcs, rfl⟩) ea_nil)))) rfl own_lp hlen s2 fun H3 s3 => ⟨(rest, acc ++ [spotD m w (takenOut p c).enc]), ⟨h3, ?_, hc.2⟩, s3.le (.eq (.eq (.eq (.any (.any (.any .nil))))))⟩
          rw [← h2, List.append_assoc]
          show _ = acc ++ (if m = p then takenOut p rest else .cons m w (takenOut p c) (takenOut p rest)).enc
          rw [if_neg hm]; rfl
        · have hm : m = p := by simpa using hb
          refine ⟨(rest, acc), ⟨h3, ?_, hc.2⟩, s2.le (.eq (.eq (.eq (.any (.any (.any .nil))))))⟩
          rw [← h2]
          show _ = acc ++ (if m = p then takenOut p rest else .cons m w (takenOut p c) (takenOut p rest)).enc
          rw [if_pos hm]
    · rintro ⟨rest, acc⟩ σ H ⟨h1, h2, _⟩ s
      dsimp only at h1 h2 s
      have := enc_nil (drop_all h1)
      subst this
      have h2' : acc = (takenOut p t).enc := by simpa [takenOut, enc] using h2
      subst h2'
      exact st_retM (ev_tupleO (er_var rfl) List.mem_cons_self) s q
theorem sc_worded : FnScope ["t", "m", "new", "made", "mark", "word", "children"] ["t", "m", "new"] (defScope s_worded) := ⟨rfl, rfl, rfl, by decide +kernel, rfl, by decide +kernel, by decide +kernel⟩
theorem c_worded (T : Txt K mg) : ∀ n : Nat, Cl P w K mg base CX0 (n + 1) "worded" ["t", "m", "new"] (PureSp (R_worded n))
  | 0 => cl_none T.d_worded fun ds d h => by obtain ⟨t, p, x, _, h, _⟩ := h; exact absurd h (Nat.not_lt_zero _)
  | n + 1 => by
    have c_rec := c_worded T n
    refine pure_ok T.d_worded sc_worded (fun ds d h => by obtain ⟨t, p, x, rfl, _⟩ := h; rfl) (fun f cdv A outer s H E hr => ⟨_, (pss_cons (ps_set (i := 3) sc_worded.nd rfl (Or.inl rfl) (pe_lst pa_nil))
    (pss_cons (ps_for PassesOwn.never rfl (pi_seq (pv 0)) (pg_tup rfl (pgs_cons (pg_name (i := 4) sc_worded.nd rfl (Or.inl rfl)) (pgs_cons (pg_name (i := 5) sc_worded.nd rfl (Or.inl rfl)) (pgs_cons (pg_name (i := 6) sc_worded.nd rfl (Or.inl rfl)) pgs_nil))))
    (pss_one (ps_expr (pe_bm PySem.F.plainAttrs_list PySem.F.slot_list_append PySem.F.type_list_append mt_append (pv 3) (pa_cons (pe_tup (pa_cons (pv 4) (pa_cons (pe_ifExp (pt_cmpR (op_eqD hr.units) (pv 4) (pv 1) (nomark _)) (pv 2) (pv 5)) (pa_cons (pe_k c_rec hr (Nat.le_refl _) rfl pass0 (pa_cons (pv 6) (pa_cons (pv 1) (pa_cons (pv 2) pa_nil)))) pa_nil)))) pa_nil)))))
    (pss_one (ps_ret (pe_callTy call_tuple_of (by rfl) T.z_tuple (by decide +kernel) (pa_cons (pv 3) pa_nil)))))), ?_⟩)
    rintro O ds d σ ⟨t, p, x, rfl, hn, hs, rfl⟩ s Q q
    refine sq_own ea_nil s fun l σ2 H2 hl s2 => ?_
    refine sq_for (α := Fo × List PyData) (fun _ a => [(l, .lst a.2)]) (fun _ a => [.dat (.tuple t.enc), .dat (.int p), .dat (.str x), .raw (.ref l), .any, .any, .any])
      (fun i a => t.enc.drop i = a.1.enc ∧ a.2 ++ (worded p x a.1).enc = (worded p x t).enc ∧ a.1.dep < n + 1) (t, []) (ei_seq (ev_var rfl) (.inr rfl)) s2 ⟨rfl, rfl, hn⟩ rfl (Le.refl _) ?_ ?_
    · rintro B i ⟨rest, acc⟩ d σ H v hd ⟨h1, h2, hdep⟩ s rv
      dsimp only at h1 h2 hdep s
      cases rest with
      | nil => exact absurd h1 (drop_some hd)
      | cons m w c rest =>
        obtain ⟨rfl, h3⟩ := drop_step hd h1
        have hlen : acc.length < 16777216 := by
          have e := congrArg List.length h2
          rw [List.length_append, worded_enc_length, worded_enc_length] at e
          have := enc_le t
          omega
        have hc := fit_row (t := t) hdep
        have hcs : c.size ≤ 1000 := by
          have := size_drop h1
          have : 1 + (c.size + rest.size) ≤ t.size := this
          omega
        refine tg_use (tg_tup (tgs_cons tg_name (tgs_cons tg_name (tgs_cons tg_name tgs_nil)))) s rv fun σ1 s1 => ?_
        refine st_append (j := 0) (er_var rfl) (ev_tup (ea_cons (ev_var rfl) (ea_cons (ev_ifE (d := .str (if m = p then x else w)) (et_test (ev_eqI (ev_var rfl) (ev_var rfl))) (fun hb => ev_is (ev_var rfl) ?_) (fun hb => ev_is (ev_var rfl) ?_)) (ea_cons (ev_call (ea_cons (ev_var rfl) (ea_cons (ev_var rfl) (ea_cons (ev_var rfl) ea_nil))) ⟨c, p, x, rfl, hc.1, hcs, rfl⟩) ea_nil)))) rfl own_lp hlen s1 fun H3 s3 => ⟨(rest, acc ++ [spotD m (if m = p then x else w) (worded p x c).enc]), ⟨h3, ?_, hc.2⟩, s3.le (.eq (.eq (.eq (.eq (.any (.any (.any .nil)))))))⟩
        · rw [if_pos (of_decide_eq_true hb)]
        · rw [if_neg (of_decide_eq_false hb)]
        rw [← h2, List.append_assoc]
        rfl
    · rintro ⟨rest, acc⟩ σ H ⟨h1, h2, _⟩ s
      dsimp only at h1 h2 s
      have := enc_nil (drop_all h1)
      subst this
      have h2' : acc = (worded p x t).enc := by simpa [worded, enc] using h2
      subst h2'
      exact st_retM (ev_tupleO (er_var rfl) List.mem_cons_self) s q
end
end G
set_option Elab.async false
set_option linter.all false
set_option maxRecDepth 100000
set_option maxHeartbeats 4000000
namespace G
open PySem L2 Fo
/-! ### plots: the program's defs, 4 -/
def tNever : TS := fun _ _ _ => False
theorem ps_never {X : Cx} {st : Stmt} : PS X st tNever := ⟨fun pins s σ H D I h => False.elim h⟩
theorem kdGet_some : ∀ {ks : List Int} {ds : List PyData} (k : Int), ks.length = ds.length → (kdGet ks ds k).isSome = decide (k ∈ ks)
  | [], ds, k, _ => by simp [kdGet]
  | x :: ks, [], k, h => by simp at h
  | x :: ks, d :: ds, k, h => by
    have ih := kdGet_some (ks := ks) (ds := ds) k (by simpa using h)
    have e : kdGet (x :: ks) (d :: ds) k = if k == x then some d else kdGet ks ds k := by
      unfold kdGet
      rw [List.zip_cons_cons, List.lookup_cons]
      cases k == x <;> rfl
    rw [e]
    by_cases c : k = x
    · subst c; simp
    · have c1 : (k == x) = false := by simpa using c
      rw [c1]
      simp only [Bool.false_eq_true, if_false, List.mem_cons, c, false_or]
      exact ih
/-- how far a plot's check has come: the marks seen, the rest of the row in hand, the rows that wait -/
def marksL (ws : List Fo) : List Int := ws.flatMap marks
def wordsL (ws : List Fo) : List Str := ws.flatMap words
def sizeL (ws : List Fo) : Nat := (ws.map fun t => t.size + 1).sum
def sizeT (ws : List Fo) : Nat := (ws.map fun t => 2 * t.size + 1).sum
structure Wait (ms : List Int) (r : Fo) (ws : List Fo) : Prop where
  nd : (ms ++ (r.marks ++ marksL ws)).Nodup
  pos : ∀ m ∈ r.marks ++ marksL ws, 0 < m
  wd : ∀ w ∈ r.words ++ wordsL ws, wordOk w = true
  sz : ms.length + 2 * r.size + sizeT ws ≤ 3000
theorem Wait.step {ms : List Int} {m : Int} {w : Str} {c r : Fo} {ws : List Fo} (h : Wait ms (.cons m w c r) ws) : m ∉ ms ∧ 0 < m ∧ wordOk w = true ∧ Wait (ms ++ [m]) r (ws ++ [c]) := by
  have hp : (ms ++ [m] ++ (r.marks ++ marksL (ws ++ [c]))).Perm (ms ++ ((m :: (c.marks ++ r.marks)) ++ marksL ws)) := by
    rw [List.perm_iff_count]
    intro a
    simp only [marksL, List.flatMap_append, List.flatMap_cons, List.flatMap_nil, List.append_nil, List.count_append, List.count_cons, List.count_nil]
    omega
  refine ⟨?_, h.pos m (List.mem_append_left _ List.mem_cons_self), h.wd w (List.mem_append_left _ List.mem_cons_self), hp.nodup_iff.mpr h.nd, fun a ha => ?_, fun a ha => ?_, ?_⟩
  · have := h.nd
    intro hm
    exact (List.nodup_append.mp this).2.2 m hm m (List.mem_append_left _ List.mem_cons_self) rfl
  · refine h.pos a ?_
    show a ∈ (m :: (c.marks ++ r.marks)) ++ marksL ws
    simp only [marksL, List.flatMap_append, List.flatMap_cons, List.flatMap_nil, List.append_nil, List.mem_append, List.mem_cons] at ha ⊢
    rcases ha with ha | ha | ha
    · exact .inl (.inr (.inr ha))
    · exact .inr ha
    · exact .inl (.inr (.inl ha))
  · refine h.wd a ?_
    show a ∈ (w :: (c.words ++ r.words)) ++ wordsL ws
    simp only [wordsL, List.flatMap_append, List.flatMap_cons, List.flatMap_nil, List.append_nil, List.mem_append, List.mem_cons] at ha ⊢
    rcases ha with ha | ha | ha
    · exact .inl (.inr (.inr ha))
    · exact .inr ha
    · exact .inl (.inr (.inl ha))
  · have := h.sz
    have e1 : (Fo.cons m w c r).size = 1 + (c.size + r.size) := rfl
    have e2 : sizeT (ws ++ [c]) = sizeT ws + (2 * c.size + 1) := by simp [sizeT]
    rw [e1] at this
    rw [e2, List.length_append]
    simp only [List.length_cons, List.length_nil]
    omega
theorem sizeL_len : ∀ ws : List Fo, ws.length ≤ sizeT ws
  | [] => Nat.le_refl _
  | t :: ws => by
    have := sizeL_len ws
    have e : sizeT (t :: ws) = (2 * t.size + 1) + sizeT ws := by simp [sizeT]
    rw [e]; simp only [List.length_cons]; omega
def tD (t : Fo) : PyData := .tuple t.enc
def R_is_plot_value (ds : List PyData) (d : PyData) : Prop := ∃ t : Fo, ds = [.tuple t.enc] ∧ Fit t ∧ Ok t ∧ d = .bool true
def R_need_plot (ds : List PyData) (d : PyData) : Prop := ∃ t : Fo, ds = [.tuple t.enc] ∧ Fit t ∧ Ok t ∧ d = .none
theorem own_llp {F : Fm} {l l' : Addr} {B : Hp} : (((F.own l).own l').push B).N l = true := orA_l orA_r
theorem ws_last {ws : List Fo} (h : 0 < ws.length) : ∃ ws' t, ws = ws' ++ [t] := by
  rcases List.eq_nil_or_concat ws with e | ⟨l, t, e⟩
  · subst e; simp at h
  · exact ⟨l, t, by simpa using e⟩
theorem fin_of_range {m : Int} (h : 0 < m) : decide (m < 1) = false := by simp; omega
section
variable {P : Program} {w : World} {K : PySem.W.Frag} {mg : Str → Option Value} {base : Heap}
theorem sc_put_in : FnScope ["t", "spot", "parent", "behind", "row", "at", "k", "other"] ["t", "spot", "parent", "behind"] (defScope s_put_in) := ⟨rfl, rfl, rfl, by decide +kernel, rfl, by decide +kernel, by decide +kernel⟩
theorem c_put_in (T : Txt K mg) : Cl P w K mg base CX0 24 "put_in" ["t", "spot", "parent", "behind"] (PureSp R_put_in) := by
  refine pure_ok T.d_put_in sc_put_in (fun ds d h => by obtain ⟨t, c, m, w, p, b, rfl, _⟩ := h; rfl) (fun f cdv A outer s H E hr => ⟨_, (pss_cons (ps_set (i := 4) sc_put_in.nd rfl (Or.inl rfl) (pe_k (c_row_at T) hr (by decide) rfl pass0 (pa_cons (pv 0) (pa_cons (pv 2) pa_nil))))
    (pss_cons (ps_set (i := 5) sc_put_in.nd rfl (Or.inl rfl) pe_int)
    (pss_cons (ps_for PassesOwn.never rfl (pi_enumT (by rfl) T.z_enumerate (pa_cons (pv 4) pa_nil)) (pg_tup rfl (pgs_cons (pg_name (i := 6) sc_put_in.nd rfl (Or.inl rfl)) (pgs_cons (pg_name (i := 7) sc_put_in.nd rfl (Or.inl rfl)) pgs_nil)))
    (pss_one (ps_if (pt_cmpR (op_eqD hr.units) (pe_ix ix_seq (pv 7) pe_int (fun _ _ => rfl)) (pv 3) (nomark _)) (pss_one (ps_set (i := 5) sc_put_in.nd rfl (Or.inl rfl) (pe_op op_add (pv 6) pe_int))) pss_nil)))
    (pss_one (ps_ret (pe_k (c_with_row T 20) hr (by decide) rfl pass0 (pa_cons (pv 0) (pa_cons (pv 2) (pa_cons (pe_op op_catA (pe_op op_catA (pe_slice sl_tupA (pv 4) po_none (po_some (pv 5))) (pe_tup (pa_cons (pv 1) pa_nil))) (pe_slice sl_tupA (pv 4) (po_some (pv 5)) po_none)) pa_nil))))))))), ?_⟩)
  rintro O ds d σ ⟨t, c, m, w, p, b, rfl, ht, rfl⟩ s Q q
  refine sq_asg (ev_call (ea_cons (ev_var rfl) (ea_cons (ev_var rfl) ea_nil)) ⟨t, p, rfl, ht, rfl⟩) s fun σ1 H1 s1 => ?_
  refine sq_asg ev_int s1 fun σ2 H2 s2 => ?_
  refine sq_for (α := Fo × Nat) (fun _ _ => []) (fun _ a => [.dat (.tuple t.enc), .dat (spotD m w c.enc), .dat (.int p), .dat (.int b), .dat (.tuple (t.rowAt p).enc), .dat (.int (a.2 : Nat)), .any, .any])
    (fun i a => (t.rowAt p).enc.drop i = a.1.enc ∧ a.1.atOf b i a.2 = (t.rowAt p).atOf b 0 0) (t.rowAt p, 0) (ei_enumT (ev_var rfl)) s2 ⟨rfl, rfl⟩ rfl (Le.refl _) ?_ ?_
  · rintro B i ⟨rest, at'⟩ d σ H v hd ⟨h1, h2⟩ s r
    dsimp only at h1 h2 s
    unfold enumD at hd
    rw [List.getElem?_map, List.getElem?_zipIdx] at hd
    cases hx : (t.rowAt p).enc[i]? with
    | none => rw [hx] at hd; cases hd
    | some x =>
      rw [hx] at hd
      simp only [Option.map_some, Option.some.injEq, Nat.zero_add] at hd
      subst hd
      cases rest with
      | nil => exact absurd h1 (drop_some hx)
      | cons k u e rest =>
        obtain ⟨rfl, h3⟩ := drop_step hx h1
        refine tg_use (tg_tup (tgs_cons tg_name (tgs_cons tg_name tgs_nil))) s r fun σ1 s1 => ?_
        refine st_if (et_test (ev_eqI (ev_ixT (ev_var rfl) ev_int rfl) (ev_var rfl))) s1 (fun hb H2 s2 => ?_) fun hb H2 s2 => ?_
        · refine st_asg (ev_add (ev_var rfl) ev_int) s2 fun σ3 H3 s3 => ⟨(rest, i + 1), ⟨h3, ?_⟩, s3.le (.eq (.eq (.eq (.eq (.eq (.eq (.any (.any .nil))))))))⟩
          rw [← h2]
          show _ = rest.atOf b (i + 1) (if k = b then i + 1 else at')
          rw [if_pos (of_decide_eq_true hb)]
        · refine ⟨(rest, at'), ⟨h3, ?_⟩, s2.le (.eq (.eq (.eq (.eq (.eq (.eq (.any (.any .nil))))))))⟩
          rw [← h2]
          show _ = rest.atOf b (i + 1) (if k = b then i + 1 else at')
          rw [if_neg (of_decide_eq_false hb)]
  · rintro ⟨rest, at'⟩ σ H ⟨h1, h2⟩ s
    dsimp only at h1 h2 s
    have hlen : (enumD (t.rowAt p).enc).length = (t.rowAt p).enc.length := by simp [enumD]
    rw [hlen] at h1 h2
    have := enc_nil (drop_all h1)
    subst this
    have h2' : at' = (t.rowAt p).atOf b 0 0 := h2
    have hle : at' ≤ (t.rowAt p).enc.length := by
      rw [h2']
      have := atOf_le b (t.rowAt p) 0 0 (Nat.zero_le _)
      omega
    have hrow : (t.rowAt p).enc.length ≤ 1000 := by
      unfold rowAt
      split
      · exact Nat.le_trans (enc_le t) ht.2
      · split
        · rename_i s hs
          have hm := List.mem_of_find?_eq_some hs
          have : ∀ {t : Fo} {p b : Int} {s : Fo.Sp}, s ∈ t.sp p b → s.c.size ≤ t.size := by
            intro t
            induction t with
            | nil => intro p b s h; exact absurd h List.not_mem_nil
            | cons m w c r ihc ihr =>
              intro p b s h
              show s.c.size ≤ 1 + (c.size + r.size)
              rcases List.mem_cons.mp h with rfl | h
              · show c.size ≤ _; omega
              · rcases List.mem_append.mp h with h | h
                · have := ihc h; omega
                · have := ihr h; omega
          exact Nat.le_trans (enc_le _) (Nat.le_trans (this hm) ht.2)
        · exact Nat.zero_le _
    have hins : (insAt m w c at' (t.rowAt p)).enc = (t.rowAt p).enc.take at' ++ [spotD m w c.enc] ++ (t.rowAt p).enc.drop at' := enc_insAt m w c at' _ hle
    have hrow' : ∀ F : Fm, Ev F [] [.dat (.tuple t.enc), .dat (spotD m w c.enc), .dat (.int p), .dat (.int b), .dat (.tuple (t.rowAt p).enc), .dat (.int (at' : Nat)), .any, .any] _ (.tuple (insAt m w c at' (t.rowAt p)).enc) := fun F =>
      ev_is (ev_catT (K := K) (ev_catT (K := K) (ev_slT (K := K) (ev_var (i := 4) rfl) eo_none (eo_some (ev_var (i := 5) rfl))) (ev_tup (ea_cons (ev_var (i := 1) rfl) ea_nil)) (by
        rw [cut_to, List.length_take]; simp only [List.length_cons, List.length_nil]; omega)) (ev_slT (K := K) (ev_var (i := 4) rfl) (eo_some (ev_var (i := 5) rfl)) eo_none) (by
        rw [cut_to, cut_from, List.length_append, List.length_take, List.length_drop]; simp only [List.length_cons, List.length_nil]; omega)) (by rw [cut_to, cut_from, hins])
    refine st_retM (ev_call (ea_cons (ev_var rfl) (ea_cons (ev_var rfl) (ea_cons (hrow' _) ea_nil))) ⟨t, _, p, rfl, ht.1, ht.2, rfl⟩) s fun v H' e r => q v H' e ?_
    unfold Fo.putIn
    by_cases hp : p = 0
    · rw [if_pos hp] at r ⊢
      rw [h2'] at r
      have : t.rowAt p = t := by unfold rowAt; rw [if_pos hp]
      rw [this] at r
      exact r
    · rw [if_neg hp] at r ⊢
      rw [h2'] at r
      exact r
theorem sc_is_plot_value : FnScope ["value", "marks", "waiting", "row", "spot", "mark", "word", "children"] ["value"] (defScope s_is_plot_value) := ⟨rfl, rfl, rfl, by decide +kernel, rfl, by decide +kernel, by decide +kernel⟩
theorem c_is_plot_value (T : Txt K mg) : Cl P w K mg base CX0 3 "is_plot_value" ["value"] (PureSp R_is_plot_value) := by
  refine pure_ok T.d_is_plot_value sc_is_plot_value (fun ds d h => by obtain ⟨t, rfl, _⟩ := h; rfl) (fun f cdv A outer s H E hr => ⟨_, (pss_cons (ps_set (i := 1) sc_is_plot_value.nd rfl (Or.inl rfl) pe_dnewK)
    (pss_cons (ps_set (i := 2) sc_is_plot_value.nd rfl (Or.inl rfl) (pe_lst (pa_cons (pv 0) pa_nil)))
    (pss_cons (ps_while PassesOwn.never (pt_cmpR op_gt (pe_callB call_len (by rfl) T.z_len PySem.boot_len (pa_cons (pv 2) pa_nil)) pe_int (nomark _))
    (pss_cons (ps_set (i := 3) sc_is_plot_value.nd rfl (Or.inl rfl) (pe_bm0 PySem.F.plainAttrs_list PySem.F.slot_list_pop PySem.F.type_list_pop mt_pop (pv 2)))
    (pss_cons (ps_if (pt_not (pt_val (pe_callB call_isi (by rfl) T.z_isinstance (by decide +kernel) (pa_cons (pv 3) (pa_cons (pe_bltn (v := .ty "tuple") (u := .type "tuple") (by rfl) T.z_tuple (by decide +kernel) rfl) pa_nil))))) (pss_one (ps_ret pe_bl)) pss_nil)
    (pss_one (ps_for PassesOwn.never rfl (pi_seq (pv 3)) (pg_name (i := 4) sc_is_plot_value.nd rfl (Or.inl rfl))
    (pss_cons (ps_if (pt_not (pt_val (pe_k (c_has_size T) hr (by decide) rfl pass0 (pa_cons (pv 4) (pa_cons pe_int pa_nil))))) (pss_one (ps_ret pe_bl)) pss_nil)
    (pss_cons (ps_asg (pv 4) (pg_tup rfl (pgs_cons (pg_name (i := 5) sc_is_plot_value.nd rfl (Or.inl rfl)) (pgs_cons (pg_name (i := 6) sc_is_plot_value.nd rfl (Or.inl rfl)) (pgs_cons (pg_name (i := 7) sc_is_plot_value.nd rfl (Or.inl rfl)) pgs_nil)))))
    (pss_cons (ps_if (PW.pt (pw_or (pt_not (pt_val (pe_k (c_is_int T) hr (by decide) rfl pass0 (pa_cons (pv 5) pa_nil)))) (pw_or (pt_cmpR op_lt (pv 5) pe_int (nomark _)) (pw_or (pt_cmp (pc_din (hu_of hr) (pv 5) (pv 1))) (pw_or1 (pt_not (pt_val (pe_k (c_is_word T) hr (by decide) rfl pass0 (pa_cons (pv 6) pa_nil))))))))) (pss_one (ps_ret pe_bl)) pss_nil)
    (pss_cons (ps_dput (hu_of hr) (pv 1) (pv 5) pe_bl rfl)
    (pss_one (ps_expr (pe_bm PySem.F.plainAttrs_list PySem.F.slot_list_append PySem.F.type_list_append mt_append (pv 2) (pa_cons (pv 7) pa_nil)))))))))))))
    (pss_one (ps_ret pe_bl))))), ?_⟩)
  rintro O ds d σ ⟨t, rfl, ht, hok, rfl⟩ s Q q
  refine sq_ownD s fun l1 σ1 H1 hl1 s1 => ?_
  refine sq_own (ea_cons (ev_var rfl) ea_nil) s1 fun l2 σ2 H2 hl2 s2 => ?_
  refine sq_while (fun m σ' H' => ∃ (ms : List Int) (ws : List Fo), m = sizeL ws ∧ Wait ms .nil ws ∧ S (((F0 O H).own l1).own l2) [(l2, .lst (ws.map tD)), (l1, .dct ms (ms.map fun _ => .bool true))] [.dat (.tuple t.enc), .raw (.ref l1), .raw (.ref l2), .any, .any, .any, .any, .any] σ' H') ?_ ?_
  · refine ⟨_, [], [t], rfl, ⟨?_, ?_, ?_, ?_⟩, s2⟩
    · simpa [marksL, marks] using hok.nd
    · simpa [marksL, marks] using hok.pos
    · simpa [wordsL, words] using hok.wd
    · have := ht.2
      simp [sizeT, size]; omega
  · rintro m σ3 H3 ⟨ms, ws, rfl, hw, s3⟩
    refine et_test (ev_gt (ev_lenO (er_var rfl) List.mem_cons_self) ev_int) σ3 H3 s3 _ fun H4 s4 e4 => ?_
    by_cases hlen : 0 < ws.length
    · rw [if_pos (by rw [List.length_map]; simpa using hlen)]
      obtain ⟨ws', row, rfl⟩ := ws_last hlen
      refine ⟨_, fun σ' H' h => h, ?_⟩
      have e0 : (ws' ++ [row]).map tD = ws'.map tD ++ [tD row] := by rw [List.map_append]; rfl
      rw [e0] at s4
      refine sq_popE 0 (er_var rfl) rfl orA_r s4 fun σ5 H5 s5 => ?_
      refine sq_noN (et_not (a := true) (et_B (ev_isi (ev_var rfl) (kit_tuple _)))) s5 fun H6 s6 => ?_
      have hw' : Wait ms row ws' := by
        refine ⟨?_, ?_, ?_, ?_⟩
        · have hp : (ms ++ (row.marks ++ marksL ws')).Perm (ms ++ (marks .nil ++ marksL (ws' ++ [row]))) := by
            rw [List.perm_iff_count]; intro a
            simp only [marksL, marks, List.flatMap_append, List.flatMap_cons, List.flatMap_nil, List.append_nil, List.nil_append, List.count_append]
            omega
          exact hp.nodup_iff.mpr hw.nd
        · intro a ha
          refine hw.pos a ?_
          simp only [marksL, marks, List.flatMap_append, List.flatMap_cons, List.flatMap_nil, List.append_nil, List.nil_append, List.mem_append] at ha ⊢
          exact ha.symm
        · intro a ha
          refine hw.wd a ?_
          simp only [wordsL, words, List.flatMap_append, List.flatMap_cons, List.flatMap_nil, List.append_nil, List.nil_append, List.mem_append] at ha ⊢
          exact ha.symm
        · have := hw.sz
          have e2 : sizeT (ws' ++ [row]) = sizeT ws' + (2 * row.size + 1) := by simp [sizeT]
          rw [e2] at this
          have e3 : (Fo.nil).size = 0 := rfl
          omega
      have e2 : sizeL (ws' ++ [row]) = sizeL ws' + (row.size + 1) := by simp [sizeL]
      refine st_for (α := List Int × Fo × List Fo) (fun _ a => [(l2, .lst (a.2.2.map tD)), (l1, .dct a.1 (a.1.map fun _ => .bool true))]) (fun _ _ => [.dat (.tuple t.enc), .raw (.ref l1), .raw (.ref l2), .dat (tD row), .any, .any, .any, .any])
        (fun i a => row.enc.drop i = a.2.1.enc ∧ Wait a.1 a.2.1 a.2.2 ∧ sizeL a.2.2 + a.2.1.size = sizeL ws' + row.size) (ms, row, ws') (ei_seq (ev_var rfl) (.inr rfl)) s6 ⟨rfl, hw', rfl⟩ rfl (Le.refl _) ?_ ?_
      · rintro B i ⟨ms, rest, ws⟩ d σ H v hd ⟨h1, h2, h3⟩ s r
        dsimp only at h1 h2 h3 s
        cases rest with
        | nil => exact absurd h1 (drop_some hd)
        | cons m w c rest =>
          obtain ⟨rfl, h4⟩ := drop_step hd h1
          obtain ⟨hm1, hm2, hm3, hw2⟩ := h2.step
          have hsz := h2.sz
          have hsl := sizeL_len ws
          refine tg_use tg_name s r fun σ1 s1 => ?_
          refine sq_noN (et_not (a := true) (et_B (ev_call (ea_cons (ev_var rfl) (ea_cons ev_int ea_nil)) ⟨_, 3, rfl, rfl⟩))) s1 fun H7 s7 => ?_
          refine sq_asgG (ev_var rfl) (tg_tup (tgs_cons tg_name (tgs_cons tg_name (tgs_cons tg_name tgs_nil)))) s7 fun σ8 H8 s8 => ?_
          refine sq_noN (et_is (et_or (et_not (a := true) (et_B (ev_call (ea_cons (ev_var rfl) ea_nil) ⟨_, rfl, rfl⟩))) fun _ => et_or (et_test (ev_lt (ev_var rfl) ev_int)) fun _ => et_or (et_B (ev_dinO (ev_var rfl) (er_var rfl) (List.mem_cons_of_mem _ List.mem_cons_self) (by rw [List.length_map]))) fun _ => et_not (et_B (ev_call (ea_cons (ev_var rfl) ea_nil) ⟨_, rfl, fun x hx => ?_, rfl⟩))) ?_) s8 fun H9 s9 => ?_
          · cases hx
            unfold wordOk at hm3
            simp only [Bool.and_eq_true, decide_eq_true_eq] at hm3
            have := hm3.1.2
            omega
          · rw [kdGet_some _ (by rw [List.length_map])]
            show (!true || (decide (m < 1) || (decide (m ∈ ms) || !wordOk w))) = false
            rw [hm3, fin_of_range hm2, decide_eq_false hm1]; rfl
          refine sq_dput 1 ev_bl (er_var rfl) (ev_var rfl) rfl own_llp hm1 (by omega) s9 fun H10 s10 => ?_
          refine st_append (j := 0) (er_var rfl) (ev_var rfl) rfl orA_r (by rw [List.length_map]; omega) s10 fun H11 s11 => ⟨(ms ++ [m], rest, ws ++ [c]), ⟨h4, hw2, ?_⟩, ?_⟩
          · show sizeL (ws ++ [c]) + rest.size = _
            have e5 : sizeL (ws ++ [c]) = sizeL ws + (c.size + 1) := by simp [sizeL]
            have e6 : (Fo.cons m w c rest).size = 1 + (c.size + rest.size) := rfl
            rw [e5]; omega
          · have e7 : (ws ++ [c]).map tD = ws.map tD ++ [.tuple c.enc] := by rw [List.map_append]; rfl
            have e8 : (ms ++ [m]).map (fun _ => PyData.bool true) = ms.map (fun _ => PyData.bool true) ++ [.bool true] := by rw [List.map_append]; rfl
            dsimp only
            rw [e7, e8]
            exact s11.le (.eq (.eq (.eq (.eq (.any (.any (.any (.any .nil))))))))
      · rintro ⟨ms, rest, ws⟩ σ H ⟨h1, h2, h3⟩ s
        dsimp only at h1 h2 h3 s
        have := enc_nil (drop_all h1)
        subst this
        refine ⟨sizeL ws, ?_, ms, ws, rfl, h2, s.le (.eq (.eq (.eq (.any (.any (.any (.any (.any .nil))))))))⟩
        rw [e2]
        have : (Fo.nil).size = 0 := rfl
        omega
    · rw [if_neg (by rw [List.length_map]; simpa using hlen)]
      exact st_retM ev_bl s4 q
theorem sc_need_plot : FnScope ["value"] ["value"] (defScope s_need_plot) := ⟨rfl, rfl, rfl, by decide +kernel, rfl, by decide +kernel, by decide +kernel⟩
theorem c_need_plot (T : Txt K mg) : Cl P w K mg base CX0 4 "need_plot" ["value"] (PureSp R_need_plot) := by
  refine pure_ok T.d_need_plot sc_need_plot (fun ds d h => by obtain ⟨t, rfl, _⟩ := h; rfl) (fun f cdv A outer s H E hr => ⟨_, (pss_one (ps_if (pt_not (pt_val (pe_k (c_is_plot_value T) hr (by decide) rfl pass0 (pa_cons (pv 0) pa_nil)))) (pss_one ps_never) pss_nil)), ?_⟩)
  rintro O ds d σ ⟨t, rfl, ht, hok, rfl⟩ s Q q
  refine st_no (et_not (a := true) (et_B (ev_call (ea_cons (ev_var rfl) ea_nil) ⟨t, rfl, ht, hok, rfl⟩))) s fun H1 s1 => ?_
  exact q .non H1 (s1.pureSame rfl fun _ => rfl) .non
end
end G
set_option Elab.async false
set_option linter.all false
set_option maxRecDepth 100000
set_option maxHeartbeats 4000000
/-! Plots: parents, what is below a mark. -/
namespace G
open PySem L2
namespace Fo
theorem sp_mem {t : Fo} {p b : Int} {s : Fo.Sp} (h : s ∈ t.sp p b) : s.m ∈ t.marks := by
  rw [← sp_marks t p b]; exact List.mem_map_of_mem (f := (·.m)) h
theorem mem_sp {t : Fo} {m : Int} (h : m ∈ t.marks) (p b : Int) : ∃ s ∈ t.sp p b, s.m = m := by
  rw [← sp_marks t p b] at h
  obtain ⟨s, hs, e⟩ := List.mem_map.mp h
  exact ⟨s, hs, e⟩
/-- a spot's parent stands ahead of it -/
theorem par_ahead : ∀ {t : Fo} {p b : Int} {s : Fo.Sp} {i : Nat}, (t.sp p b)[i]? = some s → s.p = p ∨ ∃ j, j < i ∧ t.marks[j]? = some s.p
  | .nil, p, b, s, i, h => by simp [sp] at h
  | .cons m w c r, p, b, s, 0, h => by
    have h' : (⟨m, w, c, p, b⟩ : Fo.Sp) = s := by simpa [sp] using h
    subst h'; exact .inl rfl
  | .cons m w c r, p, b, s, i + 1, h => by
    have h' : (c.sp m 0 ++ r.sp p m)[i]? = some s := by simpa [sp] using h
    by_cases hi : i < (c.sp m 0).length
    · rw [List.getElem?_append_left hi] at h'
      rcases par_ahead h' with e | ⟨j, hj, e⟩
      · exact .inr ⟨0, Nat.succ_pos _, by rw [e]; rfl⟩
      · refine .inr ⟨j + 1, by omega, ?_⟩
        show (m :: (c.marks ++ r.marks))[j + 1]? = _
        rw [List.getElem?_cons_succ, List.getElem?_append_left (List.getElem?_eq_some_iff.mp e).1]
        exact e
    · rw [List.getElem?_append_right (by omega)] at h'
      rcases par_ahead h' with e | ⟨j, hj, e⟩
      · exact .inl e
      · refine .inr ⟨c.marks.length + j + 1, ?_, ?_⟩
        · have : (c.sp m 0).length = c.marks.length := by rw [← sp_marks c m 0, List.length_map]
          omega
        · show (m :: (c.marks ++ r.marks))[c.marks.length + j + 1]? = _
          rw [List.getElem?_cons_succ, List.getElem?_append_right (by omega), Nat.add_sub_cancel_left]
          exact e
theorem par_mem {t : Fo} {p b : Int} {s : Fo.Sp} (h : s ∈ t.sp p b) : s.p = p ∨ s.p ∈ t.marks := by
  obtain ⟨i, hi⟩ := List.mem_iff_getElem?.mp h
  rcases par_ahead hi with e | ⟨j, _, e⟩
  · exact .inl e
  · exact .inr (List.mem_of_getElem? e)
theorem sp_sub {t : Fo} : ∀ {p b : Int} {s : Fo.Sp}, s ∈ t.sp p b → ∀ a ∈ s.c.marks, a ∈ t.marks := by
  induction t with
  | nil => intro p b s h; exact absurd h List.not_mem_nil
  | cons m w c r ihc ihr =>
    intro p b s h a ha
    show a ∈ m :: (c.marks ++ r.marks)
    rcases List.mem_cons.mp h with rfl | h
    · exact List.mem_cons_of_mem _ (List.mem_append_left _ ha)
    · rcases List.mem_append.mp h with h | h
      · exact List.mem_cons_of_mem _ (List.mem_append_left _ (ihc h a ha))
      · exact List.mem_cons_of_mem _ (List.mem_append_right _ (ihr h a ha))
theorem nd_cons {m : Int} {w : Str} {c r : Fo} (h : (Fo.cons m w c r).marks.Nodup) : m ∉ c.marks ∧ m ∉ r.marks ∧ c.marks.Nodup ∧ r.marks.Nodup ∧ (∀ a ∈ c.marks, a ∉ r.marks) := by
  have h' : (m :: (c.marks ++ r.marks)).Nodup := h
  obtain ⟨h1, h2⟩ := List.nodup_cons.mp h'
  obtain ⟨h3, h4, h5⟩ := List.nodup_append.mp h2
  exact ⟨fun q => h1 (List.mem_append_left _ q), fun q => h1 (List.mem_append_right _ q), h3, h4, fun a ha hr => h5 a ha a hr rfl⟩
/-- below a mark: its children and what is below them -/
theorem below_iff {t : Fo} : ∀ {p b : Int} {x s : Fo.Sp}, t.marks.Nodup → p ∉ t.marks → x ∈ t.sp p b → s ∈ t.sp p b → (s.m ∈ x.c.marks ↔ s.p = x.m ∨ s.p ∈ x.c.marks) := by
  induction t with
  | nil => intro p b x s _ _ h; exact absurd h List.not_mem_nil
  | cons m w c r ihc ihr =>
    intro p b x s nd hp hx hs
    obtain ⟨n1, n2, n3, n4, n5⟩ := nd_cons nd
    have hp' : p ∉ m :: (c.marks ++ r.marks) := hp
    have p1 : p ≠ m := fun e => hp' (by rw [e]; exact List.mem_cons_self)
    have p2 : p ∉ c.marks := fun q => hp' (List.mem_cons_of_mem _ (List.mem_append_left _ q))
    have p3 : p ∉ r.marks := fun q => hp' (List.mem_cons_of_mem _ (List.mem_append_right _ q))
    have n6 : ∀ a ∈ r.marks, a ∉ c.marks := fun a h1 h2 => n5 a h2 h1
    rcases List.mem_cons.mp hx with rfl | hx
    · rcases List.mem_cons.mp hs with rfl | hs
      · exact ⟨fun q => absurd q n1, fun q => q.elim (fun e => absurd e p1) (fun e => absurd e p2)⟩
      · rcases List.mem_append.mp hs with hs | hs
        · exact ⟨fun _ => par_mem hs, fun _ => sp_mem hs⟩
        · have h1 := n6 _ (sp_mem hs)
          refine ⟨fun q => absurd q h1, fun q => ?_⟩
          rcases par_mem hs with e | e
          · rw [e] at q
            exact q.elim (fun e => absurd e p1) (fun e => absurd e p2)
          · rcases q with q | q
            · exact absurd ((show s.p = m from q) ▸ e : m ∈ r.marks) n2
            · exact absurd q (n6 _ e)
    · rcases List.mem_append.mp hx with hx | hx
      · have x1 := sp_mem hx
        have x2 := sp_sub hx
        rcases List.mem_cons.mp hs with rfl | hs
        · exact ⟨fun q => absurd (x2 _ q) n1, fun q => q.elim (fun e => absurd ((show p = x.m from e) ▸ x1 : p ∈ c.marks) p2) (fun e => absurd (x2 _ e) p2)⟩
        · rcases List.mem_append.mp hs with hs | hs
          · exact ihc n3 n1 hx hs
          · refine ⟨fun q => absurd (x2 _ q) (n6 _ (sp_mem hs)), fun q => ?_⟩
            rcases par_mem hs with e | e
            · rw [e] at q
              exact q.elim (fun e => absurd (e ▸ x1 : p ∈ c.marks) p2) (fun e => absurd (x2 _ e) p2)
            · rcases q with q | q
              · exact absurd (q ▸ e : x.m ∈ r.marks) (n5 _ x1)
              · exact absurd (x2 _ q) (n6 _ e)
      · have x1 := sp_mem hx
        have x2 := sp_sub hx
        rcases List.mem_cons.mp hs with rfl | hs
        · exact ⟨fun q => absurd (x2 _ q) n2, fun q => q.elim (fun e => absurd ((show p = x.m from e) ▸ x1 : p ∈ r.marks) p3) (fun e => absurd (x2 _ e) p3)⟩
        · rcases List.mem_append.mp hs with hs | hs
          · refine ⟨fun q => absurd (x2 _ q) (n5 _ (sp_mem hs)), fun q => ?_⟩
            rcases par_mem hs with e | e
            · rw [e] at q
              exact q.elim (fun e => absurd (e ▸ x1 : m ∈ r.marks) n2) (fun e => absurd (x2 _ e) n2)
            · rcases q with q | q
              · exact absurd (q ▸ e : x.m ∈ c.marks) (n6 _ x1)
              · exact absurd (x2 _ q) (n5 _ e)
          · exact ihr n4 p3 hx hs
theorem find_nd {α : Type} {f : α → Int} : ∀ {l : List α} {x : α}, (l.map f).Nodup → x ∈ l → l.find? (fun y => decide (f y = f x)) = some x
  | [], _, _, h => absurd h List.not_mem_nil
  | y :: l, x, nd, h => by
    obtain ⟨h1, h2⟩ := List.nodup_cons.mp (show (f y :: l.map f).Nodup from nd)
    rcases List.mem_cons.mp h with rfl | h
    · rw [List.find?_cons_of_pos (by simp)]
    · have : f y ≠ f x := fun e => h1 (e ▸ List.mem_map_of_mem h)
      rw [List.find?_cons_of_neg (by simpa using this)]
      exact find_nd h2 h
section
variable {t : Fo} {m k : Int} {x s : Fo.Sp}
theorem at_of (nd : t.marks.Nodup) (h : x ∈ t.sp 0 0) : t.at? x.m = some x := by
  unfold at?
  refine find_nd (f := fun (s : Fo.Sp) => s.m) ?_ h
  rw [show (fun (s : Fo.Sp) => s.m) = (·.m) from rfl, sp_marks]; exact nd
theorem at_some (h : m ∈ t.marks) : ∃ x, t.at? m = some x ∧ x ∈ t.sp 0 0 ∧ x.m = m := by
  obtain ⟨s, hs, e⟩ := mem_sp h 0 0
  cases q : t.at? m with
  | none =>
    have := List.find?_eq_none.mp q s hs
    exact absurd (decide_eq_true e) this
  | some x => exact ⟨x, rfl, List.mem_of_find?_eq_some q, of_decide_eq_true (List.find?_some (p := fun s : Fo.Sp => decide (s.m = m)) q)⟩
theorem at_mem (h : t.at? m = some x) : x ∈ t.sp 0 0 ∧ x.m = m := ⟨List.mem_of_find?_eq_some h, of_decide_eq_true (List.find?_some (p := fun s : Fo.Sp => decide (s.m = m)) h)⟩
theorem at_none (h : m ∉ t.marks) : t.at? m = none := by
  cases q : t.at? m with
  | none => rfl
  | some x => exact absurd ((at_mem q).2 ▸ sp_mem (at_mem q).1) h
theorem zero_out (h : Ok t) : (0 : Int) ∉ t.marks := fun q => absurd (h.pos 0 q) (by omega)
theorem rowAt_of (h : t.at? m = some x) (h0 : m ≠ 0) : t.rowAt m = x.c := by unfold rowAt; rw [if_neg h0, h]
theorem insd_zero (h : Ok t) (hm : m ∈ t.marks) : t.insd 0 m = false := by
  obtain ⟨x, hx, hxm, e⟩ := at_some hm
  have h0 : m ≠ 0 := fun q => zero_out h (q ▸ hm)
  unfold insd
  rw [rowAt_of hx h0, decide_eq_false (Ne.symm h0), decide_eq_false fun q => zero_out h (sp_sub hxm _ q)]; rfl
theorem insd_par (h : Ok t) (hm : m ∈ t.marks) (hk : k ∈ t.marks) : t.insd k m = (decide (k = m) || t.insd (t.par k) m) := by
  obtain ⟨x, hx, hxm, e⟩ := at_some hm
  obtain ⟨s, hs, hsm, e2⟩ := at_some hk
  have h0 : m ≠ 0 := fun q => zero_out h (q ▸ hm)
  unfold insd
  rw [rowAt_of hx h0]
  unfold par
  rw [hs]
  have := below_iff h.nd (zero_out h) hxm hsm
  rw [e, e2] at this
  rw [decide_eq_decide.mpr this, Bool.decide_or]
/-- a mark's place in the order -/
theorem par_rank (h : Ok t) {i : Nat} (hi : t.marks[i]? = some k) : t.par k = 0 ∨ ∃ j, j < i ∧ t.marks[j]? = some (t.par k) := by
  have hlen : i < (t.sp 0 0).length := by
    have := (List.getElem?_eq_some_iff.mp hi).1
    rw [← sp_marks t 0 0, List.length_map] at this
    exact this
  have hs : (t.sp 0 0)[i]? = some (t.sp 0 0)[i] := List.getElem?_eq_getElem hlen
  have hk : (t.sp 0 0)[i].m = k := by
    have := hi
    rw [← sp_marks t 0 0, List.getElem?_map, hs] at this
    exact Option.some.inj this
  have ha := at_of h.nd (List.mem_of_getElem? hs)
  rw [hk] at ha
  unfold par
  rw [ha]
  exact par_ahead hs
end
theorem lookup_zip {α : Type} (f : α → Int) (g : α → PyData) (k : Int) : ∀ l : List α, kdGet (l.map f) (l.map g) k = (l.find? fun x => decide (f x = k)).map g
  | [] => rfl
  | x :: l => by
    have ih := lookup_zip f g k l
    unfold kdGet at ih ⊢
    rw [List.map_cons, List.map_cons, List.zip_cons_cons, List.lookup_cons, ih]
    by_cases h : f x = k
    · subst h; simp
    · have h1 : (k == f x) = false := by simpa using fun e => h e.symm
      rw [h1, List.find?_cons_of_neg (by simpa using h)]
theorem places_get {t : Fo} {k : Int} {s : Fo.Sp} (h : t.at? k = some s) : kdGet t.marks ((t.sp 0 0).map plE) k = some (plE s) := by
  rw [← sp_marks t 0 0, lookup_zip (fun s : Fo.Sp => s.m) plE k]
  unfold at? at h
  rw [h]; rfl
theorem places_len (t : Fo) : t.marks.length = ((t.sp 0 0).map plE).length := by rw [← sp_marks t 0 0, List.length_map, List.length_map]
end Fo
end G
set_option Elab.async false
set_option linter.all false
set_option maxRecDepth 100000
set_option maxHeartbeats 4000000
namespace G
open PySem L2 Fo
/-! ### deeds -/
/-- what a history may hold: deeds (good ones or not), other things -/
inductive Item where
  | d (x : Deed)
  | j (n : Nat)
  deriving DecidableEq
def junk : List PyData := [.tuple [.str "cut", .int 1], .tuple [.str "add", .int 1, .str "a", .int 0], .list [.str "drop", .int 1], .tuple [.str "drop", .bool true], .tuple [.str "drop", .int 1, .int 1], .none, .str "drop", .int 7, .tuple []]
def Deed.short : Deed → Prop
  | .add _ w _ _ => w.length ≤ 1000
  | .word _ w => w.length ≤ 1000
  | _ => True
namespace Item
def enc : Item → PyData
  | .d x => x.enc
  | .j n => junk.getD n .none
def good : Item → Bool
  | .d x => x.good
  | .j _ => false
def short : Item → Prop
  | .d x => x.short
  | .j _ => True
end Item
def R_is_deed (ds : List PyData) (d : PyData) : Prop := ∃ x : Item, ds = [x.enc] ∧ x.short ∧ d = .bool x.good
def R_is_inside (ds : List PyData) (d : PyData) : Prop := ∃ (t : Fo) (p m : Int), ds = [placesD t, .int p, .int m] ∧ Ok t ∧ m ∈ t.marks ∧ (p = 0 ∨ p ∈ t.marks) ∧ d = .bool (t.insd p m)
def reasonE : Option Str → PyData
  | none => .none
  | some r => .str r
def R_reason_at (ds : List PyData) (d : PyData) : Prop := ∃ (t : Fo) (x : Deed), ds = [.tuple t.enc, x.enc] ∧ Fit t ∧ Ok t ∧ d = reasonE (reasonAt t x)
def R_plot_behind_deed (ds : List PyData) (d : PyData) : Prop := ∃ (t : Fo) (x : Deed), ds = [.tuple t.enc, x.enc] ∧ Fit t ∧ Ok t ∧ reasonAt t x = none ∧ d = .tuple (behindT t x).enc
theorem takenOut_fit (m : Int) (t : Fo) : (takenOut m t).dep ≤ t.dep ∧ (takenOut m t).size ≤ t.size := by
  induction t with
  | nil => exact ⟨Nat.le_refl _, Nat.le_refl _⟩
  | cons k w c r ihc ihr =>
    have e : takenOut m (.cons k w c r) = if k = m then takenOut m r else .cons k w (takenOut m c) (takenOut m r) := rfl
    rw [e]
    have e1 : (Fo.cons k w c r).dep = max (c.dep + 1) r.dep := rfl
    have e2 : (Fo.cons k w c r).size = 1 + (c.size + r.size) := rfl
    split
    · omega
    · have e3 : (Fo.cons k w (takenOut m c) (takenOut m r)).dep = max ((takenOut m c).dep + 1) (takenOut m r).dep := rfl
      have e4 : (Fo.cons k w (takenOut m c) (takenOut m r)).size = 1 + ((takenOut m c).size + (takenOut m r).size) := rfl
      omega
theorem atI_0 {α : Type} (x : α) (r : List α) : atI (x :: r) 0 = some x := by
  unfold atI ixN
  simp
theorem atI_1 {α : Type} (x y : α) (r : List α) : atI (x :: y :: r) 1 = some y := by
  unfold atI ixN
  simp
  rw [if_pos (by omega)]; rfl
section
variable {P : Program} {w : World} {K : PySem.W.Frag} {mg : Str → Option Value} {base : Heap}
theorem et_head {F : Fm} {M : List (Addr × OC)} (k : Str) (m : Int) (rest : List PyData) : Et F M [.dat (.tuple (.str k :: .int m :: rest))]
    (tOr (tNot (tB (tCB (rIsi K) (tCons (tVar 0) (tCons (tC (.ty "tuple")) tNil))))) (tOr (tTest (tOp (rI0 fun i j => .bl (decide (i < j))) (tCB (rLenX K) (tCons (tVar 0) tNil)) (tC (.int 2)))) (tOr (tNot (tB (tCB (rIsi K) (tCons (tOp (rIx K) (tVar 0) (tC (.int 0))) (tCons (tC (.ty "str")) tNil))))) (tNot (tB (tCall (PureSp R_is_mark) [] E0 (tCons (tOp (rIx K) (tVar 0) (tC (.int 1))) tNil))))))) (!decide (0 < m)) := by
  refine et_is (et_or (et_not (a := true) (et_B (ev_isi (ev_var rfl) (kit_tuple _)))) fun _ => et_or (et_test (ev_lt (ev_lenT (ev_var rfl)) ev_int)) fun _ => et_or (et_not (a := true) (et_B (ev_isi (ev_ixT (ev_var rfl) ev_int (atI_0 _ _)) (kit_str _)))) fun _ => et_not (et_B (ev_call (ea_cons (ev_ixT (ev_var rfl) ev_int (atI_1 _ _ _)) ea_nil) ⟨_, rfl, rfl⟩))) ?_
  have : decide ((((.str k :: .int m :: rest : List PyData).length : Nat) : Int) < 2) = false := by
    simp only [List.length_cons]
    exact decide_eq_false (by omega)
  rw [this]; rfl
theorem sc_is_deed : FnScope ["value"] ["value"] (defScope s_is_deed) := ⟨rfl, rfl, rfl, by decide +kernel, rfl, by decide +kernel, by decide +kernel⟩
theorem c_is_deed (T : Txt K mg) : Cl P w K mg base CX0 3 "is_deed" ["value"] (PureSp R_is_deed) := by
  refine pure_ok T.d_is_deed sc_is_deed (fun ds d h => by obtain ⟨x, rfl, _⟩ := h; rfl) (fun f cdv A outer s H E hr => ⟨_, (pss_cons (ps_if (PW.pt (pw_or (pt_not (pt_val (pe_callB call_isi (by rfl) T.z_isinstance (by decide +kernel) (pa_cons (pv 0) (pa_cons (pe_bltn (v := .ty "tuple") (u := .type "tuple") (by rfl) T.z_tuple (by decide +kernel) rfl) pa_nil))))) (pw_or (pt_cmpR op_lt (pe_callB call_len (by rfl) T.z_len PySem.boot_len (pa_cons (pv 0) pa_nil)) pe_int (nomark _)) (pw_or (pt_not (pt_val (pe_callB call_isi (by rfl) T.z_isinstance (by decide +kernel) (pa_cons (pe_ix ix_seq (pv 0) pe_int (fun _ _ => rfl)) (pa_cons (pe_bltn (v := .ty "str") (u := .type "str") (by rfl) T.z_str (by decide +kernel) rfl) pa_nil))))) (pw_or1 (pt_not (pt_val (pe_k (c_is_mark T) hr (by decide) rfl pass0 (pa_cons (pe_ix ix_seq (pv 0) pe_int (fun _ _ => rfl)) pa_nil))))))))) (pss_one (ps_ret pe_bl)) pss_nil)
    (pss_cons (ps_if (pt_cmpR (op_eqD hr.units) (pe_ix ix_seq (pv 0) pe_int (fun _ _ => rfl)) pe_str (nomark _)) (pss_one (ps_ret (pe_and (pe_cmpR (op_eqD hr.units) (pe_callB call_len (by rfl) T.z_len PySem.boot_len (pa_cons (pv 0) pa_nil)) pe_int (nomark _)) (pe_and (pe_k (c_is_word T) hr (by decide) rfl pass0 (pa_cons (pe_ix ix_seq (pv 0) pe_int (fun _ _ => rfl)) pa_nil)) (pe_and (pe_k (c_is_count T) hr (by decide) rfl pass0 (pa_cons (pe_ix ix_seq (pv 0) pe_int (fun _ _ => rfl)) pa_nil)) (pe_one (pe_k (c_is_count T) hr (by decide) rfl pass0 (pa_cons (pe_ix ix_seq (pv 0) pe_int (fun _ _ => rfl)) pa_nil)))))))) pss_nil)
    (pss_cons (ps_if (pt_cmpR (op_eqD hr.units) (pe_ix ix_seq (pv 0) pe_int (fun _ _ => rfl)) pe_str (nomark _)) (pss_one (ps_ret (pe_cmpR (op_eqD hr.units) (pe_callB call_len (by rfl) T.z_len PySem.boot_len (pa_cons (pv 0) pa_nil)) pe_int (nomark _)))) pss_nil)
    (pss_cons (ps_if (pt_cmpR (op_eqD hr.units) (pe_ix ix_seq (pv 0) pe_int (fun _ _ => rfl)) pe_str (nomark _)) (pss_one (ps_ret (pe_and (pe_cmpR (op_eqD hr.units) (pe_callB call_len (by rfl) T.z_len PySem.boot_len (pa_cons (pv 0) pa_nil)) pe_int (nomark _)) (pe_and (pe_k (c_is_count T) hr (by decide) rfl pass0 (pa_cons (pe_ix ix_seq (pv 0) pe_int (fun _ _ => rfl)) pa_nil)) (pe_one (pe_k (c_is_count T) hr (by decide) rfl pass0 (pa_cons (pe_ix ix_seq (pv 0) pe_int (fun _ _ => rfl)) pa_nil))))))) pss_nil)
    (pss_cons (ps_if (pt_cmpR (op_eqD hr.units) (pe_ix ix_seq (pv 0) pe_int (fun _ _ => rfl)) pe_str (nomark _)) (pss_one (ps_ret (pe_and (pe_cmpR (op_eqD hr.units) (pe_callB call_len (by rfl) T.z_len PySem.boot_len (pa_cons (pv 0) pa_nil)) pe_int (nomark _)) (pe_one (pe_k (c_is_word T) hr (by decide) rfl pass0 (pa_cons (pe_ix ix_seq (pv 0) pe_int (fun _ _ => rfl)) pa_nil)))))) pss_nil)
    (pss_one (ps_ret pe_bl))))))), ?_⟩)
  rintro O ds d σ ⟨x, rfl, hsh, rfl⟩ s Q q
  have out : ∀ b : Bool, x.good = b → ∀ u H', Same H H' → Rp (shr O H') u (.bool b) → Q u H' := fun b hb u H' e r => q u H' e (by rw [hb]; exact r)
  cases x with
  | d x =>
    cases x with
    | add m w p b =>
      have hw : w.length ≤ 1000 := hsh
      refine sq_ifN (et_head "add" m [.str w, .int p, .int b]) s (fun hb H1 s1 => ?_) fun hb H1 s1 => ?_
      · refine st_retM ev_bl s1 (out false ?_)
        show (decide (0 < m) && _) = false
        rw [show decide (0 < m) = false by simpa using hb]; rfl
      refine sq_yesN (et_is (et_test (ev_eqS (ev_ixT (ev_var rfl) ev_int rfl) ev_str)) (by decide)) s1 fun H2 s2 => ?_
      refine st_retM (ev_andV (ev_eqI (ev_lenT (ev_var rfl)) ev_int) fun _ => ev_andV (ev_call (ea_cons (ev_ixT (ev_var rfl) ev_int rfl) ea_nil) ⟨_, rfl, fun x hx => ?_, rfl⟩) fun _ => ev_andV (ev_call (ea_cons (ev_ixT (ev_var rfl) ev_int rfl) ea_nil) ⟨_, rfl, rfl⟩) fun _ => ev_call (ea_cons (ev_ixT (ev_var rfl) ev_int rfl) ea_nil) ⟨_, rfl, rfl⟩) s2 (out _ ?_)
      · cases hx; omega
      · show (decide (0 < m) && (wordOk w && (decide (0 ≤ p) && decide (0 ≤ b)))) = _
        rw [show decide (0 < m) = true by simpa using hb]; rfl
    | drop m =>
      refine sq_ifN (et_head "drop" m []) s (fun hb H1 s1 => ?_) fun hb H1 s1 => ?_
      · refine st_retM ev_bl s1 (out false ?_)
        show decide (0 < m) = false
        rw [show decide (0 < m) = false by simpa using hb]
      refine sq_noN (et_is (et_test (ev_eqS (ev_ixT (ev_var rfl) ev_int rfl) ev_str)) (by decide)) s1 fun H2 s2 => ?_
      refine sq_yesN (et_is (et_test (ev_eqS (ev_ixT (ev_var rfl) ev_int rfl) ev_str)) (by decide)) s2 fun H3 s3 => ?_
      refine st_retM (ev_eqI (ev_lenT (ev_var rfl)) ev_int) s3 (out _ ?_)
      show decide (0 < m) = _
      rw [show decide (0 < m) = true by simpa using hb]; rfl
    | move m p b =>
      refine sq_ifN (et_head "move" m [.int p, .int b]) s (fun hb H1 s1 => ?_) fun hb H1 s1 => ?_
      · refine st_retM ev_bl s1 (out false ?_)
        show (decide (0 < m) && _) = false
        rw [show decide (0 < m) = false by simpa using hb]; rfl
      refine sq_noN (et_is (et_test (ev_eqS (ev_ixT (ev_var rfl) ev_int rfl) ev_str)) (by decide)) s1 fun H2 s2 => ?_
      refine sq_noN (et_is (et_test (ev_eqS (ev_ixT (ev_var rfl) ev_int rfl) ev_str)) (by decide)) s2 fun H3 s3 => ?_
      refine sq_yesN (et_is (et_test (ev_eqS (ev_ixT (ev_var rfl) ev_int rfl) ev_str)) (by decide)) s3 fun H4 s4 => ?_
      refine st_retM (ev_andV (ev_eqI (ev_lenT (ev_var rfl)) ev_int) fun _ => ev_andV (ev_call (ea_cons (ev_ixT (ev_var rfl) ev_int rfl) ea_nil) ⟨_, rfl, rfl⟩) fun _ => ev_call (ea_cons (ev_ixT (ev_var rfl) ev_int rfl) ea_nil) ⟨_, rfl, rfl⟩) s4 (out _ ?_)
      show (decide (0 < m) && (decide (0 ≤ p) && decide (0 ≤ b))) = _
      rw [show decide (0 < m) = true by simpa using hb]; rfl
    | word m w =>
      have hw : w.length ≤ 1000 := hsh
      refine sq_ifN (et_head "word" m [.str w]) s (fun hb H1 s1 => ?_) fun hb H1 s1 => ?_
      · refine st_retM ev_bl s1 (out false ?_)
        show (decide (0 < m) && _) = false
        rw [show decide (0 < m) = false by simpa using hb]; rfl
      refine sq_noN (et_is (et_test (ev_eqS (ev_ixT (ev_var rfl) ev_int rfl) ev_str)) (by decide)) s1 fun H2 s2 => ?_
      refine sq_noN (et_is (et_test (ev_eqS (ev_ixT (ev_var rfl) ev_int rfl) ev_str)) (by decide)) s2 fun H3 s3 => ?_
      refine sq_noN (et_is (et_test (ev_eqS (ev_ixT (ev_var rfl) ev_int rfl) ev_str)) (by decide)) s3 fun H4 s4 => ?_
      refine sq_yesN (et_is (et_test (ev_eqS (ev_ixT (ev_var rfl) ev_int rfl) ev_str)) (by decide)) s4 fun H5 s5 => ?_
      refine st_retM (ev_andV (ev_eqI (ev_lenT (ev_var rfl)) ev_int) fun _ => ev_call (ea_cons (ev_ixT (ev_var rfl) ev_int rfl) ea_nil) ⟨_, rfl, fun x hx => ?_, rfl⟩) s5 (out _ ?_)
      · cases hx; omega
      · show (decide (0 < m) && wordOk w) = _
        rw [show decide (0 < m) = true by simpa using hb]; rfl
  | j n =>
    match n, s with
    | 0, s =>
      refine sq_noN (et_is (et_head "cut" 1 []) (by decide)) s fun H1 s1 => ?_
      refine sq_noN (et_is (et_test (ev_eqS (ev_ixT (ev_var rfl) ev_int rfl) ev_str)) (by decide)) s1 fun H2 s2 => ?_
      refine sq_noN (et_is (et_test (ev_eqS (ev_ixT (ev_var rfl) ev_int rfl) ev_str)) (by decide)) s2 fun H3 s3 => ?_
      refine sq_noN (et_is (et_test (ev_eqS (ev_ixT (ev_var rfl) ev_int rfl) ev_str)) (by decide)) s3 fun H4 s4 => ?_
      refine sq_noN (et_is (et_test (ev_eqS (ev_ixT (ev_var rfl) ev_int rfl) ev_str)) (by decide)) s4 fun H5 s5 => ?_
      exact st_retM ev_bl s5 (out false rfl)
    | 1, s =>
      refine sq_noN (et_is (et_head "add" 1 [.str "a", .int 0]) (by decide)) s fun H1 s1 => ?_
      refine sq_yesN (et_is (et_test (ev_eqS (ev_ixT (ev_var rfl) ev_int rfl) ev_str)) (by decide)) s1 fun H2 s2 => ?_
      exact st_retM (d := .bool false) (ev_andV (a := false) (b := true) (ev_is (ev_eqI (ev_lenT (ev_var rfl)) ev_int) (congrArg PyData.bool (by decide))) (fun h => nomatch h)) s2 (out false rfl)
    | 2, s => exact sq_yesN (et_or (a := true) (b := true) (et_not (a := false) (et_B (ev_isi (ev_var rfl) (kit_tuple _)))) (fun h => nomatch h)) s fun H1 s1 => st_retM ev_bl s1 (out false rfl)
    | 3, s =>
      refine sq_yesN (et_is (et_or (et_not (a := true) (et_B (ev_isi (ev_var rfl) (kit_tuple _)))) fun _ => et_or (et_test (ev_lt (ev_lenT (ev_var rfl)) ev_int)) fun _ => et_or (et_not (a := true) (et_B (ev_isi (ev_ixT (ev_var rfl) ev_int rfl) (kit_str _)))) fun _ => et_not (et_B (ev_call (ea_cons (ev_ixT (ev_var rfl) ev_int rfl) ea_nil) ⟨_, rfl, rfl⟩))) (by rfl)) s fun H1 s1 => st_retM ev_bl s1 (out false rfl)
    | 4, s =>
      refine sq_noN (et_is (et_head "drop" 1 [.int 1]) (by decide)) s fun H1 s1 => ?_
      refine sq_noN (et_is (et_test (ev_eqS (ev_ixT (ev_var rfl) ev_int rfl) ev_str)) (by decide)) s1 fun H2 s2 => ?_
      refine sq_yesN (et_is (et_test (ev_eqS (ev_ixT (ev_var rfl) ev_int rfl) ev_str)) (by decide)) s2 fun H3 s3 => ?_
      exact st_retM (d := .bool false) (ev_is (ev_eqI (ev_lenT (ev_var rfl)) ev_int) (congrArg PyData.bool (by decide))) s3 (out false rfl)
    | 5, s => exact sq_yesN (et_or (a := true) (b := true) (et_not (a := false) (et_B (ev_isi (ev_var rfl) (kit_tuple _)))) (fun h => nomatch h)) s fun H1 s1 => st_retM ev_bl s1 (out false rfl)
    | 6, s => exact sq_yesN (et_or (a := true) (b := true) (et_not (a := false) (et_B (ev_isi (ev_var rfl) (kit_tuple _)))) (fun h => nomatch h)) s fun H1 s1 => st_retM ev_bl s1 (out false rfl)
    | 7, s => exact sq_yesN (et_or (a := true) (b := true) (et_not (a := false) (et_B (ev_isi (ev_var rfl) (kit_tuple _)))) (fun h => nomatch h)) s fun H1 s1 => st_retM ev_bl s1 (out false rfl)
    | 8, s => exact sq_yesN (et_is (et_or (a := false) (b := true) (et_not (a := true) (et_B (ev_isi (ev_var rfl) (kit_tuple _)))) fun _ => et_or (a := true) (b := true) (et_is (et_test (ev_lt (ev_lenT (ds := []) (ev_var rfl)) ev_int)) (by decide)) (fun h => nomatch h)) (by rfl)) s fun H1 s1 => st_retM ev_bl s1 (out false rfl)
    | n + 9, s => exact sq_yesN (et_or (a := true) (b := true) (et_not (a := false) (et_B (ev_isi (ev_var rfl) (kit_tuple _)))) (fun h => nomatch h)) s fun H1 s1 => st_retM ev_bl s1 (out false rfl)
theorem sc_is_inside : FnScope ["places", "parent", "m", "above"] ["places", "parent", "m"] (defScope s_is_inside) := ⟨rfl, rfl, rfl, by decide +kernel, rfl, by decide +kernel, by decide +kernel⟩
theorem c_is_inside (T : Txt K mg) : Cl P w K mg base CX0 1 "is_inside" ["places", "parent", "m"] (PureSp R_is_inside) := by
  refine pure_ok T.d_is_inside sc_is_inside (fun ds d h => by obtain ⟨t, p, m, rfl, _⟩ := h; rfl) (fun f cdv A outer s H E hr => ⟨_, (pss_cons (ps_set (i := 3) sc_is_inside.nd rfl (Or.inl rfl) (pv 1))
    (pss_cons (ps_while PassesOwn.never (pt_cmpR (op_neD hr.units) (pv 3) pe_int (nomark _))
    (pss_cons (ps_if (pt_cmpR (op_eqD hr.units) (pv 3) (pv 2) (nomark _)) (pss_one (ps_ret pe_bl)) pss_nil)
    (pss_one (ps_set (i := 3) sc_is_inside.nd rfl (Or.inl rfl) (pe_ix ix_seq (pe_dget (hu_of hr) (pv 0) (pv 3) (fun _ _ => rfl)) pe_int (fun _ _ => rfl))))))
    (pss_one (ps_ret pe_bl)))), ?_⟩)
  rintro O ds d σ ⟨t, p, m, rfl, ht, hm, hp, rfl⟩ s Q q
  refine sq_asg (ev_var rfl) s fun σ1 H1 s1 => ?_
  refine sq_while (fun k σ' H' => ∃ a : Int, ((a = 0 ∧ k = 0) ∨ ∃ i, k = i + 1 ∧ t.marks[i]? = some a) ∧ t.insd a m = t.insd p m ∧ S (F0 O H) [] [.dat (placesD t), .dat (.int p), .dat (.int m), .dat (.int a)] σ' H') ?_ ?_
  · rcases hp with rfl | hp
    · exact ⟨0, 0, .inl ⟨rfl, rfl⟩, rfl, s1⟩
    · obtain ⟨i, hi⟩ := List.mem_iff_getElem?.mp hp
      exact ⟨i + 1, p, .inr ⟨i, rfl, hi⟩, rfl, s1⟩
  · rintro k σ2 H2 ⟨a, ha, e, s2⟩
    refine et_test (ev_neI (ev_var rfl) ev_int) σ2 H2 s2 _ fun H3 s3 _ => ?_
    by_cases h0 : a = 0
    · subst h0
      rw [if_neg (by simp)]
      rw [insd_zero ht hm] at e
      exact st_retM ev_bl s3 (by rw [← e] at q; exact q)
    · rw [if_pos (by simpa using h0)]
      rcases ha with ⟨ha, _⟩ | ⟨i, rfl, hi⟩
      · exact absurd ha h0
      have hmem : a ∈ t.marks := List.mem_of_getElem? hi
      have hpar := insd_par ht hm hmem
      refine ⟨_, fun σ' H' h => h, ?_⟩
      refine sq_ifN (et_test (ev_eqI (ev_var rfl) (ev_var rfl))) s3 (fun hb H4 s4 => ?_) fun hb H4 s4 => ?_
      · rw [hb, Bool.true_or, e] at hpar
        exact st_retM ev_bl s4 (by rw [hpar] at q; exact q)
      · rw [hb, Bool.false_or] at hpar
        obtain ⟨x, hx, _, _⟩ := at_some hmem
        have hx2 : t.par a = x.p := by unfold par; rw [hx]
        refine st_asg (ev_ixT (ev_dget (ev_var rfl) (ev_var rfl) (places_len t) (places_get hx)) ev_int rfl) s4 fun σ5 H5 s5 => ?_
        rw [← hx2] at s5
        rcases par_rank ht hi with h | ⟨j, hj, h⟩
        · exact ⟨0, Nat.succ_pos _, t.par a, .inl ⟨h, rfl⟩, by rw [← hpar]; exact e, s5⟩
        · exact ⟨j + 1, Nat.succ_lt_succ hj, t.par a, .inr ⟨j, rfl, h⟩, by rw [← hpar]; exact e, s5⟩
end
end G
set_option Elab.async false
set_option linter.all false
set_option maxRecDepth 100000
set_option maxHeartbeats 4000000
namespace G
open PySem L2 Fo
section
variable {P : Program} {w : World} {K : PySem.W.Frag} {mg : Str → Option Value} {base : Heap}
theorem places_has (t : Fo) (k : Int) : (kdGet t.marks ((t.sp 0 0).map plE) k).isSome = decide (k ∈ t.marks) := kdGet_some k (places_len t)
theorem reason_add (t : Fo) (m : Int) (w : Str) (p b : Int) : reasonAt t (.add m w p b) = if m ∈ t.marks then some ("mark" : Str) else if p ≠ 0 ∧ p ∉ t.marks then some ("parent" : Str) else if badPlace t m p b = true then some ("behind" : Str) else none := rfl
theorem reason_drop (t : Fo) (m : Int) : reasonAt t (.drop m) = if m ∉ t.marks then some ("mark" : Str) else if (t.rowAt m).enc.length > 0 then some ("children" : Str) else none := rfl
theorem reason_move (t : Fo) (m p b : Int) : reasonAt t (.move m p b) = if m ∉ t.marks then some ("mark" : Str) else if p ≠ 0 ∧ p ∉ t.marks then some ("parent" : Str) else if t.insd p m = true then some ("inside" : Str) else if badPlace t m p b = true then some ("behind" : Str) else none := rfl
theorem reason_word (t : Fo) (m : Int) (w : Str) : reasonAt t (.word m w) = if m ∉ t.marks then some ("mark" : Str) else none := rfl
theorem behind_move (t : Fo) (m p b : Int) : behindT t (.move m p b) = match t.at? m with
    | some s => (t.takenOut m).putIn s.m s.w s.c p b
    | none => t := rfl
theorem kd_eq (b : Bool) : decide (true = b) = b := by cases b <;> rfl
theorem kd_ne (b : Bool) : decide (false = b) = !b := by cases b <;> rfl
theorem sc_reason_at : FnScope ["t", "deed", "kind", "m", "places", "parent", "behind"] ["t", "deed"] (defScope s_reason_at) := ⟨rfl, rfl, rfl, by decide +kernel, rfl, by decide +kernel, by decide +kernel⟩
theorem c_reason_at (T : Txt K mg) : Cl P w K mg base CX0 24 "reason_at" ["t", "deed"] (PureSp R_reason_at) := by
  refine pure_ok T.d_reason_at sc_reason_at (fun ds d h => by obtain ⟨t, x, rfl, _⟩ := h; rfl) (fun f cdv A outer s H E hr => ⟨_, (pss_cons (ps_set (i := 2) sc_reason_at.nd rfl (Or.inl rfl) (pe_ix ix_seq (pv 1) pe_int (fun _ _ => rfl)))
    (pss_cons (ps_set (i := 3) sc_reason_at.nd rfl (Or.inl rfl) (pe_ix ix_seq (pv 1) pe_int (fun _ _ => rfl)))
    (pss_cons (ps_set (i := 4) sc_reason_at.nd rfl (Or.inl rfl) (pe_k (c_places_of T) hr (by decide) rfl pass0 (pa_cons (pv 0) pa_nil)))
    (pss_cons (ps_if (pt_cmpR (op_eqD hr.units) (pe_cmpR (op_eqD hr.units) (pv 2) pe_str (nomark _)) (pe_cmp (pc_din (hu_of hr) (pv 3) (pv 4)) rfl) (nomark _)) (pss_one (ps_ret pe_str)) pss_nil)
    (pss_cons (ps_if (PW.pt (pw_or (pt_cmpR (op_eqD hr.units) (pv 2) pe_str (nomark _)) (pw_or1 (pt_cmpR (op_eqD hr.units) (pv 2) pe_str (nomark _))))) (pss_cons (ps_asg (pe_slice sl_tupA (pv 1) (po_some (pe_un un_neg pe_int)) po_none) (pg_tup rfl (pgs_cons (pg_name (i := 5) sc_reason_at.nd rfl (Or.inl rfl)) (pgs_cons (pg_name (i := 6) sc_reason_at.nd rfl (Or.inl rfl)) pgs_nil))))
    (pss_cons (ps_if (PW.pt (pw_and (pt_cmpR (op_neD hr.units) (pv 5) pe_int (nomark _)) (pw_and1 (pt_cmp (pc_dnotin (hu_of hr) (pv 5) (pv 4)))))) (pss_one (ps_ret pe_str)) pss_nil)
    (pss_cons (ps_if (PW.pt (pw_and (pt_cmpR (op_eqD hr.units) (pv 2) pe_str (nomark _)) (pw_and1 (pt_val (pe_k (c_is_inside T) hr (by decide) rfl pass0 (pa_cons (pv 4) (pa_cons (pv 5) (pa_cons (pv 3) pa_nil)))))))) (pss_one (ps_ret pe_str)) pss_nil)
    (pss_one (ps_if (PW.pt (pw_and (pt_cmpR (op_neD hr.units) (pv 6) pe_int (nomark _)) (pw_and1 (PW.pt (pw_or (pt_cmpR (op_eqD hr.units) (pv 6) (pv 3) (nomark _)) (pw_or (pt_cmp (pc_dnotin (hu_of hr) (pv 6) (pv 4))) (pw_or1 (pt_cmpR (op_neD hr.units) (pe_ix ix_seq (pe_dget (hu_of hr) (pv 4) (pv 6) (fun _ _ => rfl)) pe_int (fun _ _ => rfl)) (pv 5) (nomark _))))))))) (pss_one (ps_ret pe_str)) pss_nil))))) pss_nil)
    (pss_cons (ps_if (PW.pt (pw_and (pt_cmpR (op_eqD hr.units) (pv 2) pe_str (nomark _)) (pw_and1 (pt_cmpR op_gt (pe_callB call_len (by rfl) T.z_len PySem.boot_len (pa_cons (pe_k (c_row_at T) hr (by decide) rfl pass0 (pa_cons (pv 0) (pa_cons (pv 3) pa_nil))) pa_nil)) pe_int (nomark _))))) (pss_one (ps_ret pe_str)) pss_nil)
    (pss_one (ps_ret pe_non)))))))), ?_⟩)
  rintro O ds d σ ⟨t, x, rfl, ht, hok, rfl⟩ s Q q
  cases x with
  | add m w p b =>
    refine sq_asg (ev_ixT (ev_var rfl) ev_int rfl) s fun σ1 H1 s1 => ?_
    refine sq_asg (ev_ixT (ev_var rfl) ev_int rfl) s1 fun σ2 H2 s2 => ?_
    refine sq_asg (ev_call (ea_cons (ev_var rfl) ea_nil) ⟨t, rfl, ht, hok.nd, rfl⟩) s2 fun σ3 H3 s3 => ?_
    refine sq_ifN (et_is (et_test (ev_eqB (ev_is (ev_eqS (ev_var rfl) ev_str) (congrArg PyData.bool (by decide : _ = true))) (ev_is (ev_din (ev_var rfl) (ev_var rfl) (places_len t)) (congrArg PyData.bool (places_has t m))))) (kd_eq _)) s3 (fun hb H4 s4 => ?_) fun hb H4 s4 => ?_
    · exact st_retM ev_str s4 (by rw [reason_add] at q; rw [if_pos (of_decide_eq_true hb)] at q; exact q)
    rw [reason_add] at q
    rw [if_neg (of_decide_eq_false hb)] at q
    refine sq_yesN (et_or (a := true) (b := true) (et_is (et_test (ev_eqS (ev_var rfl) ev_str)) (by decide)) (fun h => nomatch h)) s4 fun H5 s5 => ?_
    refine sq_asgG (d := .tuple [.int p, .int b]) (ev_is (ev_slT (ev_var rfl) (eo_some (ev_neg ev_int)) eo_none) rfl) (tg_tup (tgs_cons tg_name (tgs_cons tg_name tgs_nil))) s5 fun σ6 H6 s6 => ?_
    refine sq_ifN (et_and (et_test (ev_neI (ev_var rfl) ev_int)) fun _ => et_B (ev_is (ev_dnotin (ev_var rfl) (ev_var rfl) (places_len t)) (congrArg (fun b => PyData.bool (!b)) (places_has t p)))) s6 (fun hb H7 s7 => ?_) fun hb H7 s7 => ?_
    · rw [if_pos (by simpa using hb)] at q
      exact st_retM ev_str s7 q
    rw [if_neg (by simpa using hb)] at q
    refine sq_noN (et_and (a := false) (b := true) (et_is (et_test (ev_eqS (ev_var rfl) ev_str)) (by decide)) (fun h => nomatch h)) s7 fun H8 s8 => ?_
    refine st_if (b := badPlace t m p b) (et_and (et_test (ev_neI (ev_var rfl) ev_int)) fun _ => et_or (et_test (ev_eqI (ev_var rfl) (ev_var rfl))) fun _ => et_or (et_B (ev_is (ev_dnotin (ev_var rfl) (ev_var rfl) (places_len t)) (congrArg (fun b => PyData.bool (!b)) (places_has t b)))) fun h3 => ?_) s8 (fun hb H9 s9 => ?_) fun hb H9 s9 => ?_
    · have hm : b ∈ t.marks := by simpa using h3
      obtain ⟨x, hx, _, _⟩ := at_some hm
      have hx2 : t.par b = x.p := by unfold par; rw [hx]
      rw [hx2]
      exact et_test (ev_neI (ev_ixT (ev_dget (ev_var rfl) (ev_var rfl) (places_len t) (places_get hx)) ev_int rfl) (ev_var rfl))
    · rw [if_pos (show badPlace t m p b = true from hb)] at q
      exact st_retM ev_str s9 q
    · rw [if_neg (by rw [show badPlace t m p b = false from hb]; exact Bool.false_ne_true)] at q
      refine sq_noN (et_and (a := false) (b := true) (et_is (et_test (ev_eqS (ev_var rfl) ev_str)) (by decide)) (fun h => nomatch h)) s9 fun H10 s10 => ?_
      exact st_retM ev_non s10 q
  | drop m =>
    refine sq_asg (ev_ixT (ev_var rfl) ev_int rfl) s fun σ1 H1 s1 => ?_
    refine sq_asg (ev_ixT (ev_var rfl) ev_int rfl) s1 fun σ2 H2 s2 => ?_
    refine sq_asg (ev_call (ea_cons (ev_var rfl) ea_nil) ⟨t, rfl, ht, hok.nd, rfl⟩) s2 fun σ3 H3 s3 => ?_
    refine sq_ifN (et_is (et_test (ev_eqB (ev_is (ev_eqS (ev_var rfl) ev_str) (congrArg PyData.bool (by decide : _ = false))) (ev_is (ev_din (ev_var rfl) (ev_var rfl) (places_len t)) (congrArg PyData.bool (places_has t m))))) (kd_ne _)) s3 (fun hb H4 s4 => ?_) fun hb H4 s4 => ?_
    · exact st_retM ev_str s4 (by rw [reason_drop] at q; rw [if_pos (by simpa using hb)] at q; exact q)
    rw [reason_drop] at q
    rw [if_neg (by simpa using hb)] at q
    refine sq_noN (et_or (a := false) (b := false) (et_is (et_test (ev_eqS (ev_var rfl) ev_str)) (by decide)) (fun _ => et_is (et_test (ev_eqS (ev_var rfl) ev_str)) (by decide))) s4 fun H5 s5 => ?_
    refine sq_ifN (et_and (a := true) (et_is (et_test (ev_eqS (ev_var rfl) ev_str)) (by decide)) fun _ => et_test (ev_gt (ev_lenT (ev_call (d := .tuple (t.rowAt m).enc) (ea_cons (ev_var rfl) (ea_cons (ev_var rfl) ea_nil)) ⟨t, m, rfl, ht, rfl⟩)) ev_int)) s5 (fun hb H6 s6 => ?_) fun hb H6 s6 => ?_
    · rw [if_pos (by simpa using hb)] at q
      exact st_retM ev_str s6 q
    · rw [if_neg (by simpa using hb)] at q
      exact st_retM ev_non s6 q
  | move m p b =>
    refine sq_asg (ev_ixT (ev_var rfl) ev_int rfl) s fun σ1 H1 s1 => ?_
    refine sq_asg (ev_ixT (ev_var rfl) ev_int rfl) s1 fun σ2 H2 s2 => ?_
    refine sq_asg (ev_call (ea_cons (ev_var rfl) ea_nil) ⟨t, rfl, ht, hok.nd, rfl⟩) s2 fun σ3 H3 s3 => ?_
    refine sq_ifN (et_is (et_test (ev_eqB (ev_is (ev_eqS (ev_var rfl) ev_str) (congrArg PyData.bool (by decide : _ = false))) (ev_is (ev_din (ev_var rfl) (ev_var rfl) (places_len t)) (congrArg PyData.bool (places_has t m))))) (kd_ne _)) s3 (fun hb H4 s4 => ?_) fun hb H4 s4 => ?_
    · exact st_retM ev_str s4 (by rw [reason_move] at q; rw [if_pos (by simpa using hb)] at q; exact q)
    have hmm : m ∈ t.marks := by simpa using hb
    rw [reason_move] at q
    rw [if_neg (by simpa using hb)] at q
    refine sq_yesN (et_or (a := false) (b := true) (et_is (et_test (ev_eqS (ev_var rfl) ev_str)) (by decide)) (fun _ => et_is (et_test (ev_eqS (ev_var rfl) ev_str)) (by decide))) s4 fun H5 s5 => ?_
    refine sq_asgG (d := .tuple [.int p, .int b]) (ev_is (ev_slT (ev_var rfl) (eo_some (ev_neg ev_int)) eo_none) rfl) (tg_tup (tgs_cons tg_name (tgs_cons tg_name tgs_nil))) s5 fun σ6 H6 s6 => ?_
    refine sq_ifN (et_and (et_test (ev_neI (ev_var rfl) ev_int)) fun _ => et_B (ev_is (ev_dnotin (ev_var rfl) (ev_var rfl) (places_len t)) (congrArg (fun b => PyData.bool (!b)) (places_has t p)))) s6 (fun hb H7 s7 => ?_) fun hb H7 s7 => ?_
    · rw [if_pos (by simpa using hb)] at q
      exact st_retM ev_str s7 q
    have hpm : p = 0 ∨ p ∈ t.marks := by
      by_cases h0 : p = 0
      · exact .inl h0
      · by_cases h1 : p ∈ t.marks
        · exact .inr h1
        · simp [h0, h1] at hb
    rw [if_neg (by simpa using hb)] at q
    refine sq_ifN (et_and (a := true) (et_is (et_test (ev_eqS (ev_var rfl) ev_str)) (by decide)) fun _ => et_B (ev_call (ea_cons (ev_var rfl) (ea_cons (ev_var rfl) (ea_cons (ev_var rfl) ea_nil))) ⟨t, p, m, rfl, hok, hmm, hpm, rfl⟩)) s7 (fun hb H8 s8 => ?_) fun hb H8 s8 => ?_
    · rw [if_pos (show t.insd p m = true from hb)] at q
      exact st_retM ev_str s8 q
    rw [if_neg (by rw [show t.insd p m = false from hb]; exact Bool.false_ne_true)] at q
    refine st_if (b := badPlace t m p b) (et_and (et_test (ev_neI (ev_var rfl) ev_int)) fun _ => et_or (et_test (ev_eqI (ev_var rfl) (ev_var rfl))) fun _ => et_or (et_B (ev_is (ev_dnotin (ev_var rfl) (ev_var rfl) (places_len t)) (congrArg (fun b => PyData.bool (!b)) (places_has t b)))) fun h3 => ?_) s8 (fun hb H9 s9 => ?_) fun hb H9 s9 => ?_
    · have hm : b ∈ t.marks := by simpa using h3
      obtain ⟨x, hx, _, _⟩ := at_some hm
      have hx2 : t.par b = x.p := by unfold par; rw [hx]
      rw [hx2]
      exact et_test (ev_neI (ev_ixT (ev_dget (ev_var rfl) (ev_var rfl) (places_len t) (places_get hx)) ev_int rfl) (ev_var rfl))
    · rw [if_pos (show badPlace t m p b = true from hb)] at q
      exact st_retM ev_str s9 q
    · rw [if_neg (by rw [show badPlace t m p b = false from hb]; exact Bool.false_ne_true)] at q
      refine sq_noN (et_and (a := false) (b := true) (et_is (et_test (ev_eqS (ev_var rfl) ev_str)) (by decide)) (fun h => nomatch h)) s9 fun H10 s10 => ?_
      exact st_retM ev_non s10 q
  | word m w =>
    refine sq_asg (ev_ixT (ev_var rfl) ev_int rfl) s fun σ1 H1 s1 => ?_
    refine sq_asg (ev_ixT (ev_var rfl) ev_int rfl) s1 fun σ2 H2 s2 => ?_
    refine sq_asg (ev_call (ea_cons (ev_var rfl) ea_nil) ⟨t, rfl, ht, hok.nd, rfl⟩) s2 fun σ3 H3 s3 => ?_
    refine sq_ifN (et_is (et_test (ev_eqB (ev_is (ev_eqS (ev_var rfl) ev_str) (congrArg PyData.bool (by decide : _ = false))) (ev_is (ev_din (ev_var rfl) (ev_var rfl) (places_len t)) (congrArg PyData.bool (places_has t m))))) (kd_ne _)) s3 (fun hb H4 s4 => ?_) fun hb H4 s4 => ?_
    · exact st_retM ev_str s4 (by rw [reason_word] at q; rw [if_pos (by simpa using hb)] at q; exact q)
    rw [reason_word] at q
    rw [if_neg (by simpa using hb)] at q
    refine sq_noN (et_or (a := false) (b := false) (et_is (et_test (ev_eqS (ev_var rfl) ev_str)) (by decide)) (fun _ => et_is (et_test (ev_eqS (ev_var rfl) ev_str)) (by decide))) s4 fun H5 s5 => ?_
    refine sq_noN (et_and (a := false) (b := true) (et_is (et_test (ev_eqS (ev_var rfl) ev_str)) (by decide)) (fun h => nomatch h)) s5 fun H6 s6 => ?_
    exact st_retM ev_non s6 q
theorem sc_plot_behind_deed : FnScope ["t", "deed", "kind", "m"] ["t", "deed"] (defScope s_plot_behind_deed) := ⟨rfl, rfl, rfl, by decide +kernel, rfl, by decide +kernel, by decide +kernel⟩
theorem c_plot_behind_deed (T : Txt K mg) : Cl P w K mg base CX0 25 "plot_behind_deed" ["t", "deed"] (PureSp R_plot_behind_deed) := by
  refine pure_ok T.d_plot_behind_deed sc_plot_behind_deed (fun ds d h => by obtain ⟨t, x, rfl, _⟩ := h; rfl) (fun f cdv A outer s H E hr => ⟨_, (pss_cons (ps_set (i := 2) sc_plot_behind_deed.nd rfl (Or.inl rfl) (pe_ix ix_seq (pv 1) pe_int (fun _ _ => rfl)))
    (pss_cons (ps_set (i := 3) sc_plot_behind_deed.nd rfl (Or.inl rfl) (pe_ix ix_seq (pv 1) pe_int (fun _ _ => rfl)))
    (pss_cons (ps_if (pt_cmpR (op_eqD hr.units) (pv 2) pe_str (nomark _)) (pss_one (ps_ret (pe_k (c_put_in T) hr (by decide) rfl pass0 (pa_cons (pv 0) (pa_cons (pe_tup (pa_cons (pv 3) (pa_cons (pe_ix ix_seq (pv 1) pe_int (fun _ _ => rfl)) (pa_cons (pe_tup pa_nil) pa_nil)))) (pa_cons (pe_ix ix_seq (pv 1) pe_int (fun _ _ => rfl)) (pa_cons (pe_ix ix_seq (pv 1) pe_int (fun _ _ => rfl)) pa_nil))))))) pss_nil)
    (pss_cons (ps_if (pt_cmpR (op_eqD hr.units) (pv 2) pe_str (nomark _)) (pss_one (ps_ret (pe_k (c_taken_out T 20) hr (by decide) rfl pass0 (pa_cons (pv 0) (pa_cons (pv 3) pa_nil))))) pss_nil)
    (pss_cons (ps_if (pt_cmpR (op_eqD hr.units) (pv 2) pe_str (nomark _)) (pss_one (ps_ret (pe_k (c_put_in T) hr (by decide) rfl pass0 (pa_cons (pe_k (c_taken_out T 20) hr (by decide) rfl pass0 (pa_cons (pv 0) (pa_cons (pv 3) pa_nil))) (pa_cons (pe_k (c_spot_with T) hr (by decide) rfl pass0 (pa_cons (pv 0) (pa_cons (pv 3) pa_nil))) (pa_cons (pe_ix ix_seq (pv 1) pe_int (fun _ _ => rfl)) (pa_cons (pe_ix ix_seq (pv 1) pe_int (fun _ _ => rfl)) pa_nil))))))) pss_nil)
    (pss_one (ps_ret (pe_k (c_worded T 20) hr (by decide) rfl pass0 (pa_cons (pv 0) (pa_cons (pv 3) (pa_cons (pe_ix ix_seq (pv 1) pe_int (fun _ _ => rfl)) pa_nil))))))))))), ?_⟩)
  rintro O ds d σ ⟨t, x, rfl, ht, hok, hre, rfl⟩ s Q q
  cases x with
  | add m w p b =>
    refine sq_asg (ev_ixT (ev_var rfl) ev_int rfl) s fun σ1 H1 s1 => ?_
    refine sq_asg (ev_ixT (ev_var rfl) ev_int rfl) s1 fun σ2 H2 s2 => ?_
    refine sq_yesN (et_is (et_test (ev_eqS (ev_var rfl) ev_str)) (by decide)) s2 fun H3 s3 => ?_
    exact st_retM (ev_call (ea_cons (ev_var rfl) (ea_cons (ev_tup (ea_cons (ev_var rfl) (ea_cons (ev_ixT (ev_var rfl) ev_int rfl) (ea_cons (ev_tup ea_nil) ea_nil)))) (ea_cons (ev_ixT (ev_var rfl) ev_int rfl) (ea_cons (ev_ixT (ev_var rfl) ev_int rfl) ea_nil)))) ⟨t, .nil, m, w, p, b, rfl, ht, rfl⟩) s3 q
  | drop m =>
    refine sq_asg (ev_ixT (ev_var rfl) ev_int rfl) s fun σ1 H1 s1 => ?_
    refine sq_asg (ev_ixT (ev_var rfl) ev_int rfl) s1 fun σ2 H2 s2 => ?_
    refine sq_noN (et_is (et_test (ev_eqS (ev_var rfl) ev_str)) (by decide)) s2 fun H3 s3 => ?_
    refine sq_yesN (et_is (et_test (ev_eqS (ev_var rfl) ev_str)) (by decide)) s3 fun H4 s4 => ?_
    exact st_retM (ev_call (ea_cons (ev_var rfl) (ea_cons (ev_var rfl) ea_nil)) ⟨t, m, rfl, ht.1, ht.2, rfl⟩) s4 q
  | move m p b =>
    have hmm : m ∈ t.marks := by
      by_cases h : m ∈ t.marks
      · exact h
      · rw [reason_move, if_pos h] at hre; cases hre
    obtain ⟨x, hx, _, hxm⟩ := at_some hmm
    have hs : t.spotWith m = spotD x.m x.w x.c.enc := by unfold spotWith; rw [hx]
    have hb : behindT t (.move m p b) = (t.takenOut m).putIn x.m x.w x.c p b := by rw [behind_move, hx]
    rw [hb] at q
    refine sq_asg (ev_ixT (ev_var rfl) ev_int rfl) s fun σ1 H1 s1 => ?_
    refine sq_asg (ev_ixT (ev_var rfl) ev_int rfl) s1 fun σ2 H2 s2 => ?_
    refine sq_noN (et_is (et_test (ev_eqS (ev_var rfl) ev_str)) (by decide)) s2 fun H3 s3 => ?_
    refine sq_noN (et_is (et_test (ev_eqS (ev_var rfl) ev_str)) (by decide)) s3 fun H4 s4 => ?_
    refine sq_yesN (et_is (et_test (ev_eqS (ev_var rfl) ev_str)) (by decide)) s4 fun H5 s5 => ?_
    have hf := takenOut_fit m t
    exact st_retM (ev_call (ea_cons (ev_call (ea_cons (ev_var rfl) (ea_cons (ev_var rfl) ea_nil)) ⟨t, m, rfl, ht.1, ht.2, rfl⟩) (ea_cons (ev_call (ea_cons (ev_var rfl) (ea_cons (ev_var rfl) ea_nil)) ⟨t, m, rfl, ht, hs.symm⟩) (ea_cons (ev_ixT (ev_var rfl) ev_int rfl) (ea_cons (ev_ixT (ev_var rfl) ev_int rfl) ea_nil)))) ⟨t.takenOut m, x.c, x.m, x.w, p, b, rfl, ⟨by have := ht.1; omega, by have := ht.2; omega⟩, rfl⟩) s5 q
  | word m w =>
    refine sq_asg (ev_ixT (ev_var rfl) ev_int rfl) s fun σ1 H1 s1 => ?_
    refine sq_asg (ev_ixT (ev_var rfl) ev_int rfl) s1 fun σ2 H2 s2 => ?_
    refine sq_noN (et_is (et_test (ev_eqS (ev_var rfl) ev_str)) (by decide)) s2 fun H3 s3 => ?_
    refine sq_noN (et_is (et_test (ev_eqS (ev_var rfl) ev_str)) (by decide)) s3 fun H4 s4 => ?_
    refine sq_noN (et_is (et_test (ev_eqS (ev_var rfl) ev_str)) (by decide)) s4 fun H5 s5 => ?_
    exact st_retM (ev_call (ea_cons (ev_var rfl) (ea_cons (ev_var rfl) (ea_cons (ev_ixT (ev_var rfl) ev_int rfl) ea_nil))) ⟨t, m, w, rfl, ht.1, ht.2, rfl⟩) s5 q
end
end G
set_option Elab.async false
set_option linter.all false
set_option maxRecDepth 100000
set_option maxHeartbeats 4000000
/-! An own exception's __init__ that begins with super().__init__(..). -/
namespace G
open PySem PySem.Spec PyProof.Rows L2
/-- a def that closes over its class's cell: its body's context -/
def cxS (CX : CXT) (P : Program) (w : World) (K : PySem.W.Frag) (mg : Str → Option Value) (base : Heap) (N : List Str) (qual : Str) (scope : Scope) (f : Addr) (cd : Value) (cc : Addr) (A : Around) (outer : List Env) (s : Shared) (H : Hp) (E : XK) : Cx where
  prog := P
  w := w
  K := K
  mg := mg
  base := base
  A := A.deeper (PySem.W.ksEnv qual scope s.heap.objs.size f cd cc)
  N := N
  s_0 := s
  H_0 := H
  env := PySem.W.ksEnv qual scope s.heap.objs.size f cd cc
  outer := outer
  stack := PySem.W.ksEnv qual scope s.heap.objs.size f cd cc :: outer
  ex := []
  calm := true
  fn := fun x => !(x == ("__class__" : Str))
  pn := []
  xe := fun e s' => wpAny (model P w) (A.deeper (PySem.W.ksEnv qual scope s.heap.objs.size f cd cc)) (leaving (PySem.W.ksEnv qual scope s.heap.objs.size f cd cc) e) (fun _ s'' => CX outer H s E e s'') (fun e' s'' => CX outer H s E e' s'') s'
structure ScS (N ps : List Str) (sc : Scope) : Prop where
  kind : sc.kind = .function
  co : sc.isCoroutine = false
  gen : sc.isGenerator = false
  nd : N.Nodup
  pre : N = ps
  par : ∀ x ∈ ps, sc.names.lookup x = some .local
  nocell : ∀ x ∈ sc.names, x.2 ≠ .cell
  free : ∀ x ∈ sc.names, x.2 = .free → x.1 = ("__class__" : Str)
  sup : sc.names.lookup ("super" : Str) = some .globalImplicit
  cls : sc.names.lookup ("__class__" : Str) = some .free
theorem lookup_nd {x : Str} {u : Value} : ∀ {l : List (Str × Value)}, (l.map (·.1)).Nodup → (x, u) ∈ l → l.lookup x = some u
  | [], _, hm => absurd hm List.not_mem_nil
  | (y, z) :: l, hk, hm => by
    obtain ⟨h1, h2⟩ := List.nodup_cons.mp (show (y :: l.map (·.1)).Nodup from hk)
    rw [List.lookup_cons]
    rcases List.mem_cons.mp hm with e | hm
    · cases e; simp
    · have : (x == y) = false := by
        have : x ≠ y := fun e => h1 (e ▸ List.mem_map_of_mem (f := (·.1)) hm)
        simpa using this
      rw [this]
      exact lookup_nd h2 hm
theorem bind_get {N : List Str} {vs : List V} {us : List Value} (nd : N.Nodup) (r : Vals vs us) (hl : vs.length = N.length) {i : Nat} {x : Str} {v : V} (h1 : N[i]? = some x) (h2 : (vs.map some)[i]? = some (some v)) : ∃ u, RelV v u ∧ (N.zip us).reverse.lookup x = some u := by
  rw [List.getElem?_map] at h2
  cases hv : vs[i]? with
  | none => rw [hv] at h2; cases h2
  | some v' =>
    rw [hv] at h2
    cases h2
    obtain ⟨u, hu, ru⟩ := r.get hv
    refine ⟨u, ru, ?_⟩
    have hz : (N.zip us)[i]? = some (x, u) := List.getElem?_zip_eq_some.mpr ⟨h1, hu⟩
    have hmem : (x, u) ∈ (N.zip us).reverse := List.mem_reverse.mpr (List.mem_of_getElem? hz)
    have hk : ((N.zip us).reverse.map (·.1)).Nodup := by
      rw [List.map_reverse, List.map_fst_zip (by rw [← r.length, hl]; exact Nat.le_refl _)]
      exact List.pairwise_reverse.mpr (nd.imp fun h => h.symm)
    exact lookup_nd hk hmem
section
variable {CX : CXT} {P : Program} {w : World} {K : PySem.W.Frag} {mg : Str → Option Value} {base : Heap} {N ps : List Str} {qual : Str} {scope : Scope} {f cc : Addr} {cd : Value} {A : Around} {outer : List Env} {s : Shared} {H : Hp} {E : XK} {us : List Value} {vs : List V}
theorem inv_startS {h1 : Heap} {tk : Nat} {D : Addr} {cl : Value} {cld : Option Addr} {csl : Array (Option Value)} (Sc : ScS N ps scope) (hd : A.handled = none) (e0 : Env0 P w K mg base A outer s H) (hl : vs.length = ps.length) (r : Vals vs us) (hcc : K.lookup cc = some ⟨cl, cld, .cell (some (.ref D)), csl⟩)
    (hns : h1.Ns s.heap.objs.size (fun x => (ps.zip us).reverse.lookup x)) (hk : ∀ b o, s.heap.get? b = some o → h1.get? b = some o) :
    Inv (cxS CX P w K mg base N qual scope f cd cc A outer s H E) [] (L2.start N vs) H { s with heap := h1, toks := tk } := by
  have KX : K.In base := e0.mod.kin
  have bcc := KX _ _ hcc
  have noA : ∀ b : Addr, b ∉ (cxS CX P w K mg base N qual scope f cd cc A outer s H E).ex := fun b z => absurd (show b ∈ ([] : List Addr) from z) (by simp)
  have cel : ∀ {x : Str} {c : Addr}, (cxS CX P w K mg base N qual scope f cd cc A outer s H E).env.cells.lookup x = some c → x = ("__class__" : Str) ∧ c = cc := fun {x c} h => by
    have h' : List.lookup x [(("__class__" : Str), cc)] = some c := h
    rw [List.lookup_cons] at h'
    cases q : (x == ("__class__" : Str)) with
    | true => rw [q] at h'; exact ⟨by simpa using q, (Option.some.inj h').symm⟩
    | false => rw [q] at h'; cases h'
  have hst : L2.start N vs = vs.map some := by
    unfold L2.start
    rw [Sc.pre, hl, Nat.sub_self]
    exact List.append_nil _
  refine ⟨⟨e0.mod, Sc.kind, rfl, rfl, Nat.le_refl _, fun x y c h1 h2 => (cel h1).1.trans (cel h2).1.symm, fun x hx => ?_, fun x c hx h => ?_, fun _ => hd, Around.frames_deeper e0.frames, .inr ⟨rfl, rfl⟩, fun b z => absurd z (noA b), e0.bs, e0.bsz, fun b _ _ => noA b, fun b z => absurd z (noA b), e0.funs, e0.frf⟩,
    rfl, e0.bare, Un.kept hk, ⟨_, hns, fun i y v h1 h2 h3 => ?_⟩, fun y c h => ?_, e0.hok.fresh (Nat.le_refl _), fun y c h => ?_, fun p hp => absurd (show p ∈ ([] : List (Addr × Obj)) from hp) (by simp), e0.hok.kept hk, ?_⟩
  · have hx' : scope.names.lookup x = some .cell ∨ scope.names.lookup x = some .free := hx
    have : x = ("__class__" : Str) := by
      rcases hx' with h | h
      · exact absurd rfl (Sc.nocell _ (PySem.mem_of_lookup h))
      · exact Sc.free _ (PySem.mem_of_lookup h) rfl
    subst this
    exact ⟨cc, by show List.lookup ("__class__" : Str) [(("__class__" : Str), cc)] = some cc; simp⟩
  · have := (cel h).1
    rw [this] at hx
    exact absurd (show (!(("__class__" : Str) == ("__class__" : Str))) = true from hx) (by simp)
  · rw [hst] at h2
    obtain ⟨u, ru, hu⟩ := bind_get Sc.nd r (hl.trans (by rw [Sc.pre])) h1 h2
    refine ⟨u, ru, .inl ⟨?_, ?_⟩⟩
    · exact Sc.par y (by rw [← Sc.pre]; exact List.mem_of_getElem? h1)
    · rw [Sc.pre] at hu; exact hu
  · obtain ⟨_, rfl⟩ := cel h
    exact ⟨_, _, hk _ _ (e0.bs _ _ bcc).1, rfl⟩
  · obtain ⟨_, rfl⟩ := cel h
    exact (e0.bs _ _ bcc).2
  · rw [hst, List.length_map, hl, Sc.pre]; rfl
end
/-- what the module says of such a class: its cell, its code, what super finds -/
structure SupC (P : Program) (K : PySem.W.Frag) (mg : Str → Option Value) (C f cc cda : Addr) (fd : FuncData) : Prop where
  fn : ∃ oc od osl, K.lookup f = some ⟨oc, od, .func fd, osl⟩
  cell : ∃ cl cld csl, K.lookup cc = some ⟨cl, cld, .cell (some (.ref C)), csl⟩
  code : ∃ ccl cdd vs ccs file tf, K.lookup cda = some ⟨ccl, cdd, .fields vs, ccs⟩ ∧ vs[2]? = some (.str file tf) ∧ ((P.main.file : Str) == file) = true
  head : ∃ ar : Arg, (fd.params.posonlyargs ++ fd.params.args).head? = some ar ∧ ar.arg = ("self" : Str)
  cls : ∃ cd, PySem.W.clsIn K C = some cd
  sub : PySem.W.mroIn K C (.ref C) = some true
  sup : PySem.W.ks_superIn K C C "__init__" = some (some (.builtin "ValueError.__init__"))
  ve : PySem.W.subIn K (.ref C) (.type "ValueError") = some true
  opq : PySem.W.nsIn K cStatics "thirdparty.any" = some none
  mgs : mg "super" = none
  top : (P.main.scope.names.lookup ("super" : Str)).isSome = false
section
variable {CX : CXT} {P : Program} {w : World} {K : PySem.W.Frag} {mg : Str → Option Value} {base : Heap} {N ps : List Str} {qual : Str} {scope : Scope} {f cc cda C a : Addr} {fd : FuncData} {A : Around} {outer : List Env} {s0 : Shared} {H0 : Hp} {E : XK}
theorem wpAt_of {M : Model} {A : Around} {c : Code} {α : Type} {t : Sem α} {Q : α → Shared → Prop} {E : Value → Shared → Prop} {s : Shared} (h : wpAny M A t Q E s) : _root_.PySem.wpAt M A c t Q E s := _root_.PySem.wpAt_of_wpAny h
theorem addPin {X : Cx} {pins : List (Addr × Obj)} {σ : L2.St} {H : Hp} {s : Shared} (I : Inv X pins σ H s) {p : Addr × Obj} (h : s.heap.get? p.1 = some p.2 ∧ H p.1 = none ∧ p.1 ≠ X.env.locals ∧ p.1 ∉ X.fs ∧ ∀ v, p.2.data ≠ .cell v) : Inv X (p :: pins) σ H s :=
  ⟨I.ok, I.os, I.bare, I.base, I.loc, I.cell, I.free, I.freeC, fun q hq => by
    rcases List.mem_append.mp hq with hq | hq
    · exact I.pin q (List.mem_append_left _ hq)
    · rcases List.mem_cons.mp hq with rfl | hq
      · exact h
      · exact I.pin q (List.mem_append_right _ hq), I.hok, I.len⟩
theorem dropPin {X : Cx} {pins : List (Addr × Obj)} {σ : L2.St} {H : Hp} {s : Shared} {p : Addr × Obj} (I : Inv X (p :: pins) σ H s) : Inv X pins σ H s :=
  ⟨I.ok, I.os, I.bare, I.base, I.loc, I.cell, I.free, I.freeC, fun q hq => I.pin q ((List.mem_append.mp hq).elim (fun h => List.mem_append_left _ h) fun h => List.mem_append_right _ (List.mem_cons_of_mem _ h)), I.hok, I.len⟩
theorem onePin {X : Cx} {pins : List (Addr × Obj)} {σ : L2.St} {H : Hp} {s : Shared} {p : Addr × Obj} (I : Inv X (p :: pins) σ H s) : s.heap.get? p.1 = some p.2 := (I.pin p (List.mem_append_right _ List.mem_cons_self)).1
/-- super().__init__(text) -/
theorem super_st {body : List Stmt} {pins : List (Addr × Obj)} {σ : L2.St} {H : Hp} {s : Shared} {p0 p1 p2 p4 p5 : Pos} {e : Expr} {x : Str} {pl : Sem Bool} (Sc : ScS N ps scope) (D : SupC P K mg C f cc cda fd) (T : OexC K C)
    (I : Inv (cxS CX P w K mg base N qual scope f (.ref cda) cc A outer s0 H0 E) pins σ H s) (hN : N[0]? = some ("self" : Str)) (hσ : σ[0]? = some (some (.ref a))) (ha : H a = some (exo a C none))
    (he : PE (cxS CX P w K mg base N qual scope f (.ref cda) cc A outer s0 H0 E) e (tC (.str x)))
    (hs : starEach [e] (PySem.W.ksEnv qual scope s0.heap.objs.size f (.ref cda) cc) = [(false, eval e (PySem.W.ksEnv qual scope s0.heap.objs.size f (.ref cda) cc))])
    {Q : Flow → Shared → Prop} (k : ∀ s', Inv (cxS CX P w K mg base N qual scope f (.ref cda) cc A outer s0 H0 E) pins σ H s' → Q .next s')
    (hia : interactive (PySem.W.ksEnv qual scope s0.heap.objs.size f (.ref cda) cc) = false)
    (hsw : swapsWith (.Call (.Attribute (.Call (.Name "super" p0) [] [] p1) "__init__" p2) [e] [] p4) none p5.line (PySem.W.ksEnv qual scope s0.heap.objs.size f (.ref cda) cc) = pure false)
    (hev : eval (.Call (.Attribute (.Call (.Name "super" p0) [] [] p1) "__init__" p2) [e] [] p4) (PySem.W.ksEnv qual scope s0.heap.objs.size f (.ref cda) cc) = (do
      let ov ← attributeBase (.Call (.Name "super" p0) [] [] p1) "__init__" (PySem.W.ksEnv qual scope s0.heap.objs.size f (.ref cda) cc) (eval (.Call (.Name "super" p0) [] [] p1) (PySem.W.ksEnv qual scope s0.heap.objs.size f (.ref cda) cc))
      standAt p2.atName
      let (fx, first) ← holding [ov] (getMethod ov "__init__" pl)
      callWith p4 fx first (backTo p4 (starEach [e] (PySem.W.ksEnv qual scope s0.heap.objs.size f (.ref cda) cc))) [])) :
    _root_.PySem.wpAt (model P w) (A.deeper (PySem.W.ksEnv qual scope s0.heap.objs.size f (.ref cda) cc)) (.func body (PySem.W.ksEnv qual scope s0.heap.objs.size f (.ref cda) cc)) (exec (.Expr (.Call (.Attribute (.Call (.Name "super" p0) [] [] p1) "__init__" p2) [e] [] p4) p5) (PySem.W.ksEnv qual scope s0.heap.objs.size f (.ref cda) cc)) Q
      (cxS CX P w K mg base N qual scope f (.ref cda) cc A outer s0 H0 E).xe s := by
  let X := cxS CX P w K mg base N qual scope f (.ref cda) cc A outer s0 H0 E
  obtain ⟨oc, od, osl, hf⟩ := D.fn
  obtain ⟨cl, cld, csl, hcc⟩ := D.cell
  obtain ⟨ccl, cdd, vs, ccs, file, tf, hcd, hvs, hfile⟩ := D.code
  obtain ⟨ar, hp, har⟩ := D.head
  obtain ⟨cdC, hC⟩ := D.cls
  have KX : K.In s.heap := I.kIn
  obtain ⟨t1, hoe⟩ := exo_at I.hok ha
  obtain ⟨oC, hC1, hC2⟩ : ∃ oC, s.heap.get? C = some oC ∧ oC.data = .cls cdC := by
    unfold PySem.W.clsIn at hC
    split at hC
    · rename_i c d cd' sl ho
      cases hC
      exact ⟨_, KX _ _ ho, rfl⟩
    · cases hC
  have hks : (PySem.W.ksEnv qual scope s0.heap.objs.size f (.ref cda) cc).kindOf "super" = some .globalImplicit := Sc.sup
  refine PySem.ks_wpAt_Expr_any (PySem.ks_wpAt_MethodCall ?_ hev) hia hsw
  refine PySem.ks_wpAt_super_base (env := PySem.W.ksEnv qual scope s0.heap.objs.size f (.ref cda) cc) hks Sc.cls (by decide) rfl (KX _ _ hf) rfl hp rfl (KX _ _ hcd) rfl hvs hfile D.top ?_
  obtain ⟨mb, b1, b2⟩ := I.mod.blt
  refine PySem.W.ks_loadName_global Sc.kind hks (Calls.loadGlobal_builtin (env := PySem.W.ksEnv qual scope s0.heap.objs.size f (.ref cda) cc) (I.mod.glob.keeps I.bk) D.mgs (b1.keeps I.bk) ((b2 _ (by decide)).trans (show bootBuiltins "super" = some (.type "super") by decide +kernel)) ⟨rfl, ?_⟩)
  refine wpAny_loadName_free Sc.kind Sc.cls rfl ⟨_, KX _ _ hcc, rfl⟩ ?_
  obtain ⟨m, hn, hl⟩ := I.loc
  have hself : scope.names.lookup ("self" : Str) = some .local := Sc.par _ (by rw [← Sc.pre]; exact List.mem_of_getElem? hN)
  obtain ⟨u, ru, lk⟩ := hl 0 ("self" : Str) (.ref a) hN hσ (.inl hself)
  obtain rfl : u = Value.ref a := ru
  have hma : m ("self" : Str) = some (.ref a) := by
    rcases lk with ⟨_, h⟩ | ⟨h, _⟩
    · exact h
    · have h' : scope.names.lookup ("self" : Str) = some .cell ∨ scope.names.lookup ("self" : Str) = some .free := h
      rw [hself] at h'
      rcases h' with h' | h' <;> cases h'
  rw [har]
  refine wpAny_loadName_local Sc.kind hself hn hma ?_
  refine PySem.ks_wpAny_isType_cls hC1 hC2 ⟨rfl, ?_⟩
  refine PySem.ks_wpAny_call_super hC1 hC2 hoe rfl (fun c e => by cases e) (PySem.W.looks_mroIn KX D.sub) (fun h1 e1 k1 => ?_)
  have I1 : Inv X pins σ H { s with heap := h1, toks := s.toks } := I.kept k1
  have sup := D.sup
  unfold PySem.W.ks_superIn at sup
  rw [hC] at sup
  have hI : PySem.W.Looks (model P w) h1 (isInstance (.ref a) (.type "ValueError")) true := (PySem.W.InstAt.type (od := none) ⟨k1 _ _ hoe, rfl, rfl, trivial⟩).andThen (PySem.W.looks_subIn I1.kIn D.ve)
  have hac : a ≠ C := fun e => by
    rw [e] at hoe
    have : s.heap.get? C = some oC := hC1
    rw [hoe] at this
    cases this
    cases hC2
  refine PySem.W.kxs_getMethod PySem.W.kxs_ValueError e1 (PySem.W.looks_opaque I1.kIn D.opq) (l₀ := cdC.mro) ?_ rfl I1.kIn sup hI hac (by decide) ?_
  · exact fun A Q E s k q => wpAny_bind ((PySem.W.looks_clsIn I1.kIn hC) A _ E s k (wpAny_pure q))
  have k2 : ∀ b o, h1.get? b = some o → (h1.push (PySem.W.kxs_mw "ValueError.__init__" a)).get? b = some o := fun b o e => Heap.get?_push_of_some _ e
  have I2 : Inv X pins σ H { s with heap := h1.push (PySem.W.kxs_mw "ValueError.__init__" a), toks := s.toks + 1 } := I1.kept (t' := s.toks + 1) k2
  have hnew : (h1.push (PySem.W.kxs_mw "ValueError.__init__" a)).get? h1.objs.size = some (PySem.W.kxs_mw "ValueError.__init__" a) := Heap.get?_push_size _ rfl
  have I3 := addPin (p := (h1.objs.size, PySem.W.kxs_mw "ValueError.__init__" a)) I2 ⟨hnew, I1.hok.fresh (Nat.le_refl _), fun e => absurd I1.lt (by rw [← e]; exact Nat.lt_irrefl _), I1.nofs (Nat.le_refl _), fun v q => by cases q⟩
  have hpa : PA X [e] (tCons (tC (.str x)) tNil) := pa_cons (hs := hs) he pa_nil
  dsimp only
  rw [hs]
  refine PySem.W.kxs_callWith (i := "ValueError.__init__") (x := a) rfl ?_
  refine PySem.Calls.evalArgs_plain ?_
  have run := hpa.run p4 _ _ σ H (fun vs H' => vs = [.str x] ∧ H' = H) I3 ⟨rfl, rfl⟩
  have run' := run
  rw [show starEach [e] X.env = [(false, eval e (PySem.W.ksEnv qual scope s0.heap.objs.size f (.ref cda) cc))] from hs] at run'
  refine wpAny_mono run' (fun us s4 hq => ?_) fun _ _ z => z
  obtain ⟨vs4, H4, I4, r4, rfl, rfl⟩ := hq
  have hu := onePin I4
  refine ⟨hu, ?_⟩
  obtain ⟨nm, q, Nn, bs, bm, sn, sub, ab, col, dd, k0, kk1, kk2, kk3, k5, hCo, hbm⟩ := T.cls
  obtain ⟨t4, ho4⟩ := exo_at I4.hok ha
  have hlen : us.length ≤ sizeLine := by
    rw [← Paired.length r4, sizeLine_eq]
    show 1 ≤ 16777216
    decide
  have KX4 := I4.kIn
  have J : ∀ h', (∀ b o, b ≠ a → s4.heap.get? b = some o → h'.get? b = some o) → (∃ t5 : Addr, h'.get? a = some ({ cls := .ref C, dict := none, data := .fields #[.ref t5, .none, .none, .none, .bool false, .none] } : Obj)) → Inv X pins σ H4 { s4 with heap := h', toks := s4.toks } := fun h' k ⟨t5, e5⟩ => by
    have J0 := (dropPin I4).write (t' := s4.toks) (x := a) (e := a) (o := exo a C none) (by rw [ha]; exact True.intro) (.inl rfl) k ⟨_, e5⟩ (exo_ok e5)
    have eu : upd H4 a (exo a C none) = H4 := by
      funext b
      by_cases hb : b = a
      · rw [hb, upd_same, ha]
      · rw [upd_ne hb]
    rw [eu] at J0
    exact J0
  have hu' : s4.heap.get? h1.objs.size = some (PySem.W.kxs_mw "ValueError.__init__" a) := hu
  clear hu run run'
  obtain ⟨hh, g, d, tk, os⟩ := s4
  refine wpAny_call (codeAny_of_tree ?_)
  show wpAny _ _ (callAny (.ref h1.objs.size) ⟨us, []⟩) _ _ _
  simp only [callAny]
  refine wpAny_bind (wpAny_load hu' ?_)
  simp only [PySem.W.kxs_mw, show (Value.type "method-wrapper" == Value.type "method" || Value.type "method-wrapper" == Value.type "builtin_function_or_method" || Value.type "method-wrapper" == Value.type "method-wrapper") = true by decide, if_true]
  refine PySem.W.KFB.if_so (by decide) ?_
  refine wpAny_bind (PySem.W.check_bound_init F.excBase_ValueError.toExcCallFacts (KX4 _ _ hCo) ho4 rfl ?_)
  refine wpAny_bind (wpAny_pure (wpAny_pure ?_))
  refine ⟨plainId_quiet F.excBase_ValueError.init.plain _, codeAny_builtin F.excBase_ValueError.initEntry ?_⟩
  exact PySem.W.exc_init_tree (cls := .ref C) (t0 := t4) (dv := none) (c2 := .none) (c3 := .none) (b4 := .bool false) ho4 hlen fun h' kk e5 _ => k _ (J h' kk ⟨_, e5⟩)
end
end G
set_option Elab.async false
set_option linter.all false
set_option maxRecDepth 100000
set_option maxHeartbeats 4000000
/-! The error classes' __init__ as defs. -/
namespace G
open PySem PySem.Spec PyProof.Rows L2
section
variable {CX : CXT} {P : Program} {w : World} {K : PySem.W.Frag} {mg : Str → Option Value} {base : Heap} {N ps : List Str} {name qual : Str} {scope : Scope} {f cc cda C : Addr} {params : Arguments} {dV kV doc pm ct : Value} {an : Option Addr}
theorem init_ok {k : Nat} {sp : Sp} {p0 p1 p2 p4 p5 : Pos} {e : Expr} {x : Str} {pl : Sem Bool} {rest : List Stmt} {t : PySem.W.Frag → TS} (Sc : ScS N ps scope) (hN : N[0]? = some ("self" : Str))
    (D : SupC P K mg C f cc cda (PySem.W.ksFn name qual params (.Expr (.Call (.Attribute (.Call (.Name "super" p0) [] [] p1) "__init__" p2) [e] [] p4) p5 :: rest) scope dV kV doc pm an (.ref cda) ct cc)) (T : OexC K C) (hcd : PySem.W.codeIn K (.ref cda) qual = true)
    (hsp : ∀ vs H Q E, sp vs H Q E → vs.length = ps.length ∧ ∃ a ws, vs = .ref a :: ws ∧ H a = some (exo a C none) ∧ t K { nx := fun _ H' => Q .non H', rt := Q } (L2.start N vs) H)
    (he : ∀ X : Cx, X.K = K → PE X e (tC (.str x)))
    (ht : ∀ X : Cx, X.K = K → X.N = N → X.env.scope = scope → PSs X rest (t K))
    (hs : ∀ L cd', starEach [e] (PySem.W.ksEnv qual scope L f cd' cc) = [(false, eval e (PySem.W.ksEnv qual scope L f cd' cc))])
    (hsw : ∀ L cd', swapsWith (.Call (.Attribute (.Call (.Name "super" p0) [] [] p1) "__init__" p2) [e] [] p4) none p5.line (PySem.W.ksEnv qual scope L f cd' cc) = pure false)
    (hev : ∀ L cd', eval (.Call (.Attribute (.Call (.Name "super" p0) [] [] p1) "__init__" p2) [e] [] p4) (PySem.W.ksEnv qual scope L f cd' cc) = (do
      let ov ← attributeBase (.Call (.Name "super" p0) [] [] p1) "__init__" (PySem.W.ksEnv qual scope L f cd' cc) (eval (.Call (.Name "super" p0) [] [] p1) (PySem.W.ksEnv qual scope L f cd' cc))
      standAt p2.atName
      let (fx, first) ← holding [ov] (getMethod ov "__init__" pl)
      callWith p4 fx first (backTo p4 (starEach [e] (PySem.W.ksEnv qual scope L f cd' cc))) [])) :
    FnOk P w K mg base CX (k + 1) f (PySem.W.ksFn name qual params (.Expr (.Call (.Attribute (.Call (.Name "super" p0) [] [] p1) "__init__" p2) [e] [] p4) p5 :: rest) scope dV kV doc pm an (.ref cda) ct cc) ps sp := by
  refine ⟨fun vs H Q E h => (hsp vs H Q E h).1, fun A outer s H args us vs Q E hr e0 hb r h => ?_⟩
  obtain ⟨hl, a, ws, hvs, ha, hq⟩ := hsp vs H Q E h
  obtain ⟨oc, od, osl, hf⟩ := D.fn
  obtain ⟨cl, cld, csl, hcc⟩ := D.cell
  have KX : K.In s.heap := e0.mod.kin.keeps fun b o e => (e0.bs b o e).1
  have lim : s.heap.NoLimit := e0.mod.nolimit.keeps fun b o e => (e0.bs b o e).1
  refine PySem.ks_codeAny_call_defAt hr.depth (KX _ _ hf) rfl lim (PySem.W.codeRec_of KX hcd) rfl hb Sc.nocell (fun y hy => Sc.par y.1 (List.of_mem_zip hy).1) (fun h₁ hns hk => ?_) Sc.co Sc.gen Sc.kind
  have I := inv_startS (CX := CX) (N := N) (qual := qual) (scope := scope) (f := f) (cd := .ref cda) (A := A) (outer := outer) (E := E) (tk := s.toks + (ps.zip us).length) Sc hr.hd e0 hl r hcc hns hk
  have hσ : (L2.start N vs)[0]? = some (some (.ref a)) := by rw [hvs]; rfl
  refine PySem.ks_wpAt_execs_cons ?_
  refine super_st Sc D T I hN hσ ha (he _ rfl) (hs _ _) (fun s' I' => ?_) (by unfold interactive; show (scope.kind == .module && _) = false; rw [Sc.kind]; rfl) (hsw _ _) (hev _ _)
  refine wpAt_of (wpAny_mono ((ht _ rfl rfl rfl).run [] s' (L2.start N vs) H _ I' hq) (fun fl s' hs => ?_) fun _ _ z => z)
  have fin : ∀ {σ' : L2.St} {H' : Hp} {v : V} {u : Value}, Inv (cxS CX P w K mg base N qual scope f (.ref cda) cc A outer s H E) [] σ' H' s' → RelV v u → Q v H' → CE outer P w H s Q u s' :=
    fun {σ' H' v u} J rv q => ⟨v, H', J.os, J.bare, J.base, J.hok, rv, q⟩
  cases fl with
  | ret u =>
    obtain ⟨v, σ', H', J, rv, q⟩ := hs
    exact fin J rv q
  | next =>
    obtain ⟨σ', H', J, q⟩ := hs
    exact fin (v := V.non) (u := Value.none) J rfl q
  | brk =>
    obtain ⟨_, _, _, q⟩ := hs
    exact False.elim q
  | cont =>
    obtain ⟨_, _, _, q⟩ := hs
    exact False.elim q
end
def clsM (s : Stmt) (i : Nat) : Stmt := match s with
  | .ClassDef _ _ _ b _ _ _ _ _ _ _ => b.getD i (.Pass ⟨0, 0, 0, 0⟩)
  | _ => .Pass ⟨0, 0, 0, 0⟩
abbrev m_InvalidScript : Stmt := clsM s_InvalidScript 0
abbrev m_Refusal : Stmt := clsM s_Refusal 0
/-- the class of an error whose __init__ calls super().__init__ and stores fs in order -/
structure ErrC (P : Program) (K : PySem.W.Frag) (mg : Str → Option Value) (x : Str) (m : Stmt) (qual : Str) (fs : List Str) (C : Addr) : Prop where
  glob : mg x = some (.ref C)
  oex : OexC K C
  xf : XfC K C
  nos : ∀ y ∈ fs, PySem.W.findIn K (.ref C) y = some none
  fn : ∃ fI cc cda dV kV doc pm an ct, PySem.W.findIn K (.ref C) "__init__" = some (some (.ref fI)) ∧ PySem.W.typeIn K (.ref fI) = some (.type "function") ∧
    SupC P K mg C fI cc cda (PySem.W.ksFn "__init__" qual (defArgs m) (defBody m) (defScope m) dV kV doc pm an (.ref cda) ct cc) ∧ PySem.W.codeIn K (.ref cda) qual = true ∧ Binds K (PySem.W.ksFn "__init__" qual (defArgs m) (defBody m) (defScope m) dV kV doc pm an (.ref cda) ct cc) ("self" :: fs) []
/-- what such an __init__ promises -/
def spI1 (C : Addr) (f : Str) : Sp := fun vs H Q _ => ∃ a v, vs = [.ref a, v] ∧ H a = some (exo a C none) ∧ ∀ dx, H dx = none → dx ≠ a → Q .non (upd (upd H dx (exd dx [(f, v)])) a (exo a C (some dx)))
def spI2 (C : Addr) (f g : Str) : Sp := fun vs H Q _ => ∃ a v u, vs = [.ref a, v, u] ∧ H a = some (exo a C none) ∧ ∀ dx, H dx = none → dx ≠ a → Q .non (upd (upd (upd H dx (exd dx [(f, v)])) a (exo a C (some dx))) dx (exd dx [(g, u), (f, v)]))
theorem ss_InvalidScript : ScS ["self", "value"] ["self", "value"] (defScope m_InvalidScript) := ⟨rfl, rfl, rfl, by decide +kernel, rfl, by decide +kernel, by decide +kernel, by decide +kernel, by decide +kernel, by decide +kernel⟩
theorem ss_Refusal : ScS ["self", "deed", "reason"] ["self", "deed", "reason"] (defScope m_Refusal) := ⟨rfl, rfl, rfl, by decide +kernel, rfl, by decide +kernel, by decide +kernel, by decide +kernel, by decide +kernel, by decide +kernel⟩
section
variable {CX : CXT} {P : Program} {w : World} {K : PySem.W.Frag} {mg : Str → Option Value} {base : Heap} {C : Addr}
theorem i_InvalidScript {fI cc cda : Addr} {dV kV doc pm ct : Value} {an : Option Addr} (E : ErrC P K mg "InvalidScript" m_InvalidScript "InvalidScript.__init__" ["value"] C) (D : SupC P K mg C fI cc cda (PySem.W.ksFn "__init__" "InvalidScript.__init__" (defArgs m_InvalidScript) (defBody m_InvalidScript) (defScope m_InvalidScript) dV kV doc pm an (.ref cda) ct cc)) (hcd : PySem.W.codeIn K (.ref cda) "InvalidScript.__init__" = true) :
    FnOk P w K mg base CX 1 fI (PySem.W.ksFn "__init__" "InvalidScript.__init__" (defArgs m_InvalidScript) (defBody m_InvalidScript) (defScope m_InvalidScript) dV kV doc pm an (.ref cda) ct cc) ["self", "value"] (spI1 C "value") := by
  refine init_ok (k := 0) (t := fun K => tOst K "value" (tVar 0) (tVar 1)) ss_InvalidScript rfl D E.oex hcd (fun vs H Q E' h => ?_) (fun X hX => pe_str) (fun X hK hN hS => ?_) (fun _ _ => rfl) (fun _ _ => rfl) (fun _ _ => rfl)
  · obtain ⟨a, v, rfl, ha, q⟩ := h
    refine ⟨rfl, a, [v], rfl, ha, v, rfl, .ref a, rfl, a, C, rfl, E.oex, E.nos _ List.mem_cons_self, .inl ⟨ha, fun dx hd hne => q dx hd hne⟩⟩
  · subst hK
    refine pss_one (ps_ost (pv 0 (by rw [hN]; rfl) (by rw [hS]; exact .inl rfl)) (pv 1 (by rw [hN]; rfl) (by rw [hS]; exact .inl rfl)) ?_)
    rfl
theorem i_Refusal {fI cc cda : Addr} {dV kV doc pm ct : Value} {an : Option Addr} (E : ErrC P K mg "Refusal" m_Refusal "Refusal.__init__" ["deed", "reason"] C) (D : SupC P K mg C fI cc cda (PySem.W.ksFn "__init__" "Refusal.__init__" (defArgs m_Refusal) (defBody m_Refusal) (defScope m_Refusal) dV kV doc pm an (.ref cda) ct cc)) (hcd : PySem.W.codeIn K (.ref cda) "Refusal.__init__" = true) :
    FnOk P w K mg base CX 1 fI (PySem.W.ksFn "__init__" "Refusal.__init__" (defArgs m_Refusal) (defBody m_Refusal) (defScope m_Refusal) dV kV doc pm an (.ref cda) ct cc) ["self", "deed", "reason"] (spI2 C "deed" "reason") := by
  refine init_ok (k := 0) (t := fun K => tSeq (tOst K "deed" (tVar 0) (tVar 1)) (tOst K "reason" (tVar 0) (tVar 2))) ss_Refusal rfl D E.oex hcd (fun vs H Q E' h => ?_) (fun X hX => pe_str) (fun X hK hN hS => ?_) (fun _ _ => rfl) (fun _ _ => rfl) (fun _ _ => rfl)
  · obtain ⟨a, v, u, rfl, ha, q⟩ := h
    refine ⟨rfl, a, [v, u], rfl, ha, v, rfl, .ref a, rfl, a, C, rfl, E.oex, E.nos _ List.mem_cons_self, .inl ⟨ha, fun dx hd hne => ?_⟩⟩
    exact ⟨u, rfl, .ref a, rfl, a, C, rfl, E.oex, E.nos _ (List.mem_cons_of_mem _ List.mem_cons_self), .inr ⟨dx, [("deed", v)], upd_same, by rw [upd_ne hne, upd_same], Nat.le_of_ble_eq_true rfl, q dx hd hne⟩⟩
  · subst hK
    refine pss_cons (ps_ost (pv 0 (by rw [hN]; rfl) (by rw [hS]; exact .inl rfl)) (pv 1 (by rw [hN]; rfl) (by rw [hS]; exact .inl rfl)) ?_) (pss_one (ps_ost (pv 0 (by rw [hN]; rfl) (by rw [hS]; exact .inl rfl)) (pv 2 (by rw [hN]; rfl) (by rw [hS]; exact .inl rfl)) ?_))
    · rfl
    · rfl
end
/-! raising them -/
section
variable {X : Cx} {e : Expr} {es : List Expr} {ta : TA} {p pos : Pos} {j : Nat} {C : Addr}
theorem pmk_InvalidScript (E : ErrC X.prog X.K X.mg "InvalidScript" m_InvalidScript "InvalidScript.__init__" ["value"] C) (hr : Room j X.A) (hj : 2 ≤ j) (hg : Gl X "InvalidScript") (ha : PA X (e :: es) ta)
    (he : starEach (e :: es) X.env = (false, eval e X.env) :: starEach es X.env := by rfl) (hpl : (backTo pos (starEach es X.env)).any (·.1) = false := by rfl) :
    PMk X (.Call (.Name "InvalidScript" p) (e :: es) [] pos) (tMkO C (spI1 C "value") [] ta) := by
  obtain ⟨fI, cc, cda, dV, kV, doc, pm, an, ct, h1, h2, D, hcd, hb⟩ := E.fn
  exact pmk_oex E.oex h1 h2 (i_InvalidScript (CX := CX0) E D hcd) (hr.mono hj) hb .nil pass0 hg E.glob ha (by decide) he hpl
theorem pmk_Refusal (E : ErrC X.prog X.K X.mg "Refusal" m_Refusal "Refusal.__init__" ["deed", "reason"] C) (hr : Room j X.A) (hj : 2 ≤ j) (hg : Gl X "Refusal") (ha : PA X (e :: es) ta)
    (he : starEach (e :: es) X.env = (false, eval e X.env) :: starEach es X.env := by rfl) (hpl : (backTo pos (starEach es X.env)).any (·.1) = false := by rfl) :
    PMk X (.Call (.Name "Refusal" p) (e :: es) [] pos) (tMkO C (spI2 C "deed" "reason") [] ta) := by
  obtain ⟨fI, cc, cda, dV, kV, doc, pm, an, ct, h1, h2, D, hcd, hb⟩ := E.fn
  exact pmk_oex E.oex h1 h2 (i_Refusal (CX := CX0) E D hcd) (hr.mono hj) hb .nil pass0 hg E.glob ha (by decide) he hpl
end
section
variable {F : Fm} {M : List (Addr × OC)} {δ : List SD} {σ : L2.St} {H : Hp} {ta : TA} {d d2 : PyData} {C : Addr} {f g : Str} {W : XK}
theorem fin_heap {H1 H2 : Hp} {a dx : Addr} {fs : List (Str × V)} (ha : H1 a = none) (hd : H1 dx = none) (hne : dx ≠ a) (h2 : ∀ b, b ≠ a → b ≠ dx → H2 b = H1 b) : upd (del H2 a) dx (.xd fs) = upd H1 dx (.xd fs) := by
  funext b
  by_cases hb : b = dx
  · subst hb; rw [upd_same, upd_same]
  · rw [upd_ne hb, upd_ne hb]
    by_cases hb2 : b = a
    · subst hb2; rw [del_same, ha]
    · rw [del_ne hb2, h2 b hb2 hb]
theorem tx_mk1 (ha : Ea F M δ ta [d]) (s : S F M δ σ H) (k : ∀ dd H' v, S F M δ σ H' → H' dd = some (.xd [(f, v)]) → Rp (shr F.O H') v d → W (.ref C) (some dd) H') : tMkO C (spI1 C f) [] ta σ H W :=
  ha σ H s _ fun vs H1 s1 e1 r1 => by
    cases r1 with
    | @cons v _ _ _ rv rn =>
      cases rn
      refine ⟨Nat.le_of_ble_eq_true rfl, fun a hna => ⟨a, v, rfl, upd_same, fun dx hd hne => ?_⟩⟩
      have hd1 : H1 dx = none := by rw [upd_ne hne] at hd; exact hd
      refine ⟨rfl, dx, [(f, v)], upd_same, by rw [upd_ne hne, upd_same], hd1, ?_⟩
      rw [fin_heap hna hd1 hne fun b h1 h2 => by rw [upd_ne h1, upd_ne h2, upd_ne h1]]
      exact k dx _ v (s1.same (same_new hd1)) upd_same (rv.same (shr_same (same_new hd1)))
theorem tx_mk2 (ha : Ea F M δ ta [d, d2]) (s : S F M δ σ H) (k : ∀ dd H' v u, S F M δ σ H' → H' dd = some (.xd [(g, u), (f, v)]) → Rp (shr F.O H') v d → Rp (shr F.O H') u d2 → W (.ref C) (some dd) H') : tMkO C (spI2 C f g) [] ta σ H W :=
  ha σ H s _ fun vs H1 s1 e1 r1 => by
    cases r1 with
    | @cons v _ _ _ rv rn =>
      cases rn with
      | @cons u _ _ _ ru rn =>
        cases rn
        refine ⟨Nat.le_of_ble_eq_true rfl, fun a hna => ⟨a, v, u, rfl, upd_same, fun dx hd hne => ?_⟩⟩
        have hd1 : H1 dx = none := by rw [upd_ne hne] at hd; exact hd
        refine ⟨rfl, dx, [(g, u), (f, v)], by rw [upd_ne (Ne.symm hne), upd_same], upd_same, hd1, ?_⟩
        rw [fin_heap hna hd1 hne fun b h1 h2 => by rw [upd_ne h2, upd_ne h1, upd_ne h2, upd_ne h1]]
        exact k dx _ v u (s1.same (same_new hd1)) upd_same (rv.same (shr_same (same_new hd1))) (ru.same (shr_same (same_new hd1)))
end
end G
set_option Elab.async false
set_option linter.all false
set_option maxRecDepth 100000
set_option maxHeartbeats 4000000
/-! Plots as flat rows; what a deed does to them. -/
namespace G
open PySem L2
abbrev Row := Int × Str × Int
namespace Fo
def flat : Int → Fo → List Row
  | _, .nil => []
  | p, .cons m w c r => (m, w, p) :: (flat m c ++ flat p r)
theorem flat_marks : ∀ (t : Fo) (p : Int), (flat p t).map (·.1) = t.marks
  | .nil, p => rfl
  | .cons m w c r, p => by
    show m :: (flat m c ++ flat p r).map (·.1) = m :: (c.marks ++ r.marks)
    rw [List.map_append, flat_marks c, flat_marks r]
theorem flat_words : ∀ (t : Fo) (p : Int), (flat p t).map (·.2.1) = t.words
  | .nil, p => rfl
  | .cons m w c r, p => by
    show w :: (flat m c ++ flat p r).map (·.2.1) = w :: (c.words ++ r.words)
    rw [List.map_append, flat_words c, flat_words r]
theorem flat_length (t : Fo) (p : Int) : (flat p t).length = t.size := by
  induction t generalizing p with
  | nil => rfl
  | cons m w c r ihc ihr =>
    show (flat m c ++ flat p r).length + 1 = 1 + (c.size + r.size)
    rw [List.length_append, ihc, ihr]; omega
theorem flat_sp : ∀ (t : Fo) (p b : Int), flat p t = (t.sp p b).map fun s => (s.m, s.w, s.p)
  | .nil, p, b => rfl
  | .cons m w c r, p, b => by
    show (m, w, p) :: (flat m c ++ flat p r) = (m, w, p) :: (c.sp m 0 ++ r.sp p m).map _
    rw [List.map_append, flat_sp c m 0, flat_sp r p m]
theorem withRow_none {p : Int} {row : Fo} : ∀ {t : Fo}, p ∉ t.marks → withRow p row t = t
  | .nil, _ => rfl
  | .cons m w c r, h => by
    have h' : p ∉ m :: (c.marks ++ r.marks) := h
    have h1 : m ≠ p := fun e => h' (by rw [e]; exact List.mem_cons_self)
    have h2 : p ∉ c.marks := fun q => h' (List.mem_cons_of_mem _ (List.mem_append_left _ q))
    have h3 : p ∉ r.marks := fun q => h' (List.mem_cons_of_mem _ (List.mem_append_right _ q))
    show Fo.cons m w (if m = p then row else withRow p row c) (withRow p row r) = _
    rw [if_neg h1, withRow_none h2, withRow_none h3]
theorem takenOut_none {p : Int} : ∀ {t : Fo}, p ∉ t.marks → takenOut p t = t
  | .nil, _ => rfl
  | .cons m w c r, h => by
    have h' : p ∉ m :: (c.marks ++ r.marks) := h
    have h1 : m ≠ p := fun e => h' (by rw [e]; exact List.mem_cons_self)
    have h2 : p ∉ c.marks := fun q => h' (List.mem_cons_of_mem _ (List.mem_append_left _ q))
    have h3 : p ∉ r.marks := fun q => h' (List.mem_cons_of_mem _ (List.mem_append_right _ q))
    show (if m = p then takenOut p r else Fo.cons m w (takenOut p c) (takenOut p r)) = _
    rw [if_neg h1, takenOut_none h2, takenOut_none h3]
theorem worded_none {p : Int} {x : Str} : ∀ {t : Fo}, p ∉ t.marks → worded p x t = t
  | .nil, _ => rfl
  | .cons m w c r, h => by
    have h' : p ∉ m :: (c.marks ++ r.marks) := h
    have h1 : m ≠ p := fun e => h' (by rw [e]; exact List.mem_cons_self)
    have h2 : p ∉ c.marks := fun q => h' (List.mem_cons_of_mem _ (List.mem_append_left _ q))
    have h3 : p ∉ r.marks := fun q => h' (List.mem_cons_of_mem _ (List.mem_append_right _ q))
    show Fo.cons m (if m = p then x else w) (worded p x c) (worded p x r) = _
    rw [if_neg h1, worded_none h2, worded_none h3]
/-- a row's parent is p or a mark of the row -/
theorem flat_par {t : Fo} {p : Int} {r : Row} (h : r ∈ flat p t) : r.2.2 = p ∨ r.2.2 ∈ t.marks := by
  rw [flat_sp t p 0] at h
  obtain ⟨s, hs, rfl⟩ := List.mem_map.mp h
  exact par_mem hs
theorem flat_mark {t : Fo} {p : Int} {r : Row} (h : r ∈ flat p t) : r.1 ∈ t.marks := by
  rw [← flat_marks t p]; exact List.mem_map_of_mem (f := (·.1)) h
/-- where a mark stands: what lies ahead, behind, and what the deeds do there -/
structure Loc (t : Fo) (p0 : Int) (m : Int) (pre post : List Row) (w : Str) (q : Int) (c : Fo) : Prop where
  eq : flat p0 t = pre ++ (m, w, q) :: (flat m c ++ post)
  sp : ∀ b0, ∃ b, (⟨m, w, c, q, b⟩ : Fo.Sp) ∈ t.sp p0 b0
  out : ∀ r ∈ post, r.2.2 ≠ m ∧ r.2.2 ∉ c.marks
  row : ∀ row', flat p0 (withRow m row' t) = pre ++ (m, w, q) :: (flat m row' ++ post)
  tk : flat p0 (takenOut m t) = pre ++ post
  wd : ∀ x, flat p0 (worded m x t) = pre ++ (m, x, q) :: (flat m c ++ post)
  ahead : ∀ r ∈ pre, r.2.2 ≠ m ∧ r.2.2 ∉ c.marks
theorem loc {t : Fo} : ∀ {p0 m : Int}, t.marks.Nodup → p0 ∉ t.marks → m ∈ t.marks → ∃ pre post w q c, Loc t p0 m pre post w q c := by
  induction t with
  | nil => intro p0 m _ _ h; exact absurd h List.not_mem_nil
  | cons k u d r ihd ihr =>
    intro p0 m nd hp hm
    obtain ⟨n1, n2, n3, n4, n5⟩ := nd_cons nd
    have hp' : p0 ∉ k :: (d.marks ++ r.marks) := hp
    have p1 : p0 ≠ k := fun e => hp' (by rw [e]; exact List.mem_cons_self)
    have p2 : p0 ∉ d.marks := fun q => hp' (List.mem_cons_of_mem _ (List.mem_append_left _ q))
    have p3 : p0 ∉ r.marks := fun q => hp' (List.mem_cons_of_mem _ (List.mem_append_right _ q))
    have n6 : ∀ a ∈ r.marks, a ∉ d.marks := fun a h1 h2 => n5 a h2 h1
    have hm' : m ∈ k :: (d.marks ++ r.marks) := hm
    rcases List.mem_cons.mp hm' with rfl | hm'
    · refine ⟨[], flat p0 r, u, p0, d, rfl, fun b0 => ⟨b0, List.mem_cons_self⟩, fun x hx => ?_, fun row' => ?_, ?_, fun x => ?_, fun r hr => absurd hr List.not_mem_nil⟩
      · rcases flat_par hx with e | e
        · rw [e]; exact ⟨p1, p2⟩
        · exact ⟨fun z => n2 (z ▸ e), n6 _ e⟩
      · show (m, u, p0) :: (flat m (if m = m then row' else withRow m row' d) ++ flat p0 (withRow m row' r)) = _
        rw [if_pos rfl, withRow_none n2]; rfl
      · show flat p0 (if m = m then takenOut m r else _) = _
        rw [if_pos rfl, takenOut_none n2]; rfl
      · show (m, (if m = m then x else u), p0) :: (flat m (worded m x d) ++ flat p0 (worded m x r)) = _
        rw [if_pos rfl, worded_none n1, worded_none n2]; rfl
    · rcases List.mem_append.mp hm' with hm' | hm'
      · have hk : k ≠ m := fun e => n1 (e ▸ hm')
        have hr : m ∉ r.marks := n5 _ hm'
        obtain ⟨pre, post, w, q, c, L⟩ := ihd (p0 := k) n3 n1 hm'
        have hcd : ∀ a ∈ c.marks, a ∈ d.marks := by
          obtain ⟨b, hb⟩ := L.sp 0
          exact sp_sub hb
        refine ⟨(k, u, p0) :: pre, post ++ flat p0 r, w, q, c, ?_, fun b0 => ?_, fun x hx => ?_, fun row' => ?_, ?_, fun x => ?_, fun x hx => ?_⟩
        · show (k, u, p0) :: (flat k d ++ flat p0 r) = _
          rw [L.eq]; simp
        · obtain ⟨b, hb⟩ := L.sp 0
          exact ⟨b, List.mem_cons_of_mem _ (List.mem_append_left _ hb)⟩
        · rcases List.mem_append.mp hx with hx | hx
          · exact L.out x hx
          · rcases flat_par hx with e | e
            · rw [e]; exact ⟨fun z => p2 (z ▸ hm'), fun z => p2 (hcd _ z)⟩
            · exact ⟨fun z => n6 _ e (z ▸ hm'), fun z => n6 _ e (hcd _ z)⟩
        · show (k, u, p0) :: (flat k (if k = m then row' else withRow m row' d) ++ flat p0 (withRow m row' r)) = _
          rw [if_neg hk, withRow_none hr, L.row]; simp
        · show flat p0 (if k = m then takenOut m r else .cons k u (takenOut m d) (takenOut m r)) = _
          rw [if_neg hk, takenOut_none hr]
          show (k, u, p0) :: (flat k (takenOut m d) ++ flat p0 r) = _
          rw [L.tk]; simp
        · show (k, (if k = m then x else u), p0) :: (flat k (worded m x d) ++ flat p0 (worded m x r)) = _
          rw [if_neg hk, worded_none hr, L.wd]; simp
        · rcases List.mem_cons.mp hx with rfl | hx
          · exact ⟨fun z => p2 ((show p0 = m from z) ▸ hm'), fun z => p2 (hcd _ z)⟩
          · exact L.ahead x hx
      · have hk : k ≠ m := fun e => n2 (e ▸ hm')
        have hd : m ∉ d.marks := n6 _ hm'
        obtain ⟨pre, post, w, q, c, L⟩ := ihr (p0 := p0) n4 p3 hm'
        have hcr : ∀ a ∈ c.marks, a ∈ r.marks := by
          obtain ⟨b, hb⟩ := L.sp 0
          exact sp_sub hb
        refine ⟨(k, u, p0) :: (flat k d ++ pre), post, w, q, c, ?_, fun b0 => ?_, L.out, fun row' => ?_, ?_, fun x => ?_, fun x hx => ?_⟩
        · show (k, u, p0) :: (flat k d ++ flat p0 r) = _
          rw [L.eq]; simp
        · obtain ⟨b, hb⟩ := L.sp k
          exact ⟨b, List.mem_cons_of_mem _ (List.mem_append_right _ hb)⟩
        · show (k, u, p0) :: (flat k (if k = m then row' else withRow m row' d) ++ flat p0 (withRow m row' r)) = _
          rw [if_neg hk, withRow_none hd, L.row]; simp
        · show flat p0 (if k = m then takenOut m r else .cons k u (takenOut m d) (takenOut m r)) = _
          rw [if_neg hk, takenOut_none hd]
          show (k, u, p0) :: (flat k d ++ flat p0 (takenOut m r)) = _
          rw [L.tk]; simp
        · show (k, (if k = m then x else u), p0) :: (flat k (worded m x d) ++ flat p0 (worded m x r)) = _
          rw [if_neg hk, worded_none hd, L.wd]; simp
        · rcases List.mem_cons.mp hx with rfl | hx
          · exact ⟨fun z => p3 ((show p0 = m from z) ▸ hm'), fun z => p3 (hcr _ z)⟩
          · rcases List.mem_append.mp hx with hx | hx
            · rcases flat_par hx with e | e
              · rw [e]; exact ⟨fun z => n2 (z ▸ hm'), fun z => n2 (hcr _ z)⟩
              · exact ⟨fun z => n5 _ e (z ▸ hm'), fun z => n5 _ e (hcr _ z)⟩
            · exact L.ahead x hx
/-- the row's own marks -/
def topM : Fo → List Int
  | .nil => []
  | .cons m _ _ r => m :: r.topM
theorem topM_sub : ∀ {t : Fo} {a : Int}, a ∈ t.topM → a ∈ t.marks
  | .nil, _, h => h
  | .cons m w c r, a, h => by
    rcases List.mem_cons.mp h with rfl | h
    · exact List.mem_cons_self
    · exact List.mem_cons_of_mem _ (List.mem_append_right _ (topM_sub h))
theorem atOf_none {b : Int} : ∀ {t : Fo} {k a : Nat}, b ∉ t.topM → t.atOf b k a = a
  | .nil, _, _, _ => rfl
  | .cons m w c r, k, a, h => by
    have h' : b ∉ m :: r.topM := h
    have h1 : m ≠ b := fun e => h' (by rw [e]; exact List.mem_cons_self)
    show r.atOf b (k + 1) (if m = b then k + 1 else a) = a
    rw [if_neg h1]
    exact atOf_none fun q => h' (List.mem_cons_of_mem _ q)
/-- a row's parent p: its mark is one of the row -/
theorem top_of {t : Fo} : ∀ {p : Int} {r : Row}, p ∉ t.marks → r ∈ flat p t → r.2.2 = p → r.1 ∈ t.topM := by
  induction t with
  | nil => intro p r _ h; exact absurd h List.not_mem_nil
  | cons m w c r0 _ ih =>
    intro p r hp hr e
    have hp' : p ∉ m :: (c.marks ++ r0.marks) := hp
    rcases List.mem_cons.mp hr with rfl | hr
    · exact List.mem_cons_self
    · rcases List.mem_append.mp hr with hr | hr
      · exfalso
        rcases flat_par hr with z | z
        · exact hp' (by rw [← e, z]; exact List.mem_cons_self)
        · exact hp' (by rw [← e]; exact List.mem_cons_of_mem _ (List.mem_append_left _ z))
      · exact List.mem_cons_of_mem _ (ih (fun q => hp' (List.mem_cons_of_mem _ (List.mem_append_right _ q))) hr e)
/-- put behind a spot of the row -/
theorem ins_behind {b : Int} {t : Fo} : ∀ {p : Int} {k a : Nat}, t.marks.Nodup → p ∉ t.marks → b ∈ t.topM → ∃ n pre post wb cb, t.atOf b k a = k + n ∧ flat p t = pre ++ (b, wb, p) :: (flat b cb ++ post) ∧ (∀ r ∈ post, r.2.2 ≠ b ∧ r.2.2 ∉ cb.marks) ∧ (∀ a ∈ cb.marks, a ∈ t.marks) ∧
    ∀ m w c, flat p (insAt m w c n t) = pre ++ (b, wb, p) :: (flat b cb ++ ((m, w, p) :: (flat m c ++ post))) := by
  induction t with
  | nil => intro p k a _ _ h; exact absurd h List.not_mem_nil
  | cons k0 u d r _ ih =>
    intro p k a nd hp hb
    obtain ⟨n1, n2, n3, n4, n5⟩ := nd_cons nd
    have hp' : p ∉ k0 :: (d.marks ++ r.marks) := hp
    have p1 : p ≠ k0 := fun e => hp' (by rw [e]; exact List.mem_cons_self)
    have p2 : p ∉ d.marks := fun q => hp' (List.mem_cons_of_mem _ (List.mem_append_left _ q))
    have p3 : p ∉ r.marks := fun q => hp' (List.mem_cons_of_mem _ (List.mem_append_right _ q))
    by_cases e : k0 = b
    · subst e
      refine ⟨1, [], flat p r, u, d, ?_, rfl, fun x hx => ?_, fun a ha => List.mem_cons_of_mem _ (List.mem_append_left _ ha), fun m w c => rfl⟩
      · show r.atOf k0 (k + 1) (if k0 = k0 then k + 1 else a) = k + 1
        rw [if_pos rfl]
        exact atOf_none fun q => n2 (topM_sub q)
      · rcases flat_par hx with z | z
        · rw [z]; exact ⟨p1, p2⟩
        · exact ⟨fun y => n2 (y ▸ z), fun y => n5 _ y z⟩
    · have hb' : b ∈ r.topM := by
        rcases List.mem_cons.mp hb with rfl | h
        · exact absurd rfl e
        · exact h
      obtain ⟨n, pre, post, wb, cb, h1, h2, h3, h4, h5⟩ := ih (p := p) (k := k + 1) (a := a) n4 p3 hb'
      refine ⟨n + 1, (k0, u, p) :: (flat k0 d ++ pre), post, wb, cb, ?_, ?_, h3, fun a ha => List.mem_cons_of_mem _ (List.mem_append_right _ (h4 a ha)), fun m w c => ?_⟩
      · show r.atOf b (k + 1) (if k0 = b then k + 1 else a) = k + (n + 1)
        rw [if_neg e, h1]; omega
      · show (k0, u, p) :: (flat k0 d ++ flat p r) = _
        rw [h2]; simp
      · show (k0, u, p) :: (flat k0 d ++ flat p (insAt m w c n r)) = _
        rw [h5]; simp
theorem Loc.at {t : Fo} {m q : Int} {pre post : List Row} {w : Str} {c : Fo} (nd : t.marks.Nodup) (L : Loc t 0 m pre post w q c) : ∃ b, t.at? m = some ⟨m, w, c, q, b⟩ := by
  obtain ⟨b, hb⟩ := L.sp 0
  exact ⟨b, at_of nd hb⟩
/-- where a block is put -/
inductive Put (rows : List Row) (blk : List Row) (p b : Int) : List Row → Prop
  | top : p = 0 → b = 0 → Put rows blk p b (blk ++ rows)
  | first {pre : List Row} {w : Str} {q : Int} {rest : List Row} : p ≠ 0 → b = 0 → rows = pre ++ (p, w, q) :: rest → Put rows blk p b (pre ++ (p, w, q) :: (blk ++ rest))
  | behind {pre post : List Row} {w : Str} {cb : Fo} : b ≠ 0 → rows = pre ++ (b, w, p) :: (flat b cb ++ post) → (∀ r ∈ post, r.2.2 ≠ b ∧ r.2.2 ∉ cb.marks) → Put rows blk p b (pre ++ (b, w, p) :: (flat b cb ++ (blk ++ post)))
theorem Put.perm {rows blk out : List Row} {p b : Int} (h : Put rows blk p b out) : out.Perm (blk ++ rows) := by
  cases h with
  | top _ _ => exact List.Perm.refl _
  | @first pre w q rest _ _ e =>
    subst e
    rw [List.perm_iff_count]; intro a
    simp only [List.count_append, List.count_cons]; omega
  | @behind pre post w cb _ e _ =>
    subst e
    rw [List.perm_iff_count]; intro a
    simp only [List.count_append, List.count_cons]; omega
theorem put_flat {t : Fo} (h : Ok t) {m p b : Int} {w : Str} {c : Fo} (hp : p = 0 ∨ p ∈ t.marks) (hb : b = 0 ∨ ∃ wb, (b, wb, p) ∈ flat 0 t) : Put (flat 0 t) ((m, w, p) :: flat m c) p b (flat 0 (putIn t m w c p b)) := by
  have z0 := zero_out h
  have bpos : ∀ {wb}, (b, wb, p) ∈ flat 0 t → b ≠ 0 := fun hm e => z0 (e ▸ flat_mark hm)
  unfold Fo.putIn
  by_cases hp0 : p = 0
  · rw [if_pos hp0]
    subst hp0
    by_cases hb0 : b = 0
    · have : b ∉ t.topM := fun q => z0 (hb0 ▸ topM_sub q)
      rw [atOf_none this]
      exact .top rfl hb0
    · obtain ⟨wb, hm⟩ := hb.resolve_left hb0
      have ht := top_of z0 hm rfl
      obtain ⟨n, pre, post, wb', cb, h1, h2, h3, _, h5⟩ := ins_behind (k := 0) (a := 0) h.nd z0 ht
      rw [h1, Nat.zero_add, h5]
      have := Put.behind (rows := flat 0 t) (blk := (m, w, 0) :: flat m c) (p := 0) hb0 h2 h3
      simpa using this
  · rw [if_neg hp0]
    have hpm := hp.resolve_left hp0
    obtain ⟨pre, post, wp, q, row, L⟩ := loc h.nd z0 hpm
    obtain ⟨b0, hat⟩ := L.at h.nd
    have hrow : t.rowAt p = row := rowAt_of hat hp0
    rw [hrow, L.row]
    obtain ⟨_, hx⟩ := L.sp 0
    have hsub := sp_sub hx
    have ndr : row.marks.Nodup ∧ p ∉ row.marks := by
      have e := congrArg (List.map (·.1)) L.eq
      rw [flat_marks, List.map_append, List.map_cons, List.map_append, flat_marks] at e
      have := h.nd
      rw [e] at this
      obtain ⟨_, h2, _⟩ := List.nodup_append.mp this
      obtain ⟨h3, h4⟩ := List.nodup_cons.mp h2
      exact ⟨(List.nodup_append.mp h4).1, fun q => h3 (List.mem_append_left _ q)⟩
    by_cases hb0 : b = 0
    · have : b ∉ row.topM := fun q => z0 (hb0 ▸ hsub _ (topM_sub q))
      rw [atOf_none this]
      have := Put.first (rows := flat 0 t) (blk := (m, w, p) :: flat m c) (b := b) hp0 hb0 L.eq
      simpa [insAt, flat] using this
    · obtain ⟨wb, hm⟩ := hb.resolve_left hb0
      have hbr : (b, wb, p) ∈ flat p row := by
        rw [L.eq] at hm
        rcases List.mem_append.mp hm with hm | hm
        · exact absurd rfl (L.ahead _ hm).1
        · rcases List.mem_cons.mp hm with e | hm
          · have e1 : p = q := congrArg (·.2.2) e
            have e2 : b = p := congrArg (·.1) e
            exfalso
            have hs := par_mem hx
            obtain ⟨i, hi⟩ := List.mem_iff_getElem?.mp hx
            have hmk : t.marks[i]? = some p := by rw [← sp_marks t 0 0, List.getElem?_map, hi]; rfl
            rcases par_ahead hi with z | ⟨j, hj, z⟩
            · exact hp0 (e1.trans z)
            · have z' : t.marks[j]? = some p := by rw [z]; exact congrArg some e1.symm
              obtain ⟨i1, i2⟩ := List.getElem?_eq_some_iff.mp hmk
              obtain ⟨j1, j2⟩ := List.getElem?_eq_some_iff.mp z'
              have := (List.getElem_inj h.nd).mp (i2.trans j2.symm)
              omega
          · rcases List.mem_append.mp hm with hm | hm
            · exact hm
            · exact absurd rfl (L.out _ hm).1
      have ht := top_of ndr.2 hbr rfl
      obtain ⟨n, pre', post', wb', cb, h1, h2, h3, h4, h5⟩ := ins_behind (k := 0) (a := 0) ndr.1 ndr.2 ht
      rw [h1, Nat.zero_add, h5]
      have hbm : b ∈ row.marks := topM_sub ht
      have := Put.behind (rows := flat 0 t) (blk := (m, w, p) :: flat m c) (p := p) (b := b) (pre := pre ++ (p, wp, q) :: pre') (post := post' ++ post) (w := wb') (cb := cb) hb0 (by rw [L.eq, h2]; simp) (fun r hr => by
        rcases List.mem_append.mp hr with hr | hr
        · exact h3 r hr
        · exact ⟨fun z => (L.out r hr).2 (z ▸ hbm), fun z => (L.out r hr).2 (h4 _ z)⟩)
      simpa using this
/-- rows determine whether a plot is one -/
theorem ok_of_rows {t : Fo} (p : Int) (nd : ((flat p t).map (·.1)).Nodup) (pos : ∀ m ∈ (flat p t).map (·.1), 0 < m) (wd : ∀ w ∈ (flat p t).map (·.2.1), wordOk w = true) : Ok t := by
  rw [flat_marks] at nd pos
  rw [flat_words] at wd
  exact ⟨nd, pos, wd⟩
theorem Ok.rows {t : Fo} (h : Ok t) : ((flat 0 t).map (·.1)).Nodup ∧ (∀ m ∈ (flat 0 t).map (·.1), 0 < m) ∧ (∀ w ∈ (flat 0 t).map (·.2.1), wordOk w = true) := by
  rw [flat_marks, flat_words]; exact ⟨h.nd, h.pos, h.wd⟩
theorem Loc.block {t : Fo} {m q : Int} {pre post : List Row} {w : Str} {c : Fo} (L : Loc t 0 m pre post w q c) : (flat 0 t).Perm ((m, w, q) :: flat m c ++ (pre ++ post)) := by
  rw [L.eq, List.perm_iff_count]; intro a
  simp only [List.count_append, List.count_cons]; omega
theorem takenOut_ok {t : Fo} (h : Ok t) (m : Int) : Ok (takenOut m t) := by
  by_cases hm : m ∈ t.marks
  · obtain ⟨pre, post, w, q, c, L⟩ := loc h.nd (zero_out h) hm
    obtain ⟨h1, h2, h3⟩ := h.rows
    have hs : (pre ++ post).Sublist (flat 0 t) := by
      rw [L.eq]
      refine List.Sublist.append (List.Sublist.refl _) ?_
      exact ((List.sublist_append_right _ _).trans (List.sublist_cons_self _ _))
    refine ok_of_rows 0 ?_ ?_ ?_ <;> rw [L.tk]
    · exact h1.sublist (hs.map _)
    · exact fun a ha => h2 a ((hs.map _).subset ha)
    · exact fun a ha => h3 a ((hs.map _).subset ha)
  · rw [takenOut_none hm]; exact h
theorem par_row {t : Fo} (h : Ok t) {b p : Int} (hb : b ∈ t.marks) (e : t.par b = p) : ∃ wb, (b, wb, p) ∈ flat 0 t := by
  obtain ⟨x, hx, hxm, e2⟩ := at_some hb
  unfold par at e
  rw [hx] at e
  refine ⟨x.w, ?_⟩
  rw [flat_sp t 0 0]
  exact List.mem_map.mpr ⟨x, hxm, by rw [e2, ← e]⟩
theorem row_par {t : Fo} (h : Ok t) {b p : Int} {wb : Str} (hb : (b, wb, p) ∈ flat 0 t) : t.par b = p := by
  rw [flat_sp t 0 0] at hb
  obtain ⟨x, hx, e⟩ := List.mem_map.mp hb
  have e1 : x.m = b := congrArg (·.1) e
  have e2 : x.p = p := congrArg (·.2.2) e
  unfold par
  rw [← e1, at_of h.nd hx, ← e2]
theorem badPlace_ok {t : Fo} (h : Ok t) {m p b : Int} (hb : badPlace t m p b = false) : b = 0 ∨ (b ≠ m ∧ ∃ wb, (b, wb, p) ∈ flat 0 t) := by
  unfold badPlace at hb
  by_cases h0 : b = 0
  · exact .inl h0
  · have h1 : b ≠ m := fun e => by simp [h0, e] at hb; exact h0 (e.trans hb)
    have h2 : b ∈ t.marks := by
      by_cases hm : b ∈ t.marks
      · exact hm
      · simp [h0, h1, hm] at hb
    have h3 : t.par b = p := by simpa [h0, h1, h2] using hb
    exact .inr ⟨h1, par_row h h2 h3⟩
/-- the place of an addition, of a move -/
theorem add_place {t : Fo} (h : Ok t) {m p b : Int} {w : Str} (hr : reasonAt t (.add m w p b) = none) : m ∉ t.marks ∧ (p = 0 ∨ p ∈ t.marks) ∧ (b = 0 ∨ (b ≠ m ∧ ∃ wb, (b, wb, p) ∈ flat 0 t)) := by
  rw [show reasonAt t (.add m w p b) = if m ∈ t.marks then some ("mark" : Str) else if p ≠ 0 ∧ p ∉ t.marks then some ("parent" : Str) else if badPlace t m p b = true then some ("behind" : Str) else none from rfl] at hr
  by_cases h1 : m ∈ t.marks
  · rw [if_pos h1] at hr; cases hr
  rw [if_neg h1] at hr
  by_cases h2 : p ≠ 0 ∧ p ∉ t.marks
  · rw [if_pos h2] at hr; cases hr
  rw [if_neg h2] at hr
  by_cases h3 : badPlace t m p b = true
  · rw [if_pos h3] at hr; cases hr
  refine ⟨h1, ?_, badPlace_ok h (by simpa using h3)⟩
  by_cases z : p = 0
  · exact .inl z
  · by_cases y : p ∈ t.marks
    · exact .inr y
    · exact absurd ⟨z, y⟩ h2
theorem move_place {t : Fo} (h : Ok t) {m p b : Int} (hr : reasonAt t (.move m p b) = none) : m ∈ t.marks ∧ (p = 0 ∨ p ∈ t.marks) ∧ t.insd p m = false ∧ (b = 0 ∨ (b ≠ m ∧ ∃ wb, (b, wb, p) ∈ flat 0 t)) := by
  rw [show reasonAt t (.move m p b) = if m ∉ t.marks then some ("mark" : Str) else if p ≠ 0 ∧ p ∉ t.marks then some ("parent" : Str) else if t.insd p m = true then some ("inside" : Str) else if badPlace t m p b = true then some ("behind" : Str) else none from rfl] at hr
  by_cases h1 : m ∉ t.marks
  · rw [if_pos h1] at hr; cases hr
  rw [if_neg h1] at hr
  by_cases h2 : p ≠ 0 ∧ p ∉ t.marks
  · rw [if_pos h2] at hr; cases hr
  rw [if_neg h2] at hr
  by_cases h4 : t.insd p m = true
  · rw [if_pos h4] at hr; cases hr
  rw [if_neg h4] at hr
  by_cases h3 : badPlace t m p b = true
  · rw [if_pos h3] at hr; cases hr
  refine ⟨by simpa using h1, ?_, by simpa using h4, badPlace_ok h (by simpa using h3)⟩
  by_cases z : p = 0
  · exact .inl z
  · by_cases y : p ∈ t.marks
    · exact .inr y
    · exact absurd ⟨z, y⟩ h2
theorem drop_place {t : Fo} (h : Ok t) {m : Int} (hr : reasonAt t (.drop m) = none) : m ∈ t.marks ∧ t.rowAt m = .nil := by
  rw [show reasonAt t (.drop m) = if m ∉ t.marks then some ("mark" : Str) else if (t.rowAt m).enc.length > 0 then some ("children" : Str) else none from rfl] at hr
  by_cases h1 : m ∉ t.marks
  · rw [if_pos h1] at hr; cases hr
  rw [if_neg h1] at hr
  by_cases h2 : (t.rowAt m).enc.length > 0
  · rw [if_pos h2] at hr; cases hr
  refine ⟨by simpa using h1, enc_nil (List.eq_nil_of_length_eq_zero (by omega))⟩
theorem word_place {t : Fo} {m : Int} {w : Str} (hr : reasonAt t (.word m w) = none) : m ∈ t.marks := by
  rw [show reasonAt t (.word m w) = if m ∉ t.marks then some ("mark" : Str) else none from rfl] at hr
  by_cases h1 : m ∉ t.marks
  · rw [if_pos h1] at hr; cases hr
  · simpa using h1
/-- a move's plot without the moved block still has the place -/
theorem move_rest {t : Fo} (h : Ok t) {m p b q : Int} {pre post : List Row} {w : Str} {c : Fo} (L : Loc t 0 m pre post w q c) (hm : m ∈ t.marks) (hp : p = 0 ∨ p ∈ t.marks) (hi : t.insd p m = false) (hb : b = 0 ∨ (b ≠ m ∧ ∃ wb, (b, wb, p) ∈ flat 0 t)) :
    (p = 0 ∨ p ∈ (takenOut m t).marks) ∧ (b = 0 ∨ ∃ wb, (b, wb, p) ∈ flat 0 (takenOut m t)) := by
  have h0 : m ≠ 0 := fun e => zero_out h (e ▸ hm)
  obtain ⟨b0, hat⟩ := L.at h.nd
  unfold insd at hi
  rw [rowAt_of hat h0] at hi
  have hpm : p ≠ m := fun e => by simp [e] at hi
  have hpc : p ∉ c.marks := fun e => by simp [e] at hi
  have cut : ∀ r ∈ flat 0 t, r.1 ≠ m → r.1 ∉ c.marks → r ∈ pre ++ post := fun r hr h1 h2 => by
    rw [L.eq] at hr
    rcases List.mem_append.mp hr with hr | hr
    · exact List.mem_append_left _ hr
    · rcases List.mem_cons.mp hr with rfl | hr
      · exact absurd rfl h1
      · rcases List.mem_append.mp hr with hr | hr
        · exact absurd (flat_mark hr) h2
        · exact List.mem_append_right _ hr
  refine ⟨hp.imp id fun hp => ?_, hb.imp id fun ⟨hbm, wb, hb⟩ => ⟨wb, ?_⟩⟩
  · rw [← flat_marks t 0] at hp
    obtain ⟨r, hr, e⟩ := List.mem_map.mp hp
    rw [← flat_marks _ 0, L.tk]
    exact List.mem_map.mpr ⟨r, cut r hr (by rw [e]; exact hpm) (by rw [e]; exact hpc), e⟩
  · rw [L.tk]
    refine cut _ hb hbm fun hc => ?_
    obtain ⟨_, hx⟩ := L.sp 0
    rw [flat_sp t 0 0] at hb
    obtain ⟨s, hs, e⟩ := List.mem_map.mp hb
    have e1 : s.m = b := congrArg (·.1) e
    have e2 : s.p = p := congrArg (·.2.2) e
    have := (below_iff h.nd (zero_out h) hx hs).mp (by rw [e1]; exact hc)
    rw [e2] at this
    exact this.elim hpm hpc
theorem ok_put {rows blk : List Row} {p b : Int} {t : Fo} (hP : Put rows blk p b (flat 0 t)) (nd : ((blk ++ rows).map (·.1)).Nodup) (pos : ∀ m ∈ (blk ++ rows).map (·.1), 0 < m) (wd : ∀ w ∈ (blk ++ rows).map (·.2.1), wordOk w = true) : Ok t ∧ t.size = blk.length + rows.length := by
  have pm := hP.perm
  refine ⟨ok_of_rows 0 ((pm.map _).nodup_iff.mpr nd) (fun m hm => pos m ((pm.map _).subset hm)) (fun w hw => wd w ((pm.map _).subset hw)), ?_⟩
  rw [← flat_length t 0, pm.length_eq, List.length_append]
theorem behind_ok {t : Fo} (h : Ok t) {x : Deed} (hg : x.good = true) (hr : reasonAt t x = none) : Ok (behindT t x) ∧ (behindT t x).size ≤ t.size + 1 := by
  obtain ⟨r1, r2, r3⟩ := h.rows
  cases x with
  | add m w p b =>
    obtain ⟨hm, hp, hb⟩ := add_place h hr
    have hg' : (decide (0 < m) && (wordOk w && (decide (0 ≤ p) && decide (0 ≤ b)))) = true := hg
    simp only [Bool.and_eq_true, decide_eq_true_eq] at hg'
    have hP := put_flat h (m := m) (w := w) (c := .nil) hp (hb.imp id fun z => z.2)
    obtain ⟨o1, o2⟩ := ok_put hP (by
        show (m :: (flat 0 t).map (·.1)).Nodup
        exact List.nodup_cons.mpr ⟨by rw [flat_marks]; exact hm, r1⟩)
      (fun a ha => by
        rcases List.mem_cons.mp (show a ∈ m :: (flat 0 t).map (·.1) from ha) with rfl | ha
        · exact hg'.1
        · exact r2 a ha)
      (fun a ha => by
        rcases List.mem_cons.mp (show a ∈ w :: (flat 0 t).map (·.2.1) from ha) with rfl | ha
        · exact hg'.2.1
        · exact r3 a ha)
    refine ⟨o1, ?_⟩
    show (Fo.putIn t m w .nil p b).size ≤ _
    rw [o2, flat_length]
    show 1 + t.size ≤ _
    omega
  | drop m => exact ⟨takenOut_ok h m, Nat.le_trans (takenOut_fit' m t) (Nat.le_succ _)⟩
  | move m p b =>
    obtain ⟨hm, hp, hi, hb⟩ := move_place h hr
    obtain ⟨pre, post, w, q, c, L⟩ := loc h.nd (zero_out h) hm
    obtain ⟨b0, hat⟩ := L.at h.nd
    obtain ⟨hp', hb'⟩ := move_rest h L hm hp hi hb
    have ho := takenOut_ok h m
    have hP := put_flat ho (m := m) (w := w) (c := c) hp' hb'
    have e : behindT t (.move m p b) = (t.takenOut m).putIn m w c p b := by
      show (match t.at? m with
        | some s => (t.takenOut m).putIn s.m s.w s.c p b
        | none => t) = _
      rw [hat]
    rw [e]
    rw [L.tk] at hP
    have blk := L.block
    have blk' : ∀ {β : Type} (f : Row → β), (∀ a : Row, a = (m, w, p) → f a = f (m, w, q)) → (((m, w, p) :: flat m c ++ (pre ++ post)).map f).Perm ((flat 0 t).map f) := fun f hf => by
      have := blk.map f
      refine List.Perm.trans ?_ this.symm
      simp only [List.cons_append, List.map_cons]
      rw [hf _ rfl]
    obtain ⟨o1, o2⟩ := ok_put hP ((blk' (·.1) fun a e => by rw [e]).nodup_iff.mpr r1) (fun a ha => r2 a ((blk' (·.1) fun a e => by rw [e]).subset ha)) (fun a ha => r3 a ((blk' (·.2.1) fun a e => by rw [e]).subset ha))
    refine ⟨o1, ?_⟩
    rw [o2]
    have := blk.length_eq
    rw [flat_length] at this
    simp only [List.length_cons, List.length_append] at this ⊢
    omega
  | word m x =>
    have hm := word_place hr
    have hg' : (decide (0 < m) && wordOk x) = true := hg
    simp only [Bool.and_eq_true, decide_eq_true_eq] at hg'
    obtain ⟨pre, post, w, q, c, L⟩ := loc h.nd (zero_out h) hm
    have e : behindT t (.word m x) = worded m x t := rfl
    rw [e]
    have e1 : (flat 0 (worded m x t)).map (·.1) = (flat 0 t).map (·.1) := by rw [L.wd, L.eq]; simp
    refine ⟨ok_of_rows 0 (by rw [e1]; exact r1) (by rw [e1]; exact r2) (fun a ha => ?_), ?_⟩
    · rw [L.wd] at ha
      rw [L.eq] at r3
      simp only [List.map_append, List.map_cons, List.mem_append, List.mem_cons] at ha r3
      rcases ha with ha | rfl | ha | ha
      · exact r3 a (.inl ha)
      · exact hg'.2
      · exact r3 a (.inr (.inr (.inl ha)))
      · exact r3 a (.inr (.inr (.inr ha)))
    · rw [← flat_length _ 0, ← flat_length t 0, ← List.length_map (f := (·.1)), e1, List.length_map]
      exact Nat.le_succ _
where
  takenOut_fit' (m : Int) (t : Fo) : (takenOut m t).size ≤ t.size := by
    induction t with
    | nil => exact Nat.le_refl _
    | cons k w c r ihc ihr =>
      have e : takenOut m (.cons k w c r) = if k = m then takenOut m r else .cons k w (takenOut m c) (takenOut m r) := rfl
      rw [e]
      have e2 : (Fo.cons k w c r).size = 1 + (c.size + r.size) := rfl
      split
      · omega
      · have e4 : (Fo.cons k w (takenOut m c) (takenOut m r)).size = 1 + ((takenOut m c).size + (takenOut m r).size) := rfl
        omega
theorem dep_le (t : Fo) : t.dep ≤ t.size := by
  induction t with
  | nil => exact Nat.le_refl _
  | cons m w c r ihc ihr =>
    show max (c.dep + 1) r.dep ≤ 1 + (c.size + r.size)
    omega
end Fo
end G
set_option Elab.async false
set_option linter.all false
set_option maxRecDepth 100000
set_option maxHeartbeats 4000000
namespace G
open PySem L2 Fo
/-! ### scripts: errors may leave -/
structure Errs (P : Program) (K : PySem.W.Frag) (mg : Str → Option Value) (cS cR : Addr) : Prop where
  s : ErrC P K mg "InvalidScript" m_InvalidScript "InvalidScript.__init__" ["value"] cS
  r : ErrC P K mg "Refusal" m_Refusal "Refusal.__init__" ["deed", "reason"] cR
  ss : PySem.W.exmOne K (.ref cS) (.ref cS) = some true
  rs : PySem.W.exmOne K (.ref cR) (.ref cS) = some false
  rr : PySem.W.exmOne K (.ref cR) (.ref cR) = some true
section
variable {F : Fm} {M : List (Addr × OC)} {δ : List SD} {σ : L2.St} {H H0 : Hp} {O : Addr → Bool} {ta : TA} {d d2 : PyData} {ds : List PyData} {C : Addr} {f g : Str} {Q Q0 : VK} {E : XK}
theorem st_exc1 (ha : Ea F M δ ta [d]) (s : S F M δ σ H) (q : OutOk O H0 Q0 E (.exc C [(f, d)])) (h0 : F.H0 = H0 := by rfl) (hP : ∀ a, F.P a = false := by intro _; rfl) (hO : F.O0 = O := by rfl) : tMkO C (spI1 C f) [] ta σ H fun cls d H' => E cls d H' :=
  tx_mk1 ha s fun dd H' v s' hd r => q dd H' [v] (s'.pureSame h0 hP) hd (.cons (r.same (shr_mono fun a h => s'.osub a (by rw [hO]; exact h))) .nil)
theorem st_exc2 (ha : Ea F M δ ta [d, d2]) (s : S F M δ σ H) (q : OutOk O H0 Q0 E (.exc C [(g, d2), (f, d)])) (h0 : F.H0 = H0 := by rfl) (hP : ∀ a, F.P a = false := by intro _; rfl) (hO : F.O0 = O := by rfl) : tMkO C (spI2 C f g) [] ta σ H fun cls d H' => E cls d H' :=
  tx_mk2 ha s fun dd H' v u s' hd r1 r2 => q dd H' [u, v] (s'.pureSame h0 hP) hd (.cons (r2.same (shr_mono fun a h => s'.osub a (by rw [hO]; exact h))) (.cons (r1.same (shr_mono fun a h => s'.osub a (by rw [hO]; exact h))) .nil))
/-- a call raises, and so does the def -/
theorem tx_pass {R : List PyData → Out → Prop} {fs : List (Str × PyData)} (ha : Ea F M δ ta ds) (hR : R ds (.exc C fs)) (s : S F M δ σ H) (q : OutOk O H0 Q0 E (.exc C fs)) (h0 : F.H0 = H0 := by rfl) (hP : ∀ a, F.P a = false := by intro _; rfl) (hO : F.O0 = O := by rfl) : tCall (SpX R) [] E ta σ H Q :=
  tx_call ha hR s fun dd H' vs s' hd r => q dd H' vs (s'.pureSame h0 hP) hd (r.same (shr_mono fun a h => s'.osub a (by rw [hO]; exact h)))
end
def badOut (cS : Addr) (x : Item) : Out := .exc cS [("value", x.enc)]
def needOut (cS : Addr) (x : Item) : Out := if x.good = true then .ret .none else badOut cS x
def refOut (cR : Addr) (x : Deed) (why : Str) : Out := .exc cR [("reason", .str why), ("deed", x.enc)]
def deedOut (cR : Addr) (t : Fo) (x : Deed) : Out := match reasonAt t x with
  | none => .ret (.tuple (behindT t x).enc)
  | some why => refOut cR x why
def scriptOut (cS : Addr) (xs : List Item) : Out := match xs.find? fun x => !x.good with
  | none => .ret .none
  | some x => badOut cS x
def runD (cR : Addr) : Fo → List Deed → Out
  | t, [] => .ret (.tuple t.enc)
  | t, x :: r => match reasonAt t x with
    | none => runD cR (behindT t x) r
    | some why => refOut cR x why
def deedsOf (xs : List Item) : List Deed := xs.filterMap fun x => match x with
  | .d y => some y
  | .j _ => none
def runO (cS cR : Addr) (t : Fo) (xs : List Item) : Out := match xs.find? fun x => !x.good with
  | some x => badOut cS x
  | none => runD cR t (deedsOf xs)
theorem all_good : ∀ {xs : List Item}, (xs.find? fun x => !x.good) = none → xs = (deedsOf xs).map Item.d ∧ ∀ y ∈ deedsOf xs, y.good = true
  | [], _ => ⟨rfl, fun y h => absurd h List.not_mem_nil⟩
  | x :: xs, h => by
    have hx : x.good = true := by
      cases q : x.good with
      | true => rfl
      | false => rw [List.find?_cons_of_pos (by rw [q]; rfl)] at h; cases h
    rw [List.find?_cons_of_neg (by rw [hx]; exact Bool.false_ne_true)] at h
    obtain ⟨h1, h2⟩ := all_good h
    cases x with
    | j n => cases hx
    | d y =>
      have e : deedsOf (.d y :: xs) = y :: deedsOf xs := rfl
      rw [e]
      refine ⟨by rw [List.map_cons, ← h1], fun z hz => ?_⟩
      rcases List.mem_cons.mp hz with rfl | hz
      · exact hx
      · exact h2 z hz
def Fits (t : Fo) (n : Nat) : Prop := t.size + n < 20
theorem Fits.fit {t : Fo} {n : Nat} (h : Fits t n) : Fit t := ⟨Nat.lt_of_le_of_lt (dep_le t) (by unfold Fits at h; omega), by unfold Fits at h; omega⟩
def R_need_deed (cS : Addr) (ds : List PyData) (o : Out) : Prop := ∃ x : Item, ds = [x.enc] ∧ x.short ∧ o = needOut cS x
def R_refusal_of (ds : List PyData) (o : Out) : Prop := ∃ (t : Fo) (x : Deed), ds = [.tuple t.enc, x.enc] ∧ Fit t ∧ Ok t ∧ x.good = true ∧ o = .ret (reasonE (reasonAt t x))
def R_run_deed (cR : Addr) (ds : List PyData) (o : Out) : Prop := ∃ (t : Fo) (x : Deed), ds = [.tuple t.enc, x.enc] ∧ Fit t ∧ Ok t ∧ x.good = true ∧ o = deedOut cR t x
def R_need_script (cS : Addr) (ds : List PyData) (o : Out) : Prop := ∃ (d : PyData) (xs : List Item), ds = [d] ∧ seqOf d (xs.map Item.enc) ∧ (∀ x ∈ xs, x.short) ∧ o = scriptOut cS xs
def R_run (cS cR : Addr) (ds : List PyData) (o : Out) : Prop := ∃ (t : Fo) (d : PyData) (xs : List Item), ds = [.tuple t.enc, d] ∧ seqOf d (xs.map Item.enc) ∧ (∀ x ∈ xs, x.short) ∧ Ok t ∧ Fits t xs.length ∧ o = runO cS cR t xs
theorem good_short {x : Deed} (h : x.good = true) : x.short := by
  have wl : ∀ {w : Str}, wordOk w = true → w.length ≤ 1000 := fun {w} h => by
    unfold wordOk at h
    simp only [Bool.and_eq_true, decide_eq_true_eq] at h
    have := h.1.2
    omega
  cases x with
  | add m w p b =>
    have h' : (decide (0 < m) && (wordOk w && (decide (0 ≤ p) && decide (0 ≤ b)))) = true := h
    simp only [Bool.and_eq_true] at h'
    exact wl h'.2.1
  | drop m => trivial
  | move m p b => trivial
  | word m w =>
    have h' : (decide (0 < m) && wordOk w) = true := h
    simp only [Bool.and_eq_true] at h'
    exact wl h'.2
section
variable {P : Program} {w : World} {K : PySem.W.Frag} {mg : Str → Option Value} {base : Heap} {cS cR : Addr}
theorem sc_need_deed : FnScope ["value"] ["value"] (defScope s_need_deed) := ⟨rfl, rfl, rfl, by decide +kernel, rfl, by decide +kernel, by decide +kernel⟩
theorem c_need_deed (T : Txt K mg) (XE : Errs P K mg cS cR) : Cl P w K mg base (L2.CX P w) 4 "need_deed" ["value"] (SpX (R_need_deed cS)) := by
  refine spx_ok T.d_need_deed sc_need_deed (fun ds d h => by obtain ⟨x, rfl, _⟩ := h; rfl) (fun f cdv A outer s H E hr => ⟨_, (pss_one (ps_if (pt_not (pt_val (pe_k (c_is_deed T) hr (by decide) rfl pass0 (pa_cons (pv 0) pa_nil)))) (pss_one (ps_raise rfl (takes_of rfl rfl rfl rfl) (pmk_InvalidScript XE.s hr (by decide) rfl (pa_cons (pv 0) pa_nil)))) pss_nil)), ?_⟩)
  rintro O ds o σ ⟨x, rfl, hs, rfl⟩ s Q q
  refine st_if (et_not (et_B (ev_call (ea_cons (ev_var rfl) ea_nil) ⟨x, rfl, hs, rfl⟩))) s (fun hb H1 s1 => ?_) fun hb H1 s1 => ?_
  · have hg : x.good = false := by simpa using hb
    unfold needOut at q
    rw [if_neg (by rw [hg]; exact Bool.false_ne_true)] at q
    exact st_exc1 (ea_cons (ev_var rfl) ea_nil) s1 q
  · have hg : x.good = true := by simpa using hb
    unfold needOut at q
    rw [if_pos hg] at q
    exact q .non H1 (s1.pureSame rfl fun _ => rfl) .non
theorem sc_refusal_of : FnScope ["t", "deed"] ["t", "deed"] (defScope s_refusal_of) := ⟨rfl, rfl, rfl, by decide +kernel, rfl, by decide +kernel, by decide +kernel⟩
theorem c_refusal_of (T : Txt K mg) (XE : Errs P K mg cS cR) : Cl P w K mg base (L2.CX P w) 25 "refusal_of" ["t", "deed"] (SpX R_refusal_of) := by
  refine spx_ok T.d_refusal_of sc_refusal_of (fun ds d h => by obtain ⟨t, x, rfl, _⟩ := h; rfl) (fun f cdv A outer s H E hr => ⟨_, (pss_cons (ps_expr (pe_k (c_need_plot T) hr (by decide) rfl pass0 (pa_cons (pv 0) pa_nil)))
    (pss_cons (ps_expr (pe_k (c_need_deed T XE) hr (by decide) rfl (passes_call (takes_of rfl rfl rfl rfl) (fun _ _ _ _ z => z)) (pa_cons (pv 1) pa_nil)))
    (pss_one (ps_ret (pe_k (c_reason_at T) hr (by decide) rfl pass0 (pa_cons (pv 0) (pa_cons (pv 1) pa_nil))))))), ?_⟩)
  rintro O ds o σ ⟨t, x, rfl, ht, hok, hg, rfl⟩ s Q q
  refine sq_drop (ev_call (ea_cons (ev_var rfl) ea_nil) ⟨t, rfl, ht, hok, rfl⟩) s fun H1 s1 => ?_
  refine sq_drop (ev_callX (d := .none) (ea_cons (ev_var rfl) ea_nil) ⟨.d x, rfl, good_short hg, ?_⟩) s1 fun H2 s2 => ?_
  · unfold needOut; rw [if_pos (show (Item.d x).good = true from hg)]
  exact st_retM (ev_call (ea_cons (ev_var rfl) (ea_cons (ev_var rfl) ea_nil)) ⟨t, x, rfl, ht, hok, rfl⟩) s2 q
theorem sc_run_deed : FnScope ["t", "deed", "reason"] ["t", "deed"] (defScope s_run_deed) := ⟨rfl, rfl, rfl, by decide +kernel, rfl, by decide +kernel, by decide +kernel⟩
theorem c_run_deed (T : Txt K mg) (XE : Errs P K mg cS cR) : Cl P w K mg base (L2.CX P w) 26 "run_deed" ["t", "deed"] (SpX (R_run_deed cR)) := by
  refine spx_ok T.d_run_deed sc_run_deed (fun ds d h => by obtain ⟨t, x, rfl, _⟩ := h; rfl) (fun f cdv A outer s H E hr => ⟨_, (pss_cons (ps_set (i := 2) sc_run_deed.nd rfl (Or.inl rfl) (pe_k (c_refusal_of T XE) hr (by decide) rfl (passes_call (takes_of rfl rfl rfl rfl) (fun _ _ _ _ z => z)) (pa_cons (pv 0) (pa_cons (pv 1) pa_nil))))
    (pss_cons (ps_if (pt_cmpR op_notN (pv 2) pe_non (nomark _)) (pss_one (ps_raise rfl (takes_of rfl rfl rfl rfl) (pmk_Refusal XE.r hr (by decide) rfl (pa_cons (pv 1) (pa_cons (pv 2) pa_nil))))) pss_nil)
    (pss_one (ps_ret (pe_k (c_plot_behind_deed T) hr (by decide) rfl pass0 (pa_cons (pv 0) (pa_cons (pv 1) pa_nil))))))), ?_⟩)
  rintro O ds o σ ⟨t, x, rfl, ht, hok, hg, rfl⟩ s Q q
  refine sq_asg (ev_callX (ea_cons (ev_var rfl) (ea_cons (ev_var rfl) ea_nil)) ⟨t, x, rfl, ht, hok, hg, rfl⟩) s fun σ1 H1 s1 => ?_
  unfold deedOut at q
  cases hre : reasonAt t x with
  | none =>
    rw [hre] at q s1
    refine sq_noN (et_is (et_test (ev_notN (ev_var rfl))) (by rfl)) s1 fun H2 s2 => ?_
    exact st_retM (ev_call (ea_cons (ev_var rfl) (ea_cons (ev_var rfl) ea_nil)) ⟨t, x, rfl, ht, hok, hre, rfl⟩) s2 q
  | some why =>
    rw [hre] at q s1
    refine sq_yesN (et_is (et_test (ev_notN (ev_var rfl))) (by rfl)) s1 fun H2 s2 => ?_
    exact st_exc2 (ea_cons (ev_var rfl) (ea_cons (ev_var rfl) ea_nil)) s2 q
theorem sc_need_script : FnScope ["script", "deed"] ["script"] (defScope s_need_script) := ⟨rfl, rfl, rfl, by decide +kernel, rfl, by decide +kernel, by decide +kernel⟩
theorem c_need_script (T : Txt K mg) (XE : Errs P K mg cS cR) : Cl P w K mg base (L2.CX P w) 5 "need_script" ["script"] (SpX (R_need_script cS)) := by
  refine spx_ok T.d_need_script sc_need_script (fun ds d h => by obtain ⟨d, xs, rfl, _⟩ := h; rfl) (fun f cdv A outer s H E hr => ⟨_, (pss_one (ps_for (passes_of rfl) rfl (pi_seq (pv 0)) (pg_name (i := 1) sc_need_script.nd rfl (Or.inl rfl))
    (pss_one (ps_expr (pe_k (c_need_deed T XE) hr (by decide) rfl (passes_call (takes_of rfl rfl rfl rfl) (fun _ _ _ _ z => z)) (pa_cons (pv 1) pa_nil)))))), ?_⟩)
  rintro O ds o σ ⟨d, xs, rfl, hd, hs, rfl⟩ s Q q
  refine st_for (α := List Item) (fun _ _ => []) (fun _ _ => [.dat d, .any]) (fun i a => xs.drop i = a ∧ (xs.find? fun x => !x.good) = a.find? fun x => !x.good) xs (ei_seq (ev_var rfl) hd) s ⟨rfl, rfl⟩ rfl (Le.refl _) ?_ ?_
  · rintro B i rest e σ H v he ⟨h1, h2⟩ s r
    rw [List.getElem?_map] at he
    cases hx : xs[i]? with
    | none => rw [hx] at he; cases he
    | some x =>
      rw [hx] at he
      cases he
      cases rest with
      | nil => exact absurd h1 (drop_some hx)
      | cons y rest =>
        obtain ⟨rfl, h3⟩ := drop_step hx h1
        have hsh := hs x (List.mem_of_getElem? hx)
        refine tg_use tg_name s r fun σ1 s1 => ?_
        cases hg : x.good with
        | true =>
          refine st_drop (ev_callX (d := .none) (ea_cons (ev_var rfl) ea_nil) ⟨x, rfl, hsh, ?_⟩) s1 fun H2 s2 => ⟨rest, ⟨h3, ?_⟩, s2.le (.eq (.any .nil))⟩
          · unfold needOut; rw [if_pos hg]
          · rw [h2, List.find?_cons_of_neg (by rw [hg]; exact Bool.false_ne_true)]
        | false =>
          unfold scriptOut at q
          rw [h2, List.find?_cons_of_pos (by rw [hg]; rfl)] at q
          refine tx_pass (ea_cons (ev_var rfl) ea_nil) (R := R_need_deed cS) ⟨x, rfl, hsh, ?_⟩ s1 q
          unfold needOut; rw [if_neg (by rw [hg]; exact Bool.false_ne_true)]; rfl
  · rintro rest σ H ⟨h1, h2⟩ s
    rw [List.length_map] at h1
    have := drop_all h1
    subst this
    unfold scriptOut at q
    rw [h2] at q
    exact q .non H (s.pureSame rfl fun _ => rfl) .non
theorem sc_run : FnScope ["t", "script", "plot", "deed"] ["t", "script"] (defScope s_run) := ⟨rfl, rfl, rfl, by decide +kernel, rfl, by decide +kernel, by decide +kernel⟩
theorem c_run (T : Txt K mg) (XE : Errs P K mg cS cR) : Cl P w K mg base (L2.CX P w) 27 "run" ["t", "script"] (SpX (R_run cS cR)) := by
  refine spx_ok T.d_run sc_run (fun ds d h => by obtain ⟨t, d, xs, rfl, _⟩ := h; rfl) (fun f cdv A outer s H E hr => ⟨_, (pss_cons (ps_expr (pe_k (c_need_plot T) hr (by decide) rfl pass0 (pa_cons (pv 0) pa_nil)))
    (pss_cons (ps_expr (pe_k (c_need_script T XE) hr (by decide) rfl (passes_call (takes_of rfl rfl rfl rfl) (fun _ _ _ _ z => z)) (pa_cons (pv 1) pa_nil)))
    (pss_cons (ps_set (i := 2) sc_run.nd rfl (Or.inl rfl) (pv 0))
    (pss_cons (ps_for (passes_of rfl) rfl (pi_seq (pv 1)) (pg_name (i := 3) sc_run.nd rfl (Or.inl rfl))
    (pss_one (ps_set (i := 2) sc_run.nd rfl (Or.inl rfl) (pe_k (c_run_deed T XE) hr (by decide) rfl (passes_call (takes_of rfl rfl rfl rfl) (fun _ _ _ _ z => z)) (pa_cons (pv 2) (pa_cons (pv 3) pa_nil))))))
    (pss_one (ps_ret (pv 2))))))), ?_⟩)
  rintro O ds o σ ⟨t, d, xs, rfl, hd, hs, hok, hfit, rfl⟩ s Q q
  refine sq_drop (ev_call (ea_cons (ev_var rfl) ea_nil) ⟨t, rfl, hfit.fit, hok, rfl⟩) s fun H1 s1 => ?_
  unfold runO at q
  cases hf : xs.find? fun x => !x.good with
  | some x =>
    rw [hf] at q
    refine tx_pass (ea_cons (ev_var rfl) ea_nil) (R := R_need_script cS) ⟨d, xs, rfl, hd, hs, ?_⟩ s1 q
    unfold scriptOut; rw [hf]; rfl
  | none =>
    rw [hf] at q
    obtain ⟨e, hgood⟩ := all_good hf
    refine sq_drop (ev_callX (d := .none) (ea_cons (ev_var rfl) ea_nil) ⟨d, xs, rfl, hd, hs, ?_⟩) s1 fun H2 s2 => ?_
    · unfold scriptOut; rw [hf]
    generalize hys : deedsOf xs = ys at e hgood q
    subst e
    refine sq_asg (ev_var rfl) s2 fun σ3 H3 s3 => ?_
    refine sq_for (α := Fo × List Deed) (fun _ _ => []) (fun _ a => [.dat (.tuple t.enc), .dat d, .dat (.tuple a.1.enc), .any]) (fun i a => ys.drop i = a.2 ∧ runD cR t ys = runD cR a.1 a.2 ∧ Ok a.1 ∧ Fits a.1 a.2.length) (t, ys) (ei_seq (ev_var rfl) hd) s3 ⟨rfl, rfl, hok, by rw [List.length_map] at hfit; exact hfit⟩ rfl (Le.refl _) ?_ ?_
    · rintro B i ⟨u, rest⟩ e σ H v he ⟨h1, h2, h3, h4⟩ s r
      dsimp only at h1 h2 h3 h4 s
      rw [List.getElem?_map, List.getElem?_map] at he
      cases hx : ys[i]? with
      | none => rw [hx] at he; cases he
      | some x =>
        rw [hx] at he
        cases he
        cases rest with
        | nil => exact absurd h1 (drop_some hx)
        | cons y rest =>
          obtain ⟨rfl, h5⟩ := drop_step hx h1
          have hg := hgood x (List.mem_of_getElem? hx)
          have hrun : runD cR u (x :: rest) = match reasonAt u x with
            | none => runD cR (behindT u x) rest
            | some why => refOut cR x why := rfl
          refine tg_use tg_name s r fun σ1 s1 => ?_
          cases hre : reasonAt u x with
          | none =>
            rw [hre] at hrun
            obtain ⟨o1, o2⟩ := behind_ok h3 hg hre
            refine st_asg (ev_callX (d := .tuple (behindT u x).enc) (ea_cons (ev_var rfl) (ea_cons (ev_var rfl) ea_nil)) ⟨u, x, rfl, h4.fit, h3, hg, ?_⟩) s1 fun σ2 H2 s2 => ⟨(behindT u x, rest), ⟨h5, h2.trans hrun, o1, ?_⟩, s2.le (.eq (.eq (.eq (.any .nil))))⟩
            · unfold deedOut; rw [hre]
            · have h4' : u.size + (rest.length + 1) < 20 := h4
              show (behindT u x).size + rest.length < 20
              omega
          | some why =>
            rw [hre] at hrun
            rw [h2, hrun] at q
            refine tx_pass (ea_cons (ev_var rfl) (ea_cons (ev_var rfl) ea_nil)) (R := R_run_deed cR) ⟨u, x, rfl, h4.fit, h3, hg, ?_⟩ s1 q
            unfold deedOut; rw [hre]; rfl
    · rintro ⟨u, rest⟩ σ H ⟨h1, h2, h3, h4⟩ s
      dsimp only at h1 h2 h3 h4 s
      rw [List.length_map, List.length_map] at h1
      have := drop_all h1
      subst this
      rw [h2] at q
      exact st_retM (ev_var rfl) s q
end
end G
set_option Elab.async false
set_option linter.all false
set_option maxRecDepth 100000
set_option maxHeartbeats 4000000
/-! <= and < of tuples: only up to the first place where they differ. -/
namespace G
open PySem PySem.SeqAt
open PySem.AutoSeq1 (wpAny_loadPart')
open PySem.MeetsSeq PySem.MeetsSeq2 PySem.MeetsSeq3
inductive Lex (E R : Value → Value → Bool → Prop) (z : Bool) : List Value → List Value → Bool → Prop
  | nil1 (ys : List Value) : Lex E R z [] ys z
  | nil2 (xs : List Value) : Lex E R z xs [] z
  | eq {x y : Value} {xs ys : List Value} {k : Bool} : E x y true → Lex E R z xs ys k → Lex E R z (x :: xs) (y :: ys) k
  | ne {x y : Value} {xs ys : List Value} {k : Bool} : E x y false → R x y k → Lex E R z (x :: xs) (y :: ys) k
theorem le_meets (l b : Addr) (us ws : Array Value) (n n2 : Nat) (dd dd2 : Option Addr) (sl sl2 : Array (Option Value)) (k : Bool) :
    Meets (Builtin.«tuple.__le__» ⟨[.ref l, .ref b], []⟩)
      (fun A R s => s.heap.get? l = some { cls := .type "tuple", dict := dd, data := .seq us n, slots := sl } ∧ s.heap.get? b = some { cls := .type "tuple", dict := dd2, data := .seq ws n2, slots := sl2 } ∧
        Lex (EqAt A.in1 s) (Ob.RcOp .LtE A.in1 s) (decide (us.size ≤ ws.size)) us.toList ws.toList k ∧ R (.ok (.ret (.bool k))) s) :=
  .of_wp fun prog w A R s h => by
    obtain ⟨hp, g, d, tk, os⟩ := s
    obtain ⟨hl, hb, hx, h⟩ := h
    have two := AutoSeq1.sub_tuple_tuple
    wp_walk using wpAny_loadPart' hl, wpAny_loadPart' hb, wpAny_forIn_list _ (fun rest c s' => c.1 = none ∧ s' = ⟨hp, g, d, tk, os⟩ ∧ ∃ xs ys, rest = xs.zip ys ∧ Lex (EqAt A.in1 ⟨hp, g, d, tk, os⟩) (Ob.RcOp .LtE A.in1 ⟨hp, g, d, tk, os⟩) (decide (us.size ≤ ws.size)) xs ys k) _
    case turn =>
      rintro ⟨y, x⟩ rest c s' ⟨hc, rfl, xs, ys, hz, hL⟩
      cases hL with
      | nil1 => cases hz
      | nil2 => cases xs <;> cases hz
      | eq he hL =>
        cases hz
        refine wpAny_bind (he prog w _ _ ?_)
        wp_walk
        exact ⟨rfl, rfl, _, _, rfl, hL⟩
      | ne he hr =>
        cases hz
        refine wpAny_bind (he prog w _ _ ?_)
        have hri := hr prog w
        wp_walk using hri
        exact ⟨_, rfl, by simpa using h⟩
    case fin =>
      rintro ⟨c1, c2⟩ s' ⟨hc, rfl, xs, ys, hz, hL⟩
      simp only at hc
      subst hc
      have hk : k = decide (us.size ≤ ws.size) := by
        cases hL with
        | nil1 => rfl
        | nil2 => rfl
        | eq => cases hz
        | ne => cases hz
      subst hk
      wp_walk
      exact ⟨_, rfl, by simpa [Builtin.Tuple.tupleCompareSizes] using h⟩
    case h =>
      exact ⟨rfl, rfl, _, _, rfl, hx⟩
theorem lt_meets (l b : Addr) (us ws : Array Value) (n n2 : Nat) (dd dd2 : Option Addr) (sl sl2 : Array (Option Value)) (k : Bool) :
    Meets (Builtin.«tuple.__lt__» ⟨[.ref l, .ref b], []⟩)
      (fun A R s => s.heap.get? l = some { cls := .type "tuple", dict := dd, data := .seq us n, slots := sl } ∧ s.heap.get? b = some { cls := .type "tuple", dict := dd2, data := .seq ws n2, slots := sl2 } ∧
        Lex (EqAt A.in1 s) (Ob.RcOp .Lt A.in1 s) (decide (us.size < ws.size)) us.toList ws.toList k ∧ R (.ok (.ret (.bool k))) s) :=
  .of_wp fun prog w A R s h => by
    obtain ⟨hp, g, d, tk, os⟩ := s
    obtain ⟨hl, hb, hx, h⟩ := h
    have two := AutoSeq1.sub_tuple_tuple
    wp_walk using wpAny_loadPart' hl, wpAny_loadPart' hb, wpAny_forIn_list _ (fun rest c s' => c.1 = none ∧ s' = ⟨hp, g, d, tk, os⟩ ∧ ∃ xs ys, rest = xs.zip ys ∧ Lex (EqAt A.in1 ⟨hp, g, d, tk, os⟩) (Ob.RcOp .Lt A.in1 ⟨hp, g, d, tk, os⟩) (decide (us.size < ws.size)) xs ys k) _
    case turn =>
      rintro ⟨y, x⟩ rest c s' ⟨hc, rfl, xs, ys, hz, hL⟩
      cases hL with
      | nil1 => cases hz
      | nil2 => cases xs <;> cases hz
      | eq he hL =>
        cases hz
        refine wpAny_bind (he prog w _ _ ?_)
        wp_walk
        exact ⟨rfl, rfl, _, _, rfl, hL⟩
      | ne he hr =>
        cases hz
        refine wpAny_bind (he prog w _ _ ?_)
        have hri := hr prog w
        wp_walk using hri
        exact ⟨_, rfl, by simpa using h⟩
    case fin =>
      rintro ⟨c1, c2⟩ s' ⟨hc, rfl, xs, ys, hz, hL⟩
      simp only at hc
      subst hc
      have hk : k = decide (us.size < ws.size) := by
        cases hL with
        | nil1 => rfl
        | nil2 => rfl
        | eq => cases hz
        | ne => cases hz
      subst hk
      wp_walk
      exact ⟨_, rfl, by simpa [Builtin.Tuple.tupleCompareSizes] using h⟩
    case h =>
      exact ⟨rfl, rfl, _, _, rfl, hx⟩
end G
set_option Elab.async false
set_option linter.all false
set_option maxRecDepth 100000
set_option maxHeartbeats 4000000
/-! The order of data: ints, texts, tuples of them. -/
namespace G
open PySem PySem.SeqAt
def strLe (x y : Str) : Bool := !decide (y.cps.toList < x.cps.toList)
def strLt (x y : Str) : Bool := decide (x.cps.toList < y.cps.toList)
mutual
def leD : PyData → PyData → Bool
  | .int i, .int j => decide (i ≤ j)
  | .str x, .str y => strLe x y
  | .tuple xs, .tuple ys => leL xs ys
  | _, _ => false
def leL : List PyData → List PyData → Bool
  | [], _ => true
  | _ :: _, [] => false
  | x :: xs, y :: ys => if PyData.eqv x y = true then leL xs ys else leD x y
end
mutual
def ltD : PyData → PyData → Bool
  | .int i, .int j => decide (i < j)
  | .str x, .str y => strLt x y
  | .tuple xs, .tuple ys => ltL xs ys
  | _, _ => false
def ltL : List PyData → List PyData → Bool
  | _, [] => false
  | [], _ :: _ => true
  | x :: xs, y :: ys => if PyData.eqv x y = true then ltL xs ys else ltD x y
end
mutual
def comp : PyData → PyData → Bool
  | .int _, .int _ => true
  | .str _, .str _ => true
  | .tuple xs, .tuple ys => compL xs ys
  | _, _ => false
def compL : List PyData → List PyData → Bool
  | [], _ => true
  | _ :: _, [] => true
  | x :: xs, y :: ys => if PyData.eqv x y = true then compL xs ys else comp x y
end
theorem rc_le_str {A : Around} {s : Shared} (x y : Str) (t u : Tok) : Ob.RcOp .LtE A s (.str x t) (.str y u) (strLe x y) := fun prog w E Q h => PySem.P.le_str (by
  unfold strLe at h
  simpa using h)
theorem rc_lt_str {A : Around} {s : Shared} (x y : Str) (t u : Tok) : Ob.RcOp .Lt A s (.str x t) (.str y u) (strLt x y) := fun prog w E Q h => PyProof.Rows.lt_str (by
  unfold strLt at h
  simpa using h)
theorem rc_tup_le {A : Around} {s : Shared} {l b : Addr} {us ws : Array Value} {k : Bool} (hl : s.heap.IsTuple l us) (hb : s.heap.IsTuple b ws) (hu : A.units < cLine) (hx : Lex (EqAt A.in1 s) (Ob.RcOp .LtE A.in1 s) (decide (us.size ≤ ws.size)) us.toList ws.toList k) :
    Ob.RcOp .LtE A s (.ref l) (.ref b) k := fun prog w E Q h => by
  obtain ⟨⟨c1, dd, d1, sl⟩, ho, e1, n, e2⟩ := id hl
  obtain ⟨⟨c2, dd2, d2, sl2⟩, ho2, e3, n2, e4⟩ := id hb
  simp only at e1 e2 e3 e4
  subst e1 e2 e3 e4
  exact richCompare_meets_room (op := .LtE) ⟨_, ho, rfl⟩ ⟨_, ho2, rfl⟩ F.slot_tuple_le F.entry_tuple_le (F.args_tuple_le_2 _ _) (le_meets l b us ws n n2 dd dd2 sl sl2 k) ⟨ho, ho2, hx, ⟨(fun x => nomatch x), h⟩⟩ hu
theorem rc_tup_lt {A : Around} {s : Shared} {l b : Addr} {us ws : Array Value} {k : Bool} (hl : s.heap.IsTuple l us) (hb : s.heap.IsTuple b ws) (hu : A.units < cLine) (hx : Lex (EqAt A.in1 s) (Ob.RcOp .Lt A.in1 s) (decide (us.size < ws.size)) us.toList ws.toList k) :
    Ob.RcOp .Lt A s (.ref l) (.ref b) k := fun prog w E Q h => by
  obtain ⟨⟨c1, dd, d1, sl⟩, ho, e1, n, e2⟩ := id hl
  obtain ⟨⟨c2, dd2, d2, sl2⟩, ho2, e3, n2, e4⟩ := id hb
  simp only at e1 e2 e3 e4
  subst e1 e2 e3 e4
  exact richCompare_meets_room (op := .Lt) ⟨_, ho, rfl⟩ ⟨_, ho2, rfl⟩ F.slot_tuple_lt F.entry_tuple_lt (F.args_tuple_lt_2 _ _) (lt_meets l b us ws n n2 dd dd2 sl sl2 k) ⟨ho, ho2, hx, ⟨(fun x => nomatch x), h⟩⟩ hu
theorem room_1 {A : Around} {m : Nat} (h : A.units + (m + 1) < cLine) : A.in1.units + m < cLine := by
  show A.units + 1 + m < cLine; omega
section
variable {s : Shared}
mutual
theorem rc_le : ∀ (d e : PyData) (A : Around) (a b : Value) (as bs : List Addr), Reads s.heap a d as → Reads s.heap b e bs → d.canLay0 = true → e.canLay0 = true → comp d e = true → A.units + d.depth < cLine → Ob.RcOp .LtE A s a b (leD d e)
  | .int i, e, A, a, b, as, bs, ra, rb, _, _, hc, _ => by
    cases e with
    | int j => cases ra; cases rb; simp only [leD]; exact Ob.RcOp.le_int _ _ _ _
    | _ => simp [comp] at hc
  | .str x, e, A, a, b, as, bs, ra, rb, _, _, hc, _ => by
    cases e with
    | str y => cases ra; cases rb; simp only [leD]; exact rc_le_str _ _ _ _
    | _ => simp [comp] at hc
  | .tuple xs, e, A, a, b, as, bs, ra, rb, la, lb, hc, hu => by
    cases e with
    | tuple ys =>
      cases ra with
      | tuple h1 h2 h3 h4 =>
        cases rb with
        | tuple k1 k2 k3 k4 =>
          simp only [leD]
          simp only [comp] at hc
          simp only [PyData.canLay0] at la lb
          simp only [PyData.depth] at hu
          rename_i l1 o1 us n1 l2 o2 ws n2
          have z1 : us.size = xs.length := by simpa using ReadsAll.length _ _ _ h4
          have z2 : ws.size = ys.length := by simpa using ReadsAll.length _ _ _ k4
          refine rc_tup_le ⟨_, h1, h2, _, h3⟩ ⟨_, k1, k2, _, k3⟩ (by omega) ?_
          have := rc_leL xs ys A.in1 us.toList ws.toList _ _ (decide (us.size ≤ ws.size)) h4 k4 la lb hc (room_1 hu) (by rw [z1, z2])
          exact this
    | _ => simp [comp] at hc
  | .none, e, A, a, b, as, bs, ra, rb, la, lb, hc, hu => by simp [comp] at hc
  | .bool _, e, A, a, b, as, bs, ra, rb, la, lb, hc, hu => by simp [comp] at hc
  | .list _, e, A, a, b, as, bs, ra, rb, la, lb, hc, hu => by simp [comp] at hc
  | .dict _, e, A, a, b, as, bs, ra, rb, la, lb, hc, hu => by simp [comp] at hc
theorem rc_leL : ∀ (xs ys : List PyData) (A : Around) (us ws : List Value) (as bs : List Addr) (z : Bool), ReadsAll s.heap us xs as → ReadsAll s.heap ws ys bs → PyData.canLayAll0 xs = true → PyData.canLayAll0 ys = true → compL xs ys = true → A.units + PyData.depthAll xs < cLine → z = decide (xs.length ≤ ys.length) → Lex (EqAt A s) (Ob.RcOp .LtE A s) z us ws (leL xs ys)
  | [], ys, A, us, ws, as, bs, z, ra, rb, la, lb, hc, hu, hz => by
    cases ra
    have : z = leL [] ys := by rw [hz]; simp [leL]
    rw [← this]
    exact .nil1 _
  | x :: xs, [], A, us, ws, as, bs, z, ra, rb, la, lb, hc, hu, hz => by
    cases rb
    have : z = leL (x :: xs) [] := by rw [hz]; simp [leL]
    rw [← this]
    exact .nil2 _
  | x :: xs, y :: ys, A, us, ws, as, bs, z, ra, rb, la, lb, hc, hu, hz => by
    simp only [PyData.canLayAll0, Bool.and_eq_true] at la lb
    simp only [compL] at hc
    simp only [leL]
    simp only [PyData.depthAll] at hu
    cases ra with
    | cons r1 r2 =>
      cases rb with
      | cons q1 q2 =>
        have hE := eqAt_reads x y A s _ _ _ _ r1 q1 la.1 lb.1 (by omega)
        cases he : PyData.eqv x y with
        | true =>
          rw [he] at hE
          rw [he, if_pos rfl] at hc
          rw [if_pos rfl]
          exact .eq hE (rc_leL xs ys A _ _ _ _ z r2 q2 la.2 lb.2 hc (by omega) (by rw [hz]; simp))
        | false =>
          rw [he] at hE
          rw [he, if_neg Bool.false_ne_true] at hc
          rw [if_neg Bool.false_ne_true]
          exact .ne hE (rc_le x y A _ _ _ _ r1 q1 la.1 lb.1 hc (by omega))
end
mutual
theorem rc_lt : ∀ (d e : PyData) (A : Around) (a b : Value) (as bs : List Addr), Reads s.heap a d as → Reads s.heap b e bs → d.canLay0 = true → e.canLay0 = true → comp d e = true → A.units + d.depth < cLine → Ob.RcOp .Lt A s a b (ltD d e)
  | .int i, e, A, a, b, as, bs, ra, rb, _, _, hc, _ => by
    cases e with
    | int j => cases ra; cases rb; simp only [ltD]; exact Ob.RcOp.lt_int _ _ _ _
    | _ => simp [comp] at hc
  | .str x, e, A, a, b, as, bs, ra, rb, _, _, hc, _ => by
    cases e with
    | str y => cases ra; cases rb; simp only [ltD]; exact rc_lt_str _ _ _ _
    | _ => simp [comp] at hc
  | .tuple xs, e, A, a, b, as, bs, ra, rb, la, lb, hc, hu => by
    cases e with
    | tuple ys =>
      cases ra with
      | tuple h1 h2 h3 h4 =>
        cases rb with
        | tuple k1 k2 k3 k4 =>
          simp only [ltD]
          simp only [comp] at hc
          simp only [PyData.canLay0] at la lb
          simp only [PyData.depth] at hu
          rename_i l1 o1 us n1 l2 o2 ws n2
          have z1 : us.size = xs.length := by simpa using ReadsAll.length _ _ _ h4
          have z2 : ws.size = ys.length := by simpa using ReadsAll.length _ _ _ k4
          refine rc_tup_lt ⟨_, h1, h2, _, h3⟩ ⟨_, k1, k2, _, k3⟩ (by omega) ?_
          exact rc_ltL xs ys A.in1 us.toList ws.toList _ _ (decide (us.size < ws.size)) h4 k4 la lb hc (room_1 hu) (by rw [z1, z2])
    | _ => simp [comp] at hc
  | .none, e, A, a, b, as, bs, ra, rb, la, lb, hc, hu => by simp [comp] at hc
  | .bool _, e, A, a, b, as, bs, ra, rb, la, lb, hc, hu => by simp [comp] at hc
  | .list _, e, A, a, b, as, bs, ra, rb, la, lb, hc, hu => by simp [comp] at hc
  | .dict _, e, A, a, b, as, bs, ra, rb, la, lb, hc, hu => by simp [comp] at hc
theorem rc_ltL : ∀ (xs ys : List PyData) (A : Around) (us ws : List Value) (as bs : List Addr) (z : Bool), ReadsAll s.heap us xs as → ReadsAll s.heap ws ys bs → PyData.canLayAll0 xs = true → PyData.canLayAll0 ys = true → compL xs ys = true → A.units + PyData.depthAll xs < cLine → z = decide (xs.length < ys.length) → Lex (EqAt A s) (Ob.RcOp .Lt A s) z us ws (ltL xs ys)
  | [], [], A, us, ws, as, bs, z, ra, rb, la, lb, hc, hu, hz => by
    cases ra
    have : z = ltL [] [] := by rw [hz]; simp [ltL]
    rw [← this]
    exact .nil1 _
  | [], y :: ys, A, us, ws, as, bs, z, ra, rb, la, lb, hc, hu, hz => by
    cases ra
    have : z = ltL [] (y :: ys) := by rw [hz]; simp [ltL]
    rw [← this]
    exact .nil1 _
  | x :: xs, [], A, us, ws, as, bs, z, ra, rb, la, lb, hc, hu, hz => by
    cases rb
    have : z = ltL (x :: xs) [] := by rw [hz]; simp [ltL]
    rw [← this]
    exact .nil2 _
  | x :: xs, y :: ys, A, us, ws, as, bs, z, ra, rb, la, lb, hc, hu, hz => by
    simp only [PyData.canLayAll0, Bool.and_eq_true] at la lb
    simp only [compL] at hc
    simp only [ltL]
    simp only [PyData.depthAll] at hu
    cases ra with
    | cons r1 r2 =>
      cases rb with
      | cons q1 q2 =>
        have hE := eqAt_reads x y A s _ _ _ _ r1 q1 la.1 lb.1 (by omega)
        cases he : PyData.eqv x y with
        | true =>
          rw [he] at hE
          rw [he, if_pos rfl] at hc
          rw [if_pos rfl]
          exact .eq hE (rc_ltL xs ys A _ _ _ _ z r2 q2 la.2 lb.2 hc (by omega) (by rw [hz]; simp))
        | false =>
          rw [he] at hE
          rw [he, if_neg Bool.false_ne_true] at hc
          rw [if_neg Bool.false_ne_true]
          exact .ne hE (rc_lt x y A _ _ _ _ r1 q1 la.1 lb.1 hc (by omega))
end
end
end G
set_option Elab.async false
set_option linter.all false
set_option maxRecDepth 100000
set_option maxHeartbeats 4000000
/-! <=, min and sorted over data: rules. -/
namespace G
open PySem PySem.Spec PyProof.Rows L2
/-! ### <= -/
def rLeD (K : PySem.W.Frag) : R2 := fun x y H Q => ∃ d e, Dp K H x d ∧ Dp K H y e ∧ SeqAt.shaped d = true ∧ SeqAt.shaped e = true ∧ comp d e = true ∧ Q (.bl (leD d e)) H
theorem op_leD {X : Cx} (hu : X.A.units + 65 < cLine) : OpR X (compareOp .LtE) (rLeD X.K) := by
  intro pins s σ H x y v u Q I rx ry h
  obtain ⟨d, e, hd, he, sd, se, hc, q⟩ := h
  obtain ⟨as, r1⟩ := Dp.reads I d x v hd rx
  obtain ⟨bs, r2⟩ := Dp.reads I e y u he ry
  have hdep := SeqAt.depth_of_shaped sd
  exact rc_le d e X.A v u as bs r1 r2 (SeqAt.canLay_of_shaped sd) (SeqAt.canLay_of_shaped se) hc (by omega) X.prog X.w X.xe _ ⟨.bl _, H, I, rfl, q⟩
/-! ### min -/
def minL (d : PyData) (ds : List PyData) : PyData := ds.foldl (fun a y => if ltD y a then y else a) d
def rMinD (K : PySem.W.Frag) : List V → Hp → VK → Prop := fun vs H Q => ∃ (a : Addr) (xs : List V) (d : PyData) (ds : List PyData), vs = [V.ref a] ∧ SqL K H a xs ∧ DpAll K H xs (d :: ds) ∧ (∀ x ∈ d :: ds, ∀ y ∈ d :: ds, comp x y = true) ∧ (∀ x ∈ d :: ds, SeqAt.shaped x = true) ∧
  ∀ (i : Nat) (x : V), xs[i]? = some x → (d :: ds)[i]? = some (minL d ds) → Q x H
theorem readsAll_get {h : Heap} : ∀ {us : List Value} {ds : List PyData} {as : List Addr}, ReadsAll h us ds as → ∀ (i : Nat) (v : Value), us[i]? = some v → ∃ e bs, ds[i]? = some e ∧ Reads h v e bs
  | _, _, _, .nil, i, v, e => by simp at e
  | _, _, _, .cons r1 r2, 0, v, e => by simp at e; subst e; exact ⟨_, _, rfl, r1⟩
  | _, _, _, .cons r1 r2, i + 1, v, e => by
    obtain ⟨d, bs, h1, h2⟩ := readsAll_get r2 i v (by simpa using e)
    exact ⟨d, bs, by simpa using h1, h2⟩
theorem cr_minD {X : Cx} (hc : X.calm = true) (hu : X.A.units + 66 < cLine) : CallR X (.builtin "min") (rMinD X.K) := by
  intro pins s σ H vs us Q I r h
  obtain ⟨a, xs, d, ds, rfl, hs, hd, hcm, hsh, q⟩ := h
  obtain ⟨its, rv, hl, hz⟩ := I.list hs
  rw [Vals.ref1 r]
  obtain ⟨as, rall⟩ := Dp.readsAll I (d :: ds) xs its hd rv
  have hn : its.length = ds.length + 1 := by rw [← rv.length]; exact (DpAll.len' hd)
  refine PySem.call_min_walkH (PySem.W.iter_listW (A := X.A.in1) (I.ok.hd hc) hl.isList fun s₂ e W st hfp hw hk => ?_)
  refine ⟨_, _, _, _, _, _, _, s.heap, fun i j => ltD ((d :: ds).getD i .none) ((d :: ds).getD j .none), rfl, W, st, hfp, by rw [List.size_toArray]; omega, hw, hk, ?_, fun v s' hP m => ?_⟩
  · intro i j vi vj s3 Q3 E3 hk3 hi hj q3
    rw [List.getElem?_toArray] at hi hj
    obtain ⟨ei, bi, h1, h2⟩ := readsAll_get rall i vi hi
    obtain ⟨ej, bj, h3, h4⟩ := readsAll_get rall j vj hj
    have e1 : (d :: ds).getD i .none = ei := by rw [List.getD_eq_getElem?_getD, h1]; rfl
    have e2 : (d :: ds).getD j .none = ej := by rw [List.getD_eq_getElem?_getD, h3]; rfl
    have mi := List.mem_of_getElem? h1
    have mj := List.mem_of_getElem? h3
    have hdep := SeqAt.depth_of_shaped (hsh ei mi)
    dsimp only at q3
    rw [e1, e2] at q3
    exact rc_lt (s := s3) ei ej X.A.in1 vi vj _ _ (PySem.W.reads_keeps hk3 h2) (PySem.W.reads_keeps hk3 h4) (SeqAt.canLay_of_shaped (hsh ei mi)) (SeqAt.canLay_of_shaped (hsh ej mj)) (hcm ei mi ej mj) (by show X.A.units + 1 + _ < _; omega) X.prog X.w E3 Q3 q3
  · obtain ⟨h', tk, rfl, hk'⟩ := PySem.W.moved_old e rfl m
    have hsz : its.toArray.size - 1 = ds.length := by rw [List.size_toArray]; omega
    rw [hsz] at hP
    have hb := (PySem.W.argBest_fold ltD PyData.none d ds ds.length (Nat.le_refl _))
    rw [List.take_length] at hb
    generalize hi : argBest (fun i j => ltD ((d :: ds).getD i .none) ((d :: ds).getD j .none)) ds.length = i0 at hP hb
    rw [List.getElem?_toArray] at hP
    have hlt : i0 < (d :: ds).length := by rw [List.length_cons]; omega
    have hx : i0 < xs.length := by rw [rv.length, hn]; exact hlt
    obtain ⟨u, hu1, hu2⟩ := rv.get (List.getElem?_eq_getElem hx)
    have : u = v := by rw [hP] at hu1; exact (Option.some.inj hu1).symm
    subst this
    have I2 : Inv X pins σ H { s with heap := h', toks := tk } := I.kept (t' := tk) hk'
    refine ⟨xs[i0], H, I2, hu2, q i0 _ (List.getElem?_eq_getElem hx) ?_⟩
    have e2 : (d :: ds).getD i0 .none = minL d ds := hb.2
    rw [List.getD_eq_getElem?_getD, List.getElem?_eq_getElem hlt] at e2
    rw [List.getElem?_eq_getElem hlt]
    exact congrArg some e2
where
  DpAll.len' {K : PySem.W.Frag} {H : Hp} : ∀ {vs : List V} {ds : List PyData}, DpAll K H vs ds → vs.length = ds.length
    | _, _, .nil => rfl
    | _, _, .cons _ t => congrArg Nat.succ (DpAll.len' t)
/-! ### sorted, of tuples of ints -/
def ordD (ns : List Int) : PyData := .tuple (ns.map PyData.int)
def leO : List Int → List Int → Bool := PySem.W.dataLe false ordD
def sortO (bs : List (List Int)) : List (List Int) := bs.mergeSort leO
def rSortedT (K : PySem.W.Frag) : List V → Hp → VK → Prop := fun vs H Q => ∃ (a : Addr) (xs : List V) (bs : List (List Int)) (G : Hp), vs = [V.ref a] ∧ SqL K H a xs ∧ Same G H ∧ RpAll G xs (bs.map ordD) ∧ ((∀ b ∈ bs, b ≠ []) ∨ bs.length < 2) ∧
  ∀ (ys : List V) (p : Addr), RpAll G ys ((sortO bs).map ordD) → H p = none → Q (.ref p) (upd H p (.lst ys))
theorem each_of {G : Hp} : ∀ {xs : List V} {us : List Value} {bs : List (List Int)}, RpAll G xs (bs.map ordD) → Vals xs us → PySem.W.EachIs (fun u b => ∃ x, RelV x u ∧ Rp G x (ordD b)) us bs
  | _, _, [], r, v => by
    have r' : RpAll G _ [] := r
    cases r'; cases v; exact .nil
  | _, _, b :: bs, r, v => by
    have r' : RpAll G _ (ordD b :: bs.map ordD) := r
    cases r' with
    | cons r1 r2 => cases v with
      | cons v1 v2 => exact .cons ⟨_, v1, r1⟩ (each_of r2 v2)
theorem each_back {G : Hp} : ∀ {us : List Value} {bs : List (List Int)}, PySem.W.EachIs (fun u b => ∃ x, RelV x u ∧ Rp G x (ordD b)) us bs → ∃ xs, Vals xs us ∧ RpAll G xs (bs.map ordD)
  | _, _, .nil => ⟨[], .nil, .nil⟩
  | _, _, .cons ⟨x, h1, h2⟩ t => by
    obtain ⟨xs, v, r⟩ := each_back t
    exact ⟨x :: xs, .cons h1 v, .cons h2 r⟩
theorem ordD_lay : ∀ ns : List Int, (ordD ns).canLay0 = true := fun ns => by
  unfold ordD
  simp only [PyData.canLay0]
  induction ns with
  | nil => rfl
  | cons n ns ih => simp only [List.map_cons, PyData.canLayAll0, PyData.canLay0, ih]; rfl
theorem ordD_depth (ns : List Int) : (ordD ns).depth = 1 := by
  unfold ordD
  simp only [PyData.depth]
  rw [PySem.W.depth_ints]
theorem sortO_short {bs : List (List Int)} (h : bs.length < 2) : sortO bs = bs := by
  unfold sortO
  match bs, h with
  | [], _ => simp
  | [b], _ => simp
  | _ :: _ :: _, h => exact absurd h (by simp only [List.length_cons]; omega)
theorem sortO_perm (bs : List (List Int)) : (sortO bs).Perm bs := List.mergeSort_perm _ _
theorem cr_sortedT {X : Cx} (hu : X.A.units + 65 < cLine) : CallR X (.builtin "sorted") (rSortedT X.K) := by
  intro pins s σ H vs us Q I r h
  obtain ⟨a, xs, bs, G, rfl, hs, hG, hr, hne, q⟩ := h
  obtain ⟨its, rv, hl, hz⟩ := I.list hs
  rw [Vals.ref1 r]
  have hEach := each_of hr rv
  have hlen : bs.length = xs.length := by rw [hr.length, List.length_map]
  have fin : ∀ out : List Value, out.length = bs.length → PySem.W.EachIs (fun u b => ∃ x, RelV x u ∧ Rp G x (ordD b)) out (sortO bs) → EP X pins σ Q (.ref (s.heap.objs.size + 1)) { s with heap := sortedAll s.heap its out.toArray } := fun out ho he => by
    obtain ⟨ys, v, ry⟩ := each_back he
    obtain ⟨e, hat⟩ := sortedAll_at s.heap its out.toArray
    have hp : H (s.heap.objs.size + 1) = none := I.hok.fresh (Nat.le_succ _)
    refine ⟨.ref (s.heap.objs.size + 1), upd H (s.heap.objs.size + 1) (.lst ys), I.laid (t' := s.toks) (fun b o => sortedAll_old) (Nat.le_succ _) ⟨?_, out, e, v, hat⟩, rfl, q ys _ ry hp⟩
    rw [v.length, ho, hlen]; exact hz
  by_cases h2 : bs.length < 2
  · refine SrtO.sorted_ord (ltv := fun _ _ => false) ⟨fun _ _ h => (by cases h), fun _ _ _ _ _ => rfl⟩ hl.isList (by rw [← rv.length]; exact hz) (fun h => ?_) fun out _ hst => ?_
    · rw [← rv.length, ← hlen] at h; omega
    · have hp := hst.perm
      have hol : its.length < 2 := by rw [← rv.length, ← hlen]; exact h2
      have he : out = its := by
        match its, hol, hp with
        | [], _, hp => exact List.perm_nil.mp hp
        | [u], _, hp => exact List.perm_singleton.mp hp
        | _ :: _ :: _, h, _ => exact absurd h (by simp only [List.length_cons]; omega)
      subst he
      refine fin _ (by rw [← rv.length, ← hlen]) ?_
      rw [sortO_short h2]; exact hEach
  · have hne' := hne.resolve_right h2
    refine PySem.W.sorted_data (enc := ordD) hl.isList hEach ?_ (PySem.W.AllAlike.of fun b b' => by unfold ordD; simp only [PySem.W.alike]; exact PySem.W.alike_ints b b') (.inl fun d hd => ?_) (by rw [hlen]; exact hz) (fun b _ => by rw [ordD_depth]; omega) fun out ho he => fin out ho he
    · have : ∀ {us : List Value} {bs : List (List Int)}, PySem.W.EachIs (fun u b => ∃ x, RelV x u ∧ Rp G x (ordD b)) us bs → PySem.W.EachIs (fun v b => ∃ as, Reads s.heap v (ordD b) as) us bs := fun {us bs} e => by
        induction e with
        | nil => exact .nil
        | cons h _ ih =>
          obtain ⟨x, h1, h2⟩ := h
          exact .cons (Dp.reads I _ _ _ (Rp.dp _ _ (ordD_lay _) (h2.same hG)) h1) ih
      exact this hEach
    · obtain ⟨b, hb, rfl⟩ := List.mem_map.mp hd
      cases b with
      | nil => exact absurd rfl (hne' _ hb)
      | cons n ns => exact ⟨.int n, ns.map .int, rfl⟩
/-! ### over data -/
section
variable {F : Fm} {M : List (Addr × OC)} {δ : List SD} {K : PySem.W.Frag} {ta tb te : TE} {d e : PyData}
theorem ev_leD (ha : Ev F M δ ta d) (hb : Ev F M δ tb e) (sd : SeqAt.shaped d = true) (se : SeqAt.shaped e = true) (hc : comp d e = true) : Ev F M δ (tOp (rLeD K) ta tb) (.bool (leD d e)) := fun σ H s Q q => by
  refine ha σ H s _ fun v H1 s1 e1 r1 => hb σ H1 s1 _ fun u H2 s2 e2 r2 => ?_
  exact ⟨d, e, Rp.dp _ _ (shaped_lay sd) ((r1.same (shr_same e2)).same (shr_sub _ _)), Rp.dp _ _ (shaped_lay se) (r2.same (shr_sub _ _)), sd, se, hc, q _ H2 s2 (e1.trans e2) (.bl _)⟩
theorem ev_minD {ds : List PyData} (h : Ev F M δ te (.list (d :: ds))) (hc : ∀ x ∈ d :: ds, ∀ y ∈ d :: ds, comp x y = true) (hs : ∀ x ∈ d :: ds, SeqAt.shaped x = true) : Ev F M δ (tCB (rMinD K) (tCons te tNil)) (minL d ds) := fun σ H s Q q => by
  refine h σ H s _ fun v H1 s1 e1 r1 => ?_
  obtain ⟨a, vs, rfl, ha, rv⟩ := r1.lst_inv
  have lay : ∀ (l : List PyData), (∀ x ∈ l, SeqAt.shaped x = true) → PyData.canLayAll0 l = true := fun l hl => by
    induction l with
    | nil => rfl
    | cons x l ih => simp only [PyData.canLayAll0, Bool.and_eq_true]; exact ⟨shaped_lay (hl x List.mem_cons_self), ih fun y hy => hl y (List.mem_cons_of_mem _ hy)⟩
  refine ⟨a, vs, d, ds, rfl, SqL.of (shr_sub _ _ _ _ ha), RpAll.dp _ _ (lay _ hs) (rv.same (shr_sub _ _)), hc, hs, fun i x hx hi => ?_⟩
  obtain ⟨e, he, re⟩ := rv.getV hx
  rw [hi] at he
  cases he
  exact q x H1 s1 e1 re
theorem ev_sortedT {bs : List (List Int)} (h : Ev F M δ te (.list (bs.map ordD))) (hne : (∀ b ∈ bs, b ≠ []) ∨ bs.length < 2) : Ev F M δ (tCB (rSortedT K) (tCons te tNil)) (.list ((sortO bs).map ordD)) := fun σ H s Q q => by
  refine h σ H s _ fun v H1 s1 e1 r1 => ?_
  obtain ⟨a, vs, rfl, ha, rv⟩ := r1.lst_inv
  refine ⟨a, vs, bs, shr F.O H1, rfl, SqL.of (shr_sub _ _ _ _ ha), shr_sub _ _, rv, hne, fun ys p ry hp => ?_⟩
  have e2 := same_new (o := .lst ys) hp
  exact q _ _ (s1.same e2) (e1.trans e2) (.lst (shr_at upd_same (s1.fresh hp)) (ry.same (shr_same e2)))
/-- .. of an owned list -/
theorem ev_sortedO {l : Addr} {bs : List (List Int)} (h : Er F M δ te (.ref l)) (hm : (l, OC.lst (bs.map ordD)) ∈ M) (hne : (∀ b ∈ bs, b ≠ []) ∨ bs.length < 2) : Ev F M δ (tCB (rSortedT K) (tCons te tNil)) (.list ((sortO bs).map ordD)) := fun σ H s Q q => by
  refine h σ H s _ fun H1 s1 e1 => ?_
  obtain ⟨_, vs, ha, rv⟩ := s1.own _ hm
  refine ⟨l, vs, bs, shr F.O H1, rfl, SqL.of ha, shr_sub _ _, rv, hne, fun ys p ry hp => ?_⟩
  have e2 := same_new (o := .lst ys) hp
  exact q _ _ (s1.same e2) (e1.trans e2) (.lst (shr_at upd_same (s1.fresh hp)) (ry.same (shr_same e2)))
end
end G
set_option Elab.async false
set_option linter.all false
set_option maxRecDepth 100000
set_option maxHeartbeats 4000000
/-! Data without bools and dicts: == is equality; plots, deeds, orders as data. -/
namespace G
open PySem PySem.Spec PyProof.Rows L2
theorem units66 {k : Nat} {A : Around} (hr : Room k A) : A.units + 66 < cLine := by have := hr.un; omega
mutual
def nb : PyData → Bool
  | .none => true
  | .int _ => true
  | .str x => PyData.strOk x
  | .list xs => nbAll xs
  | .tuple xs => nbAll xs
  | .bool _ => false
  | .dict _ => false
def nbAll : List PyData → Bool
  | [] => true
  | x :: xs => nb x && nbAll xs
end
mutual
theorem nb_lay : ∀ d : PyData, nb d = true → d.canLay0 = true
  | .none, _ => by simp [PyData.canLay0]
  | .int _, _ => by simp [PyData.canLay0]
  | .str x, h => by simpa [PyData.canLay0, nb] using h
  | .list xs, h => by simp only [nb] at h; simp only [PyData.canLay0]; exact nb_layAll xs h
  | .tuple xs, h => by simp only [nb] at h; simp only [PyData.canLay0]; exact nb_layAll xs h
  | .bool _, h => by simp [nb] at h
  | .dict _, h => by simp [nb] at h
theorem nb_layAll : ∀ ds : List PyData, nbAll ds = true → PyData.canLayAll0 ds = true
  | [], _ => by simp [PyData.canLayAll0]
  | d :: ds, h => by
    simp only [nbAll, Bool.and_eq_true] at h
    simp only [PyData.canLayAll0, Bool.and_eq_true]
    exact ⟨nb_lay d h.1, nb_layAll ds h.2⟩
end
mutual
theorem eqv_iff : ∀ d e : PyData, nb d = true → nb e = true → (PyData.eqv d e = true ↔ d = e)
  | .none, e, _, he => by cases e <;> simp [PyData.eqv] at he ⊢
  | .int i, e, _, he => by cases e <;> simp [PyData.eqv, nb] at he ⊢
  | .str x, e, _, he => by cases e <;> simp [PyData.eqv, nb] at he ⊢
  | .list xs, e, hd, he => by
    cases e with
    | list ys =>
      simp only [nb] at hd he
      simp only [PyData.eqv, PyData.list.injEq]
      exact eqvAll_iff xs ys hd he
    | _ => simp [PyData.eqv]
  | .tuple xs, e, hd, he => by
    cases e with
    | tuple ys =>
      simp only [nb] at hd he
      simp only [PyData.eqv, PyData.tuple.injEq]
      exact eqvAll_iff xs ys hd he
    | _ => simp [PyData.eqv]
  | .bool _, _, h, _ => by simp [nb] at h
  | .dict _, _, h, _ => by simp [nb] at h
theorem eqvAll_iff : ∀ ds es : List PyData, nbAll ds = true → nbAll es = true → (PyData.eqvAll ds es = true ↔ ds = es)
  | [], [], _, _ => by simp [PyData.eqvAll]
  | [], _ :: _, _, _ => by simp [PyData.eqvAll]
  | _ :: _, [], _, _ => by simp [PyData.eqvAll]
  | d :: ds, e :: es, h, k => by
    simp only [nbAll, Bool.and_eq_true] at h k
    simp only [PyData.eqvAll, Bool.and_eq_true, List.cons.injEq]
    rw [eqv_iff d e h.1 k.1, eqvAll_iff ds es h.2 k.2]
end
theorem eqv_dec {d e : PyData} {p : Prop} [Decidable p] (hd : nb d = true) (he : nb e = true) (h : d = e ↔ p) : PyData.eqv d e = decide p := by
  cases q : PyData.eqv d e with
  | true => exact (decide_eq_true (h.mp ((eqv_iff d e hd he).mp q))).symm
  | false =>
    refine (decide_eq_false fun hp => ?_).symm
    have := (eqv_iff d e hd he).mpr (h.mpr hp)
    rw [q] at this; cases this
mutual
theorem eqv_self : ∀ d : PyData, d.canLay0 = true → PyData.eqv d d = true
  | .none, _ => by simp [PyData.eqv]
  | .bool _, _ => by simp [PyData.eqv]
  | .int _, _ => by simp [PyData.eqv]
  | .str _, _ => by simp [PyData.eqv]
  | .list xs, h => by simp only [PyData.canLay0] at h; simp only [PyData.eqv]; exact eqvAll_self xs h
  | .tuple xs, h => by simp only [PyData.canLay0] at h; simp only [PyData.eqv]; exact eqvAll_self xs h
  | .dict _, h => by simp [PyData.canLay0] at h
theorem eqvAll_self : ∀ ds : List PyData, PyData.canLayAll0 ds = true → PyData.eqvAll ds ds = true
  | [], _ => by simp [PyData.eqvAll]
  | d :: ds, h => by
    simp only [PyData.canLayAll0, Bool.and_eq_true] at h
    simp only [PyData.eqvAll, Bool.and_eq_true]
    exact ⟨eqv_self d h.1, eqvAll_self ds h.2⟩
end
theorem nbAll_iff {ds : List PyData} : nbAll ds = true ↔ ∀ d ∈ ds, nb d = true := by
  induction ds with
  | nil => simp [nbAll]
  | cons d ds ih => simp [nbAll, ih]
theorem depthAll_le {n : Nat} : ∀ {ds : List PyData}, (∀ d ∈ ds, d.depth ≤ n) → PyData.depthAll ds ≤ n
  | [], _ => by simp [PyData.depthAll]
  | d :: ds, h => by
    have h1 := h d List.mem_cons_self
    have h2 := depthAll_le (ds := ds) fun e he => h e (List.mem_cons_of_mem _ he)
    simp only [PyData.depthAll]; omega
theorem shaped_of {d : PyData} (h : nb d = true) (hd : d.depth ≤ 64) : SeqAt.shaped d = true := by
  unfold SeqAt.shaped
  rw [nb_lay d h, decide_eq_true hd]; rfl
/-! words -/
theorem let_small : ∀ c ∈ LETT.cps.toList, c < 0x110000 := by decide +kernel
theorem word_strOk {x : Str} (h : wordOk x = true) : PyData.strOk x = true := by
  unfold wordOk at h
  simp only [Bool.and_eq_true] at h
  unfold PyData.strOk
  rw [Array.all_eq_true']
  intro c hc
  have := List.all_eq_true.mp h.2 c (Array.mem_toList_iff.mpr hc)
  unfold letterOk at this
  exact decide_eq_true (let_small c (of_decide_eq_true this))
/-! plots -/
theorem enc_inj : ∀ {a b : Fo}, a.enc = b.enc → a = b := by
  intro a
  induction a with
  | nil => intro b h; exact (enc_nil (show b.enc = [] from h.symm)).symm
  | cons m w c r ihc ihr =>
    intro b h
    cases b with
    | nil => exact absurd h (List.cons_ne_nil _ _)
    | cons m' w' c' r' =>
      have h' : spotD m w c.enc :: r.enc = spotD m' w' c'.enc :: r'.enc := h
      unfold spotD at h'
      simp only [List.cons.injEq, PyData.tuple.injEq, PyData.int.injEq, PyData.str.injEq, and_true] at h'
      obtain ⟨⟨h1, h2, h3⟩, h4⟩ := h'
      rw [h1, h2, ihc h3, ihr h4]
theorem enc_nb : ∀ {t : Fo}, (∀ w ∈ t.words, wordOk w = true) → nbAll t.enc = true
  | .nil, _ => by simp [Fo.enc, nbAll]
  | .cons m w c r, h => by
    have h' : ∀ x ∈ w :: (c.words ++ r.words), wordOk x = true := h
    have h1 := word_strOk (h' w List.mem_cons_self)
    have h2 := enc_nb (t := c) fun x hx => h' x (List.mem_cons_of_mem _ (List.mem_append_left _ hx))
    have h3 := enc_nb (t := r) fun x hx => h' x (List.mem_cons_of_mem _ (List.mem_append_right _ hx))
    simp [Fo.enc, spotD, nbAll, nb, h1, h2, h3]
theorem enc_depth : ∀ (t : Fo), PyData.depthAll t.enc ≤ 2 * t.dep
  | .nil => by simp [Fo.enc, PyData.depthAll]
  | .cons m w c r => by
    have h1 := enc_depth c
    have h2 := enc_depth r
    have e : (Fo.cons m w c r).dep = max (c.dep + 1) r.dep := rfl
    simp only [Fo.enc, spotD, PyData.depthAll, PyData.depth, e]
    omega
theorem plot_nb {t : Fo} (h : t.Ok) : nb (.tuple t.enc) = true := by simp only [nb]; exact enc_nb h.wd
theorem plot_shaped {t : Fo} (h : t.Ok) (hf : Fit t) : SeqAt.shaped (.tuple t.enc) = true := by
  refine shaped_of (plot_nb h) ?_
  have := enc_depth t
  have := hf.1
  simp only [PyData.depth]; omega
theorem plot_eq {t u : Fo} : (PyData.tuple t.enc = .tuple u.enc) ↔ t = u := ⟨fun h => enc_inj (by simpa using h), fun h => by rw [h]⟩
/-! deeds -/
theorem deed_nb {x : Deed} (h : x.good = true) : nb x.enc = true ∧ x.enc.depth = 1 := by
  cases x with
  | add m w p b =>
    have h' : (decide (0 < m) && (wordOk w && (decide (0 ≤ p) && decide (0 ≤ b)))) = true := h
    simp only [Bool.and_eq_true] at h'
    have := word_strOk h'.2.1
    have e : PyData.strOk "add" = true := by decide +kernel
    simp [Deed.enc, nb, nbAll, this, e, PyData.depth, PyData.depthAll]
  | drop m =>
    have e : PyData.strOk "drop" = true := by decide +kernel
    simp [Deed.enc, nb, nbAll, e, PyData.depth, PyData.depthAll]
  | move m p b =>
    have e : PyData.strOk "move" = true := by decide +kernel
    simp [Deed.enc, nb, nbAll, e, PyData.depth, PyData.depthAll]
  | word m w =>
    have h' : (decide (0 < m) && wordOk w) = true := h
    simp only [Bool.and_eq_true] at h'
    have := word_strOk h'.2
    have e : PyData.strOk "word" = true := by decide +kernel
    simp [Deed.enc, nb, nbAll, this, e, PyData.depth, PyData.depthAll]
theorem deed_inj {x y : Deed} (h : x.enc = y.enc) : x = y := by
  have e1 : ("add" : Str) ≠ "drop" := by decide
  have e2 : ("add" : Str) ≠ "move" := by decide
  have e3 : ("add" : Str) ≠ "word" := by decide
  have e4 : ("drop" : Str) ≠ "move" := by decide
  have e5 : ("drop" : Str) ≠ "word" := by decide
  have e6 : ("move" : Str) ≠ "word" := by decide
  cases x <;> cases y <;> simp [Deed.enc, e1, e2, e3, e4, e5, e6, e1.symm, e2.symm, e3.symm, e4.symm, e5.symm, e6.symm] at h ⊢ <;> exact h
def rowD (ys : List Deed) : PyData := .tuple (ys.map Deed.enc)
theorem row_nb {ys : List Deed} (h : ∀ y ∈ ys, y.good = true) : nb (rowD ys) = true ∧ SeqAt.shaped (rowD ys) = true := by
  have h1 : nb (rowD ys) = true := by
    unfold rowD
    simp only [nb]
    rw [nbAll_iff]
    intro d hd
    obtain ⟨y, hy, rfl⟩ := List.mem_map.mp hd
    exact (deed_nb (h y hy)).1
  refine ⟨h1, shaped_of h1 ?_⟩
  have : PyData.depthAll (ys.map Deed.enc) ≤ 1 := depthAll_le fun d hd => by
    obtain ⟨y, hy, rfl⟩ := List.mem_map.mp hd
    exact Nat.le_of_eq (deed_nb (h y hy)).2
  unfold rowD
  simp only [PyData.depth]; omega
theorem map_inj {α : Type} {f : α → PyData} (hf : ∀ {a b}, f a = f b → a = b) : ∀ {xs ys : List α}, xs.map f = ys.map f → xs = ys
  | [], [], _ => rfl
  | [], _ :: _, h => by simp at h
  | _ :: _, [], h => by simp at h
  | x :: xs, y :: ys, h => by
    rw [List.map_cons, List.map_cons] at h
    injection h with h1 h2
    rw [hf h1, map_inj hf h2]
theorem row_inj {xs ys : List Deed} : rowD xs = rowD ys ↔ xs = ys := ⟨fun h => map_inj deed_inj (by unfold rowD at h; simpa using h), fun h => by rw [h]⟩
/-- deeds may be compared: where they differ first, they are of one type -/
theorem deed_comp {x y : Deed} (hx : x.good = true) (hy : y.good = true) : comp x.enc y.enc = true := by
  have e1 : (("add" : Str) == "drop") = false := by decide
  have e2 : (("add" : Str) == "move") = false := by decide
  have e3 : (("add" : Str) == "word") = false := by decide
  have e4 : (("drop" : Str) == "move") = false := by decide
  have e5 : (("drop" : Str) == "word") = false := by decide
  have e6 : (("move" : Str) == "word") = false := by decide
  have f1 : (("drop" : Str) == "add") = false := by decide
  have f2 : (("move" : Str) == "add") = false := by decide
  have f3 : (("word" : Str) == "add") = false := by decide
  have f4 : (("move" : Str) == "drop") = false := by decide
  have f5 : (("word" : Str) == "drop") = false := by decide
  have f6 : (("word" : Str) == "move") = false := by decide
  cases x <;> cases y <;> simp [Deed.enc, comp, compL, PyData.eqv, e1, e2, e3, e4, e5, e6, f1, f2, f3, f4, f5, f6]
theorem row_comp {xs ys : List Deed} (hx : ∀ y ∈ xs, y.good = true) (hy : ∀ y ∈ ys, y.good = true) : comp (rowD xs) (rowD ys) = true := by
  unfold rowD
  simp only [comp]
  induction xs generalizing ys with
  | nil => simp [compL]
  | cons x xs ih =>
    cases ys with
    | nil => simp [compL]
    | cons y ys =>
      simp only [List.map_cons, compL]
      split
      · exact ih (fun z hz => hx z (List.mem_cons_of_mem _ hz)) (fun z hz => hy z (List.mem_cons_of_mem _ hz))
      · exact deed_comp (hx x List.mem_cons_self) (hy y List.mem_cons_self)
/-! orders -/
theorem ord_nb (ns : List Int) : nb (ordD ns) = true ∧ SeqAt.shaped (ordD ns) = true := by
  have h1 : nb (ordD ns) = true := by
    unfold ordD
    simp only [nb]
    rw [nbAll_iff]
    intro d hd
    obtain ⟨n, _, rfl⟩ := List.mem_map.mp hd
    simp [nb]
  exact ⟨h1, shaped_of h1 (by rw [ordD_depth]; decide)⟩
theorem ord_inj {a b : List Int} : ordD a = ordD b ↔ a = b := ⟨fun h => map_inj (f := PyData.int) (fun h => by simpa using h) (by unfold ordD at h; simpa using h), fun h => by rw [h]⟩
theorem ord_comp (a b : List Int) : comp (ordD a) (ordD b) = true := by
  unfold ordD
  simp only [comp]
  induction a generalizing b with
  | nil => simp [compL]
  | cons x xs ih =>
    cases b with
    | nil => simp [compL]
    | cons y ys =>
      simp only [List.map_cons, compL]
      split
      · exact ih ys
      · simp [comp]
end G
set_option Elab.async false
set_option linter.all false
set_option maxRecDepth 100000
set_option maxHeartbeats 4000000
/-! Orders of a history: swaps, the class that they reach. -/
namespace G
open PySem L2 Fo
def reachD : Fo → List Deed → Option Fo
  | t, [] => some t
  | t, x :: r => match reasonAt t x with
    | none => reachD (behindT t x) r
    | some _ => none
def plotO : Option Fo → PyData
  | none => .none
  | some t => .tuple t.enc
theorem reachD_cons (t : Fo) (x : Deed) (r : List Deed) : reachD t (x :: r) = match reasonAt t x with
    | none => reachD (behindT t x) r
    | some _ => none := rfl
theorem reachD_append : ∀ (t : Fo) (a b : List Deed), reachD t (a ++ b) = (reachD t a).bind fun u => reachD u b
  | t, [], b => rfl
  | t, x :: a, b => by
    rw [List.cons_append, reachD_cons, reachD_cons]
    cases reasonAt t x with
    | none => exact reachD_append _ a b
    | some _ => rfl
theorem reach_ok : ∀ {t u : Fo} {ys : List Deed}, Ok t → (∀ y ∈ ys, y.good = true) → reachD t ys = some u → Ok u ∧ u.size ≤ t.size + ys.length
  | t, u, [], h, _, e => by
    have : t = u := by simpa [reachD] using e
    subst this
    exact ⟨h, Nat.le_refl _⟩
  | t, u, x :: r, h, hg, e => by
    rw [reachD_cons] at e
    cases hr : reasonAt t x with
    | some _ => rw [hr] at e; cases e
    | none =>
      rw [hr] at e
      obtain ⟨h1, h2⟩ := behind_ok h (hg x List.mem_cons_self) hr
      obtain ⟨h3, h4⟩ := reach_ok h1 (fun y hy => hg y (List.mem_cons_of_mem _ hy)) e
      refine ⟨h3, ?_⟩
      simp only [List.length_cons]; omega
theorem runD_some : ∀ {t u : Fo} {ys : List Deed} (cR : Addr), reachD t ys = some u → runD cR t ys = .ret (.tuple u.enc)
  | t, u, [], cR, e => by
    have : t = u := by simpa [reachD] using e
    subst this; rfl
  | t, u, x :: r, cR, e => by
    rw [reachD_cons] at e
    show (match reasonAt t x with
      | none => runD cR (behindT t x) r
      | some why => refOut cR x why) = _
    cases hr : reasonAt t x with
    | some _ => rw [hr] at e; cases e
    | none => rw [hr] at e; exact runD_some cR e
def metD (t : Fo) (x y : Deed) : Option Fo := match reachD t [x, y], reachD t [y, x] with
  | some a, some b => if a = b then some a else none
  | _, _ => none
theorem met_some {t a : Fo} {x y : Deed} : metD t x y = some a ↔ reachD t [x, y] = some a ∧ reachD t [y, x] = some a := by
  unfold metD
  constructor
  · intro h
    cases h1 : reachD t [x, y] with
    | none => rw [h1] at h; cases h
    | some u =>
      cases h2 : reachD t [y, x] with
      | none => rw [h1, h2] at h; cases h
      | some v =>
        rw [h1, h2] at h
        dsimp only at h
        by_cases e : u = v
        · subst e
          rw [if_pos rfl] at h
          cases h; exact ⟨rfl, rfl⟩
        · rw [if_neg e] at h; cases h
  · rintro ⟨h1, h2⟩
    rw [h1, h2]
    exact if_pos rfl
theorem met_sym (t : Fo) (x y : Deed) : metD t x y = metD t y x := by
  cases h : metD t x y with
  | some a => exact (met_some.mpr (met_some.mp h).symm).symm
  | none =>
    cases k : metD t y x with
    | none => rfl
    | some a => rw [met_some.mpr (met_some.mp k).symm] at h; cases h
/-! swaps -/
def swapL {α : Type} : List α → Nat → List α
  | a :: b :: r, 0 => b :: a :: r
  | a :: r, k + 1 => a :: swapL r k
  | l, _ => l
section
variable {α β : Type}
theorem swapL_zero (a b : α) (r : List α) : swapL (a :: b :: r) 0 = b :: a :: r := by simp [swapL]
theorem swapL_succ (a : α) (r : List α) (k : Nat) : swapL (a :: r) (k + 1) = a :: swapL r k := by cases r <;> simp [swapL]
theorem swapL_nil (k : Nat) : swapL ([] : List α) k = [] := by cases k <;> simp [swapL]
theorem swapL_one (a : α) : swapL [a] 0 = [a] := by simp [swapL]
theorem swapL_perm : ∀ (l : List α) (k : Nat), (swapL l k).Perm l
  | [], k => by rw [swapL_nil]
  | [a], 0 => by rw [swapL_one]
  | a :: b :: r, 0 => by rw [swapL_zero]; exact List.Perm.swap _ _ _
  | a :: r, k + 1 => by rw [swapL_succ]; exact (swapL_perm r k).cons a
theorem swapL_swapL : ∀ (l : List α) (k : Nat), swapL (swapL l k) k = l
  | [], k => by rw [swapL_nil, swapL_nil]
  | [a], 0 => by rw [swapL_one, swapL_one]
  | a :: b :: r, 0 => by rw [swapL_zero, swapL_zero]
  | a :: r, k + 1 => by rw [swapL_succ, swapL_succ, swapL_swapL r k]
theorem swapL_map (f : α → β) : ∀ (l : List α) (k : Nat), (swapL l k).map f = swapL (l.map f) k
  | [], k => by rw [swapL_nil, List.map_nil, swapL_nil]
  | [a], 0 => by simp [swapL]
  | a :: b :: r, 0 => by simp [swapL]
  | a :: r, k + 1 => by rw [swapL_succ, List.map_cons, List.map_cons, swapL_succ, swapL_map f r k]
theorem swapL_at : ∀ {l : List α} {k : Nat} {x y : α}, l[k]? = some x → l[k + 1]? = some y → swapL l k = l.take k ++ [y, x] ++ l.drop (k + 2)
  | [], k, x, y, h, _ => by simp at h
  | [a], 0, x, y, _, h => by simp at h
  | a :: b :: r, 0, x, y, h1, h2 => by
    simp at h1 h2; subst h1 h2
    rw [swapL_zero]; simp
  | a :: r, k + 1, x, y, h1, h2 => by
    rw [swapL_succ, swapL_at (l := r) (k := k) (by simpa using h1) (by simpa using h2)]; simp
end
/-- the swap at k is free, from plot t on -/
def canSwap (t : Fo) (zs : List Deed) (k : Nat) : Bool := match reachD t (zs.take k), zs[k]?, zs[k + 1]? with
  | some u, some x, some y => (metD u x y).isSome
  | _, _, _ => false
theorem can_iff {t : Fo} {zs : List Deed} {k : Nat} : canSwap t zs k = true ↔ ∃ u x y a, reachD t (zs.take k) = some u ∧ zs[k]? = some x ∧ zs[k + 1]? = some y ∧ metD u x y = some a := by
  unfold canSwap
  cases h1 : reachD t (zs.take k) with
  | none => simp
  | some u => cases h2 : zs[k]? with
    | none => simp
    | some x => cases h3 : zs[k + 1]? with
      | none => simp
      | some y =>
        dsimp only
        rw [Option.isSome_iff_exists]
        constructor
        · rintro ⟨a, ha⟩; exact ⟨u, x, y, a, rfl, rfl, rfl, ha⟩
        · rintro ⟨u', x', y', a, h, h', h'', ha⟩
          cases h; cases h'; cases h''
          exact ⟨a, ha⟩
theorem swap_reach {t : Fo} {zs : List Deed} {k : Nat} (h : canSwap t zs k = true) : reachD t (swapL zs k) = reachD t zs := by
  obtain ⟨u, x, y, a, h1, h2, h3, h4⟩ := can_iff.mp h
  obtain ⟨m1, m2⟩ := met_some.mp h4
  have e : zs = zs.take k ++ [x, y] ++ zs.drop (k + 2) := by
    obtain ⟨l1, e1⟩ := List.getElem?_eq_some_iff.mp h2
    obtain ⟨l2, e2⟩ := List.getElem?_eq_some_iff.mp h3
    have d1 : zs.drop k = x :: zs.drop (k + 1) := by rw [List.drop_eq_getElem_cons l1, e1]
    have d2 : zs.drop (k + 1) = y :: zs.drop (k + 2) := by rw [List.drop_eq_getElem_cons l2, e2]
    have : zs = zs.take k ++ zs.drop k := (List.take_append_drop k zs).symm
    rw [d1, d2] at this
    simpa using this
  rw [swapL_at h2 h3]
  have r1 : reachD t zs = reachD t (zs.take k ++ [x, y] ++ zs.drop (k + 2)) := by rw [← e]
  rw [r1, reachD_append, reachD_append, reachD_append, reachD_append, h1]
  show (reachD u [y, x]).bind _ = (reachD u [x, y]).bind _
  rw [m1, m2]
theorem can_sym {t : Fo} {zs : List Deed} {k : Nat} (h : canSwap t zs k = true) : canSwap t (swapL zs k) k = true := by
  obtain ⟨u, x, y, a, h1, h2, h3, h4⟩ := can_iff.mp h
  refine can_iff.mpr ⟨u, y, x, a, ?_, ?_, ?_, by rw [met_sym]; exact h4⟩
  · rw [swapL_at h2 h3]
    have hk : k ≤ zs.length := Nat.le_of_lt (List.getElem?_eq_some_iff.mp h2).1
    rw [List.append_assoc, List.take_append_of_le_length (by rw [List.length_take]; omega), List.take_take, Nat.min_self]
    exact h1
  · rw [swapL_at h2 h3]
    have hk : (zs.take k).length = k := by rw [List.length_take]; have := (List.getElem?_eq_some_iff.mp h2).1; omega
    rw [List.append_assoc, List.getElem?_append_right (by omega), hk, Nat.sub_self]; rfl
  · rw [swapL_at h2 h3]
    have hk : (zs.take k).length = k := by rw [List.length_take]; have := (List.getElem?_eq_some_iff.mp h2).1; omega
    rw [List.append_assoc, List.getElem?_append_right (by omega), hk, Nat.add_sub_cancel_left]; rfl
/-- the histories that swaps reach -/
inductive Cls : List Deed → List Deed → Prop
  | refl (zs : List Deed) : Cls zs zs
  | step {ys zs : List Deed} {k : Nat} : Cls ys zs → canSwap .nil zs k = true → Cls ys (swapL zs k)
theorem Cls.trans {a b c : List Deed} (h : Cls a b) (k : Cls b c) : Cls a c := by
  induction k with
  | refl => exact h
  | step _ hc ih => exact ih.step hc
theorem Cls.symm {a b : List Deed} (h : Cls a b) : Cls b a := by
  induction h with
  | refl => exact .refl _
  | @step zs k h hc ih =>
    have := Cls.step (Cls.refl (swapL zs k)) (can_sym hc)
    rw [swapL_swapL] at this
    exact this.trans ih
theorem Cls.reach {a b : List Deed} (h : Cls a b) : reachD .nil b = reachD .nil a := by
  induction h with
  | refl => rfl
  | step _ hc ih => rw [swap_reach hc, ih]
theorem Cls.perm {a b : List Deed} (h : Cls a b) : b.Perm a := by
  induction h with
  | refl => exact List.Perm.refl _
  | step _ _ ih => exact (swapL_perm _ _).trans ih
/-! orders -/
def formOf (ys : List Deed) (o : List Nat) : List Deed := o.filterMap fun i => ys[i]?
def In (ys : List Deed) (o : List Nat) : Prop := ∀ i ∈ o, i < ys.length
theorem form_get {ys : List Deed} : ∀ {o : List Nat}, In ys o → ∀ k : Nat, (formOf ys o)[k]? = (o[k]?).bind fun i => ys[i]?
  | [], _, k => by simp [formOf]
  | i :: o, h, k => by
    have hi := h i List.mem_cons_self
    have e : formOf ys (i :: o) = ys[i] :: formOf ys o := by
      unfold formOf
      rw [List.filterMap_cons, List.getElem?_eq_getElem hi]
    rw [e]
    cases k with
    | zero => simp [List.getElem?_eq_getElem hi]
    | succ k =>
      rw [List.getElem?_cons_succ, List.getElem?_cons_succ]
      exact form_get (fun j hj => h j (List.mem_cons_of_mem _ hj)) k
theorem form_len {ys : List Deed} : ∀ {o : List Nat}, In ys o → (formOf ys o).length = o.length
  | [], _ => rfl
  | i :: o, h => by
    have hi := h i List.mem_cons_self
    have e : formOf ys (i :: o) = ys[i] :: formOf ys o := by
      unfold formOf
      rw [List.filterMap_cons, List.getElem?_eq_getElem hi]
    rw [e, List.length_cons, List.length_cons, form_len fun j hj => h j (List.mem_cons_of_mem _ hj)]
theorem form_swap {ys : List Deed} : ∀ {o : List Nat} (k : Nat), In ys o → formOf ys (swapL o k) = swapL (formOf ys o) k
  | [], k, _ => by rw [swapL_nil]; show [] = swapL [] k; rw [swapL_nil]
  | [i], 0, h => by
    have hi := h i List.mem_cons_self
    rw [swapL_one]
    simp [formOf, List.getElem?_eq_getElem hi, swapL]
  | i :: j :: o, 0, h => by
    have hi := h i List.mem_cons_self
    have hj := h j (List.mem_cons_of_mem _ List.mem_cons_self)
    rw [swapL_zero]
    simp [formOf, List.getElem?_eq_getElem hi, List.getElem?_eq_getElem hj, swapL_zero]
  | i :: o, k + 1, h => by
    have hi := h i List.mem_cons_self
    have ih := form_swap (o := o) k fun j hj => h j (List.mem_cons_of_mem _ hj)
    rw [swapL_succ]
    have e : ∀ l, formOf ys (i :: l) = ys[i] :: formOf ys l := fun l => by
      unfold formOf
      rw [List.filterMap_cons, List.getElem?_eq_getElem hi]
    rw [e, e, swapL_succ, ih]
theorem form_range (ys : List Deed) : formOf ys (List.range ys.length) = ys := by
  apply List.ext_getElem?
  intro k
  rw [form_get (fun i hi => List.mem_range.mp hi)]
  by_cases h : k < ys.length
  · rw [List.getElem?_range h]; rfl
  · rw [List.getElem?_eq_none_iff.mpr (by rw [List.length_range]; omega), List.getElem?_eq_none_iff.mpr (by omega)]; rfl
def stepK (ys : List Deed) (o : List Nat) (found : List (List Nat)) (k : Nat) : List (List Nat) := if swapL o k ∉ found ∧ canSwap .nil (formOf ys o) k = true then found ++ [swapL o k] else found
def expand (ys : List Deed) (o : List Nat) (found : List (List Nat)) : List (List Nat) := (List.range (ys.length - 1)).foldl (stepK ys o) found
def bfs (ys : List Deed) : Nat → Nat → List (List Nat) → List (List Nat)
  | 0, _, found => found
  | f + 1, i, found => match found[i]? with
    | none => found
    | some o => bfs ys f (i + 1) (expand ys o found)
def ordersOf (ys : List Deed) : List (List Nat) := bfs ys 120 0 [List.range ys.length]
structure BInv (ys : List Deed) (u : Fo) (found : List (List Nat)) : Prop where
  nd : found.Nodup
  pm : ∀ o ∈ found, o.Perm (List.range ys.length)
  cl : ∀ o ∈ found, Cls ys (formOf ys o)
  rn : reachD .nil ys = some u
  base : List.range ys.length ∈ found
section
variable {ys : List Deed} {u : Fo} {found : List (List Nat)} {o : List Nat} {k : Nat}
theorem BInv.ins (h : BInv ys u found) (ho : o ∈ found) : In ys o := fun i hi => List.mem_range.mp ((h.pm o ho).subset hi)
theorem BInv.run (h : BInv ys u found) (ho : o ∈ found) : reachD .nil (formOf ys o) = some u := by rw [(h.cl o ho).reach]; exact h.rn
theorem BInv.step (h : BInv ys u found) (ho : o ∈ found) : BInv ys u (stepK ys o found k) := by
  unfold stepK
  split
  · rename_i hc
    refine ⟨?_, fun q hq => ?_, fun q hq => ?_, h.rn, List.mem_append_left _ h.base⟩
    · exact List.nodup_append.mpr ⟨h.nd, by simp, fun a ha b hb e => by
        rw [List.mem_singleton.mp hb] at e
        rw [e] at ha; exact hc.1 ha⟩
    · rcases List.mem_append.mp hq with hq | hq
      · exact h.pm q hq
      · rw [List.mem_singleton.mp hq]; exact (swapL_perm _ _).trans (h.pm o ho)
    · rcases List.mem_append.mp hq with hq | hq
      · exact h.cl q hq
      · rw [List.mem_singleton.mp hq, form_swap k (h.ins ho)]; exact (h.cl o ho).step hc.2
  · exact h
theorem step_sub : ∀ q ∈ found, q ∈ stepK ys o found k := fun q hq => by
  unfold stepK
  split
  · exact List.mem_append_left _ hq
  · exact hq
theorem step_pre : ∃ e, stepK ys o found k = found ++ e := by
  unfold stepK
  split
  · exact ⟨_, rfl⟩
  · exact ⟨[], (List.append_nil _).symm⟩
theorem step_has (h : canSwap .nil (formOf ys o) k = true) : swapL o k ∈ stepK ys o found k := by
  unfold stepK
  by_cases hm : swapL o k ∈ found
  · rw [if_neg fun z => z.1 hm]; exact hm
  · rw [if_pos ⟨hm, h⟩]; exact List.mem_append_right _ List.mem_cons_self
theorem fold_inv : ∀ (ks : List Nat) {found : List (List Nat)}, BInv ys u found → o ∈ found → BInv ys u (ks.foldl (stepK ys o) found) ∧ (∃ e, ks.foldl (stepK ys o) found = found ++ e) ∧ ∀ k ∈ ks, canSwap .nil (formOf ys o) k = true → swapL o k ∈ ks.foldl (stepK ys o) found
  | [], found, h, ho => ⟨h, ⟨[], (List.append_nil _).symm⟩, fun k hk => absurd hk List.not_mem_nil⟩
  | k :: ks, found, h, ho => by
    obtain ⟨h1, ⟨e, he⟩, h3⟩ := fold_inv ks (h.step (k := k) ho) (step_sub o ho)
    obtain ⟨e0, he0⟩ := step_pre (ys := ys) (o := o) (found := found) (k := k)
    refine ⟨h1, ⟨e0 ++ e, ?_⟩, fun j hj hc => ?_⟩
    · rw [List.foldl_cons, he, he0, List.append_assoc]
    · rcases List.mem_cons.mp hj with rfl | hj
      · rw [List.foldl_cons, he]; exact List.mem_append_left _ (step_has hc)
      · exact h3 j hj hc
def Closed (ys : List Deed) (o : List Nat) (found : List (List Nat)) : Prop := ∀ k, canSwap .nil (formOf ys o) k = true → swapL o k ∈ found
theorem expand_ok (h : BInv ys u found) (ho : o ∈ found) : BInv ys u (expand ys o found) ∧ (∃ e, expand ys o found = found ++ e) ∧ Closed ys o (expand ys o found) := by
  obtain ⟨h1, h2, h3⟩ := fold_inv (List.range (ys.length - 1)) h ho
  refine ⟨h1, h2, fun k hc => h3 k (List.mem_range.mpr ?_) hc⟩
  obtain ⟨_, x, y, _, _, _, h5, _⟩ := can_iff.mp hc
  have hl := (List.getElem?_eq_some_iff.mp h5).1
  rw [form_len (h.ins ho), (h.pm o ho).length_eq, List.length_range] at hl
  omega
theorem Closed.more {e : List (List Nat)} (h : Closed ys o found) : Closed ys o (found ++ e) := fun k hc => List.mem_append_left _ (h k hc)
end
/-! at most 120 orders -/
def inserts (x : Nat) : List Nat → List (List Nat)
  | [] => [[x]]
  | y :: l => (x :: y :: l) :: (inserts x l).map (y :: ·)
def permsOf : List Nat → List (List Nat)
  | [] => [[]]
  | x :: l => (permsOf l).flatMap (inserts x)
theorem inserts_mem (x : Nat) (a b : List Nat) : a ++ x :: b ∈ inserts x (a ++ b) := by
  induction a with
  | nil => cases b <;> simp [inserts]
  | cons y a ih => simp [inserts, ih]
theorem perms_mem : ∀ {l m : List Nat}, m.Perm l → m ∈ permsOf l
  | [], m, h => by rw [List.perm_nil.mp h]; simp [permsOf]
  | x :: l, m, h => by
    have hx : x ∈ m := h.mem_iff.mpr List.mem_cons_self
    obtain ⟨a, b, rfl⟩ := List.append_of_mem hx
    have h' : (a ++ b).Perm l := (List.perm_middle.symm.trans h).cons_inv
    unfold permsOf
    exact List.mem_flatMap.mpr ⟨a ++ b, perms_mem h', inserts_mem x a b⟩
theorem nodup_le {α : Type} [DecidableEq α] : ∀ {l m : List α}, l.Nodup → (∀ x ∈ l, x ∈ m) → l.length ≤ m.length
  | [], _, _, _ => Nat.zero_le _
  | x :: l, m, nd, h => by
    obtain ⟨h1, h2⟩ := List.nodup_cons.mp nd
    have hx := h x List.mem_cons_self
    have := nodup_le (l := l) (m := m.erase x) h2 fun y hy => (List.mem_erase_of_ne (fun e : y = x => h1 (e ▸ hy))).mpr (h y (List.mem_cons_of_mem _ hy))
    rw [List.length_erase_of_mem hx] at this
    have : 0 < m.length := List.length_pos_of_mem hx
    simp only [List.length_cons]; omega
theorem perms_le : ∀ n : Nat, n ≤ 5 → (permsOf (List.range n)).length ≤ 120
  | 0, _ => by decide
  | 1, _ => by decide
  | 2, _ => by decide
  | 3, _ => by decide
  | 4, _ => by decide +kernel
  | 5, _ => by decide +kernel
  | n + 6, h => by omega
section
variable {ys : List Deed} {u : Fo} {found : List (List Nat)} {o : List Nat}
theorem BInv.len (h : BInv ys u found) (hn : ys.length ≤ 5) : found.length ≤ 120 := Nat.le_trans (nodup_le h.nd fun o ho => perms_mem (h.pm o ho)) (perms_le _ hn)
theorem bfs_ok (hn : ys.length ≤ 5) : ∀ (f i : Nat) {found : List (List Nat)}, BInv ys u found → (∀ j o, j < i → found[j]? = some o → Closed ys o found) → i + f = 120 → BInv ys u (bfs ys f i found) ∧ ∀ o ∈ bfs ys f i found, Closed ys o (bfs ys f i found)
  | 0, i, found, h, hc, hi => by
    refine ⟨h, fun o ho => ?_⟩
    obtain ⟨j, hj⟩ := List.mem_iff_getElem?.mp ho
    have := h.len hn
    exact hc j o (by have h9 : j < found.length := (List.getElem?_eq_some_iff.mp hj).1; omega) hj
  | f + 1, i, found, h, hc, hi => by
    unfold bfs
    cases e : found[i]? with
    | none =>
      dsimp only
      refine ⟨h, fun o ho => ?_⟩
      obtain ⟨j, hj⟩ := List.mem_iff_getElem?.mp ho
      have h1 := (List.getElem?_eq_some_iff.mp hj).1
      have h2 := List.getElem?_eq_none_iff.mp e
      exact hc j o (by omega) hj
    | some o =>
      dsimp only
      obtain ⟨h1, ⟨x, hx⟩, h3⟩ := expand_ok h (List.mem_of_getElem? e)
      refine bfs_ok hn f (i + 1) h1 (fun j q hj hq => ?_) (by omega)
      by_cases hji : j = i
      · subst hji
        rw [hx, List.getElem?_append_left (List.getElem?_eq_some_iff.mp e).1, e] at hq
        cases hq
        exact h3
      · have hlt : j < found.length := by
          have := (List.getElem?_eq_some_iff.mp e).1; omega
        rw [hx, List.getElem?_append_left hlt] at hq
        rw [hx]
        exact (hc j q (by omega) hq).more
theorem binv0 (h : reachD .nil ys = some u) : BInv ys u [List.range ys.length] :=
  ⟨by simp, fun o ho => by rw [List.mem_singleton.mp ho], fun o ho => by rw [List.mem_singleton.mp ho, form_range]; exact .refl _, h, List.mem_cons_self⟩
theorem orders_ok (hn : ys.length ≤ 5) (h : reachD .nil ys = some u) : BInv ys u (ordersOf ys) ∧ ∀ o ∈ ordersOf ys, Closed ys o (ordersOf ys) :=
  bfs_ok hn 120 0 (binv0 h) (fun j o hj => absurd hj (Nat.not_lt_zero _)) rfl
/-- the forms are the class -/
theorem forms_cls (hn : ys.length ≤ 5) (h : reachD .nil ys = some u) (zs : List Deed) : (∃ o ∈ ordersOf ys, formOf ys o = zs) ↔ Cls ys zs := by
  obtain ⟨h1, h2⟩ := orders_ok hn h
  constructor
  · rintro ⟨o, ho, rfl⟩; exact h1.cl o ho
  · intro hc
    induction hc with
    | refl => exact ⟨_, h1.base, form_range ys⟩
    | step _ hk ih =>
      obtain ⟨o, ho, rfl⟩ := ih
      exact ⟨_, h2 o ho _ hk, form_swap _ (h1.ins ho)⟩
end
end G
set_option Elab.async false
set_option linter.all false
set_option maxRecDepth 100000
set_option maxHeartbeats 4000000
namespace G
open PySem L2 Fo
/-! ### merges, histories -/
def R_need_scripts (ds : List PyData) (o : Out) : Prop := ∃ (t : Fo) (d e : PyData) (xs ys : List Deed), ds = [.tuple t.enc, d, e] ∧ seqOf d (xs.map Deed.enc) ∧ seqOf e (ys.map Deed.enc) ∧ (∀ x ∈ xs, x.good = true) ∧ (∀ y ∈ ys, y.good = true) ∧ Ok t ∧ Fit t ∧ o = .ret .none
def R_reached (ds : List PyData) (r : PyData) : Prop := ∃ (t : Fo) (d : PyData) (ys : List Deed), ds = [.tuple t.enc, d] ∧ seqOf d (ys.map Deed.enc) ∧ (∀ y ∈ ys, y.good = true) ∧ Ok t ∧ Fits t ys.length ∧ r = plotO (reachD t ys)
def R_met (ds : List PyData) (r : PyData) : Prop := ∃ (t : Fo) (x y : Deed), ds = [.tuple t.enc, .list [x.enc], .list [y.enc]] ∧ x.good = true ∧ y.good = true ∧ Ok t ∧ Fits t 2 ∧ r = plotO (metD t x y)
def R_are_free (ds : List PyData) (o : Out) : Prop := ∃ (t : Fo) (x y : Deed), ds = [.tuple t.enc, x.enc, y.enc] ∧ x.good = true ∧ y.good = true ∧ Ok t ∧ Fits t 2 ∧ o = .ret (.bool (metD t x y).isSome)
def R_swapped_at (ds : List PyData) (r : PyData) : Prop := ∃ (ns : List Int) (k : Nat), ds = [ordD ns, .int k] ∧ k + 1 < ns.length ∧ ns.length ≤ 1000 ∧ r = ordD (swapL ns k)
def R_can_swap (ds : List PyData) (o : Out) : Prop := ∃ (ys : List Deed) (k : Nat) (u : Fo), ds = [rowD ys, .int k] ∧ k + 1 < ys.length ∧ ys.length ≤ 6 ∧ (∀ y ∈ ys, y.good = true) ∧ reachD .nil (ys.take k) = some u ∧ o = .ret (.bool (canSwap .nil ys k))
def R_deeds_in (ds : List PyData) (r : PyData) : Prop := ∃ (d : PyData) (es : List PyData) (ns : List Int), ds = [d, ordD ns] ∧ seqOf d es ∧ (∀ n ∈ ns, 0 ≤ n ∧ n.toNat < es.length) ∧ ns.length ≤ 1000 ∧ r = .tuple (ns.map fun n => es.getD n.toNat .none)
theorem nil_ok : Ok .nil := ⟨List.nodup_nil, fun m h => absurd h List.not_mem_nil, fun m h => absurd h List.not_mem_nil⟩
theorem good_items {xs : List Deed} (h : ∀ x ∈ xs, x.good = true) : (∀ x ∈ xs.map Item.d, x.short) ∧ ((xs.map Item.d).find? fun x => !x.good) = none ∧ deedsOf (xs.map Item.d) = xs ∧ (xs.map Item.d).map Item.enc = xs.map Deed.enc := by
  refine ⟨fun x hx => ?_, List.find?_eq_none.mpr fun x hx => ?_, ?_, by rw [List.map_map]; rfl⟩
  · obtain ⟨y, hy, rfl⟩ := List.mem_map.mp hx
    exact good_short (h y hy)
  · obtain ⟨y, hy, rfl⟩ := List.mem_map.mp hx
    show ¬ (!y.good) = true
    rw [h y hy]; exact Bool.false_ne_true
  · clear h
    induction xs with
    | nil => rfl
    | cons x xs ih => show x :: deedsOf (xs.map Item.d) = _; rw [ih]
theorem atI_nat {α : Type} {l : List α} {k : Nat} {x : α} (h : l[k]? = some x) : atI l (k : Int) = some x := by
  have hl := (List.getElem?_eq_some_iff.mp h).1
  unfold atI ixN
  rw [if_pos (by omega)]
  have : ((k : Int) < (l.length : Int)) := by omega
  simp only [this, if_true, Option.bind_some, Int.toNat_natCast]
  exact h
theorem plotO_isN (o : Option Fo) : isNon (plotO o) = !o.isSome := by cases o <;> rfl
section
variable {P : Program} {w : World} {K : PySem.W.Frag} {mg : Str → Option Value} {base : Heap} {cS cR : Addr}
theorem sc_need_scripts : FnScope ["t", "p", "q"] ["t", "p", "q"] (defScope s_need_scripts) := ⟨rfl, rfl, rfl, by decide +kernel, rfl, by decide +kernel, by decide +kernel⟩
theorem c_need_scripts (T : Txt K mg) (XE : Errs P K mg cS cR) : Cl P w K mg base (L2.CX P w) 6 "need_scripts" ["t", "p", "q"] (SpX R_need_scripts) := by
  refine spx_ok T.d_need_scripts sc_need_scripts (fun ds d h => by obtain ⟨t, d, e, xs, ys, rfl, _⟩ := h; rfl) (fun f cdv A outer s H E hr => ⟨_, (pss_cons (ps_expr (pe_k (c_need_plot T) hr (by decide) rfl pass0 (pa_cons (pv 0) pa_nil)))
    (pss_cons (ps_expr (pe_k (c_need_script T XE) hr (by decide) rfl (passes_call (takes_of rfl rfl rfl rfl) (fun _ _ _ _ z => z)) (pa_cons (pv 1) pa_nil)))
    (pss_one (ps_expr (pe_k (c_need_script T XE) hr (by decide) rfl (passes_call (takes_of rfl rfl rfl rfl) (fun _ _ _ _ z => z)) (pa_cons (pv 2) pa_nil)))))), ?_⟩)
  rintro O ds o σ ⟨t, d, e, xs, ys, rfl, hd, he, hx, hy, hok, hf, rfl⟩ s Q q
  obtain ⟨a1, a2, a3, a4⟩ := good_items hx
  obtain ⟨b1, b2, b3, b4⟩ := good_items hy
  refine sq_drop (ev_call (ea_cons (ev_var rfl) ea_nil) ⟨t, rfl, hf, hok, rfl⟩) s fun H1 s1 => ?_
  refine sq_drop (ev_callX (d := .none) (ea_cons (ev_var rfl) ea_nil) ⟨d, xs.map Item.d, rfl, by rw [a4]; exact hd, a1, by unfold scriptOut; rw [a2]⟩) s1 fun H2 s2 => ?_
  refine st_drop (ev_callX (d := .none) (ea_cons (ev_var rfl) ea_nil) ⟨e, ys.map Item.d, rfl, by rw [b4]; exact he, b1, by unfold scriptOut; rw [b2]⟩) s2 fun H3 s3 => ?_
  exact q .non H3 (s3.pureSame rfl fun _ => rfl) .non
theorem sc_reached : FnScope ["t", "script", "plot", "deed"] ["t", "script"] (defScope s_reached) := ⟨rfl, rfl, rfl, by decide +kernel, rfl, by decide +kernel, by decide +kernel⟩
theorem c_reached (T : Txt K mg) : Cl P w K mg base CX0 26 "reached" ["t", "script"] (PureSp R_reached) := by
  refine pure_ok T.d_reached sc_reached (fun ds d h => by obtain ⟨t, d, ys, rfl, _⟩ := h; rfl) (fun f cdv A outer s H E hr => ⟨_, (pss_cons (ps_set (i := 2) sc_reached.nd rfl (Or.inl rfl) (pv 0))
    (pss_cons (ps_for PassesOwn.never rfl (pi_seq (pv 1)) (pg_name (i := 3) sc_reached.nd rfl (Or.inl rfl))
    (pss_cons (ps_if (pt_cmpR op_notN (pe_k (c_reason_at T) hr (by decide) rfl pass0 (pa_cons (pv 2) (pa_cons (pv 3) pa_nil))) pe_non (nomark _)) (pss_one (ps_ret pe_non)) pss_nil)
    (pss_one (ps_set (i := 2) sc_reached.nd rfl (Or.inl rfl) (pe_k (c_plot_behind_deed T) hr (by decide) rfl pass0 (pa_cons (pv 2) (pa_cons (pv 3) pa_nil)))))))
    (pss_one (ps_ret (pv 2))))), ?_⟩)
  rintro O ds r σ ⟨t, d, ys, rfl, hd, hg, hok, hfit, rfl⟩ s Q q
  refine sq_asg (ev_var rfl) s fun σ1 H1 s1 => ?_
  refine sq_for (α := Fo × List Deed) (fun _ _ => []) (fun _ a => [.dat (.tuple t.enc), .dat d, .dat (.tuple a.1.enc), .any]) (fun i a => ys.drop i = a.2 ∧ reachD t ys = reachD a.1 a.2 ∧ Ok a.1 ∧ Fits a.1 a.2.length) (t, ys) (ei_seq (ev_var rfl) hd) s1 ⟨rfl, rfl, hok, hfit⟩ rfl (Le.refl _) ?_ ?_
  · rintro B i ⟨u, rest⟩ e σ H v he ⟨h1, h2, h3, h4⟩ s r
    dsimp only at h1 h2 h3 h4 s
    rw [List.getElem?_map] at he
    cases hx : ys[i]? with
    | none => rw [hx] at he; cases he
    | some x =>
      rw [hx] at he
      cases he
      cases rest with
      | nil => exact absurd h1 (drop_some hx)
      | cons y rest =>
        obtain ⟨rfl, h5⟩ := drop_step hx h1
        have hgx := hg x (List.mem_of_getElem? hx)
        rw [reachD_cons] at h2
        refine tg_use tg_name s r fun σ1 s1 => ?_
        cases hre : reasonAt u x with
        | none =>
          rw [hre] at h2
          obtain ⟨o1, o2⟩ := behind_ok h3 hgx hre
          refine sq_noN (et_is (et_test (ev_notN (ev_call (ea_cons (ev_var rfl) (ea_cons (ev_var rfl) ea_nil)) ⟨u, x, rfl, h4.fit, h3, rfl⟩))) (by rw [hre]; rfl)) s1 fun H2 s2 => ?_
          refine st_asg (ev_call (ea_cons (ev_var rfl) (ea_cons (ev_var rfl) ea_nil)) ⟨u, x, rfl, h4.fit, h3, hre, rfl⟩) s2 fun σ3 H3 s3 => ⟨(behindT u x, rest), ⟨h5, h2, o1, ?_⟩, s3.le (.eq (.eq (.eq (.any .nil))))⟩
          have h4' : u.size + (rest.length + 1) < 20 := h4
          show (behindT u x).size + rest.length < 20
          omega
        | some why =>
          rw [hre] at h2
          refine sq_yesN (et_is (et_test (ev_notN (ev_call (ea_cons (ev_var rfl) (ea_cons (ev_var rfl) ea_nil)) ⟨u, x, rfl, h4.fit, h3, rfl⟩))) (by rw [hre]; rfl)) s1 fun H2 s2 => ?_
          exact st_retM (ev_is ev_non (by rw [h2]; rfl)) s2 q
  · rintro ⟨u, rest⟩ σ H ⟨h1, h2, h3, h4⟩ s
    dsimp only at h1 h2 h3 h4 s
    rw [List.length_map] at h1
    have := drop_all h1
    subst this
    exact st_retM (ev_is (ev_var rfl) (by rw [h2]; rfl)) s q
theorem Fits.le {t : Fo} {a b : Nat} (h : Fits t a) (hab : b ≤ a) : Fits t b := by unfold Fits at h ⊢; omega
theorem sc_met : FnScope ["t", "p", "q", "one", "other"] ["t", "p", "q"] (defScope s_met) := ⟨rfl, rfl, rfl, by decide +kernel, rfl, by decide +kernel, by decide +kernel⟩
theorem c_met (T : Txt K mg) : Cl P w K mg base CX0 27 "met" ["t", "p", "q"] (PureSp R_met) := by
  refine pure_ok T.d_met sc_met (fun ds d h => by obtain ⟨t, x, y, rfl, _⟩ := h; rfl) (fun f cdv A outer s H E hr => ⟨_, (pss_cons (ps_if (PW.pt (pw_or (pt_cmpR op_isN (pe_k (c_reached T) hr (by decide) rfl pass0 (pa_cons (pv 0) (pa_cons (pv 1) pa_nil))) pe_non (nomark _)) (pw_or1 (pt_cmpR op_isN (pe_k (c_reached T) hr (by decide) rfl pass0 (pa_cons (pv 0) (pa_cons (pv 2) pa_nil))) pe_non (nomark _))))) (pss_one (ps_ret pe_non)) pss_nil)
    (pss_cons (ps_set (i := 3) sc_met.nd rfl (Or.inl rfl) (pe_k (c_reached T) hr (by decide) rfl pass0 (pa_cons (pv 0) (pa_cons (pe_op op_cat (pe_callTy call_list_of (by rfl) T.z_list (by decide +kernel) (pa_cons (pv 1) pa_nil)) (pe_callTy call_list_of (by rfl) T.z_list (by decide +kernel) (pa_cons (pv 2) pa_nil))) pa_nil))))
    (pss_cons (ps_set (i := 4) sc_met.nd rfl (Or.inl rfl) (pe_k (c_reached T) hr (by decide) rfl pass0 (pa_cons (pv 0) (pa_cons (pe_op op_cat (pe_callTy call_list_of (by rfl) T.z_list (by decide +kernel) (pa_cons (pv 2) pa_nil)) (pe_callTy call_list_of (by rfl) T.z_list (by decide +kernel) (pa_cons (pv 1) pa_nil))) pa_nil))))
    (pss_cons (ps_if (PW.pt (pw_or (pt_cmpR op_isN (pv 3) pe_non (nomark _)) (pw_or1 (pt_cmpR (op_neD hr.units) (pv 3) (pv 4) (nomark _))))) (pss_one (ps_ret pe_non)) pss_nil)
    (pss_one (ps_ret (pv 3))))))), ?_⟩)
  rintro O ds r σ ⟨t, x, y, rfl, hx, hy, hok, hfit, rfl⟩ s Q q
  have g1 : ∀ z ∈ [x], z.good = true := fun z hz => by rw [List.mem_singleton.mp hz]; exact hx
  have g2 : ∀ z ∈ [y], z.good = true := fun z hz => by rw [List.mem_singleton.mp hz]; exact hy
  have g3 : ∀ z ∈ [x, y], z.good = true := fun z hz => by
    rcases List.mem_cons.mp hz with rfl | hz
    · exact hx
    · exact g2 z hz
  have g4 : ∀ z ∈ [y, x], z.good = true := fun z hz => by
    rcases List.mem_cons.mp hz with rfl | hz
    · exact hy
    · exact g1 z hz
  refine sq_ifN (et_or (et_test (ev_isN (ev_call (ea_cons (ev_var rfl) (ea_cons (ev_var rfl) ea_nil)) ⟨t, _, [x], rfl, .inl rfl, g1, hok, hfit.le (Nat.le_of_ble_eq_true rfl), rfl⟩))) fun _ => et_test (ev_isN (ev_call (ea_cons (ev_var rfl) (ea_cons (ev_var rfl) ea_nil)) ⟨t, _, [y], rfl, .inl rfl, g2, hok, hfit.le (Nat.le_of_ble_eq_true rfl), rfl⟩))) s (fun hb H1 s1 => ?_) fun hb H1 s1 => ?_
  · refine st_retM (ev_is ev_non ?_) s1 q
    have hn : metD t x y = none := by
      cases hm : metD t x y with
      | none => rfl
      | some a =>
        obtain ⟨m1, m2⟩ := met_some.mp hm
        have e1 : ∃ b, reachD t [x] = some b := by
          rw [show [x, y] = [x] ++ [y] from rfl, reachD_append] at m1
          cases h : reachD t [x] with
          | none => rw [h] at m1; cases m1
          | some b => exact ⟨b, rfl⟩
        have e2 : ∃ b, reachD t [y] = some b := by
          rw [show [y, x] = [y] ++ [x] from rfl, reachD_append] at m2
          cases h : reachD t [y] with
          | none => rw [h] at m2; cases m2
          | some b => exact ⟨b, rfl⟩
        obtain ⟨b1, e1⟩ := e1
        obtain ⟨b2, e2⟩ := e2
        rw [e1, e2] at hb
        cases hb
    rw [hn]; rfl
  · refine sq_asg (ev_call (ea_cons (ev_var rfl) (ea_cons (ev_catL (ev_list (ev_var rfl) (.inl rfl)) (ev_list (ev_var rfl) (.inl rfl)) (Nat.le_of_ble_eq_true rfl)) ea_nil)) ⟨t, _, [x, y], rfl, .inl rfl, g3, hok, hfit, rfl⟩) s1 fun σ2 H2 s2 => ?_
    refine sq_asg (ev_call (ea_cons (ev_var rfl) (ea_cons (ev_catL (ev_list (ev_var rfl) (.inl rfl)) (ev_list (ev_var rfl) (.inl rfl)) (Nat.le_of_ble_eq_true rfl)) ea_nil)) ⟨t, _, [y, x], rfl, .inl rfl, g4, hok, hfit, rfl⟩) s2 fun σ3 H3 s3 => ?_
    cases h1 : reachD t [x, y] with
    | none =>
      rw [h1] at s3
      refine sq_yesN (et_or (a := true) (b := true) (et_is (et_test (ev_isN (ev_var rfl))) rfl) (fun h => nomatch h)) s3 fun H4 s4 => ?_
      refine st_retM (ev_is ev_non ?_) s4 q
      unfold metD; rw [h1]; rfl
    | some a =>
      rw [h1] at s3
      obtain ⟨oa, za⟩ := reach_ok hok g3 h1
      have fa : Fit a := ⟨Nat.lt_of_le_of_lt (dep_le a) (by have h9 : t.size + 2 < 20 := hfit; simp only [List.length_cons, List.length_nil] at za; omega), by have h9 : t.size + 2 < 20 := hfit; simp only [List.length_cons, List.length_nil] at za; omega⟩
      cases h2 : reachD t [y, x] with
      | none =>
        rw [h2] at s3
        refine sq_yesN (et_or (a := false) (b := true) (et_is (et_test (ev_isN (ev_var rfl))) rfl) fun _ => et_is (et_test (ev_ne (ev_var rfl) (ev_var rfl) (plot_shaped oa fa) sh_non)) (by simp [plotO, PyData.eqv])) s3 fun H4 s4 => ?_
        refine st_retM (ev_is ev_non ?_) s4 q
        unfold metD; rw [h1, h2]; rfl
      | some b =>
        rw [h2] at s3
        obtain ⟨ob, zb⟩ := reach_ok hok g4 h2
        have fb : Fit b := ⟨Nat.lt_of_le_of_lt (dep_le b) (by have h9 : t.size + 2 < 20 := hfit; simp only [List.length_cons, List.length_nil] at zb; omega), by have h9 : t.size + 2 < 20 := hfit; simp only [List.length_cons, List.length_nil] at zb; omega⟩
        have he : PyData.eqv (.tuple a.enc) (.tuple b.enc) = decide (a = b) := eqv_dec (plot_nb oa) (plot_nb ob) plot_eq
        refine sq_ifN (b := !decide (a = b)) (et_is (et_or (a := false) (et_is (et_test (ev_isN (ev_var rfl))) rfl) fun _ => et_test (ev_ne (ev_var rfl) (ev_var rfl) (plot_shaped oa fa) (plot_shaped ob fb))) (by rw [Bool.false_or]; exact congrArg (!·) he)) s3 (fun hb H4 s4 => ?_) fun hb H4 s4 => ?_
        · refine st_retM (ev_is ev_non ?_) s4 q
          have : a ≠ b := by simpa using hb
          unfold metD; rw [h1, h2]
          show _ = plotO (if a = b then some a else none)
          rw [if_neg this]; rfl
        · refine st_retM (ev_is (ev_var rfl) ?_) s4 q
          have : a = b := by simpa using hb
          unfold metD; rw [h1, h2]
          show _ = plotO (if a = b then some a else none)
          rw [if_pos this]
theorem sc_are_free : FnScope ["t", "d", "e"] ["t", "d", "e"] (defScope s_are_free) := ⟨rfl, rfl, rfl, by decide +kernel, rfl, by decide +kernel, by decide +kernel⟩
theorem c_are_free (T : Txt K mg) (XE : Errs P K mg cS cR) : Cl P w K mg base (L2.CX P w) 28 "are_free" ["t", "d", "e"] (SpX R_are_free) := by
  refine spx_ok T.d_are_free sc_are_free (fun ds d h => by obtain ⟨t, x, y, rfl, _⟩ := h; rfl) (fun f cdv A outer s H E hr => ⟨_, (pss_cons (ps_expr (pe_k (c_need_scripts T XE) hr (by decide) rfl (passes_call (takes_of rfl rfl rfl rfl) (fun _ _ _ _ z => z)) (pa_cons (pv 0) (pa_cons (pe_lst (pa_cons (pv 1) pa_nil)) (pa_cons (pe_lst (pa_cons (pv 2) pa_nil)) pa_nil)))))
    (pss_one (ps_ret (pe_cmpR op_notN (pe_k (c_met T) hr (by decide) rfl pass0 (pa_cons (pv 0) (pa_cons (pe_lst (pa_cons (pv 1) pa_nil)) (pa_cons (pe_lst (pa_cons (pv 2) pa_nil)) pa_nil)))) pe_non (nomark _))))), ?_⟩)
  rintro O ds r σ ⟨t, x, y, rfl, hx, hy, hok, hfit, rfl⟩ s Q q
  refine sq_drop (ev_callX (d := .none) (ea_cons (ev_var rfl) (ea_cons (ev_lst (ea_cons (ev_var rfl) ea_nil)) (ea_cons (ev_lst (ea_cons (ev_var rfl) ea_nil)) ea_nil))) ⟨t, _, _, [x], [y], rfl, .inl rfl, .inl rfl, fun z hz => by rw [List.mem_singleton.mp hz]; exact hx, fun z hz => by rw [List.mem_singleton.mp hz]; exact hy, hok, hfit.fit, rfl⟩) s fun H1 s1 => ?_
  refine st_retM (ev_is (ev_notN (ev_call (ea_cons (ev_var rfl) (ea_cons (ev_lst (ea_cons (ev_var rfl) ea_nil)) (ea_cons (ev_lst (ea_cons (ev_var rfl) ea_nil)) ea_nil))) ⟨t, x, y, rfl, hx, hy, hok, hfit, rfl⟩)) ?_) s1 q
  rw [plotO_isN]; cases (metD t x y) <;> rfl
theorem sc_swapped_at : FnScope ["row", "k"] ["row", "k"] (defScope s_swapped_at) := ⟨rfl, rfl, rfl, by decide +kernel, rfl, by decide +kernel, by decide +kernel⟩
theorem c_swapped_at (T : Txt K mg) : Cl P w K mg base CX0 1 "swapped_at" ["row", "k"] (PureSp R_swapped_at) := by
  refine pure_ok T.d_swapped_at sc_swapped_at (fun ds d h => by obtain ⟨ns, k, rfl, _⟩ := h; rfl) (fun f cdv A outer s H E hr => ⟨_, (pss_one (ps_ret (pe_op op_catA (pe_op op_catA (pe_slice sl_tupA (pv 0) po_none (po_some (pv 1))) (pe_tup (pa_cons (pe_ix ix_seq (pv 0) (pe_op op_add (pv 1) pe_int) (fun _ _ => rfl)) (pa_cons (pe_ix ix_seq (pv 0) (pv 1) (fun _ _ => rfl)) pa_nil)))) (pe_slice sl_tupA (pv 0) (po_some (pe_op op_add (pv 1) pe_int)) po_none)))), ?_⟩)
  rintro O ds r σ ⟨ns, k, rfl, hk, hl, rfl⟩ s Q q
  have e1 : ns[k]? = some ns[k] := List.getElem?_eq_getElem (by omega)
  have e2 : ns[k + 1]? = some ns[k + 1] := List.getElem?_eq_getElem hk
  have m1 : (ns.map PyData.int)[k]? = some (.int ns[k]) := by rw [List.getElem?_map, e1]; rfl
  have m2 : (ns.map PyData.int)[k + 1]? = some (.int ns[k + 1]) := by rw [List.getElem?_map, e2]; rfl
  have c1 : ((k : Int) + 1) = ((k + 1 : Nat) : Int) := by omega
  have c2 : ((k : Int) + 2) = ((k + 2 : Nat) : Int) := by omega
  refine st_retM (ev_is (ev_catT (K := K) (ev_catT (K := K) (ev_slT (K := K) (ev_var rfl) eo_none (eo_some (ev_var rfl))) (ev_tup (ea_cons (ev_ixT (K := K) (ev_var rfl) (ev_add (ev_var rfl) ev_int) (by rw [c1]; exact atI_nat m2)) (ea_cons (ev_ixT (K := K) (ev_var rfl) (ev_var rfl) (atI_nat m1)) ea_nil))) ?_) (ev_slT (K := K) (ev_var rfl) (eo_some (ev_add (ev_var rfl) ev_int)) eo_none) ?_) ?_) s q
  · rw [cut_to, List.length_take, List.length_map]; simp only [List.length_cons, List.length_nil]; omega
  · rw [cut_to, c2, cut_from, List.length_append, List.length_take, List.length_drop, List.length_map]; simp only [List.length_cons, List.length_nil]; omega
  · rw [cut_to, c2, cut_from]
    unfold ordD
    rw [swapL_at e1 e2, List.map_append, List.map_append, List.map_take, List.map_drop]; rfl
theorem sc_can_swap : FnScope ["deeds", "k"] ["deeds", "k"] (defScope s_can_swap) := ⟨rfl, rfl, rfl, by decide +kernel, rfl, by decide +kernel, by decide +kernel⟩
theorem c_can_swap (T : Txt K mg) (XE : Errs P K mg cS cR) : Cl P w K mg base (L2.CX P w) 29 "can_swap" ["deeds", "k"] (SpX R_can_swap) := by
  refine spx_ok T.d_can_swap sc_can_swap (fun ds d h => by obtain ⟨ys, k, u, rfl, _⟩ := h; rfl) (fun f cdv A outer s H E hr => ⟨_, (pss_one (ps_ret (pe_k (c_are_free T XE) hr (by decide) rfl (passes_call (takes_of rfl rfl rfl rfl) (fun _ _ _ _ z => z)) (pa_cons (pe_k (c_run T XE) hr (by decide) rfl (passes_call (takes_of rfl rfl rfl rfl) (fun _ _ _ _ z => z)) (pa_cons (pe_tup pa_nil) (pa_cons (pe_slice sl_tupA (pv 0) po_none (po_some (pv 1))) pa_nil))) (pa_cons (pe_ix ix_seq (pv 0) (pv 1) (fun _ _ => rfl)) (pa_cons (pe_ix ix_seq (pv 0) (pe_op op_add (pv 1) pe_int) (fun _ _ => rfl)) pa_nil)))))), ?_⟩)
  rintro O ds r σ ⟨ys, k, u, rfl, hk, hl, hg, hu, rfl⟩ s Q q
  have e1 : ys[k]? = some ys[k] := List.getElem?_eq_getElem (by omega)
  have e2 : ys[k + 1]? = some ys[k + 1] := List.getElem?_eq_getElem hk
  have m1 : (ys.map Deed.enc)[k]? = some ys[k].enc := by rw [List.getElem?_map, e1]; rfl
  have m2 : (ys.map Deed.enc)[k + 1]? = some ys[k + 1].enc := by rw [List.getElem?_map, e2]; rfl
  have c1 : ((k : Int) + 1) = ((k + 1 : Nat) : Int) := by omega
  have hgt : ∀ y ∈ ys.take k, y.good = true := fun y hy => hg y (List.mem_of_mem_take hy)
  obtain ⟨a1, a2, a3, a4⟩ := good_items hgt
  obtain ⟨ou, zu⟩ := reach_ok nil_ok hgt hu
  have hz : (Fo.nil).size = 0 := rfl
  have hlt : (ys.take k).length ≤ 6 := by rw [List.length_take]; omega
  refine st_retM (ev_is (ev_callX (d := .bool (metD u ys[k] ys[k + 1]).isSome) (ea_cons (ev_callX (d := .tuple u.enc) (ea_cons (ev_is (ev_tup ea_nil) rfl) (ea_cons (ev_slT (K := K) (ev_var rfl) eo_none (eo_some (ev_var rfl))) ea_nil)) ⟨.nil, _, (ys.take k).map Item.d, rfl, ?_, a1, nil_ok, ?_, ?_⟩) (ea_cons (ev_ixT (K := K) (ev_var rfl) (ev_var rfl) (atI_nat m1)) (ea_cons (ev_ixT (K := K) (ev_var rfl) (ev_add (ev_var rfl) ev_int) (by rw [c1]; exact atI_nat m2)) ea_nil))) ⟨u, _, _, rfl, hg _ (List.getElem_mem _), hg _ (List.getElem_mem _), ou, ?_, rfl⟩) ?_) s q
  · rw [cut_to, a4, List.map_take]; exact .inr rfl
  · rw [List.length_map]; show 0 + _ < 20; omega
  · unfold runO
    rw [a2, a3]
    exact (runD_some cR hu).symm
  · show u.size + 2 < 20; omega
  · unfold canSwap; rw [hu, e1, e2]
theorem sc_deeds_in : FnScope ["deeds", "numbers", "n"] ["deeds", "numbers"] (defScope s_deeds_in) := ⟨rfl, rfl, rfl, by decide +kernel, rfl, by decide +kernel, by decide +kernel⟩
theorem c_deeds_in (T : Txt K mg) : Cl P w K mg base CX0 1 "deeds_in" ["deeds", "numbers"] (PureSp R_deeds_in) := by
  refine pure_ok T.d_deeds_in sc_deeds_in (fun ds d h => by obtain ⟨d, es, ns, rfl, _⟩ := h; rfl) (fun f cdv A outer s H E hr => ⟨_, (pss_one (ps_ret (pe_callTy call_tuple_of (by rfl) T.z_tuple (by decide +kernel) (pa_cons (pe_lc (own := [("n", 2)]) (g := gName 2) (tt := tYes) rfl sc_deeds_in.nd (pi_seq (pv 1)) (blkOk_by (own := [("n", 2)]) (N := ["deeds", "numbers", "n"]) (sc := (defScope s_deeds_in)) (by decide +kernel)) (fun _ _ _ _ _ => (pg_name (i := 2) sc_deeds_in.nd rfl (Or.inl rfl))) (fun _ _ _ _ _ => pts_nil) (fun _ _ _ _ _ => (pe_ix (r := rIx K) ix_seq (pv 0) (pv 2) (fun _ _ => rfl)))) pa_nil)))), ?_⟩)
  rintro O ds r σ ⟨d, es, ns, rfl, hd, hn, hl, rfl⟩ s Q q
  have hlc := ev_lc (F := F0 O H) (M := []) (δ := [.dat d, .dat (ordD ns), .any]) (wi := iSeq K (tVar 1)) (sl := 2) (te := tOp (rIx K) (tVar 0) (tVar 2))
    (f := fun x => match x with | .int n => es.getD n.toNat .none | _ => .none) (ei_seq (ev_var rfl) (.inr rfl))
    (fun F' M' x hx => by
      obtain ⟨n, hn', rfl⟩ := List.mem_map.mp hx
      obtain ⟨h0, h1⟩ := hn n hn'
      have hat : atI es n = some (es.getD n.toNat .none) := by
        have h2 : es[n.toNat]? = some (es.getD n.toNat .none) := by rw [List.getD_eq_getElem?_getD, List.getElem?_eq_getElem h1]; rfl
        have := atI_nat h2
        rw [Int.toNat_of_nonneg h0] at this
        exact this
      rcases hd with rfl | rfl
      · exact ev_ixL (ev_var rfl) (ev_var rfl) hat
      · exact ev_ixT (ev_var rfl) (ev_var rfl) hat) (by rw [List.length_map]; omega)
  refine st_retM (ev_is (ev_tuple hlc (.inl rfl)) ?_) s q
  rw [List.map_map]; rfl
end
end G
set_option Elab.async false
set_option linter.all false
set_option maxRecDepth 100000
set_option maxHeartbeats 4000000
namespace G
open PySem L2 Fo
/-! ### histories: normal forms -/
def toI (o : List Nat) : List Int := o.map (Nat.cast : Nat → Int)
def formsL (ys : List Deed) : List (List Deed) := (sortO ((ordersOf ys).map toI)).map fun ns => formOf ys (ns.map Int.toNat)
def normD (ys : List Deed) : PyData := match formsL ys with
  | [] => .none
  | z :: zs => minL (rowD z) (zs.map rowD)
def thenO (a : Out) (b : Out) : Out := match a with
  | .exc C fs => .exc C fs
  | .ret _ => b
def needH (cS cR : Addr) (xs ys : List Item) : Out := match (xs ++ ys).find? fun x => !x.good with
  | some x => badOut cS x
  | none => thenO (runD cR .nil (deedsOf xs)) (thenO (runD cR .nil (deedsOf ys)) (.ret .none))
def eoOut (cS cR : Addr) (xs : List Item) : Out := thenO (runO cS cR .nil xs) (.ret (.list ((sortO ((ordersOf (deedsOf xs)).map toI)).map ordD)))
def noOut (cS cR : Addr) (xs : List Item) : Out := thenO (runO cS cR .nil xs) (.ret (normD (deedsOf xs)))
def saOut (cS cR : Addr) (xs ys : List Item) : Out := thenO (needH cS cR xs ys) (.ret (.bool (PyData.eqv (normD (deedsOf xs)) (normD (deedsOf ys)))))
def R_need_histories (cS cR : Addr) (ds : List PyData) (o : Out) : Prop := ∃ (d e : PyData) (xs ys : List Item), ds = [d, e] ∧ seqOf d (xs.map Item.enc) ∧ seqOf e (ys.map Item.enc) ∧ (∀ x ∈ xs, x.short) ∧ (∀ y ∈ ys, y.short) ∧ xs.length ≤ 5 ∧ ys.length ≤ 5 ∧ o = needH cS cR xs ys
def R_every_order (cS cR : Addr) (ds : List PyData) (o : Out) : Prop := ∃ (d : PyData) (xs : List Item), ds = [d] ∧ seqOf d (xs.map Item.enc) ∧ (∀ x ∈ xs, x.short) ∧ xs.length ≤ 5 ∧ o = eoOut cS cR xs
def R_normal (cS cR : Addr) (ds : List PyData) (o : Out) : Prop := ∃ (d : PyData) (xs : List Item), ds = [d] ∧ seqOf d (xs.map Item.enc) ∧ (∀ x ∈ xs, x.short) ∧ xs.length ≤ 5 ∧ o = noOut cS cR xs
def R_same_deeds (cS cR : Addr) (ds : List PyData) (o : Out) : Prop := ∃ (d e : PyData) (xs ys : List Item), ds = [d, e] ∧ seqOf d (xs.map Item.enc) ∧ seqOf e (ys.map Item.enc) ∧ (∀ x ∈ xs, x.short) ∧ (∀ y ∈ ys, y.short) ∧ xs.length ≤ 5 ∧ ys.length ≤ 5 ∧ o = saOut cS cR xs ys
theorem fits_nil {n : Nat} (h : n ≤ 5) : Fits .nil n := by show 0 + n < 20; omega
theorem runD_cases (cR : Addr) : ∀ (t : Fo) (ys : List Deed), (∃ u, reachD t ys = some u ∧ runD cR t ys = .ret (.tuple u.enc)) ∨ (reachD t ys = none ∧ ∃ fs, runD cR t ys = .exc cR fs)
  | t, [] => .inl ⟨t, rfl, rfl⟩
  | t, x :: r => by
    rw [reachD_cons]
    have e : runD cR t (x :: r) = (match reasonAt t x with
      | none => runD cR (behindT t x) r
      | some why => refOut cR x why) := rfl
    rw [e]
    cases reasonAt t x with
    | none => exact runD_cases cR _ r
    | some why => exact .inr ⟨rfl, _, rfl⟩
/-- what run comes to on a history -/
theorem runO_cases (cS cR : Addr) (xs : List Item) : (∃ C fs, runO cS cR .nil xs = .exc C fs) ∨ (∃ u, runO cS cR .nil xs = .ret (.tuple u.enc) ∧ xs = (deedsOf xs).map Item.d ∧ (∀ y ∈ deedsOf xs, y.good = true) ∧ reachD .nil (deedsOf xs) = some u ∧ (xs.find? fun x => !x.good) = none) := by
  unfold runO
  cases hf : xs.find? fun x => !x.good with
  | some x => exact .inl ⟨_, _, rfl⟩
  | none =>
    obtain ⟨e, hg⟩ := all_good hf
    rcases runD_cases cR .nil (deedsOf xs) with ⟨u, h1, h2⟩ | ⟨h1, fs, h2⟩
    · exact .inr ⟨u, h2, e, hg, h1, rfl⟩
    · exact .inl ⟨_, _, h2⟩
theorem reach_take {t u : Fo} {zs : List Deed} (h : reachD t zs = some u) (k : Nat) : ∃ v, reachD t (zs.take k) = some v := by
  have e : reachD t (zs.take k ++ zs.drop k) = some u := by rw [List.take_append_drop]; exact h
  rw [reachD_append] at e
  cases q : reachD t (zs.take k) with
  | none => rw [q] at e; cases e
  | some v => exact ⟨v, rfl⟩
theorem form_data {ys : List Deed} : ∀ {o : List Nat}, In ys o → ((toI o).map fun n => (ys.map Deed.enc).getD n.toNat .none) = (formOf ys o).map Deed.enc
  | [], _ => rfl
  | i :: o, h => by
    have hi := h i List.mem_cons_self
    have e : formOf ys (i :: o) = ys[i] :: formOf ys o := by
      unfold formOf
      rw [List.filterMap_cons, List.getElem?_eq_getElem hi]
    have ih := form_data (o := o) fun j hj => h j (List.mem_cons_of_mem _ hj)
    rw [e]
    show ((ys.map Deed.enc).getD ((i : Int)).toNat .none) :: _ = ys[i].enc :: _
    rw [List.getD_eq_getElem?_getD, Int.toNat_natCast, List.getElem?_map, List.getElem?_eq_getElem hi]
    exact congrArg _ ih
theorem toI_inj {a b : List Nat} (h : toI a = toI b) : a = b := by
  have : ∀ {a b : List Nat}, toI a = toI b → a = b := by
    intro a
    induction a with
    | nil => intro b h; cases b with
      | nil => rfl
      | cons _ _ => simp [toI] at h
    | cons x a ih => intro b h; cases b with
      | nil => simp [toI] at h
      | cons y b =>
        have h' : (x : Int) :: toI a = (y : Int) :: toI b := h
        injection h' with h1 h2
        rw [ih h2, Int.ofNat.inj h1]
  exact this h
theorem toI_swap (o : List Nat) (k : Nat) : swapL (toI o) k = toI (swapL o k) := (swapL_map _ o k).symm
theorem toI_nat (o : List Nat) : (toI o).map Int.toNat = o := by
  unfold toI
  rw [List.map_map]
  conv => rhs; rw [← List.map_id o]
  exact List.map_congr_left fun n _ => by simp
theorem found_shaped (bs : List (List Int)) : SeqAt.shaped (.list (bs.map ordD)) = true := by
  refine shaped_of ?_ ?_
  · simp only [nb]
    rw [nbAll_iff]
    intro d hd
    obtain ⟨b, _, rfl⟩ := List.mem_map.mp hd
    exact (ord_nb b).1
  · have : PyData.depthAll (bs.map ordD) ≤ 1 := depthAll_le fun d hd => by
      obtain ⟨b, _, rfl⟩ := List.mem_map.mp hd
      exact Nat.le_of_eq (ordD_depth b)
    simp only [PyData.depth]; omega
theorem found_any (found : List (List Nat)) (o : List Nat) : ((found.map toI).map ordD).any (fun z => PyData.eqv z (ordD (toI o))) = decide (o ∈ found) := by
  induction found with
  | nil => simp
  | cons q found ih =>
    have e : PyData.eqv (ordD (toI q)) (ordD (toI o)) = decide (o = q) := eqv_dec (ord_nb _).1 (ord_nb _).1 ⟨fun h => (toI_inj (ord_inj.mp h)).symm, fun h => by rw [h]⟩
    rw [List.map_cons, List.map_cons, List.any_cons, ih, e]
    by_cases h : o = q <;> simp [h]
theorem range_data (n : Nat) : (rngD 0 n).map (fun d => d) = (toI (List.range n)).map PyData.int := by
  unfold rngD toI
  rw [List.map_map, List.map_map]
  exact List.map_congr_left fun k _ => by simp
section
variable {P : Program} {w : World} {K : PySem.W.Frag} {mg : Str → Option Value} {base : Heap} {cS cR : Addr}
theorem sc_need_histories : FnScope ["history", "other", "script", "deed"] ["history", "other"] (defScope s_need_histories) := ⟨rfl, rfl, rfl, by decide +kernel, rfl, by decide +kernel, by decide +kernel⟩
theorem c_need_histories (T : Txt K mg) (XE : Errs P K mg cS cR) : Cl P w K mg base (L2.CX P w) 28 "need_histories" ["history", "other"] (SpX (R_need_histories cS cR)) := by
  refine spx_ok T.d_need_histories sc_need_histories (fun ds d h => by obtain ⟨d, e, xs, ys, rfl, _⟩ := h; rfl) (fun f cdv A outer s H E hr => ⟨_, (pss_cons (ps_for (passes_of rfl) rfl (pi_seq (pe_tup (pa_cons (pv 0) (pa_cons (pv 1) pa_nil)))) (pg_name (i := 2) sc_need_histories.nd rfl (Or.inl rfl))
    (pss_one (ps_for (passes_of rfl) rfl (pi_seq (pv 2)) (pg_name (i := 3) sc_need_histories.nd rfl (Or.inl rfl))
    (pss_one (ps_expr (pe_k (c_need_deed T XE) hr (by decide) rfl (passes_call (takes_of rfl rfl rfl rfl) (fun _ _ _ _ z => z)) (pa_cons (pv 3) pa_nil)))))))
    (pss_cons (ps_expr (pe_k (c_run T XE) hr (by decide) rfl (passes_call (takes_of rfl rfl rfl rfl) (fun _ _ _ _ z => z)) (pa_cons (pe_tup pa_nil) (pa_cons (pv 0) pa_nil))))
    (pss_one (ps_expr (pe_k (c_run T XE) hr (by decide) rfl (passes_call (takes_of rfl rfl rfl rfl) (fun _ _ _ _ z => z)) (pa_cons (pe_tup pa_nil) (pa_cons (pv 1) pa_nil))))))), ?_⟩)
  rintro O ds o σ ⟨d1, d2, xs, ys, rfl, hd1, hd2, hs1, hs2, hl1, hl2, rfl⟩ s Q q
  refine sq_for (α := List (PyData × List Item)) (fun _ _ => []) (fun _ _ => [.dat d1, .dat d2, .any, .any]) (fun i a => [(d1, xs), (d2, ys)].drop i = a ∧ ((xs ++ ys).find? fun x => !x.good) = (a.flatMap (·.2)).find? fun x => !x.good) [(d1, xs), (d2, ys)]
    (ei_seq (ev_tup (ea_cons (ev_var rfl) (ea_cons (ev_var rfl) ea_nil))) (.inr rfl)) s ⟨rfl, by simp⟩ rfl (Le.refl _) ?_ ?_
  · rintro B i a d σ H v hd ⟨h1, h2⟩ s r
    have hd' : ([(d1, xs), (d2, ys)].map (·.1))[i]? = some d := hd
    rw [List.getElem?_map] at hd'
    cases hp : [(d1, xs), (d2, ys)][i]? with
    | none => rw [hp] at hd'; cases hd'
    | some p =>
      rw [hp] at hd'
      cases hd'
      cases a with
      | nil => exact absurd h1 (drop_some hp)
      | cons p' rest =>
        obtain ⟨rfl, h3⟩ := drop_step hp h1
        have hpm : seqOf p.1 (p.2.map Item.enc) ∧ ∀ x ∈ p.2, x.short := by
          have := List.mem_of_getElem? hp
          rcases List.mem_cons.mp this with rfl | hm
          · exact ⟨hd1, hs1⟩
          · rw [List.mem_singleton.mp hm]; exact ⟨hd2, hs2⟩
        refine tg_use tg_name s r fun σ1 s1 => ?_
        refine st_for (α := List Item) (fun _ _ => []) (fun _ _ => [.dat d1, .dat d2, .dat p.1, .any]) (fun j b => p.2.drop j = b ∧ ((xs ++ ys).find? fun x => !x.good) = (b ++ rest.flatMap (·.2)).find? fun x => !x.good) p.2 (ei_seq (ev_var rfl) hpm.1) s1 ⟨rfl, by rw [h2, List.flatMap_cons]⟩ rfl (.eq (.eq (.eq (.any .nil)))) ?_ ?_
        · rintro B j b d σ H v he ⟨k1, k2⟩ s r
          rw [List.getElem?_map] at he
          cases hx : p.2[j]? with
          | none => rw [hx] at he; cases he
          | some x =>
            rw [hx] at he
            cases he
            cases b with
            | nil => exact absurd k1 (drop_some hx)
            | cons y b =>
              obtain ⟨rfl, k3⟩ := drop_step hx k1
              have hsh := hpm.2 x (List.mem_of_getElem? hx)
              refine tg_use tg_name s r fun σ1 s1 => ?_
              cases hg : x.good with
              | true =>
                refine st_drop (ev_callX (d := .none) (ea_cons (ev_var rfl) ea_nil) ⟨x, rfl, hsh, ?_⟩) s1 fun H2 s2 => ⟨b, ⟨k3, ?_⟩, s2.le (.eq (.eq (.eq (.any .nil))))⟩
                · unfold needOut; rw [if_pos hg]
                · rw [k2, List.cons_append, List.find?_cons_of_neg (by rw [hg]; exact Bool.false_ne_true)]
              | false =>
                unfold needH at q
                rw [k2, List.cons_append, List.find?_cons_of_pos (by rw [hg]; rfl)] at q
                refine tx_pass (ea_cons (ev_var rfl) ea_nil) (R := R_need_deed cS) ⟨x, rfl, hsh, ?_⟩ s1 q
                unfold needOut; rw [if_neg (by rw [hg]; exact Bool.false_ne_true)]; rfl
        · rintro b σ H ⟨k1, k2⟩ s
          rw [List.length_map] at k1
          have := drop_all k1
          subst this
          exact ⟨rest, ⟨h3, k2⟩, s.le (.eq (.eq (.any (.any .nil))))⟩
  · rintro a σ H ⟨h1, h2⟩ s
    have h1' : a = [] := h1.symm
    subst h1'
    unfold needH at q
    rw [h2] at q
    have hnone : ((xs ++ ys).find? fun x => !x.good) = none := h2
    rw [List.find?_append] at hnone
    have hx : (xs.find? fun x => !x.good) = none := by
      cases hq : xs.find? fun x => !x.good with
      | none => rfl
      | some x => rw [hq] at hnone; cases hnone
    rw [hx] at hnone
    have hy : (ys.find? fun x => !x.good) = none := hnone
    have r1 : runO cS cR .nil xs = runD cR .nil (deedsOf xs) := by unfold runO; rw [hx]
    have r2 : runO cS cR .nil ys = runD cR .nil (deedsOf ys) := by unfold runO; rw [hy]
    have q' : OutOk O _ Q E (thenO (runD cR .nil (deedsOf xs)) (thenO (runD cR .nil (deedsOf ys)) (.ret .none))) := q
    rcases runD_cases cR .nil (deedsOf xs) with ⟨u, _, e1⟩ | ⟨_, fs, e1⟩
    · rw [e1] at q'
      have q2 : OutOk O _ Q E (thenO (runD cR .nil (deedsOf ys)) (.ret .none)) := q'
      refine sq_drop (ev_callX (d := .tuple u.enc) (ea_cons (ev_is (ev_tup ea_nil) rfl) (ea_cons (ev_var rfl) ea_nil)) ⟨.nil, d1, xs, rfl, hd1, hs1, nil_ok, fits_nil hl1, by rw [r1, e1]⟩) s fun H2 s2 => ?_
      rcases runD_cases cR .nil (deedsOf ys) with ⟨u2, _, e2⟩ | ⟨_, fs, e2⟩
      · rw [e2] at q2
        refine st_drop (ev_callX (d := .tuple u2.enc) (ea_cons (ev_is (ev_tup ea_nil) rfl) (ea_cons (ev_var rfl) ea_nil)) ⟨.nil, d2, ys, rfl, hd2, hs2, nil_ok, fits_nil hl2, by rw [r2, e2]⟩) s2 fun H3 s3 => ?_
        have q3 : OutOk O _ Q E (.ret .none) := q2
        exact q3 .non H3 (s3.pureSame rfl fun _ => rfl) .non
      · rw [e2] at q2
        exact tx_pass (ea_cons (ev_is (ev_tup ea_nil) rfl) (ea_cons (ev_var rfl) ea_nil)) (R := R_run cS cR) ⟨.nil, d2, ys, rfl, hd2, hs2, nil_ok, fits_nil hl2, by rw [r2, e2]⟩ s2 q2
    · rw [e1] at q'
      exact tx_pass (ea_cons (ev_is (ev_tup ea_nil) rfl) (ea_cons (ev_var rfl) ea_nil)) (R := R_run cS cR) ⟨.nil, d1, xs, rfl, hd1, hs1, nil_ok, fits_nil hl1, by rw [r1, e1]⟩ s q'
end
end G
set_option Elab.async false
set_option linter.all false
set_option maxRecDepth 100000
set_option maxHeartbeats 4000000
namespace G
open PySem L2 Fo
theorem own_lq {F : Fm} {l : Addr} : (F.own l).N l = true := orA_r
theorem minL_mem : ∀ (d : PyData) (ds : List PyData), minL d ds ∈ d :: ds
  | d, [] => List.mem_cons_self
  | d, e :: ds => by
    have h : minL d (e :: ds) = minL (if ltD e d = true then e else d) ds := rfl
    rw [h]
    rcases List.mem_cons.mp (minL_mem (if ltD e d = true then e else d) ds) with q | q
    · rw [q]
      split
      · exact List.mem_cons_of_mem _ List.mem_cons_self
      · exact List.mem_cons_self
    · exact List.mem_cons_of_mem _ (List.mem_cons_of_mem _ q)
theorem forms_mem {ys : List Deed} {zs : List Deed} : zs ∈ formsL ys ↔ ∃ o ∈ ordersOf ys, formOf ys o = zs := by
  unfold formsL
  rw [List.mem_map]
  constructor
  · rintro ⟨ns, hns, rfl⟩
    obtain ⟨o, ho, rfl⟩ := List.mem_map.mp ((sortO_perm _).subset hns)
    exact ⟨o, ho, by rw [toI_nat]⟩
  · rintro ⟨o, ho, rfl⟩
    exact ⟨toI o, (sortO_perm _).symm.subset (List.mem_map.mpr ⟨o, ho, rfl⟩), by rw [toI_nat]⟩
theorem forms_ne {ys : List Deed} {u : Fo} (hn : ys.length ≤ 5) (h : reachD .nil ys = some u) : formsL ys ≠ [] := fun e => by
  obtain ⟨h1, _⟩ := orders_ok hn h
  have : formOf ys (List.range ys.length) ∈ formsL ys := forms_mem.mpr ⟨_, h1.base, rfl⟩
  rw [e] at this; exact absurd this List.not_mem_nil
theorem form_good {ys : List Deed} (hg : ∀ y ∈ ys, y.good = true) (o : List Nat) : ∀ y ∈ formOf ys o, y.good = true := fun y hy => by
  unfold formOf at hy
  obtain ⟨i, _, hi⟩ := List.mem_filterMap.mp hy
  exact hg y (List.mem_of_getElem? hi)
theorem forms_good {ys : List Deed} (hg : ∀ y ∈ ys, y.good = true) : ∀ zs ∈ formsL ys, ∀ z ∈ zs, z.good = true := fun zs hz => by
  obtain ⟨o, _, rfl⟩ := forms_mem.mp hz
  exact form_good hg o
theorem norm_mem {ys : List Deed} {u : Fo} (hn : ys.length ≤ 5) (h : reachD .nil ys = some u) : ∃ z ∈ formsL ys, normD ys = rowD z := by
  unfold normD
  cases e : formsL ys with
  | nil => exact absurd e (forms_ne hn h)
  | cons z zs =>
    have := minL_mem (rowD z) (zs.map rowD)
    obtain ⟨y, hy, e2⟩ := List.mem_map.mp (show minL (rowD z) (zs.map rowD) ∈ (z :: zs).map rowD from this)
    exact ⟨y, hy, e2.symm⟩
section
variable {P : Program} {w : World} {K : PySem.W.Frag} {mg : Str → Option Value} {base : Heap} {cS cR : Addr}
theorem sc_every_order : FnScope ["history", "deeds", "found", "at", "row", "k", "other", "n"] ["history"] (defScope s_every_order) := ⟨rfl, rfl, rfl, by decide +kernel, rfl, by decide +kernel, by decide +kernel⟩
theorem c_every_order (T : Txt K mg) (XE : Errs P K mg cS cR) : Cl P w K mg base (L2.CX P w) 30 "every_order" ["history"] (SpX (R_every_order cS cR)) := by
  refine spx_ok T.d_every_order sc_every_order (fun ds d h => by obtain ⟨d, xs, rfl, _⟩ := h; rfl) (fun f cdv A outer s H E hr => ⟨_, (pss_cons (ps_expr (pe_k (c_run T XE) hr (by decide) rfl (passes_call (takes_of rfl rfl rfl rfl) (fun _ _ _ _ z => z)) (pa_cons (pe_tup pa_nil) (pa_cons (pv 0) pa_nil))))
    (pss_cons (ps_set (i := 1) sc_every_order.nd rfl (Or.inl rfl) (pe_callTy call_tuple_of (by rfl) T.z_tuple (by decide +kernel) (pa_cons (pv 0) pa_nil)))
    (pss_cons (ps_set (i := 2) sc_every_order.nd rfl (Or.inl rfl) (pe_lst (pa_cons (pe_callTy call_tuple_of (by rfl) T.z_tuple (by decide +kernel) (pa_cons (pe_lc (own := [("n", 7)]) (g := gName 7) (tt := tYes) rfl sc_every_order.nd (pi_range1 (by rfl) T.z_range (pa_cons (pe_callB call_len (by rfl) T.z_len PySem.boot_len (pa_cons (pv 1) pa_nil)) pa_nil)) (blkOk_by (own := [("n", 7)]) (N := ["history", "deeds", "found", "at", "row", "k", "other", "n"]) (sc := (defScope s_every_order)) (by decide +kernel)) (fun _ _ _ _ _ => (pg_name (i := 7) sc_every_order.nd rfl (Or.inl rfl))) (fun _ _ _ _ _ => pts_nil) (fun _ _ _ _ _ => (pv 7))) pa_nil)) pa_nil)))
    (pss_cons (ps_set (i := 3) sc_every_order.nd rfl (Or.inl rfl) pe_int)
    (pss_cons (ps_while (passes_of rfl) (pt_cmpR op_lt (pv 3) (pe_callB call_len (by rfl) T.z_len PySem.boot_len (pa_cons (pv 2) pa_nil)) (nomark _))
    (pss_cons (ps_set (i := 4) sc_every_order.nd rfl (Or.inl rfl) (pe_k (c_deeds_in T) hr (by decide) rfl pass0 (pa_cons (pv 1) (pa_cons (pe_ix ix_seq (pv 2) (pv 3) (fun _ _ => rfl)) pa_nil))))
    (pss_cons (ps_for (passes_of rfl) rfl (pi_range1 (by rfl) T.z_range (pa_cons (pe_op op_sub (pe_callB call_len (by rfl) T.z_len PySem.boot_len (pa_cons (pv 1) pa_nil)) pe_int) pa_nil)) (pg_name (i := 5) sc_every_order.nd rfl (Or.inl rfl))
    (pss_cons (ps_set (i := 6) sc_every_order.nd rfl (Or.inl rfl) (pe_k (c_swapped_at T) hr (by decide) rfl pass0 (pa_cons (pe_ix ix_seq (pv 2) (pv 3) (fun _ _ => rfl)) (pa_cons (pv 5) pa_nil))))
    (pss_one (ps_if (PW.pt (pw_and (pt_cmpR (op_notInD (units65 hr)) (pv 6) (pv 2) rfl) (pw_and1 (pt_val (pe_k (c_can_swap T XE) hr (by decide) rfl (passes_call (takes_of rfl rfl rfl rfl) (fun _ _ _ _ z => z)) (pa_cons (pv 4) (pa_cons (pv 5) pa_nil))))))) (pss_one (ps_expr (pe_bm PySem.F.plainAttrs_list PySem.F.slot_list_append PySem.F.type_list_append mt_append (pv 2) (pa_cons (pv 6) pa_nil)))) pss_nil))))
    (pss_one (ps_set (i := 3) sc_every_order.nd rfl (Or.inl rfl) (pe_op op_add (pv 3) pe_int))))))
    (pss_one (ps_ret (pe_callB (cr_sortedT (units65 hr)) (by rfl) T.z_sorted (by decide +kernel) (pa_cons (pv 2) pa_nil))))))))), ?_⟩)
  rintro O ds o σ ⟨d, xs, rfl, hd, hs, hl, rfl⟩ s Q q
  rcases runO_cases cS cR xs with ⟨C, fs, e⟩ | ⟨u, e, ex, hg, hrun, hf⟩
  · have q' : OutOk O H Q E (.exc C fs) := by unfold eoOut at q; rw [e] at q; exact q
    exact tx_pass (ea_cons (ev_is (ev_tup ea_nil) rfl) (ea_cons (ev_var rfl) ea_nil)) (R := R_run cS cR) ⟨.nil, d, xs, rfl, hd, hs, nil_ok, fits_nil hl, e.symm⟩ s q'
  have q' : OutOk O H Q E (.ret (.list ((sortO ((ordersOf (deedsOf xs)).map toI)).map ordD))) := by unfold eoOut at q; rw [e] at q; exact q
  clear q
  generalize hys : deedsOf xs = ys at *
  subst ex
  rw [List.map_map, show Item.enc ∘ Item.d = Deed.enc from rfl] at hd
  rw [List.length_map] at hl
  have hes : ∀ y ∈ ys.map Item.d, y.short := hs
  refine sq_drop (ev_callX (d := .tuple u.enc) (ea_cons (ev_is (ev_tup ea_nil) rfl) (ea_cons (ev_var rfl) ea_nil)) ⟨.nil, d, ys.map Item.d, rfl, by rw [List.map_map]; exact hd, hs, nil_ok, fits_nil (by rw [List.length_map]; exact hl), e.symm⟩) s fun H1 s1 => ?_
  refine sq_asg (ev_tuple (ev_var rfl) hd) s1 fun σ2 H2 s2 => ?_
  have hlen0 : ∀ (F' : Fm) (M' : List (Addr × OC)), Ev F' M' [.dat d, .dat (rowD ys), .any, .any, .any, .any, .any, .any] (tCB (rLenX K) (tCons (tVar 1) tNil)) (.int ((ys.map Deed.enc).length : Int)) := fun F' M' => ev_lenT (ev_var rfl)
  have hb : ∀ i : Int, 0 ≤ i → i < 10 → -4611686018427387904 ≤ i ∧ i < 4611686018427387904 := fun i h1 h2 => by omega
  have hrange : ∀ (F' : Fm) (M' : List (Addr × OC)), Ev F' M' [.dat d, .dat (rowD ys), .any, .any, .any, .any, .any, .any] _ (.list ((rngD 0 ((ys.map Deed.enc).length : Int).toNat).map fun x => x)) := fun F' M' =>
    ev_lc (wi := iRng1 (tCons (tCB (rLenX K) (tCons (tVar 1) tNil)) tNil)) (sl := 7) (te := tVar 7) (f := fun x => x) (ei_range1 (hlen0 F' M') (by omega) (by rw [List.length_map]; omega)) (fun F' M' x hx => ev_var rfl) (by unfold rngD; rw [List.length_map, List.length_range, Int.toNat_natCast, List.length_map]; omega)
  have hr0 : (rngD 0 ((ys.map Deed.enc).length : Int).toNat).map (fun x => x) = (toI (List.range ys.length)).map PyData.int := by rw [Int.toNat_natCast, List.length_map]; exact range_data _
  refine sq_own (ds := (([List.range ys.length] : List (List Nat)).map toI).map ordD) (ea_cons (ev_is (ev_tuple (hrange _ _) (.inl rfl)) (by rw [hr0]; rfl)) ea_nil) s2 (fun l σ3 H3 hl3 s3 => ?_) (Nat.le_of_ble_eq_true rfl)
  refine sq_asg ev_int s3 fun σ4 H4 s4 => ?_
  obtain ⟨okF, okC⟩ := orders_ok hl hrun
  refine sq_while (fun m σ' H' => ∃ (i : Nat) (found : List (List Nat)), m = 121 - i ∧ i ≤ 120 ∧ BInv ys u found ∧ bfs ys (120 - i) i found = ordersOf ys ∧ S ((F0 O H).own l) [(l, .lst ((found.map toI).map ordD))] [.dat d, .dat (rowD ys), .raw (.ref l), .dat (.int (i : Nat)), .any, .any, .any, .any] σ' H') ⟨121, 0, _, rfl, by omega, binv0 hrun, rfl, s4⟩ ?_
  rintro m σ5 H5 ⟨i, found, rfl, hi, hB, hbfs, s5⟩
  have hfl := hB.len hl
  refine et_test (ev_lt (ev_var rfl) (ev_lenO (er_var rfl) List.mem_cons_self)) σ5 H5 s5 _ fun H6 s6 e6 => ?_
  have hcnt : ((found.map toI).map ordD).length = found.length := by rw [List.length_map, List.length_map]
  by_cases hlt : i < found.length
  · rw [if_pos (by rw [hcnt]; exact decide_eq_true (by omega))]
    obtain ⟨o, ho⟩ : ∃ o, found[i]? = some o := ⟨_, List.getElem?_eq_getElem hlt⟩
    have hom := List.mem_of_getElem? ho
    have hin := hB.ins hom
    have hpl : o.length = ys.length := by rw [(hB.pm o hom).length_eq, List.length_range]
    have hat : ∀ ext : List (List Nat), atI (((found ++ ext).map toI).map ordD) (i : Int) = some (ordD (toI o)) := fun ext => atI_nat (by
      rw [List.getElem?_map, List.getElem?_map, List.getElem?_append_left hlt, ho]; rfl)
    have hat0 := hat []
    rw [List.append_nil] at hat0
    refine ⟨_, fun σ' H' h => h, ?_⟩
    refine sq_asg (d := rowD (formOf ys o)) (ev_call (ea_cons (ev_var rfl) (ea_cons (ev_ixO (er_var rfl) (ev_var rfl) List.mem_cons_self hat0) ea_nil)) ⟨_, ys.map Deed.enc, toI o, rfl, .inr rfl, fun n hn => ?_, by unfold toI; rw [List.length_map]; omega, ?_⟩) s6 fun σ7 H7 s7 => ?_
    · obtain ⟨k, hk, rfl⟩ := List.mem_map.mp hn
      have := hin k hk
      rw [List.length_map, Int.toNat_natCast]
      exact ⟨by omega, this⟩
    · rw [form_data hin]; rfl
    have hrl : (rngD 0 (((ys.map Deed.enc).length : Int) - 1).toNat) = (List.range (ys.length - 1)).map fun k : Nat => PyData.int (0 + (k : Nat)) := by
      unfold rngD
      rw [List.length_map, show (((ys.length : Nat) : Int) - 1).toNat = ys.length - 1 by omega]
    refine sq_for (α := List (List Nat)) (fun _ a => [(l, .lst ((a.map toI).map ordD))]) (fun _ _ => [.dat d, .dat (rowD ys), .raw (.ref l), .dat (.int (i : Nat)), .dat (rowD (formOf ys o)), .any, .any, .any]) (fun j a => a = (List.range j).foldl (stepK ys o) found ∧ BInv ys u a ∧ ∃ e, a = found ++ e) found
      (ei_range1 (ev_sub (ev_lenT (ev_var rfl)) ev_int) (by rw [List.length_map]; omega) (by rw [List.length_map]; omega)) s7 ⟨rfl, hB, [], (List.append_nil _).symm⟩ rfl (Le.refl _) ?_ ?_
    · rintro B j a dk σ H v hdk ⟨h1, h2, ⟨ext, h3⟩⟩ s r
      rw [hrl, List.getElem?_map] at hdk
      have hj : j < ys.length - 1 := by
        rcases Nat.lt_or_ge j (ys.length - 1) with h | h
        · exact h
        · rw [List.getElem?_eq_none_iff.mpr (by rw [List.length_range]; exact h)] at hdk; cases hdk
      rw [List.getElem?_range hj] at hdk
      cases hdk
      have r : Rp _ v (.int (0 + ((j : Nat) : Int))) := r
      rw [show (0 + ((j : Nat) : Int)) = (j : Int) by omega] at r
      have hoa : o ∈ a := by rw [h3]; exact List.mem_append_left _ hom
      have hal := h2.len hl
      refine tg_use tg_name s r fun σ1 s1 => ?_
      refine sq_asg (d := ordD (toI (swapL o j))) (ev_call (ea_cons (ev_ixO (er_var rfl) (ev_var rfl) List.mem_cons_self (by rw [h3]; exact hat ext)) (ea_cons (ev_var rfl) ea_nil)) ⟨toI o, j, rfl, by unfold toI; rw [List.length_map]; omega, by unfold toI; rw [List.length_map]; omega, by rw [toI_swap]⟩) s1 fun σ2 H2 s2 => ?_
      have hstep : (List.range (j + 1)).foldl (stepK ys o) found = stepK ys o a j := by rw [List.range_succ, List.foldl_append, ← h1]; rfl
      have hB' : BInv ys u (stepK ys o a j) := h2.step hoa
      obtain ⟨x, hx⟩ := step_pre (ys := ys) (o := o) (found := a) (k := j)
      obtain ⟨v', hv'⟩ := reach_take (h2.run hoa) j
      have hfl2 : (formOf ys o).length = ys.length := by rw [form_len hin, hpl]
      refine st_if (b := decide (swapL o j ∉ a ∧ canSwap .nil (formOf ys o) j = true)) (et_is (et_and (et_test (ev_notInO (ev_var rfl) (er_var rfl) List.mem_cons_self (ord_nb _).2 (found_shaped _))) fun _ => et_B (ev_callX (ea_cons (ev_var rfl) (ea_cons (ev_var rfl) ea_nil)) ⟨formOf ys o, j, v', rfl, by rw [hfl2]; omega, by rw [hfl2]; omega, form_good hg o, hv', rfl⟩)) ?_) s2 (fun hb H3 s3 => ?_) fun hb H3 s3 => ?_
      · rw [found_any]
        by_cases c1 : swapL o j ∈ a <;> simp [c1]
      · have hb' := of_decide_eq_true hb
        refine st_append (j := 0) (er_var rfl) (ev_var rfl) rfl own_lp (by rw [List.length_map, List.length_map]; omega) s3 fun H4 s4 => ⟨a ++ [swapL o j], ⟨?_, ?_, ext ++ [swapL o j], by rw [h3, List.append_assoc]⟩, ?_⟩
        · rw [hstep]; unfold stepK; rw [if_pos hb']
        · have := hB'; unfold stepK at this; rw [if_pos hb'] at this; exact this
        · have e1 : ((a ++ [swapL o j]).map toI).map ordD = (a.map toI).map ordD ++ [ordD (toI (swapL o j))] := by rw [List.map_append, List.map_append]; rfl
          rw [e1]
          exact s4.le (.eq (.eq (.eq (.eq (.eq (.any (.any (.any .nil))))))))
      · have hb' := of_decide_eq_false hb
        refine ⟨a, ⟨?_, h2, ext, h3⟩, s3.le (.eq (.eq (.eq (.eq (.eq (.any (.any (.any .nil))))))))⟩
        rw [hstep]; unfold stepK; rw [if_neg hb']
    · rintro a σ H ⟨h1, h2, ⟨ext, h3⟩⟩ s
      rw [hrl, List.length_map, List.length_range] at h1
      have hexp : a = expand ys o found := h1
      refine st_asg (ev_add (ev_var rfl) ev_int) s fun σ2 H2 s2 => ⟨121 - (i + 1), by omega, i + 1, a, rfl, by omega, h2, ?_, ?_⟩
      · rw [← hbfs, show 120 - i = (120 - (i + 1)) + 1 by omega, hexp]
        show _ = (match found[i]? with
          | none => found
          | some o => bfs ys (120 - (i + 1)) (i + 1) (expand ys o found))
        rw [ho]
      · rw [show ((i : Int) + 1) = ((i + 1 : Nat) : Int) by omega] at s2
        exact s2.le (.eq (.eq (.eq (.eq (.any (.any (.any (.any .nil))))))))
  · rw [if_neg (by rw [hcnt]; simp; omega)]
    have hfin : found = ordersOf ys := by
      rw [← hbfs]
      cases h120 : 120 - i with
      | zero => rfl
      | succ f =>
        show _ = (match found[i]? with
          | none => found
          | some o => bfs ys f (i + 1) (expand ys o found))
        rw [List.getElem?_eq_none_iff.mpr (by omega)]
    subst hfin
    refine st_retM (ev_sortedO (er_var rfl) List.mem_cons_self ?_) s6 q'
    cases hy : ys with
    | nil =>
      right
      have : (ordersOf ys).length ≤ 1 := by
        have := nodup_le (m := [([] : List Nat)]) hB.nd fun x hx => by
          have := hB.pm x hx
          rw [hy] at this
          rw [List.perm_nil.mp this]; exact List.mem_cons_self
        exact this
      rw [← hy, List.length_map]; omega
    | cons y ys' =>
      left
      rw [← hy]
      intro b hb
      obtain ⟨x, hx, rfl⟩ := List.mem_map.mp hb
      have hlx := (hB.pm x hx).length_eq
      rw [List.length_range, hy] at hlx
      intro e
      have : (toI x).length = 0 := by rw [e]; rfl
      unfold toI at this
      rw [List.length_map, hlx] at this
      simp at this
theorem sc_normal : FnScope ["history", "order"] ["history"] (defScope s_normal) := ⟨rfl, rfl, rfl, by decide +kernel, rfl, by decide +kernel, by decide +kernel⟩
theorem c_normal (T : Txt K mg) (XE : Errs P K mg cS cR) : Cl P w K mg base (L2.CX P w) 31 "normal" ["history"] (SpX (R_normal cS cR)) := by
  refine spx_ok T.d_normal sc_normal (fun ds d h => by obtain ⟨d, xs, rfl, _⟩ := h; rfl) (fun f cdv A outer s H E hr => ⟨_, (pss_one (ps_ret (pe_callB (cr_minD rfl (units66 hr)) (by rfl) T.z_min (by decide +kernel) (pa_cons (pe_lc (own := [("order", 1)]) (g := gName 1) (tt := tYes) rfl sc_normal.nd (pi_seq (pe_k (c_every_order T XE) hr (by decide) rfl (passes_call (takes_of rfl rfl rfl rfl) (fun _ _ _ _ z => z)) (pa_cons (pv 0) pa_nil))) (blkOk_by (own := [("order", 1)]) (N := ["history", "order"]) (sc := (defScope s_normal)) (by decide +kernel)) (fun _ _ _ _ _ => (pg_name (i := 1) sc_normal.nd rfl (Or.inl rfl))) (fun _ _ _ _ _ => pts_nil) (fun _ _ _ _ _ => (pe_k (c_deeds_in T) hr (by decide) rfl pass0 (pa_cons (pv 0) (pa_cons (pv 1) pa_nil))))) pa_nil)))), ?_⟩)
  rintro O ds o σ ⟨d, xs, rfl, hd, hs, hl, rfl⟩ s Q q
  rcases runO_cases cS cR xs with ⟨C, fs, e⟩ | ⟨u, e, ex, hg, hrun, hf⟩
  · have q' : OutOk O H Q E (.exc C fs) := by unfold noOut at q; rw [e] at q; exact q
    exact tx_pass (ea_cons (ev_var rfl) ea_nil) (R := R_every_order cS cR) ⟨d, xs, rfl, hd, hs, hl, by unfold eoOut; rw [e]; rfl⟩ s q'
  have q' : OutOk O H Q E (.ret (normD (deedsOf xs))) := by unfold noOut at q; rw [e] at q; exact q
  clear q
  have heo : eoOut cS cR xs = .ret (.list ((sortO ((ordersOf (deedsOf xs)).map toI)).map ordD)) := by unfold eoOut; rw [e]; rfl
  generalize hys : deedsOf xs = ys at *
  have hes : xs.map Item.enc = ys.map Deed.enc := by rw [ex, List.map_map]; rfl
  have hl' : ys.length ≤ 5 := by rw [ex, List.length_map] at hl; exact hl
  obtain ⟨hB, _⟩ := orders_ok hl' hrun
  have hso : ∀ ns ∈ sortO ((ordersOf ys).map toI), ∃ o ∈ ordersOf ys, toI o = ns := fun ns h => by
    obtain ⟨o, ho, e⟩ := List.mem_map.mp ((sortO_perm _).subset h)
    exact ⟨o, ho, e⟩
  have hlc := ev_lc (F := F0 O H) (M := []) (δ := [.dat d, .any]) (wi := iSeq K (tCall (SpX (R_every_order cS cR)) [] E (tCons (tVar 0) tNil))) (sl := 1) (te := tCall (PureSp R_deeds_in) [] E0 (tCons (tVar 0) (tCons (tVar 1) tNil)))
    (f := fun x => match x with | .tuple ns => .tuple (ns.map fun n => match n with | .int n => (ys.map Deed.enc).getD n.toNat .none | _ => .none) | _ => .none)
    (ei_seq (ev_callX (ea_cons (ev_var rfl) ea_nil) ⟨d, xs, rfl, hd, hs, hl, heo.symm⟩) (.inl rfl))
    (fun F' M' x hx => by
      obtain ⟨ns, hns, rfl⟩ := List.mem_map.mp hx
      obtain ⟨o, ho, rfl⟩ := hso ns hns
      have hin := hB.ins ho
      refine ev_call (ea_cons (ev_var rfl) (ea_cons (ev_var rfl) ea_nil)) ⟨d, ys.map Deed.enc, toI o, rfl, by rw [← hes]; exact hd, fun n hn => ?_, ?_, ?_⟩
      · obtain ⟨k, hk, rfl⟩ := List.mem_map.mp hn
        have := hin k hk
        rw [List.length_map, Int.toNat_natCast]
        exact ⟨by omega, this⟩
      · unfold toI
        rw [List.length_map, (hB.pm o ho).length_eq, List.length_range]; omega
      · show PyData.tuple (((toI o).map PyData.int).map _) = _
        rw [List.map_map]; rfl)
    (by
      rw [List.length_map, (sortO_perm _).length_eq, List.length_map]
      have := hB.len hl'
      omega)
  have hmap : ((sortO ((ordersOf ys).map toI)).map ordD).map (fun x => match x with | .tuple ns => PyData.tuple (ns.map fun n => match n with | .int n => (ys.map Deed.enc).getD n.toNat .none | _ => .none) | _ => .none) = (formsL ys).map rowD := by
    unfold formsL
    rw [List.map_map, List.map_map]
    refine List.map_congr_left fun ns hns => ?_
    obtain ⟨o, ho, rfl⟩ := hso ns hns
    show PyData.tuple (((toI o).map PyData.int).map _) = rowD (formOf ys ((toI o).map Int.toNat))
    rw [List.map_map, toI_nat]
    unfold rowD
    rw [← form_data (hB.ins ho)]; rfl
  rw [hmap] at hlc
  have hne := forms_ne hl' hrun
  have hgood := forms_good hg
  unfold normD at q'
  cases hf2 : formsL ys with
  | nil => exact absurd hf2 hne
  | cons z zs =>
    rw [hf2] at hlc q' hgood
    refine st_retM (ev_minD hlc ?_ ?_) s q'
    · intro x hx y hy
      obtain ⟨a, ha, rfl⟩ := List.mem_map.mp (show x ∈ (z :: zs).map rowD from hx)
      obtain ⟨b, hb, rfl⟩ := List.mem_map.mp (show y ∈ (z :: zs).map rowD from hy)
      exact row_comp (hgood a ha) (hgood b hb)
    · intro x hx
      obtain ⟨a, ha, rfl⟩ := List.mem_map.mp (show x ∈ (z :: zs).map rowD from hx)
      exact (row_nb (hgood a ha)).2
theorem norm_shaped {ys : List Deed} {u : Fo} (hn : ys.length ≤ 5) (hg : ∀ y ∈ ys, y.good = true) (h : reachD .nil ys = some u) : SeqAt.shaped (normD ys) = true := by
  obtain ⟨z, hz, e⟩ := norm_mem hn h
  rw [e]
  exact (row_nb (forms_good hg z hz)).2
theorem sc_same_deeds : FnScope ["history", "other"] ["history", "other"] (defScope s_same_deeds) := ⟨rfl, rfl, rfl, by decide +kernel, rfl, by decide +kernel, by decide +kernel⟩
theorem c_same_deeds (T : Txt K mg) (XE : Errs P K mg cS cR) : Cl P w K mg base (L2.CX P w) 32 "same_deeds" ["history", "other"] (SpX (R_same_deeds cS cR)) := by
  refine spx_ok T.d_same_deeds sc_same_deeds (fun ds d h => by obtain ⟨d, e, xs, ys, rfl, _⟩ := h; rfl) (fun f cdv A outer s H E hr => ⟨_, (pss_cons (ps_expr (pe_k (c_need_histories T XE) hr (by decide) rfl (passes_call (takes_of rfl rfl rfl rfl) (fun _ _ _ _ z => z)) (pa_cons (pv 0) (pa_cons (pv 1) pa_nil))))
    (pss_one (ps_ret (pe_cmpR (op_eqD hr.units) (pe_k (c_normal T XE) hr (by decide) rfl (passes_call (takes_of rfl rfl rfl rfl) (fun _ _ _ _ z => z)) (pa_cons (pv 0) pa_nil)) (pe_k (c_normal T XE) hr (by decide) rfl (passes_call (takes_of rfl rfl rfl rfl) (fun _ _ _ _ z => z)) (pa_cons (pv 1) pa_nil)) (nomark _))))), ?_⟩)
  rintro O ds o σ ⟨d, e, xs, ys, rfl, hd, he, hs1, hs2, hl1, hl2, rfl⟩ s Q q
  unfold saOut at q
  cases hH : needH cS cR xs ys with
  | exc C fs =>
    rw [hH] at q
    exact tx_pass (ea_cons (ev_var rfl) (ea_cons (ev_var rfl) ea_nil)) (R := R_need_histories cS cR) ⟨d, e, xs, ys, rfl, hd, he, hs1, hs2, hl1, hl2, hH.symm⟩ s q
  | ret r =>
    rw [hH] at q
    have q' : OutOk O H Q E (.ret (.bool (PyData.eqv (normD (deedsOf xs)) (normD (deedsOf ys))))) := q
    have hall : ((xs ++ ys).find? fun x => !x.good) = none := by
      cases hq : (xs ++ ys).find? fun x => !x.good with
      | none => rfl
      | some x => unfold needH at hH; rw [hq] at hH; cases hH
    have hxy := hall
    rw [List.find?_append] at hxy
    have hx : (xs.find? fun x => !x.good) = none := by
      cases hq : xs.find? fun x => !x.good with
      | none => rfl
      | some x => rw [hq] at hxy; cases hxy
    rw [hx] at hxy
    have hy : (ys.find? fun x => !x.good) = none := hxy
    have hH' : thenO (runD cR .nil (deedsOf xs)) (thenO (runD cR .nil (deedsOf ys)) (.ret .none)) = .ret r := by unfold needH at hH; rw [hall] at hH; exact hH
    obtain ⟨ex, gx⟩ := all_good hx
    obtain ⟨ey, gy⟩ := all_good hy
    have r1 : runO cS cR .nil xs = runD cR .nil (deedsOf xs) := by unfold runO; rw [hx]
    have r2 : runO cS cR .nil ys = runD cR .nil (deedsOf ys) := by unfold runO; rw [hy]
    rcases runD_cases cR .nil (deedsOf xs) with ⟨u1, k1, e1⟩ | ⟨_, fs, e1⟩
    · rcases runD_cases cR .nil (deedsOf ys) with ⟨u2, k2, e2⟩ | ⟨_, fs, e2⟩
      · have n1 : noOut cS cR xs = .ret (normD (deedsOf xs)) := by unfold noOut; rw [r1, e1]; rfl
        have n2 : noOut cS cR ys = .ret (normD (deedsOf ys)) := by unfold noOut; rw [r2, e2]; rfl
        have l1 : (deedsOf xs).length ≤ 5 := by rw [ex, List.length_map] at hl1; exact hl1
        have l2 : (deedsOf ys).length ≤ 5 := by rw [ey, List.length_map] at hl2; exact hl2
        have hr1 : r = .none := by
          rw [e1, e2] at hH'
          exact (Out.ret.inj hH').symm
        subst hr1
        refine sq_drop (ev_callX (d := .none) (ea_cons (ev_var rfl) (ea_cons (ev_var rfl) ea_nil)) ⟨d, e, xs, ys, rfl, hd, he, hs1, hs2, hl1, hl2, hH.symm⟩) s fun H1 s1 => ?_
        exact st_retM (ev_eq (ev_callX (ea_cons (ev_var rfl) ea_nil) ⟨d, xs, rfl, hd, hs1, hl1, n1.symm⟩) (ev_callX (ea_cons (ev_var rfl) ea_nil) ⟨e, ys, rfl, he, hs2, hl2, n2.symm⟩) (norm_shaped l1 gx k1) (norm_shaped l2 gy k2)) s1 q'
      · rw [e1, e2] at hH'; cases hH'
    · rw [e1] at hH'; cases hH'
end
end G
set_option Elab.async false
set_option linter.all false
set_option maxRecDepth 100000
set_option maxHeartbeats 4000000
/-! What the law computes on rows. -/
namespace G
open PySem L2 Fo
def rowE (r : Row) : PyData := .tuple [.int r.1, .str r.2.1, .int r.2.2]
def rowsD (rs : List Row) : PyData := .list (rs.map rowE)
def idxFrom (m : Int) : List Row → Nat → Int
  | [], _ => -1
  | r :: rs, k => if r.1 = m then (k : Int) else idxFrom m rs (k + 1)
def idxR (rs : List Row) (m : Int) : Int := idxFrom m rs 0
def endFrom : List Row → List Int → Nat → Nat
  | [], _, k => k
  | r :: rs, ins, k => if r.2.2 ∈ ins then endFrom rs (ins ++ [r.1]) (k + 1) else k
def endR (rs : List Row) (k : Nat) : Nat := match rs.drop k with
  | [] => rs.length
  | r :: rest => endFrom rest [r.1] (k + 1)
theorem idx_none : ∀ {rs : List Row} {m : Int} {k : Nat}, m ∉ rs.map (·.1) → idxFrom m rs k = -1
  | [], _, _, _ => rfl
  | r :: rs, m, k, h => by
    have h1 : r.1 ≠ m := fun e => h (by rw [← e]; exact List.mem_cons_self)
    unfold idxFrom
    rw [if_neg h1]
    exact idx_none fun q => h (List.mem_cons_of_mem _ q)
theorem idx_some : ∀ {pre rest : List Row} {r : Row} {k : Nat}, r.1 ∉ pre.map (·.1) → idxFrom r.1 (pre ++ r :: rest) k = ((k + pre.length : Nat) : Int)
  | [], rest, r, k, _ => by
    show idxFrom r.1 (r :: rest) k = _
    unfold idxFrom
    rw [if_pos rfl]; rfl
  | p :: pre, rest, r, k, h => by
    have h1 : p.1 ≠ r.1 := fun e => h (by rw [← e]; exact List.mem_cons_self)
    show idxFrom r.1 (p :: (pre ++ r :: rest)) k = _
    unfold idxFrom
    rw [if_neg h1, idx_some fun q => h (List.mem_cons_of_mem _ q), List.length_cons]
    congr 1; omega
theorem endFrom_cons (r : Row) (rs : List Row) (ins : List Int) (k : Nat) : endFrom (r :: rs) ins k = if r.2.2 ∈ ins then endFrom rs (ins ++ [r.1]) (k + 1) else k := rfl
theorem end_flat (rest : List Row) : ∀ (c : Fo) {p : Int} {ins : List Int} {k : Nat}, p ∈ ins → endFrom (flat p c ++ rest) ins k = endFrom rest (ins ++ c.marks) (k + c.size)
  | .nil, p, ins, k, _ => by
    show endFrom rest ins k = endFrom rest (ins ++ []) (k + 0)
    rw [List.append_nil]; rfl
  | .cons m w d r, p, ins, k, h => by
    show endFrom ((m, w, p) :: (flat m d ++ flat p r ++ rest)) ins k = _
    rw [endFrom_cons, if_pos h, List.append_assoc, end_flat (flat p r ++ rest) d (p := m) (List.mem_append_right _ List.mem_cons_self), end_flat rest r (List.mem_append_left _ (List.mem_append_left _ h))]
    have e1 : (Fo.cons m w d r).marks = m :: (d.marks ++ r.marks) := rfl
    have e2 : (Fo.cons m w d r).size = 1 + (d.size + r.size) := rfl
    rw [e1, e2, List.append_assoc, List.append_assoc, show k + 1 + d.size + r.size = k + (1 + (d.size + r.size)) by omega]
    rfl
theorem end_post {post : List Row} {ins : List Int} {k : Nat} (h : ∀ r ∈ post, r.2.2 ∉ ins) : endFrom post ins k = k := by
  cases post with
  | nil => rfl
  | cons r post =>
    rw [endFrom_cons, if_neg (h r List.mem_cons_self)]
/-- a block's end -/
theorem end_at {pre post : List Row} {m : Int} {w : Str} {q : Int} {c : Fo} (h : ∀ r ∈ post, r.2.2 ≠ m ∧ r.2.2 ∉ c.marks) : endR (pre ++ (m, w, q) :: (flat m c ++ post)) pre.length = pre.length + 1 + c.size := by
  unfold endR
  rw [List.drop_left]
  show endFrom (flat m c ++ post) [m] (pre.length + 1) = _
  rw [end_flat post c List.mem_cons_self]
  refine end_post fun r hr => ?_
  obtain ⟨h1, h2⟩ := h r hr
  intro hm
  rcases List.mem_append.mp hm with hm | hm
  · exact h1 (List.mem_singleton.mp hm)
  · exact h2 hm
section
variable {t : Fo} {m q p b : Int} {pre post : List Row} {w : Str} {c : Fo}
theorem Fo.Loc.fresh (h : Ok t) (L : Loc t 0 m pre post w q c) : m ∉ pre.map (·.1) := fun hm => by
  have nd := h.rows.1
  rw [L.eq, List.map_append, List.map_cons] at nd
  exact (List.nodup_append.mp nd).2.2 m hm m List.mem_cons_self rfl
theorem Fo.Loc.idx (h : Ok t) (L : Loc t 0 m pre post w q c) : idxR (flat 0 t) m = (pre.length : Int) := by
  unfold idxR
  rw [L.eq, idx_some (r := (m, w, q)) (L.fresh h), Nat.zero_add]
theorem Fo.Loc.endd (L : Loc t 0 m pre post w q c) : endR (flat 0 t) pre.length = pre.length + 1 + c.size := by rw [L.eq]; exact end_at L.out
theorem idx_out (h : m ∉ t.marks) : idxR (flat 0 t) m = -1 := idx_none (by rw [flat_marks]; exact h)
theorem Fo.Loc.rowAt (h : Ok t) (L : Loc t 0 m pre post w q c) (h0 : m ≠ 0) : t.rowAt m = c := by
  obtain ⟨_, e⟩ := L.at h.nd
  exact rowAt_of e h0
theorem Fo.Loc.par (h : Ok t) (L : Loc t 0 m pre post w q c) : t.par m = q := by
  obtain ⟨_, e⟩ := L.at h.nd
  unfold Fo.par; rw [e]
theorem Fo.Loc.get (L : Loc t 0 m pre post w q c) : (flat 0 t)[pre.length]? = some (m, w, q) := by
  rw [L.eq, List.getElem?_append_right (Nat.le_refl _), Nat.sub_self]; rfl
theorem Fo.Loc.size (L : Loc t 0 m pre post w q c) : pre.length + 1 + c.size + post.length = t.size := by
  rw [← flat_length t 0, L.eq, List.length_append, List.length_cons, List.length_append, flat_length]; omega
/-- where a block is put, by the law's way -/
def putAt (rs : List Row) (p b : Int) : Nat := if b ≠ 0 then endR rs (idxR rs b).toNat else if p ≠ 0 then (idxR rs p).toNat + 1 else 0
theorem putAt_eq {blk out : List Row} (h : Ok t) (hP : Put (flat 0 t) blk p b out) : putAt (flat 0 t) p b ≤ t.size ∧ out = (flat 0 t).take (putAt (flat 0 t) p b) ++ blk ++ (flat 0 t).drop (putAt (flat 0 t) p b) := by
  generalize hr : flat 0 t = rows at hP
  have nd := h.rows.1
  rw [hr] at nd
  have hz : rows.length = t.size := by rw [← hr, flat_length]
  unfold putAt
  cases hP with
  | top hp hb =>
    rw [if_neg (by simp [hb]), if_neg (by simp [hp])]
    exact ⟨Nat.zero_le _, by simp⟩
  | @first pre w q rest hp hb e =>
    have hfr : p ∉ pre.map (·.1) := fun hm => by
      rw [e, List.map_append, List.map_cons] at nd
      exact (List.nodup_append.mp nd).2.2 p hm p List.mem_cons_self rfl
    have hi : idxR rows p = (pre.length : Int) := by
      unfold idxR
      rw [e, idx_some (r := (p, w, q)) hfr, Nat.zero_add]
    rw [if_neg (by simp [hb]), if_pos hp, hi, Int.toNat_natCast]
    have hsz : rows.length = pre.length + (rest.length + 1) := by rw [e, List.length_append, List.length_cons]
    refine ⟨by omega, ?_⟩
    have e2 : rows = (pre ++ [(p, w, q)]) ++ rest := by rw [e]; simp
    have hl : (pre ++ [(p, w, q)]).length = pre.length + 1 := by simp
    rw [e2, ← hl, List.take_left, List.drop_left]
    simp
  | @behind pre post w cb hb e hout =>
    have hfr : b ∉ pre.map (·.1) := fun hm => by
      rw [e, List.map_append, List.map_cons] at nd
      exact (List.nodup_append.mp nd).2.2 b hm b List.mem_cons_self rfl
    have hi : idxR rows b = (pre.length : Int) := by
      unfold idxR
      rw [e, idx_some (r := (b, w, p)) hfr, Nat.zero_add]
    have he : endR rows pre.length = pre.length + 1 + cb.size := by rw [e]; exact end_at hout
    rw [if_pos hb, hi, Int.toNat_natCast, he]
    have hsz : rows.length = pre.length + (cb.size + post.length + 1) := by rw [e, List.length_append, List.length_cons, List.length_append, flat_length]
    refine ⟨by omega, ?_⟩
    have e2 : rows = (pre ++ (b, w, p) :: flat b cb) ++ post := by rw [e]; simp
    have hl : (pre ++ (b, w, p) :: flat b cb).length = pre.length + 1 + cb.size := by rw [List.length_append, List.length_cons, flat_length]; omega
    rw [e2, ← hl, List.take_left, List.drop_left]
    simp
end
/-- the law's answer of a reason -/
def reasonS (o : Option Str) : Str := match o with
  | none => ""
  | some r => r
def rowsO : Option Fo → PyData
  | none => .none
  | some t => rowsD (flat 0 t)
theorem rowsD_nb {t : Fo} (h : t.Ok) : nb (rowsD (flat 0 t)) = true ∧ SeqAt.shaped (rowsD (flat 0 t)) = true := by
  have h1 : ∀ r ∈ flat 0 t, nb (rowE r) = true := fun r hr => by
    have : PyData.strOk r.2.1 = true := word_strOk (h.rows.2.2 _ (List.mem_map_of_mem (f := (·.2.1)) hr))
    simp [rowE, nb, nbAll, this]
  have h2 : nb (rowsD (flat 0 t)) = true := by
    unfold rowsD
    simp only [nb]
    rw [nbAll_iff]
    intro d hd
    obtain ⟨r, hr, rfl⟩ := List.mem_map.mp hd
    exact h1 r hr
  refine ⟨h2, shaped_of h2 ?_⟩
  have : PyData.depthAll ((flat 0 t).map rowE) ≤ 1 := depthAll_le fun d hd => by
    obtain ⟨r, _, rfl⟩ := List.mem_map.mp hd
    simp [rowE, PyData.depth, PyData.depthAll]
  unfold rowsD
  simp only [PyData.depth]; omega
/-! the law's plot of rows -/
theorem flat_filter {t : Fo} : ∀ {p q : Int}, t.marks.Nodup → p ∉ t.marks → q ∉ t.marks → p ≠ q → (flat p t).filter (fun r => decide (r.2.2 = q)) = [] := fun {p q} _ _ hq hpq => by
  rw [List.filter_eq_nil_iff]
  intro r hr
  have : r.2.2 ≠ q := by
    rcases flat_par hr with e | e
    · rw [e]; exact hpq
    · exact fun z => hq (z ▸ e)
  simpa using this
def topR (p : Int) : Fo → List Row
  | .nil => []
  | .cons m w _ r => (m, w, p) :: topR p r
theorem filter_top {t : Fo} : ∀ {p : Int}, t.marks.Nodup → p ∉ t.marks → (flat p t).filter (fun r => decide (r.2.2 = p)) = topR p t := by
  induction t with
  | nil => intro p _ _; rfl
  | cons m w c r _ ihr =>
    intro p nd hp
    obtain ⟨n1, n2, n3, n4, n5⟩ := nd_cons nd
    have hp' : p ∉ m :: (c.marks ++ r.marks) := hp
    have p1 : p ≠ m := fun e => hp' (by rw [e]; exact List.mem_cons_self)
    have p2 : p ∉ c.marks := fun q => hp' (List.mem_cons_of_mem _ (List.mem_append_left _ q))
    have p3 : p ∉ r.marks := fun q => hp' (List.mem_cons_of_mem _ (List.mem_append_right _ q))
    show ((m, w, p) :: (flat m c ++ flat p r)).filter _ = (m, w, p) :: topR p r
    rw [List.filter_cons_of_pos (by simp), List.filter_append, flat_filter n3 n1 p2 (Ne.symm p1), List.nil_append, ihr n4 p3]
/-- the rows whose parent is a mark are its children's -/
theorem filter_loc {t : Fo} (h : t.Ok) {m q : Int} {pre post : List Row} {w : Str} {c : Fo} (L : Loc t 0 m pre post w q c) : (flat 0 t).filter (fun r => decide (r.2.2 = m)) = topR m c := by
  have nd := h.rows.1
  rw [L.eq, List.map_append, List.map_cons, List.map_append, flat_marks] at nd
  obtain ⟨_, h2, _⟩ := List.nodup_append.mp nd
  obtain ⟨h3, h4⟩ := List.nodup_cons.mp h2
  have hc : c.marks.Nodup := (List.nodup_append.mp h4).1
  have hm : m ∉ c.marks := fun z => h3 (List.mem_append_left _ z)
  have hq : q ≠ m := by
    obtain ⟨b0, hsp⟩ := L.sp 0
    obtain ⟨i, hi⟩ := List.mem_iff_getElem?.mp hsp
    have hmk : t.marks[i]? = some m := by rw [← sp_marks t 0 0, List.getElem?_map, hi]; rfl
    rcases par_ahead hi with z | ⟨j, hj, z⟩
    · intro e
      have z' : q = 0 := z
      exact zero_out h (by rw [← z', e]; exact List.mem_of_getElem? hmk)
    · intro e
      have z' : t.marks[j]? = some m := by rw [z]; exact congrArg some e
      obtain ⟨i1, i2⟩ := List.getElem?_eq_some_iff.mp hmk
      obtain ⟨j1, j2⟩ := List.getElem?_eq_some_iff.mp z'
      have := (List.getElem_inj h.nd).mp (i2.trans j2.symm)
      omega
  have hpre : pre.filter (fun r => decide (r.2.2 = m)) = [] := List.filter_eq_nil_iff.mpr fun r hr => by simpa using (L.ahead r hr).1
  have hpost : post.filter (fun r => decide (r.2.2 = m)) = [] := List.filter_eq_nil_iff.mpr fun r hr => by simpa using (L.out r hr).1
  rw [L.eq, List.filter_append, hpre, List.nil_append, List.filter_cons_of_neg (by simpa using hq), List.filter_append, filter_top hc hm, hpost, List.append_nil]
end G
set_option Elab.async false
set_option linter.all false
set_option maxRecDepth 100000
set_option maxHeartbeats 4000000
namespace G
open PySem L2 Fo
/-! ### the law's defs on rows -/
def R_law_index (ds : List PyData) (r : PyData) : Prop := ∃ (rs : List Row) (m : Int), ds = [rowsD rs, .int m] ∧ rs.length ≤ 1000 ∧ r = .int (idxR rs m)
def R_law_end (ds : List PyData) (r : PyData) : Prop := ∃ (rs : List Row) (k : Nat), ds = [rowsD rs, .int k] ∧ k < rs.length ∧ rs.length ≤ 1000 ∧ r = .int (endR rs k : Nat)
def R_law_reason (ds : List PyData) (r : PyData) : Prop := ∃ (t : Fo) (x : Deed), ds = [rowsD (flat 0 t), x.enc] ∧ Ok t ∧ t.size ≤ 1000 ∧ r = .str (reasonS (reasonAt t x))
def R_law_put (ds : List PyData) (r : PyData) : Prop := ∃ (t : Fo) (blk out : List Row) (p b : Int), ds = [rowsD (flat 0 t), rowsD blk, .int p, .int b] ∧ Ok t ∧ t.size ≤ 1000 ∧ blk.length ≤ 1000 ∧ Put (flat 0 t) blk p b out ∧ r = rowsD out
def R_law_done (ds : List PyData) (r : PyData) : Prop := ∃ (t : Fo) (x : Deed), ds = [rowsD (flat 0 t), x.enc] ∧ Ok t ∧ t.size ≤ 500 ∧ reasonAt t x = none ∧ r = rowsD (flat 0 (behindT t x))
section
variable {P : Program} {w : World} {K : PySem.W.Frag} {mg : Str → Option Value} {base : Heap}
theorem row_get {rs : List Row} {k : Nat} {r : Row} (h : rs[k]? = some r) : atI (rs.map rowE) (k : Int) = some (rowE r) := atI_nat (by rw [List.getElem?_map, h]; rfl)
theorem sc__law_index : FnScope ["_law_rows", "_law_mark", "_law_k"] ["_law_rows", "_law_mark"] (defScope s__law_index) := ⟨rfl, rfl, rfl, by decide +kernel, rfl, by decide +kernel, by decide +kernel⟩
theorem c__law_index (T : Txt K mg) : Cl P w K mg base CX0 1 "_law_index" ["_law_rows", "_law_mark"] (PureSp R_law_index) := by
  refine pure_ok T.d__law_index sc__law_index (fun ds d h => by obtain ⟨rs, m, rfl, _⟩ := h; rfl) (fun f cdv A outer s H E hr => ⟨_, (pss_cons (ps_for PassesOwn.never rfl (pi_range1 (by rfl) T.z_range (pa_cons (pe_callB call_len (by rfl) T.z_len PySem.boot_len (pa_cons (pv 0) pa_nil)) pa_nil)) (pg_name (i := 2) sc__law_index.nd rfl (Or.inl rfl))
    (pss_one (ps_if (pt_cmpR (op_eqD hr.units) (pe_ix ix_seq (pe_ix ix_seq (pv 0) (pv 2) (fun _ _ => rfl)) pe_int (fun _ _ => rfl)) (pv 1) (nomark _)) (pss_one (ps_ret (pv 2))) pss_nil)))
    (pss_one (ps_ret (pe_un un_neg pe_int)))), ?_⟩)
  rintro O ds r σ ⟨rs, m, rfl, hl, rfl⟩ s Q q
  have hlen : (rs.map rowE).length = rs.length := List.length_map ..
  refine sq_for (α := List Row) (fun _ _ => []) (fun _ _ => [.dat (rowsD rs), .dat (.int m), .any]) (fun i a => rs.drop i = a ∧ idxFrom m rs 0 = idxFrom m a i) rs
    (ei_range1 (ev_lenL (ev_var rfl)) (by omega) (by rw [hlen]; omega)) s ⟨rfl, rfl⟩ rfl (Le.refl _) ?_ ?_
  · rintro B i a d σ H v hd ⟨h1, h2⟩ s rv
    unfold rngD at hd
    rw [List.getElem?_map, Int.toNat_natCast, hlen] at hd
    have hi : i < rs.length := by
      rcases Nat.lt_or_ge i rs.length with h | h
      · exact h
      · rw [List.getElem?_eq_none_iff.mpr (by rw [List.length_range]; exact h)] at hd; cases hd
    rw [List.getElem?_range hi] at hd
    cases hd
    have rv : Rp _ v (.int (0 + ((i : Nat) : Int))) := rv
    rw [show (0 + ((i : Nat) : Int)) = (i : Int) by omega] at rv
    have hx : rs[i]? = some rs[i] := List.getElem?_eq_getElem hi
    cases a with
    | nil => exact absurd h1 (drop_some hx)
    | cons x a =>
      obtain ⟨e, h3⟩ := drop_step hx h1
      refine tg_use tg_name s rv fun σ1 s1 => ?_
      have hu : idxFrom m (x :: a) i = if x.1 = m then (i : Int) else idxFrom m a (i + 1) := rfl
      rw [hu] at h2
      refine st_if (et_test (ev_eqI (i := x.1) (ev_ixT (ds := [.int x.1, .str x.2.1, .int x.2.2]) (ev_is (ev_ixL (ev_var rfl) (ev_var rfl) (row_get hx)) (by rw [e]; rfl)) ev_int rfl) (ev_var rfl))) s1 (fun hb H2 s2 => ?_) fun hb H2 s2 => ?_
      · rw [if_pos (of_decide_eq_true hb)] at h2
        exact st_retM (ev_is (ev_var rfl) (by show _ = PyData.int (idxFrom m rs 0); rw [h2])) s2 q
      · rw [if_neg (of_decide_eq_false hb)] at h2
        exact ⟨a, ⟨h3, h2⟩, s2.le (.eq (.eq (.any .nil)))⟩
  · rintro a σ H ⟨h1, h2⟩ s
    unfold rngD at h1
    rw [List.length_map, List.length_range, Int.toNat_natCast, hlen] at h1
    have := drop_all h1
    subst this
    exact st_retM (ev_is (ev_neg ev_int) (by show _ = PyData.int (idxFrom m rs 0); rw [h2]; rfl)) s q
theorem sc__law_end : FnScope ["_law_rows", "_law_at", "_law_inside", "_law_k"] ["_law_rows", "_law_at"] (defScope s__law_end) := ⟨rfl, rfl, rfl, by decide +kernel, rfl, by decide +kernel, by decide +kernel⟩
theorem c__law_end (T : Txt K mg) : Cl P w K mg base CX0 1 "_law_end" ["_law_rows", "_law_at"] (PureSp R_law_end) := by
  refine pure_ok T.d__law_end sc__law_end (fun ds d h => by obtain ⟨rs, k, rfl, _⟩ := h; rfl) (fun f cdv A outer s H E hr => ⟨_, (pss_cons (ps_set (i := 2) sc__law_end.nd rfl (Or.inl rfl) (pe_lst (pa_cons (pe_ix ix_seq (pe_ix ix_seq (pv 0) (pv 1) (fun _ _ => rfl)) pe_int (fun _ _ => rfl)) pa_nil)))
    (pss_cons (ps_for PassesOwn.never rfl (pi_range2 (by rfl) T.z_range (pa_cons (pe_op op_add (pv 1) pe_int) (pa_cons (pe_callB call_len (by rfl) T.z_len PySem.boot_len (pa_cons (pv 0) pa_nil)) pa_nil))) (pg_name (i := 3) sc__law_end.nd rfl (Or.inl rfl))
    (pss_cons (ps_if (pt_cmpR (op_notInD (units65 hr)) (pe_ix ix_seq (pe_ix ix_seq (pv 0) (pv 3) (fun _ _ => rfl)) pe_int (fun _ _ => rfl)) (pv 2) rfl) (pss_one (ps_ret (pv 3))) pss_nil)
    (pss_one (ps_expr (pe_bm PySem.F.plainAttrs_list PySem.F.slot_list_append PySem.F.type_list_append mt_append (pv 2) (pa_cons (pe_ix ix_seq (pe_ix ix_seq (pv 0) (pv 3) (fun _ _ => rfl)) pe_int (fun _ _ => rfl)) pa_nil))))))
    (pss_one (ps_ret (pe_callB call_len (by rfl) T.z_len PySem.boot_len (pa_cons (pv 0) pa_nil)))))), ?_⟩)
  rintro O ds r σ ⟨rs, k, rfl, hk, hl, rfl⟩ s Q q
  have hlen : (rs.map rowE).length = rs.length := List.length_map ..
  have hx : rs[k]? = some rs[k] := List.getElem?_eq_getElem hk
  have hend : endR rs k = endFrom (rs.drop (k + 1)) [rs[k].1] (k + 1) := by
    unfold endR
    rw [List.drop_eq_getElem_cons hk]
  refine sq_own (ds := [.int rs[k].1]) (ea_cons (ev_ixT (ds := [.int rs[k].1, .str rs[k].2.1, .int rs[k].2.2]) (ev_ixL (ev_var rfl) (ev_var rfl) (row_get hx)) ev_int rfl) ea_nil) s (fun l σ1 H1 hl1 s1 => ?_) (Nat.le_of_ble_eq_true rfl)
  have hsh : ∀ ins : List Int, SeqAt.shaped (.list (ins.map PyData.int)) = true := fun ins => by
    have h2 : nb (.list (ins.map PyData.int)) = true := by
      simp only [nb]
      rw [nbAll_iff]
      intro d hd
      obtain ⟨n, _, rfl⟩ := List.mem_map.mp hd
      simp [nb]
    refine shaped_of h2 ?_
    have : PyData.depthAll (ins.map PyData.int) = 0 := PySem.W.depth_ints ins
    simp only [PyData.depth]; omega
  have hany : ∀ (ins : List Int) (n : Int), ((ins.map PyData.int).any fun z => PyData.eqv z (.int n)) = decide (n ∈ ins) := fun ins n => by
    induction ins with
    | nil => simp
    | cons i ins ih =>
      rw [List.map_cons, List.any_cons, ih, eqv_ints]
      by_cases h : n = i
      · subst h; simp
      · have : ¬ i = n := fun e => h e.symm
        simp [h, this]
  have hcnt : ((rs.map rowE).length : Int) - ((k : Int) + 1) = ((rs.length - (k + 1) : Nat) : Int) := by rw [hlen]; omega
  refine sq_for (α := List Row × List Int) (fun _ a => [(l, .lst (a.2.map PyData.int))]) (fun _ _ => [.dat (rowsD rs), .dat (.int (k : Nat)), .raw (.ref l), .any]) (fun i a => rs.drop (k + 1 + i) = a.1 ∧ endR rs k = endFrom a.1 a.2 (k + 1 + i) ∧ a.2.length ≤ 1 + i) (rs.drop (k + 1), [rs[k].1])
    (ei_range2 (ev_add (ev_var rfl) ev_int) (ev_lenL (ev_var rfl)) (by rw [hlen]; omega)) s1 ⟨rfl, hend, by simp⟩ rfl (Le.refl _) ?_ ?_
  · rintro B i ⟨a, ins⟩ d σ H v hd ⟨h1, h2, h3⟩ s rv
    dsimp only at h1 h2 h3 s
    unfold rngD at hd
    rw [List.getElem?_map, hcnt, Int.toNat_natCast] at hd
    have hi : i < rs.length - (k + 1) := by
      rcases Nat.lt_or_ge i (rs.length - (k + 1)) with h | h
      · exact h
      · rw [List.getElem?_eq_none_iff.mpr (by rw [List.length_range]; exact h)] at hd; cases hd
    rw [List.getElem?_range hi] at hd
    cases hd
    have rv : Rp _ v (.int ((k : Int) + 1 + ((i : Nat) : Int))) := rv
    rw [show ((k : Int) + 1 + ((i : Nat) : Int)) = ((k + 1 + i : Nat) : Int) by omega] at rv
    have hj : rs[k + 1 + i]? = some rs[k + 1 + i] := List.getElem?_eq_getElem (by omega)
    cases a with
    | nil => exact absurd h1 (drop_some hj)
    | cons x a =>
      obtain ⟨e, h4⟩ := drop_step hj h1
      refine tg_use tg_name s rv fun σ1 s1 => ?_
      rw [endFrom_cons] at h2
      have hrow : ∀ (F' : Fm) (M' : List (Addr × OC)), Ev F' M' [.dat (rowsD rs), .dat (.int (k : Nat)), .raw (.ref l), .dat (.int (k + 1 + i : Nat))] (tOp (rIx K) (tVar 0) (tVar 3)) (.tuple [.int x.1, .str x.2.1, .int x.2.2]) := fun F' M' => ev_is (ev_ixL (ev_var rfl) (ev_var rfl) (row_get hj)) (by rw [e]; rfl)
      refine sq_ifN (b := !decide (x.2.2 ∈ ins)) (et_is (et_test (ev_notInO (d := .int x.2.2) (ev_ixT (hrow _ _) ev_int rfl) (er_var rfl) List.mem_cons_self sh_int (hsh _))) (by rw [hany])) s1 (fun hb H2 s2 => ?_) fun hb H2 s2 => ?_
      · have hn : x.2.2 ∉ ins := by simpa using hb
        rw [if_neg hn] at h2
        exact st_retM (ev_is (ev_var rfl) (by rw [h2])) s2 q
      · have hin : x.2.2 ∈ ins := by simpa using hb
        rw [if_pos hin] at h2
        refine st_append (j := 0) (er_var rfl) (ev_ixT (hrow _ _) ev_int rfl) rfl own_lp (by rw [List.length_map]; omega) s2 fun H3 s3 => ⟨(a, ins ++ [x.1]), ⟨h4, h2, by simp; omega⟩, ?_⟩
        have e1 : (ins ++ [x.1]).map PyData.int = ins.map PyData.int ++ [.int x.1] := by rw [List.map_append]; rfl
        dsimp only
        rw [e1]
        exact s3.le (.eq (.eq (.eq (.any .nil))))
  · rintro ⟨a, ins⟩ σ H ⟨h1, h2, h3⟩ s
    dsimp only at h1 h2 h3 s
    unfold rngD at h1 h2
    rw [List.length_map, List.length_range, hcnt, Int.toNat_natCast, show k + 1 + (rs.length - (k + 1)) = rs.length by omega] at h1 h2
    have := drop_all h1
    subst this
    exact st_retM (ev_is (ev_lenL (ev_var rfl)) (by rw [h2, hlen]; rfl)) s q
theorem sc__law_put : FnScope ["_law_rows", "_law_block", "_law_parent", "_law_behind", "_law_at"] ["_law_rows", "_law_block", "_law_parent", "_law_behind"] (defScope s__law_put) := ⟨rfl, rfl, rfl, by decide +kernel, rfl, by decide +kernel, by decide +kernel⟩
theorem c__law_put (T : Txt K mg) : Cl P w K mg base CX0 2 "_law_put" ["_law_rows", "_law_block", "_law_parent", "_law_behind"] (PureSp R_law_put) := by
  refine pure_ok T.d__law_put sc__law_put (fun ds d h => by obtain ⟨t, blk, out, p, b, rfl, _⟩ := h; rfl) (fun f cdv A outer s H E hr => ⟨_, (pss_cons (ps_set (i := 4) sc__law_put.nd rfl (Or.inl rfl) pe_int)
    (pss_cons (ps_if (pt_cmpR (op_neD hr.units) (pv 3) pe_int (nomark _)) (pss_one (ps_set (i := 4) sc__law_put.nd rfl (Or.inl rfl) (pe_k (c__law_end T) hr (by decide) rfl pass0 (pa_cons (pv 0) (pa_cons (pe_k (c__law_index T) hr (by decide) rfl pass0 (pa_cons (pv 0) (pa_cons (pv 3) pa_nil))) pa_nil))))) (pss_one (ps_if (pt_cmpR (op_neD hr.units) (pv 2) pe_int (nomark _)) (pss_one (ps_set (i := 4) sc__law_put.nd rfl (Or.inl rfl) (pe_op op_add (pe_k (c__law_index T) hr (by decide) rfl pass0 (pa_cons (pv 0) (pa_cons (pv 2) pa_nil))) pe_int))) pss_nil)))
    (pss_one (ps_ret (pe_op op_cat (pe_op op_cat (pe_slice sl_list (pv 0) po_none (po_some (pv 4))) (pv 1)) (pe_slice sl_list (pv 0) (po_some (pv 4)) po_none)))))), ?_⟩)
  rintro O ds r σ ⟨t, blk, out, p, b, rfl, hok, hsz, hbl, hP, rfl⟩ s Q q
  obtain ⟨hle, hout⟩ := putAt_eq hok hP
  have hlen : (flat 0 t).length = t.size := flat_length t 0
  have fin : ∀ σ' H', S (F0 O H) [] [.dat (rowsD (flat 0 t)), .dat (rowsD blk), .dat (.int p), .dat (.int b), .dat (.int (putAt (flat 0 t) p b : Nat))] σ' H' → tRet (tOp rCat (tOp rCat (tSl (rSlL K) (tVar 0) tNoPart (tPart (tVar 4))) (tVar 1)) (tSl (rSlL K) (tVar 0) (tPart (tVar 4)) tNoPart)) { nx := fun _ H' => Q .non H', rt := Q } σ' H' := fun σ' H' s' => by
    refine st_retM (ev_is (ev_catL (ev_catL (ev_slL (ev_var rfl) eo_none (eo_some (ev_var rfl))) (ev_var rfl) ?_) (ev_slL (ev_var rfl) (eo_some (ev_var rfl)) eo_none) ?_) ?_) s' q
    · rw [cut_to, List.length_take, List.length_map, List.length_map]; omega
    · rw [cut_to, cut_from, List.length_append, List.length_take, List.length_drop, List.length_map, List.length_map]; omega
    · rw [cut_to, cut_from, hout]
      unfold rowsD
      rw [List.map_append, List.map_append, List.map_take, List.map_drop]
  have hidx : ∀ a : Int, a ∈ t.marks → ∃ k : Nat, idxR (flat 0 t) a = (k : Int) ∧ k < (flat 0 t).length := fun a ha => by
    obtain ⟨pre, post, w, q, c, L⟩ := loc hok.nd (zero_out hok) ha
    exact ⟨pre.length, L.idx hok, by rw [L.eq, List.length_append, List.length_cons]; omega⟩
  refine sq_asg ev_int s fun σ1 H1 s1 => ?_
  refine sq_if (et_test (ev_neI (ev_var rfl) ev_int)) s1 (fun hb H2 s2 => ?_) fun hb H2 s2 => ?_
  · have hb0 : b ≠ 0 := by simpa using hb
    have hbm : b ∈ t.marks := by
      cases hP with
      | top _ h => exact absurd h hb0
      | first _ h _ => exact absurd h hb0
      | behind _ e _ => rw [← flat_marks t 0, e]; simp
    obtain ⟨k, hk1, hk2⟩ := hidx b hbm
    refine st_asg (ev_call (ea_cons (ev_var rfl) (ea_cons (ev_call (ea_cons (ev_var rfl) (ea_cons (ev_var rfl) ea_nil)) ⟨_, b, rfl, by omega, by rw [hk1]⟩) ea_nil)) ⟨_, k, rfl, hk2, by omega, rfl⟩) s2 fun σ3 H3 s3 => fin _ _ ?_
    have : putAt (flat 0 t) p b = endR (flat 0 t) k := by unfold putAt; rw [if_pos hb0, hk1, Int.toNat_natCast]
    rw [this]; exact s3
  · have hb0 : b = 0 := by simpa using hb
    refine st_if (et_test (ev_neI (ev_var rfl) ev_int)) s2 (fun hc H3 s3 => ?_) fun hc H3 s3 => ?_
    · have hp0 : p ≠ 0 := by simpa using hc
      have hpm : p ∈ t.marks := by
        cases hP with
        | top h _ => exact absurd h hp0
        | first _ _ e => rw [← flat_marks t 0, e]; simp
        | behind h _ _ => exact absurd hb0 h
      obtain ⟨k, hk1, hk2⟩ := hidx p hpm
      refine st_asg (ev_add (ev_call (ea_cons (ev_var rfl) (ea_cons (ev_var rfl) ea_nil)) ⟨_, p, rfl, by omega, by rw [hk1]⟩) ev_int) s3 fun σ4 H4 s4 => fin _ _ ?_
      have : ((putAt (flat 0 t) p b : Nat) : Int) = (k : Int) + 1 := by unfold putAt; rw [if_neg (by simp [hb0]), if_pos hp0, hk1, Int.toNat_natCast]; omega
      rw [this]; exact s4
    · have hp0 : p = 0 := by simpa using hc
      refine fin _ _ ?_
      have : putAt (flat 0 t) p b = 0 := by unfold putAt; rw [if_neg (by simp [hb0]), if_neg (by simp [hp0])]
      rw [this]; exact s3
end
end G
set_option Elab.async false
set_option linter.all false
set_option maxRecDepth 100000
set_option maxHeartbeats 4000000
namespace G
open PySem L2 Fo
section
variable {P : Program} {w : World} {K : PySem.W.Frag} {mg : Str → Option Value} {base : Heap}
theorem idx_ge {t : Fo} (h : Ok t) (hsz : t.size ≤ 1000) (m : Int) : decide ((0 : Int) ≤ idxR (flat 0 t) m) = decide (m ∈ t.marks) ∧ decide (idxR (flat 0 t) m < 0) = !decide (m ∈ t.marks) := by
  by_cases hm : m ∈ t.marks
  · obtain ⟨pre, post, w, q, c, L⟩ := loc h.nd (zero_out h) hm
    rw [L.idx h, decide_eq_true hm]
    exact ⟨decide_eq_true (by omega), decide_eq_false (by omega)⟩
  · rw [idx_out hm, decide_eq_false hm]
    exact ⟨rfl, rfl⟩
theorem dec_congr {p q : Prop} [Decidable p] [Decidable q] (h : p ↔ q) : decide p = decide q := by
  by_cases hp : p
  · rw [decide_eq_true hp, decide_eq_true (h.mp hp)]
  · rw [decide_eq_false hp, decide_eq_false fun z => hp (h.mpr z)]
theorem ints_any (ins : List Int) (n : Int) : ((ins.map PyData.int).any fun z => PyData.eqv z (.int n)) = decide (n ∈ ins) := by
  induction ins with
  | nil => simp
  | cons i ins ih =>
    rw [List.map_cons, List.any_cons, ih, eqv_ints]
    by_cases h : n = i
    · subst h; simp
    · have : ¬ i = n := fun e => h e.symm
      simp [h, this]
theorem ints_shaped (ins : List Int) : SeqAt.shaped (.list (ins.map PyData.int)) = true := by
  have h2 : nb (.list (ins.map PyData.int)) = true := by
    simp only [nb]
    rw [nbAll_iff]
    intro d hd
    obtain ⟨n, _, rfl⟩ := List.mem_map.mp hd
    simp [nb]
  refine shaped_of h2 ?_
  have : PyData.depthAll (ins.map PyData.int) = 0 := PySem.W.depth_ints ins
  simp only [PyData.depth]; omega
theorem rowE_marks (rs : List Row) : (rs.map rowE).map (fun d => match d with | .tuple (x :: _) => x | _ => .none) = (rs.map (·.1)).map PyData.int := by
  rw [List.map_map, List.map_map]; rfl
/-- the place of the deed's last word: the row there, if there is one -/
theorem bad_law {t : Fo} (h : Ok t) (hsz : t.size ≤ 1000) (m p b : Int) {F : Fm} {M : List (Addr × OC)} {δ : List SD} {tp tb tm tr : TE} {ti : TE} (hb : Ev F M δ tb (.int b)) (hm : Ev F M δ tm (.int m)) (hp : Ev F M δ tp (.int p)) (hr : Ev F M δ tr (rowsD (flat 0 t))) (hi : Ev F M δ ti (.int (idxR (flat 0 t) b))) :
    Et F M δ (tAnd (tTest (tOp (rNeD K) tb (tC (.int 0)))) (tOr (tTest (tOp (rI0 fun i j => .bl (decide (i < j))) ti (tC (.int 0)))) (tOr (tTest (tOp (rNeD K) (tOp (rIx K) (tOp (rIx K) tr ti) (tC (.int 2))) tp)) (tTest (tOp (rEqD K) tb tm))))) (badPlace t m p b) := by
  refine et_is (et_and (b := (!decide (b ∈ t.marks) || (!decide (t.par b = p) || decide (b = m)))) (et_test (ev_neI hb ev_int)) fun _ => ?_) ?_
  · by_cases hbm : b ∈ t.marks
    · obtain ⟨pre, post, w, q, c, L⟩ := loc h.nd (zero_out h) hbm
      refine et_is (et_or (a := false) (b := !decide (q = p) || decide (b = m)) (et_is (et_test (ev_lt hi ev_int)) (by rw [(idx_ge h hsz b).2]; simp [hbm])) fun _ => et_or (et_test (ev_neI (ev_ixT (ds := [.int b, .str w, .int q]) (ev_ixL hr (ev_is hi (by rw [L.idx h])) (row_get L.get)) ev_int rfl) hp)) fun _ => et_test (ev_eqI hb hm)) ?_
      rw [L.par h]; simp [hbm]
    · refine et_is (et_or (a := true) (b := true) (et_is (et_test (ev_lt hi ev_int)) (by rw [(idx_ge h hsz b).2]; simp [hbm])) (fun h => nomatch h)) ?_
      simp [hbm]
  · unfold badPlace
    cases decide (b = 0) <;> cases decide (b ∈ t.marks) <;> cases decide (t.par b = p) <;> cases decide (b = m) <;> rfl
theorem sc__law_reason : FnScope ["_law_rows", "_law_deed_here", "_law_at", "_law_parent", "_law_place", "_law_row"] ["_law_rows", "_law_deed_here"] (defScope s__law_reason) := ⟨rfl, rfl, rfl, by decide +kernel, rfl, by decide +kernel, by decide +kernel⟩
theorem c__law_reason (T : Txt K mg) : Cl P w K mg base CX0 2 "_law_reason" ["_law_rows", "_law_deed_here"] (PureSp R_law_reason) := by
  refine pure_ok T.d__law_reason sc__law_reason (fun ds d h => by obtain ⟨t, x, rfl, _⟩ := h; rfl) (fun f cdv A outer s H E hr => ⟨_, (pss_cons (ps_set (i := 2) sc__law_reason.nd rfl (Or.inl rfl) (pe_k (c__law_index T) hr (by decide) rfl pass0 (pa_cons (pv 0) (pa_cons (pe_ix ix_seq (pv 1) pe_int (fun _ _ => rfl)) pa_nil))))
    (pss_cons (ps_if (pt_cmpR (op_eqD hr.units) (pe_cmpR (op_eqD hr.units) (pe_ix ix_seq (pv 1) pe_int (fun _ _ => rfl)) pe_str (nomark _)) (pe_cmpR op_ge (pv 2) pe_int (nomark _)) (nomark _)) (pss_one (ps_ret pe_str)) pss_nil)
    (pss_cons (ps_if (PW.pt (pw_and (pt_cmpR (op_eqD hr.units) (pe_ix ix_seq (pv 1) pe_int (fun _ _ => rfl)) pe_str (nomark _)) (pw_and1 (pt_cmpR op_gt (pe_k (c__law_end T) hr (by decide) rfl pass0 (pa_cons (pv 0) (pa_cons (pv 2) pa_nil))) (pe_op op_add (pv 2) pe_int) (nomark _))))) (pss_one (ps_ret pe_str)) pss_nil)
    (pss_cons (ps_if (PW.pt (pw_or (pt_cmpR (op_eqD hr.units) (pe_ix ix_seq (pv 1) pe_int (fun _ _ => rfl)) pe_str (nomark _)) (pw_or1 (pt_cmpR (op_eqD hr.units) (pe_ix ix_seq (pv 1) pe_int (fun _ _ => rfl)) pe_str (nomark _))))) (pss_one (ps_ret pe_str)) pss_nil)
    (pss_cons (ps_set (i := 3) sc__law_reason.nd rfl (Or.inl rfl) (pe_ix ix_seq (pv 1) (pe_un un_neg pe_int) (fun _ _ => rfl)))
    (pss_cons (ps_if (PW.pt (pw_and (pt_cmpR (op_neD hr.units) (pv 3) pe_int (nomark _)) (pw_and1 (pt_cmpR op_lt (pe_k (c__law_index T) hr (by decide) rfl pass0 (pa_cons (pv 0) (pa_cons (pv 3) pa_nil))) pe_int (nomark _))))) (pss_one (ps_ret pe_str)) pss_nil)
    (pss_cons (ps_if (PW.pt (pw_and (pt_cmpR (op_eqD hr.units) (pe_ix ix_seq (pv 1) pe_int (fun _ _ => rfl)) pe_str (nomark _)) (pw_and1 (pt_cmpR (op_inD (units65 hr)) (pv 3) (pe_lc (own := [("_law_row", 5)]) (g := gName 5) (tt := tYes) rfl sc__law_reason.nd (pi_seq (pe_slice sl_list (pv 0) (po_some (pv 2)) (po_some (pe_k (c__law_end T) hr (by decide) rfl pass0 (pa_cons (pv 0) (pa_cons (pv 2) pa_nil)))))) (blkOk_by (own := [("_law_row", 5)]) (N := ["_law_rows", "_law_deed_here", "_law_at", "_law_parent", "_law_place", "_law_row"]) (sc := (defScope s__law_reason)) (by decide +kernel)) (fun _ _ _ _ _ => (pg_name (i := 5) sc__law_reason.nd rfl (Or.inl rfl))) (fun _ _ _ _ _ => pts_nil) (fun _ _ _ _ _ => (pe_ix (r := rIx K) ix_seq (pv 5) pe_int (fun _ _ => rfl)))) rfl)))) (pss_one (ps_ret pe_str)) pss_nil)
    (pss_cons (ps_set (i := 4) sc__law_reason.nd rfl (Or.inl rfl) (pe_k (c__law_index T) hr (by decide) rfl pass0 (pa_cons (pv 0) (pa_cons (pe_ix ix_seq (pv 1) (pe_un un_neg pe_int) (fun _ _ => rfl)) pa_nil))))
    (pss_cons (ps_if (PW.pt (pw_and (pt_cmpR (op_neD hr.units) (pe_ix ix_seq (pv 1) (pe_un un_neg pe_int) (fun _ _ => rfl)) pe_int (nomark _)) (pw_and1 (PW.pt (pw_or (pt_cmpR op_lt (pv 4) pe_int (nomark _)) (pw_or (pt_cmpR (op_neD hr.units) (pe_ix ix_seq (pe_ix ix_seq (pv 0) (pv 4) (fun _ _ => rfl)) pe_int (fun _ _ => rfl)) (pv 3) (nomark _)) (pw_or1 (pt_cmpR (op_eqD hr.units) (pe_ix ix_seq (pv 1) (pe_un un_neg pe_int) (fun _ _ => rfl)) (pe_ix ix_seq (pv 1) pe_int (fun _ _ => rfl)) (nomark _))))))))) (pss_one (ps_ret pe_str)) pss_nil)
    (pss_one (ps_ret pe_str))))))))))), ?_⟩)
  rintro O ds r σ ⟨t, x, rfl, hok, hsz, rfl⟩ s Q q
  have hlen : (flat 0 t).length ≤ 1000 := by rw [flat_length]; exact hsz
  have hge := idx_ge hok hsz
  have h01 : (0 : Int) = idxR (flat 0 t) 0 + 1 := by rw [idx_out (zero_out hok)]; rfl
  cases x with
  | add m w p b =>
    refine sq_asg (ev_call (ea_cons (ev_var rfl) (ea_cons (ev_ixT (ev_var rfl) ev_int rfl) ea_nil)) ⟨_, m, rfl, hlen, rfl⟩) s fun σ1 H1 s1 => ?_
    refine sq_ifN (et_is (et_test (ev_eqB (ev_is (ev_eqS (ev_ixT (ev_var rfl) ev_int rfl) ev_str) (congrArg PyData.bool (by decide : _ = true))) (ev_is (ev_ge (ev_var rfl) ev_int) (congrArg PyData.bool (hge m).1)))) (kd_eq _)) s1 (fun hb H4 s4 => ?_) fun hb H4 s4 => ?_
    · exact st_retM ev_str s4 (by rw [reason_add, if_pos (of_decide_eq_true hb)] at q; exact q)
    rw [reason_add, if_neg (of_decide_eq_false hb)] at q
    refine sq_noN (et_and (a := false) (b := true) (et_is (et_test (ev_eqS (ev_ixT (ev_var rfl) ev_int rfl) ev_str)) (by decide)) (fun h => nomatch h)) s4 fun H5 s5 => ?_
    refine sq_noN (et_or (a := false) (b := false) (et_is (et_test (ev_eqS (ev_ixT (ev_var rfl) ev_int rfl) ev_str)) (by decide)) (fun _ => et_is (et_test (ev_eqS (ev_ixT (ev_var rfl) ev_int rfl) ev_str)) (by decide))) s5 fun H6 s6 => ?_
    refine sq_asg (d := .int p) (ev_ixT (ev_var rfl) (ev_neg ev_int) rfl) s6 fun σ7 H7 s7 => ?_
    refine sq_ifN (b := decide (p ≠ 0 ∧ p ∉ t.marks)) (et_is (et_and (et_test (ev_neI (ev_var rfl) ev_int)) fun _ => et_is (et_test (ev_lt (ev_call (ea_cons (ev_var rfl) (ea_cons (ev_var rfl) ea_nil)) ⟨_, p, rfl, hlen, rfl⟩) ev_int)) (hge p).2) (by by_cases a : p = 0 <;> by_cases b : p ∈ t.marks <;> simp [a, b])) s7 (fun hb H8 s8 => ?_) fun hb H8 s8 => ?_
    · exact st_retM ev_str s8 (by rw [if_pos (of_decide_eq_true hb)] at q; exact q)
    rw [if_neg (of_decide_eq_false hb)] at q
    refine sq_noN (et_and (a := false) (b := true) (et_is (et_test (ev_eqS (ev_ixT (ev_var rfl) ev_int rfl) ev_str)) (by decide)) (fun h => nomatch h)) s8 fun H9 s9 => ?_
    refine sq_asg (ev_call (ea_cons (ev_var rfl) (ea_cons (ev_ixT (d := .int b) (ev_var rfl) (ev_neg ev_int) rfl) ea_nil)) ⟨_, b, rfl, hlen, rfl⟩) s9 fun σ10 H10 s10 => ?_
    refine sq_ifN (bad_law hok hsz m p b (ev_ixT (ev_var rfl) (ev_neg ev_int) rfl) (ev_ixT (ev_var rfl) ev_int rfl) (ev_var rfl) (ev_var rfl) (ev_var rfl)) s10 (fun hb H11 s11 => ?_) fun hb H11 s11 => ?_
    · exact st_retM ev_str s11 (by rw [if_pos hb] at q; exact q)
    · exact st_retM ev_str s11 (by rw [if_neg (by rw [hb]; exact Bool.false_ne_true)] at q; exact q)
  | drop m =>
    refine sq_asg (ev_call (ea_cons (ev_var rfl) (ea_cons (ev_ixT (ev_var rfl) ev_int rfl) ea_nil)) ⟨_, m, rfl, hlen, rfl⟩) s fun σ1 H1 s1 => ?_
    refine sq_ifN (et_is (et_test (ev_eqB (ev_is (ev_eqS (ev_ixT (ev_var rfl) ev_int rfl) ev_str) (congrArg PyData.bool (by decide : _ = false))) (ev_is (ev_ge (ev_var rfl) ev_int) (congrArg PyData.bool (hge m).1)))) (kd_ne _)) s1 (fun hb H4 s4 => ?_) fun hb H4 s4 => ?_
    · exact st_retM ev_str s4 (by rw [reason_drop, if_pos (by simpa using hb)] at q; exact q)
    have hm : m ∈ t.marks := by simpa using hb
    rw [reason_drop, if_neg (by simpa using hb)] at q
    obtain ⟨pre, post, w, q0, c, L⟩ := loc hok.nd (zero_out hok) hm
    have hm0 : m ≠ 0 := fun e => zero_out hok (e ▸ hm)
    have hrow := L.rowAt hok hm0
    have hc : decide (((pre.length + 1 + c.size : Nat) : Int) > (pre.length : Int) + 1) = decide ((t.rowAt m).enc.length > 0) := dec_congr (by
      rw [hrow]
      cases c with
      | nil => simp [Fo.size, Fo.enc]
      | cons k9 u9 c r =>
        have e1 : (Fo.cons k9 u9 c r).size = 1 + (c.size + r.size) := rfl
        constructor
        · intro _; exact Nat.succ_pos _
        · intro _; rw [e1]; omega)
    rw [L.idx hok] at s4
    refine sq_ifN (b := decide ((t.rowAt m).enc.length > 0)) (et_is (et_and (a := true) (et_is (et_test (ev_eqS (ev_ixT (ev_var rfl) ev_int rfl) ev_str)) (by decide)) fun _ => et_test (ev_gt (ev_call (ea_cons (ev_var rfl) (ea_cons (ev_var rfl) ea_nil)) ⟨_, pre.length, rfl, by have := L.size; rw [flat_length]; omega, hlen, by rw [L.endd]⟩) (ev_add (ev_var rfl) ev_int))) (by rw [Bool.true_and]; exact hc)) s4 (fun hb H5 s5 => ?_) fun hb H5 s5 => ?_
    · exact st_retM ev_str s5 (by rw [if_pos (of_decide_eq_true hb)] at q; exact q)
    · rw [if_neg (of_decide_eq_false hb)] at q
      refine sq_yesN (et_or (a := true) (b := true) (et_is (et_test (ev_eqS (ev_ixT (ev_var rfl) ev_int rfl) ev_str)) (by decide)) (fun h => nomatch h)) s5 fun H6 s6 => ?_
      exact st_retM ev_str s6 q
  | move m p b =>
    refine sq_asg (ev_call (ea_cons (ev_var rfl) (ea_cons (ev_ixT (ev_var rfl) ev_int rfl) ea_nil)) ⟨_, m, rfl, hlen, rfl⟩) s fun σ1 H1 s1 => ?_
    refine sq_ifN (et_is (et_test (ev_eqB (ev_is (ev_eqS (ev_ixT (ev_var rfl) ev_int rfl) ev_str) (congrArg PyData.bool (by decide : _ = false))) (ev_is (ev_ge (ev_var rfl) ev_int) (congrArg PyData.bool (hge m).1)))) (kd_ne _)) s1 (fun hb H4 s4 => ?_) fun hb H4 s4 => ?_
    · exact st_retM ev_str s4 (by rw [reason_move, if_pos (by simpa using hb)] at q; exact q)
    have hm : m ∈ t.marks := by simpa using hb
    rw [reason_move, if_neg (by simpa using hb)] at q
    obtain ⟨pre, post, w, q0, c, L⟩ := loc hok.nd (zero_out hok) hm
    have hm0 : m ≠ 0 := fun e => zero_out hok (e ▸ hm)
    have hrow := L.rowAt hok hm0
    rw [L.idx hok] at s4
    refine sq_noN (et_and (a := false) (b := true) (et_is (et_test (ev_eqS (ev_ixT (ev_var rfl) ev_int rfl) ev_str)) (by decide)) (fun h => nomatch h)) s4 fun H5 s5 => ?_
    refine sq_noN (et_or (a := false) (b := false) (et_is (et_test (ev_eqS (ev_ixT (ev_var rfl) ev_int rfl) ev_str)) (by decide)) (fun _ => et_is (et_test (ev_eqS (ev_ixT (ev_var rfl) ev_int rfl) ev_str)) (by decide))) s5 fun H6 s6 => ?_
    refine sq_asg (d := .int p) (ev_ixT (ev_var rfl) (ev_neg ev_int) rfl) s6 fun σ7 H7 s7 => ?_
    refine sq_ifN (b := decide (p ≠ 0 ∧ p ∉ t.marks)) (et_is (et_and (et_test (ev_neI (ev_var rfl) ev_int)) fun _ => et_is (et_test (ev_lt (ev_call (ea_cons (ev_var rfl) (ea_cons (ev_var rfl) ea_nil)) ⟨_, p, rfl, hlen, rfl⟩) ev_int)) (hge p).2) (by by_cases a : p = 0 <;> by_cases b : p ∈ t.marks <;> simp [a, b])) s7 (fun hb H8 s8 => ?_) fun hb H8 s8 => ?_
    · exact st_retM ev_str s8 (by rw [if_pos (of_decide_eq_true hb)] at q; exact q)
    rw [if_neg (of_decide_eq_false hb)] at q
    have hcut : cut ((flat 0 t).map rowE) (some (pre.length : Int)) (some ((pre.length + 1 + c.size : Nat) : Int)) = ((m, w, q0) :: flat m c).map rowE := by
      rw [cut_both, ← List.map_drop, ← List.map_take]
      congr 1
      rw [L.eq, List.drop_left, show pre.length + 1 + c.size - pre.length = c.size + 1 by omega, List.take_succ_cons]
      congr 1
      rw [← flat_length c m, List.take_left]
    have hins : t.insd p m = decide (p ∈ m :: c.marks) := by
      unfold Fo.insd
      rw [hrow]
      by_cases a : p = m <;> by_cases b : p ∈ c.marks <;> simp [a, b]
    refine sq_ifN (b := t.insd p m) (et_is (et_and (a := true) (et_is (et_test (ev_eqS (ev_ixT (ev_var rfl) ev_int rfl) ev_str)) (by decide)) fun _ => et_test (ev_in (K := K) (ds := (m :: c.marks).map PyData.int) (ev_var rfl) (ev_is (ev_lc (f := fun d => match d with | .tuple (x :: _) => x | _ => .none) (ei_seq (ev_slL (ev_var rfl) (eo_some (ev_var rfl)) (eo_some (ev_call (ea_cons (ev_var rfl) (ea_cons (ev_var rfl) ea_nil)) ⟨_, pre.length, rfl, by have := L.size; rw [flat_length]; omega, hlen, by rw [L.endd]⟩))) (.inl rfl)) (fun F' M' d hd => ?_) ?_) ?_) sh_int (ints_shaped _))) ?_) s8 (fun hb H9 s9 => ?_) fun hb H9 s9 => ?_
    · rw [hcut] at hd
      obtain ⟨rr, _, rfl⟩ := List.mem_map.mp hd
      exact ev_ixT (ev_var rfl) ev_int rfl
    · rw [hcut, List.length_map, List.length_cons, flat_length]
      have := L.size; omega
    · rw [hcut, rowE_marks, List.map_cons, flat_marks]
    · rw [Bool.true_and, ints_any, hins]
    · exact st_retM ev_str s9 (by rw [if_pos hb] at q; exact q)
    rw [if_neg (by rw [hb]; exact Bool.false_ne_true)] at q
    refine sq_asg (ev_call (ea_cons (ev_var rfl) (ea_cons (ev_ixT (d := .int b) (ev_var rfl) (ev_neg ev_int) rfl) ea_nil)) ⟨_, b, rfl, hlen, rfl⟩) s9 fun σ10 H10 s10 => ?_
    refine sq_ifN (bad_law hok hsz m p b (ev_ixT (ev_var rfl) (ev_neg ev_int) rfl) (ev_ixT (ev_var rfl) ev_int rfl) (ev_var rfl) (ev_var rfl) (ev_var rfl)) s10 (fun hb H11 s11 => ?_) fun hb H11 s11 => ?_
    · exact st_retM ev_str s11 (by rw [if_pos hb] at q; exact q)
    · exact st_retM ev_str s11 (by rw [if_neg (by rw [hb]; exact Bool.false_ne_true)] at q; exact q)
  | word m x =>
    refine sq_asg (ev_call (ea_cons (ev_var rfl) (ea_cons (ev_ixT (ev_var rfl) ev_int rfl) ea_nil)) ⟨_, m, rfl, hlen, rfl⟩) s fun σ1 H1 s1 => ?_
    refine sq_ifN (et_is (et_test (ev_eqB (ev_is (ev_eqS (ev_ixT (ev_var rfl) ev_int rfl) ev_str) (congrArg PyData.bool (by decide : _ = false))) (ev_is (ev_ge (ev_var rfl) ev_int) (congrArg PyData.bool (hge m).1)))) (kd_ne _)) s1 (fun hb H4 s4 => ?_) fun hb H4 s4 => ?_
    · exact st_retM ev_str s4 (by rw [reason_word, if_pos (by simpa using hb)] at q; exact q)
    rw [reason_word, if_neg (by simpa using hb)] at q
    refine sq_noN (et_and (a := false) (b := true) (et_is (et_test (ev_eqS (ev_ixT (ev_var rfl) ev_int rfl) ev_str)) (by decide)) (fun h => nomatch h)) s4 fun H5 s5 => ?_
    refine sq_yesN (et_or (a := false) (b := true) (et_is (et_test (ev_eqS (ev_ixT (ev_var rfl) ev_int rfl) ev_str)) (by decide)) (fun _ => et_is (et_test (ev_eqS (ev_ixT (ev_var rfl) ev_int rfl) ev_str)) (by decide))) s5 fun H6 s6 => ?_
    exact st_retM ev_str s6 q
end
end G
set_option Elab.async false
set_option linter.all false
set_option maxRecDepth 100000
set_option maxHeartbeats 4000000
/-! Rows determine a plot; the tops of a row; the reasons' texts. -/
namespace G
open PySem L2 Fo
theorem flat_head {r : Fo} {p : Int} : (flat p r).takeWhile (fun x => decide (x.2.2 ≠ p)) = [] := by
  cases r with
  | nil => rfl
  | cons m w c r =>
    show ((m, w, p) :: (flat m c ++ flat p r)).takeWhile _ = []
    rw [List.takeWhile_cons_of_neg (by simp)]
theorem flat_split {c r : Fo} {m p : Int} (h1 : p ≠ m) (h2 : p ∉ c.marks) : (flat m c ++ flat p r).takeWhile (fun x => decide (x.2.2 ≠ p)) = flat m c := by
  have : ∀ x ∈ flat m c, decide (x.2.2 ≠ p) = true := fun x hx => by
    rcases flat_par hx with e | e
    · rw [e]; exact decide_eq_true (Ne.symm h1)
    · exact decide_eq_true fun z => h2 (z ▸ e)
  rw [List.takeWhile_append_of_pos this, flat_head, List.append_nil]
theorem flat_inj : ∀ {a b : Fo} {p : Int}, a.marks.Nodup → b.marks.Nodup → p ∉ a.marks → p ∉ b.marks → flat p a = flat p b → a = b
  | .nil, .nil, _, _, _, _, _, _ => rfl
  | .nil, .cons _ _ _ _, _, _, _, _, _, h => by cases h
  | .cons _ _ _ _, .nil, _, _, _, _, _, h => by cases h
  | .cons m w c r, .cons m' w' c' r', p, na, nb, pa, pb, h => by
    have h' : (m, w, p) :: (flat m c ++ flat p r) = (m', w', p) :: (flat m' c' ++ flat p r') := h
    injection h' with e1 e2
    have em : m = m' := congrArg (·.1) e1
    have ew : w = w' := congrArg (·.2.1) e1
    subst em ew
    obtain ⟨n1, n2, n3, n4, n5⟩ := nd_cons na
    obtain ⟨k1, k2, k3, k4, k5⟩ := nd_cons nb
    have pa' : p ∉ m :: (c.marks ++ r.marks) := pa
    have pb' : p ∉ m :: (c'.marks ++ r'.marks) := pb
    have p1 : p ≠ m := fun e => pa' (by rw [e]; exact List.mem_cons_self)
    have p2 : p ∉ c.marks := fun q => pa' (List.mem_cons_of_mem _ (List.mem_append_left _ q))
    have p3 : p ∉ r.marks := fun q => pa' (List.mem_cons_of_mem _ (List.mem_append_right _ q))
    have p4 : p ∉ c'.marks := fun q => pb' (List.mem_cons_of_mem _ (List.mem_append_left _ q))
    have p5 : p ∉ r'.marks := fun q => pb' (List.mem_cons_of_mem _ (List.mem_append_right _ q))
    have ec : flat m c = flat m c' := by rw [← flat_split (r := r) p1 p2, e2, flat_split p1 p4]
    have er : flat p r = flat p r' := by
      rw [ec] at e2
      exact List.append_cancel_left e2
    rw [flat_inj n3 k3 n1 k1 ec, flat_inj n4 k4 p3 p5 er]
theorem rows_eq {a b : Fo} (ha : a.Ok) (hb : b.Ok) : rowsD (flat 0 a) = rowsD (flat 0 b) ↔ a = b := by
  constructor
  · intro h
    refine flat_inj ha.nd hb.nd (zero_out ha) (zero_out hb) ?_
    unfold rowsD at h
    injection h with h
    refine map_inj (f := rowE) (fun {x y} e => ?_) h
    unfold rowE at e
    obtain ⟨x1, x2, x3⟩ := x
    obtain ⟨y1, y2, y3⟩ := y
    simp only [PyData.tuple.injEq, List.cons.injEq, PyData.int.injEq, PyData.str.injEq, and_true] at e
    rw [e.1, e.2.1, e.2.2]
  · intro h; rw [h]
/-! tops -/
theorem topR_tops : ∀ (c : Fo) (p b : Int), topR p c = (c.tops p b).map fun s => (s.m, s.w, s.p)
  | .nil, _, _ => rfl
  | .cons m w c r, p, b => by
    show (m, w, p) :: topR p r = (m, w, p) :: (r.tops p m).map _
    rw [topR_tops r p m]
theorem enc_tops : ∀ (c : Fo) (p b : Int), c.enc = (c.tops p b).map fun s => spotD s.m s.w s.c.enc
  | .nil, _, _ => rfl
  | .cons m w c r, p, b => by
    show spotD m w c.enc :: r.enc = spotD m w c.enc :: (r.tops p m).map _
    rw [enc_tops r p m]
theorem tops_sp : ∀ {c : Fo} {p b : Int} {s : Fo.Sp}, s ∈ c.tops p b → s ∈ c.sp p b
  | .nil, _, _, _, h => h
  | .cons m w c r, p, b, s, h => by
    rcases List.mem_cons.mp h with rfl | h
    · exact List.mem_cons_self
    · exact List.mem_cons_of_mem _ (List.mem_append_right _ (tops_sp h))
theorem tops_dep : ∀ {c : Fo} {p b : Int} {s : Fo.Sp}, s ∈ c.tops p b → s.c.dep + 1 ≤ c.dep
  | .nil, _, _, _, h => absurd h List.not_mem_nil
  | .cons m w c r, p, b, s, h => by
    show _ ≤ max (c.dep + 1) r.dep
    rcases List.mem_cons.mp h with rfl | h
    · show c.dep + 1 ≤ _; omega
    · have := tops_dep h; omega
theorem sp_trans : ∀ {t : Fo} {p b : Int} {x s : Fo.Sp}, x ∈ t.sp p b → s ∈ x.c.sp x.m 0 → s ∈ t.sp p b
  | .nil, _, _, _, _, h, _ => absurd h List.not_mem_nil
  | .cons m w c r, p, b, x, s, h, hs => by
    rcases List.mem_cons.mp h with rfl | h
    · exact List.mem_cons_of_mem _ (List.mem_append_left _ hs)
    · rcases List.mem_append.mp h with h | h
      · exact List.mem_cons_of_mem _ (List.mem_append_left _ (sp_trans h hs))
      · exact List.mem_cons_of_mem _ (List.mem_append_right _ (sp_trans h hs))
/-- the spots of the row at q are the plot's, and their rows are their children -/
theorem row_tops {t : Fo} (h : t.Ok) {q : Int} (hq : q = 0 ∨ q ∈ t.marks) {s : Fo.Sp} (hs : s ∈ (t.rowAt q).tops q 0) : s.m ∈ t.marks ∧ t.rowAt s.m = s.c := by
  have hsp : s ∈ t.sp 0 0 := by
    by_cases h0 : q = 0
    · subst h0
      have : t.rowAt 0 = t := by unfold Fo.rowAt; rw [if_pos rfl]
      rw [this] at hs
      exact tops_sp hs
    · obtain ⟨x, hx, hxm, e⟩ := at_some (hq.resolve_left h0)
      rw [rowAt_of hx h0] at hs
      subst e
      exact sp_trans hxm (tops_sp hs)
  have hm := sp_mem hsp
  have h0 : s.m ≠ 0 := fun e => zero_out h (e ▸ hm)
  exact ⟨hm, rowAt_of (at_of h.nd hsp) h0⟩
theorem rows_filter {t : Fo} (h : t.Ok) {q : Int} (hq : q = 0 ∨ q ∈ t.marks) : (flat 0 t).filter (fun r => decide (r.2.2 = q)) = topR q (t.rowAt q) := by
  by_cases h0 : q = 0
  · subst h0
    have : t.rowAt 0 = t := by unfold Fo.rowAt; rw [if_pos rfl]
    rw [this]
    exact filter_top h.nd (zero_out h)
  · obtain ⟨pre, post, w, p, c, L⟩ := loc h.nd (zero_out h) (hq.resolve_left h0)
    rw [L.rowAt h h0]
    exact filter_loc h L
/-! the reasons' texts -/
theorem reason_text {t : Fo} {x : Deed} {why : Str} (h : reasonAt t x = some why) : PyData.strOk why = true ∧ why ≠ "" := by
  have key : why = "mark" ∨ why = "parent" ∨ why = "inside" ∨ why = "behind" ∨ why = "children" := by
    cases x with
    | add m w p b =>
      rw [reason_add] at h
      split at h
      · cases h; exact .inl rfl
      · split at h
        · cases h; exact .inr (.inl rfl)
        · split at h
          · cases h; exact .inr (.inr (.inr (.inl rfl)))
          · cases h
    | drop m =>
      rw [reason_drop] at h
      split at h
      · cases h; exact .inl rfl
      · split at h
        · cases h; exact .inr (.inr (.inr (.inr rfl)))
        · cases h
    | move m p b =>
      rw [reason_move] at h
      split at h
      · cases h; exact .inl rfl
      · split at h
        · cases h; exact .inr (.inl rfl)
        · split at h
          · cases h; exact .inr (.inr (.inl rfl))
          · split at h
            · cases h; exact .inr (.inr (.inr (.inl rfl)))
            · cases h
    | word m w =>
      rw [reason_word] at h
      split at h
      · cases h; exact .inl rfl
      · cases h
  rcases key with rfl | rfl | rfl | rfl | rfl <;> exact ⟨by decide +kernel, by decide⟩
theorem reasonS_ok (t : Fo) (x : Deed) : PyData.strOk (reasonS (reasonAt t x)) = true ∧ decide (reasonS (reasonAt t x) = "") = (reasonAt t x).isNone := by
  cases h : reasonAt t x with
  | none => exact ⟨by decide +kernel, by decide⟩
  | some why => exact ⟨(reason_text h).1, decide_eq_false (reason_text h).2⟩
end G
set_option Elab.async false
set_option linter.all false
set_option maxRecDepth 100000
set_option maxHeartbeats 4000000
namespace G
open PySem L2 Fo
def R_law_run (ds : List PyData) (r : PyData) : Prop := ∃ (t : Fo) (d : PyData) (ys : List Deed), ds = [rowsD (flat 0 t), d] ∧ seqOf d (ys.map Deed.enc) ∧ (∀ y ∈ ys, y.good = true) ∧ Ok t ∧ Fits t ys.length ∧ r = rowsO (reachD t ys)
def R_law_free (ds : List PyData) (r : PyData) : Prop := ∃ (t : Fo) (x y : Deed), ds = [rowsD (flat 0 t), x.enc, y.enc] ∧ x.good = true ∧ y.good = true ∧ Ok t ∧ Fits t 2 ∧ r = .bool (metD t x y).isSome
def R_law_plot (n : Nat) (ds : List PyData) (r : PyData) : Prop := ∃ (t : Fo) (q : Int), ds = [rowsD (flat 0 t), .int q] ∧ Ok t ∧ t.size ≤ 1000 ∧ (q = 0 ∨ q ∈ t.marks) ∧ (t.rowAt q).dep < n ∧ r = .tuple (t.rowAt q).enc
theorem drop_past {α : Type} (pre rest : List α) (x : α) : (pre ++ x :: rest).drop (pre.length + 1) = rest := by
  rw [show pre ++ x :: rest = (pre ++ [x]) ++ rest by simp, show pre.length + 1 = (pre ++ [x]).length by simp, List.drop_left]
mutual
def lvl : PyData → Nat
  | .tuple xs => lvlAll xs + 1
  | .list xs => lvlAll xs + 2
  | _ => 1
def lvlAll : List PyData → Nat
  | [] => 0
  | x :: xs => max (lvl x) (lvlAll xs)
end
mutual
/-- data whose lists are short -/
def shortD : PyData → Bool
  | .tuple xs => decide (xs.length ≤ 1000) && shortAll xs
  | .list xs => decide (xs.length ≤ 1000) && shortAll xs
  | .str x => PyData.strOk x
  | .dict _ => false
  | _ => true
def shortAll : List PyData → Bool
  | [] => true
  | x :: xs => shortD x && shortAll xs
end
theorem lvl_mem : ∀ {xs : List PyData} {x : PyData}, x ∈ xs → lvl x ≤ lvlAll xs
  | y :: xs, x, h => by
    simp only [lvlAll]
    rcases List.mem_cons.mp h with rfl | h
    · exact Nat.le_max_left _ _
    · exact Nat.le_trans (lvl_mem h) (Nat.le_max_right _ _)
theorem short_mem : ∀ {xs : List PyData} {x : PyData}, shortAll xs = true → x ∈ xs → shortD x = true
  | y :: xs, x, hs, h => by
    simp only [shortAll, Bool.and_eq_true] at hs
    rcases List.mem_cons.mp h with rfl | h
    · exact hs.1
    · exact short_mem hs.2 h
def R_law_same (n : Nat) (ds : List PyData) (r : PyData) : Prop := ∃ d, ds = [d, d] ∧ lvl d ≤ n ∧ shortD d = true ∧ r = .bool true
section
variable {P : Program} {w : World} {K : PySem.W.Frag} {mg : Str → Option Value} {base : Heap}
theorem sc__law_done : FnScope ["_law_rows", "_law_deed_here", "_law_at", "_law_end_here", "_law_block"] ["_law_rows", "_law_deed_here"] (defScope s__law_done) := ⟨rfl, rfl, rfl, by decide +kernel, rfl, by decide +kernel, by decide +kernel⟩
theorem c__law_done (T : Txt K mg) : Cl P w K mg base CX0 3 "_law_done" ["_law_rows", "_law_deed_here"] (PureSp R_law_done) := by
  refine pure_ok T.d__law_done sc__law_done (fun ds d h => by obtain ⟨t, x, rfl, _⟩ := h; rfl) (fun f cdv A outer s H E hr => ⟨_, (pss_cons (ps_if (pt_cmpR (op_eqD hr.units) (pe_ix ix_seq (pv 1) pe_int (fun _ _ => rfl)) pe_str (nomark _)) (pss_one (ps_ret (pe_k (c__law_put T) hr (by decide) rfl pass0 (pa_cons (pv 0) (pa_cons (pe_lst (pa_cons (pe_tup (pa_cons (pe_ix ix_seq (pv 1) pe_int (fun _ _ => rfl)) (pa_cons (pe_ix ix_seq (pv 1) pe_int (fun _ _ => rfl)) (pa_cons (pe_ix ix_seq (pv 1) pe_int (fun _ _ => rfl)) pa_nil)))) pa_nil)) (pa_cons (pe_ix ix_seq (pv 1) pe_int (fun _ _ => rfl)) (pa_cons (pe_ix ix_seq (pv 1) pe_int (fun _ _ => rfl)) pa_nil))))))) pss_nil)
    (pss_cons (ps_set (i := 2) sc__law_done.nd rfl (Or.inl rfl) (pe_k (c__law_index T) hr (by decide) rfl pass0 (pa_cons (pv 0) (pa_cons (pe_ix ix_seq (pv 1) pe_int (fun _ _ => rfl)) pa_nil))))
    (pss_cons (ps_set (i := 3) sc__law_done.nd rfl (Or.inl rfl) (pe_k (c__law_end T) hr (by decide) rfl pass0 (pa_cons (pv 0) (pa_cons (pv 2) pa_nil))))
    (pss_cons (ps_if (pt_cmpR (op_eqD hr.units) (pe_ix ix_seq (pv 1) pe_int (fun _ _ => rfl)) pe_str (nomark _)) (pss_one (ps_ret (pe_op op_cat (pe_slice sl_list (pv 0) po_none (po_some (pv 2))) (pe_slice sl_list (pv 0) (po_some (pv 3)) po_none)))) pss_nil)
    (pss_cons (ps_if (pt_cmpR (op_eqD hr.units) (pe_ix ix_seq (pv 1) pe_int (fun _ _ => rfl)) pe_str (nomark _)) (pss_one (ps_ret (pe_op op_cat (pe_op op_cat (pe_slice sl_list (pv 0) po_none (po_some (pv 2))) (pe_lst (pa_cons (pe_tup (pa_cons (pe_ix ix_seq (pv 1) pe_int (fun _ _ => rfl)) (pa_cons (pe_ix ix_seq (pv 1) pe_int (fun _ _ => rfl)) (pa_cons (pe_ix ix_seq (pe_ix ix_seq (pv 0) (pv 2) (fun _ _ => rfl)) pe_int (fun _ _ => rfl)) pa_nil)))) pa_nil))) (pe_slice sl_list (pv 0) (po_some (pe_op op_add (pv 2) pe_int)) po_none)))) pss_nil)
    (pss_cons (ps_set (i := 4) sc__law_done.nd rfl (Or.inl rfl) (pe_op op_cat (pe_lst (pa_cons (pe_tup (pa_cons (pe_ix ix_seq (pv 1) pe_int (fun _ _ => rfl)) (pa_cons (pe_ix ix_seq (pe_ix ix_seq (pv 0) (pv 2) (fun _ _ => rfl)) pe_int (fun _ _ => rfl)) (pa_cons (pe_ix ix_seq (pv 1) pe_int (fun _ _ => rfl)) pa_nil)))) pa_nil)) (pe_slice sl_list (pv 0) (po_some (pe_op op_add (pv 2) pe_int)) (po_some (pv 3)))))
    (pss_one (ps_ret (pe_k (c__law_put T) hr (by decide) rfl pass0 (pa_cons (pe_op op_cat (pe_slice sl_list (pv 0) po_none (po_some (pv 2))) (pe_slice sl_list (pv 0) (po_some (pv 3)) po_none)) (pa_cons (pv 4) (pa_cons (pe_ix ix_seq (pv 1) pe_int (fun _ _ => rfl)) (pa_cons (pe_ix ix_seq (pv 1) pe_int (fun _ _ => rfl)) pa_nil))))))))))))), ?_⟩)
  rintro O ds r σ ⟨t, x, rfl, hok, hsz, hre, rfl⟩ s Q q
  have hlen : (flat 0 t).length = t.size := flat_length t 0
  cases x with
  | add m w p b =>
    obtain ⟨hm, hp, hb⟩ := add_place hok hre
    have hP := put_flat hok (m := m) (w := w) (c := .nil) hp (hb.imp id fun z => z.2)
    refine sq_yesN (et_is (et_test (ev_eqS (ev_ixT (ev_var rfl) ev_int rfl) ev_str)) (by decide)) s fun H1 s1 => ?_
    exact st_retM (ev_call (ea_cons (ev_var rfl) (ea_cons (ev_is (ev_lst (ea_cons (ev_tup (ea_cons (ev_ixT (ev_var rfl) ev_int rfl) (ea_cons (ev_ixT (ev_var rfl) ev_int rfl) (ea_cons (ev_ixT (ev_var rfl) ev_int rfl) ea_nil)))) ea_nil)) rfl) (ea_cons (ev_ixT (ev_var rfl) ev_int rfl) (ea_cons (ev_ixT (ev_var rfl) ev_int rfl) ea_nil)))) ⟨t, [(m, w, p)], _, p, b, rfl, hok, by omega, Nat.le_of_ble_eq_true rfl, hP, rfl⟩) s1 q
  | drop m =>
    obtain ⟨hm, hrow⟩ := drop_place hok hre
    obtain ⟨pre, post, w, q0, c, L⟩ := loc hok.nd (zero_out hok) hm
    have hm0 : m ≠ 0 := fun e => zero_out hok (e ▸ hm)
    have hc : c = .nil := by rw [← L.rowAt hok hm0]; exact hrow
    subst hc
    have hz := L.size
    refine sq_noN (et_is (et_test (ev_eqS (ev_ixT (ev_var rfl) ev_int rfl) ev_str)) (by decide)) s fun H1 s1 => ?_
    refine sq_asg (ev_call (ea_cons (ev_var rfl) (ea_cons (ev_ixT (ev_var rfl) ev_int rfl) ea_nil)) ⟨_, m, rfl, by omega, by rw [L.idx hok]⟩) s1 fun σ2 H2 s2 => ?_
    refine sq_asg (ev_call (ea_cons (ev_var rfl) (ea_cons (ev_var rfl) ea_nil)) ⟨_, pre.length, rfl, by omega, by omega, by rw [L.endd]⟩) s2 fun σ3 H3 s3 => ?_
    refine sq_yesN (et_is (et_test (ev_eqS (ev_ixT (ev_var rfl) ev_int rfl) ev_str)) (by decide)) s3 fun H4 s4 => ?_
    refine st_retM (ev_is (ev_catL (ev_slL (ev_var rfl) eo_none (eo_some (ev_var rfl))) (ev_slL (ev_var rfl) (eo_some (ev_var rfl)) eo_none) ?_) ?_) s4 q
    · rw [cut_to, cut_from, List.length_take, List.length_drop, List.length_map]; omega
    · rw [cut_to, cut_from]
      show _ = rowsD (flat 0 (takenOut m t))
      rw [L.tk, L.eq]
      unfold rowsD
      rw [← List.map_take, ← List.map_drop, ← List.map_append, List.take_left, show pre.length + 1 + (Fo.nil).size = pre.length + 1 from rfl, drop_past]
      simp [flat]
  | move m p b =>
    obtain ⟨hm, hp, hi, hb⟩ := move_place hok hre
    obtain ⟨pre, post, w, q0, c, L⟩ := loc hok.nd (zero_out hok) hm
    obtain ⟨b0, hat⟩ := L.at hok.nd
    obtain ⟨hp', hb'⟩ := move_rest hok L hm hp hi hb
    have ho := takenOut_ok hok m
    have hP := put_flat ho (m := m) (w := w) (c := c) hp' hb'
    have hbe : behindT t (.move m p b) = (t.takenOut m).putIn m w c p b := by rw [behind_move, hat]
    rw [hbe] at q
    have hz := L.size
    have hz2 : (takenOut m t).size ≤ t.size := (takenOut_fit m t).2
    refine sq_noN (et_is (et_test (ev_eqS (ev_ixT (ev_var rfl) ev_int rfl) ev_str)) (by decide)) s fun H1 s1 => ?_
    refine sq_asg (ev_call (ea_cons (ev_var rfl) (ea_cons (ev_ixT (ev_var rfl) ev_int rfl) ea_nil)) ⟨_, m, rfl, by omega, by rw [L.idx hok]⟩) s1 fun σ2 H2 s2 => ?_
    refine sq_asg (ev_call (ea_cons (ev_var rfl) (ea_cons (ev_var rfl) ea_nil)) ⟨_, pre.length, rfl, by omega, by omega, by rw [L.endd]⟩) s2 fun σ3 H3 s3 => ?_
    refine sq_noN (et_is (et_test (ev_eqS (ev_ixT (ev_var rfl) ev_int rfl) ev_str)) (by decide)) s3 fun H4 s4 => ?_
    refine sq_noN (et_is (et_test (ev_eqS (ev_ixT (ev_var rfl) ev_int rfl) ev_str)) (by decide)) s4 fun H5 s5 => ?_
    have hcut : cut ((flat 0 t).map rowE) (some ((pre.length : Int) + 1)) (some ((pre.length + 1 + c.size : Nat) : Int)) = (flat m c).map rowE := by
      rw [show ((pre.length : Int) + 1) = ((pre.length + 1 : Nat) : Int) by omega, cut_both, ← List.map_drop, ← List.map_take]
      congr 1
      rw [L.eq, drop_past, show pre.length + 1 + c.size - (pre.length + 1) = c.size by omega, ← flat_length c m, List.take_left]
    refine sq_asg (d := rowsD ((m, w, p) :: flat m c)) (ev_is (ev_catL (ev_lst (ea_cons (ev_tup (ea_cons (ev_ixT (ev_var rfl) ev_int rfl) (ea_cons (ev_ixT (ds := [.int m, .str w, .int q0]) (ev_ixL (ev_var rfl) (ev_var rfl) (row_get L.get)) ev_int rfl) (ea_cons (ev_ixT (d := .int p) (ev_var rfl) ev_int rfl) ea_nil)))) ea_nil)) (ev_slL (ev_var rfl) (eo_some (ev_add (ev_var rfl) ev_int)) (eo_some (ev_var rfl))) ?_) ?_) s5 fun σ6 H6 s6 => ?_
    · rw [hcut, List.length_map, flat_length]; simp only [List.length_cons, List.length_nil]; omega
    · rw [hcut]; rfl
    refine st_retM (ev_call (ea_cons (ev_is (d := .list _) (ev_catL (ev_slL (ev_var rfl) eo_none (eo_some (ev_var rfl))) (ev_slL (ev_var rfl) (eo_some (ev_var rfl)) eo_none) ?_) (e := rowsD (flat 0 (takenOut m t))) ?_) (ea_cons (ev_var rfl) (ea_cons (ev_ixT (d := .int p) (ev_var rfl) ev_int rfl) (ea_cons (ev_ixT (d := .int b) (ev_var rfl) ev_int rfl) ea_nil)))) ⟨takenOut m t, (m, w, p) :: flat m c, _, p, b, rfl, ho, by omega, by rw [List.length_cons, flat_length]; omega, hP, rfl⟩) s6 q
    · rw [cut_to, cut_from, List.length_take, List.length_drop, List.length_map]; omega
    · rw [cut_to, cut_from, L.tk]
      unfold rowsD
      rw [← List.map_take, ← List.map_drop, ← List.map_append, L.eq, List.take_left]
      have e2 : pre ++ (m, w, q0) :: (flat m c ++ post) = (pre ++ (m, w, q0) :: flat m c) ++ post := by simp
      have hl : (pre ++ (m, w, q0) :: flat m c).length = pre.length + 1 + c.size := by rw [List.length_append, List.length_cons, flat_length]; omega
      rw [e2, ← hl, List.drop_left]
  | word m x =>
    have hm := word_place hre
    obtain ⟨pre, post, w, q0, c, L⟩ := loc hok.nd (zero_out hok) hm
    have hz := L.size
    refine sq_noN (et_is (et_test (ev_eqS (ev_ixT (ev_var rfl) ev_int rfl) ev_str)) (by decide)) s fun H1 s1 => ?_
    refine sq_asg (ev_call (ea_cons (ev_var rfl) (ea_cons (ev_ixT (ev_var rfl) ev_int rfl) ea_nil)) ⟨_, m, rfl, by omega, by rw [L.idx hok]⟩) s1 fun σ2 H2 s2 => ?_
    refine sq_asg (ev_call (ea_cons (ev_var rfl) (ea_cons (ev_var rfl) ea_nil)) ⟨_, pre.length, rfl, by omega, by omega, by rw [L.endd]⟩) s2 fun σ3 H3 s3 => ?_
    refine sq_noN (et_is (et_test (ev_eqS (ev_ixT (ev_var rfl) ev_int rfl) ev_str)) (by decide)) s3 fun H4 s4 => ?_
    refine sq_yesN (et_is (et_test (ev_eqS (ev_ixT (ev_var rfl) ev_int rfl) ev_str)) (by decide)) s4 fun H5 s5 => ?_
    refine st_retM (ev_is (ev_catL (ev_catL (ev_slL (ev_var rfl) eo_none (eo_some (ev_var rfl))) (ev_lst (ea_cons (ev_tup (ea_cons (ev_ixT (d := .int m) (ev_var rfl) ev_int rfl) (ea_cons (ev_ixT (d := .str x) (ev_var rfl) ev_int rfl) (ea_cons (ev_ixT (ds := [.int m, .str w, .int q0]) (ev_ixL (ev_var rfl) (ev_var rfl) (row_get L.get)) ev_int rfl) ea_nil)))) ea_nil)) ?_) (ev_slL (ev_var rfl) (eo_some (ev_add (ev_var rfl) ev_int)) eo_none) ?_) ?_) s5 q
    · rw [cut_to, List.length_take, List.length_map]; simp only [List.length_cons, List.length_nil]; omega
    · rw [cut_to, show ((pre.length : Int) + 1) = ((pre.length + 1 : Nat) : Int) by omega, cut_from, List.length_append, List.length_take, List.length_drop, List.length_map]; simp only [List.length_cons, List.length_nil]; omega
    · rw [cut_to, show ((pre.length : Int) + 1) = ((pre.length + 1 : Nat) : Int) by omega, cut_from]
      show _ = rowsD (flat 0 (worded m x t))
      rw [L.wd]
      unfold rowsD
      rw [← List.map_take, ← List.map_drop, L.eq, List.take_left, drop_past]
      simp [rowE]
theorem sc__law_run : FnScope ["_law_rows", "_law_deeds", "_law_deed_here"] ["_law_rows", "_law_deeds"] (defScope s__law_run) := ⟨rfl, rfl, rfl, by decide +kernel, rfl, by decide +kernel, by decide +kernel⟩
theorem c__law_run (T : Txt K mg) : Cl P w K mg base CX0 4 "_law_run" ["_law_rows", "_law_deeds"] (PureSp R_law_run) := by
  refine pure_ok T.d__law_run sc__law_run (fun ds d h => by obtain ⟨t, d, ys, rfl, _⟩ := h; rfl) (fun f cdv A outer s H E hr => ⟨_, (pss_cons (ps_for PassesOwn.never rfl (pi_seq (pv 1)) (pg_name (i := 2) sc__law_run.nd rfl (Or.inl rfl))
    (pss_cons (ps_if (pt_cmpR (op_neD hr.units) (pe_k (c__law_reason T) hr (by decide) rfl pass0 (pa_cons (pv 0) (pa_cons (pv 2) pa_nil))) pe_str (nomark _)) (pss_one (ps_ret pe_non)) pss_nil)
    (pss_one (ps_set (i := 0) sc__law_run.nd rfl (Or.inl rfl) (pe_k (c__law_done T) hr (by decide) rfl pass0 (pa_cons (pv 0) (pa_cons (pv 2) pa_nil)))))))
    (pss_one (ps_ret (pv 0)))), ?_⟩)
  rintro O ds r σ ⟨t, d, ys, rfl, hd, hg, hok, hfit, rfl⟩ s Q q
  refine sq_for (α := Fo × List Deed) (fun _ _ => []) (fun _ a => [.dat (rowsD (flat 0 a.1)), .dat d, .any]) (fun i a => ys.drop i = a.2 ∧ reachD t ys = reachD a.1 a.2 ∧ Ok a.1 ∧ Fits a.1 a.2.length) (t, ys) (ei_seq (ev_var rfl) hd) s ⟨rfl, rfl, hok, hfit⟩ rfl (Le.refl _) ?_ ?_
  · rintro B i ⟨u, rest⟩ e σ H v he ⟨h1, h2, h3, h4⟩ s r
    dsimp only at h1 h2 h3 h4 s
    rw [List.getElem?_map] at he
    cases hx : ys[i]? with
    | none => rw [hx] at he; cases he
    | some x =>
      rw [hx] at he
      cases he
      cases rest with
      | nil => exact absurd h1 (drop_some hx)
      | cons y rest =>
        obtain ⟨rfl, h5⟩ := drop_step hx h1
        have hgx := hg x (List.mem_of_getElem? hx)
        have hf := h4.fit
        have h4' : u.size + (rest.length + 1) < 20 := h4
        obtain ⟨rs1, rs2⟩ := reasonS_ok u x
        rw [reachD_cons] at h2
        refine tg_use tg_name s r fun σ1 s1 => ?_
        refine sq_ifN (b := !(reasonAt u x).isNone) (et_is (et_test (ev_neS (ev_call (ea_cons (ev_var rfl) (ea_cons (ev_var rfl) ea_nil)) ⟨u, x, rfl, h3, hf.2, rfl⟩) ev_str rs1)) (by rw [rs2])) s1 (fun hb H2 s2 => ?_) fun hb H2 s2 => ?_
        · cases hre : reasonAt u x with
          | none => rw [hre] at hb; cases hb
          | some why =>
            rw [hre] at h2
            exact st_retM (ev_is ev_non (by rw [h2]; rfl)) s2 q
        · cases hre : reasonAt u x with
          | some why => rw [hre] at hb; cases hb
          | none =>
            rw [hre] at h2
            obtain ⟨o1, o2⟩ := behind_ok h3 hgx hre
            refine st_asg (ev_call (ea_cons (ev_var rfl) (ea_cons (ev_var rfl) ea_nil)) ⟨u, x, rfl, h3, by omega, hre, rfl⟩) s2 fun σ3 H3 s3 => ⟨(behindT u x, rest), ⟨h5, h2, o1, ?_⟩, s3.le (.eq (.eq (.any .nil)))⟩
            show (behindT u x).size + rest.length < 20
            omega
  · rintro ⟨u, rest⟩ σ H ⟨h1, h2, h3, h4⟩ s
    dsimp only at h1 h2 h3 h4 s
    rw [List.length_map] at h1
    have := drop_all h1
    subst this
    exact st_retM (ev_is (ev_var rfl) (by rw [h2]; rfl)) s q
theorem sc__law_free : FnScope ["_law_rows", "_law_deed_here", "_law_other_here", "_law_first"] ["_law_rows", "_law_deed_here", "_law_other_here"] (defScope s__law_free) := ⟨rfl, rfl, rfl, by decide +kernel, rfl, by decide +kernel, by decide +kernel⟩
theorem c__law_free (T : Txt K mg) : Cl P w K mg base CX0 5 "_law_free" ["_law_rows", "_law_deed_here", "_law_other_here"] (PureSp R_law_free) := by
  refine pure_ok T.d__law_free sc__law_free (fun ds d h => by obtain ⟨t, x, y, rfl, _⟩ := h; rfl) (fun f cdv A outer s H E hr => ⟨_, (pss_cons (ps_set (i := 3) sc__law_free.nd rfl (Or.inl rfl) (pe_k (c__law_run T) hr (by decide) rfl pass0 (pa_cons (pv 0) (pa_cons (pe_lst (pa_cons (pv 1) (pa_cons (pv 2) pa_nil))) pa_nil))))
    (pss_one (ps_ret (pe_and (pe_cmpR op_notN (pv 3) pe_non (nomark _)) (pe_one (pe_cmpR (op_eqD hr.units) (pv 3) (pe_k (c__law_run T) hr (by decide) rfl pass0 (pa_cons (pv 0) (pa_cons (pe_lst (pa_cons (pv 2) (pa_cons (pv 1) pa_nil))) pa_nil))) (nomark _))))))), ?_⟩)
  rintro O ds r σ ⟨t, x, y, rfl, hx, hy, hok, hfit, rfl⟩ s Q q
  have g3 : ∀ z ∈ [x, y], z.good = true := fun z hz => by
    rcases List.mem_cons.mp hz with rfl | hz
    · exact hx
    · rw [List.mem_singleton.mp hz]; exact hy
  have g4 : ∀ z ∈ [y, x], z.good = true := fun z hz => by
    rcases List.mem_cons.mp hz with rfl | hz
    · exact hy
    · rw [List.mem_singleton.mp hz]; exact hx
  refine sq_asg (ev_call (ea_cons (ev_var rfl) (ea_cons (ev_lst (ea_cons (ev_var rfl) (ea_cons (ev_var rfl) ea_nil))) ea_nil)) ⟨t, _, [x, y], rfl, .inl rfl, g3, hok, hfit, rfl⟩) s fun σ1 H1 s1 => ?_
  have h2 : ∀ (F' : Fm) (M' : List (Addr × OC)) (z : PyData), Ev F' M' [.dat (rowsD (flat 0 t)), .dat x.enc, .dat y.enc, .dat z] (tCall (PureSp R_law_run) [] E0 (tCons (tVar 0) (tCons (tLst (tCons (tVar 2) (tCons (tVar 1) tNil))) tNil))) (rowsO (reachD t [y, x])) := fun F' M' z => ev_call (ea_cons (ev_var rfl) (ea_cons (ev_lst (ea_cons (ev_var rfl) (ea_cons (ev_var rfl) ea_nil))) ea_nil)) ⟨t, _, [y, x], rfl, .inl rfl, g4, hok, hfit, rfl⟩
  cases e1 : reachD t [x, y] with
  | none =>
    rw [e1] at s1
    refine st_retM (ev_is (ev_andV (a := false) (b := true) (ev_is (ev_notN (ev_var rfl)) rfl) (fun h => nomatch h)) ?_) s1 q
    unfold metD; rw [e1]; rfl
  | some a =>
    rw [e1] at s1
    obtain ⟨oa, _⟩ := reach_ok hok g3 e1
    have h2' := h2 (F0 O H) [] (rowsO (some a))
    cases e2 : reachD t [y, x] with
    | none =>
      rw [e2] at h2'
      refine st_retM (ev_is (ev_andV (a := true) (ev_is (ev_notN (ev_var rfl)) rfl) fun _ => ev_eq (ev_var rfl) h2' (rowsD_nb oa).2 sh_non) ?_) s1 q
      unfold metD; rw [e1, e2]
      show PyData.bool (true && PyData.eqv (rowsD (flat 0 a)) .none) = _
      unfold rowsD
      simp [PyData.eqv]
    | some b =>
      rw [e2] at h2'
      obtain ⟨ob, _⟩ := reach_ok hok g4 e2
      refine st_retM (ev_is (ev_andV (a := true) (ev_is (ev_notN (ev_var rfl)) rfl) fun _ => ev_eq (ev_var rfl) h2' (rowsD_nb oa).2 (rowsD_nb ob).2) ?_) s1 q
      rw [show PyData.eqv (rowsD (flat 0 a)) (rowsO (some b)) = decide (a = b) from eqv_dec (rowsD_nb oa).1 (rowsD_nb ob).1 (rows_eq oa ob)]
      unfold metD; rw [e1, e2]
      show _ = PyData.bool (if a = b then some a else none).isSome
      by_cases h : a = b
      · rw [if_pos h, decide_eq_true h]; rfl
      · rw [if_neg h, decide_eq_false h]; rfl
theorem sc__law_plot : FnScope ["_law_rows", "_law_parent", "_law_row"] ["_law_rows", "_law_parent"] (defScope s__law_plot) := ⟨rfl, rfl, rfl, by decide +kernel, rfl, by decide +kernel, by decide +kernel⟩
theorem c__law_plot (T : Txt K mg) : ∀ n : Nat, Cl P w K mg base CX0 (n + 1) "_law_plot" ["_law_rows", "_law_parent"] (PureSp (R_law_plot n))
  | 0 => cl_none T.d__law_plot fun ds d h => by obtain ⟨t, q, _, _, _, _, h, _⟩ := h; exact absurd h (Nat.not_lt_zero _)
  | n + 1 => by
    have c_rec := c__law_plot T n
    refine pure_ok T.d__law_plot sc__law_plot (fun ds d h => by obtain ⟨t, q, rfl, _⟩ := h; rfl) (fun f cdv A outer s H E hr => ⟨_, (pss_one (ps_ret (pe_callTy call_tuple_of (by rfl) T.z_tuple (by decide +kernel) (pa_cons (pe_lc (own := [("_law_row", 2)]) (g := gName 2) rfl sc__law_plot.nd (pi_seq (pv 0)) (blkOk_by (own := [("_law_row", 2)]) (N := ["_law_rows", "_law_parent", "_law_row"]) (sc := (defScope s__law_plot)) (by decide +kernel)) (fun _ _ _ _ _ => (pg_name (i := 2) sc__law_plot.nd rfl (Or.inl rfl))) (fun _ _ _ _ _ => (pts_one (pt_cmpR (r := rEqD K) (op_eqD hr.units) (pe_ix (r := rIx K) ix_seq (pv 2) pe_int (fun _ _ => rfl)) (pv 1) (nomark _)))) (fun _ _ _ _ _ => (pe_tup (pa_cons (pe_ix (r := rIx K) ix_seq (pv 2) pe_int (fun _ _ => rfl)) (pa_cons (pe_ix (r := rIx K) ix_seq (pv 2) pe_int (fun _ _ => rfl)) (pa_cons (pe_k c_rec hr (Nat.le_refl _) rfl pass0 (pa_cons (pv 0) (pa_cons (pe_ix (r := rIx K) ix_seq (pv 2) pe_int (fun _ _ => rfl)) pa_nil))) pa_nil)))))) pa_nil)))), ?_⟩)
    rintro O ds r σ ⟨t, q0, rfl, hok, hsz, hq, hdep, rfl⟩ s Q q
    have hfil := rows_filter hok hq
    let pf : PyData → Bool := fun d => match d with | .tuple [_, _, .int p] => decide (p = q0) | _ => false
    let ff : PyData → PyData := fun d => match d with | .tuple [.int m, w, _] => .tuple [.int m, w, .tuple (t.rowAt m).enc] | _ => .none
    have hlc := ev_lcF (F := F0 O H) (M := []) (δ := [.dat (rowsD (flat 0 t)), .dat (.int q0), .any]) (wi := iSeq K (tVar 0)) (sl := 2) (tt := tTest (tOp (rEqD K) (tOp (rIx K) (tVar 2) (tC (.int 2))) (tVar 1)))
      (te := tTup (tCons (tOp (rIx K) (tVar 2) (tC (.int 0))) (tCons (tOp (rIx K) (tVar 2) (tC (.int 1))) (tCons (tCall (PureSp (R_law_plot n)) [] E0 (tCons (tVar 0) (tCons (tOp (rIx K) (tVar 2) (tC (.int 0))) tNil))) tNil)))) (p := pf) (f := ff)
      (ei_seq (ev_var rfl) (.inl rfl)) (by rw [List.length_map, flat_length]; omega)
      (fun F' M' d hd => by
        obtain ⟨x, hx, rfl⟩ := List.mem_map.mp hd
        exact et_test (ev_eqI (ev_ixT (ds := [.int x.1, .str x.2.1, .int x.2.2]) (ev_var rfl) ev_int rfl) (ev_var rfl)))
      (fun F' M' d hd hp => by
        obtain ⟨x, hx, rfl⟩ := List.mem_map.mp hd
        have hp' : decide (x.2.2 = q0) = true := hp
        have hxt : x ∈ topR q0 (t.rowAt q0) := by rw [← hfil]; exact List.mem_filter.mpr ⟨hx, hp'⟩
        rw [topR_tops _ q0 0] at hxt
        obtain ⟨y, hy, rfl⟩ := List.mem_map.mp hxt
        obtain ⟨hm, hr⟩ := row_tops hok hq hy
        have hd1 := tops_dep hy
        exact ev_tup (ea_cons (ev_ixT (ds := [.int y.m, .str y.w, .int y.p]) (ev_var rfl) ev_int rfl) (ea_cons (ev_ixT (ds := [.int y.m, .str y.w, .int y.p]) (ev_var rfl) ev_int rfl) (ea_cons (ev_call (ea_cons (ev_var rfl) (ea_cons (ev_ixT (ds := [.int y.m, .str y.w, .int y.p]) (ev_var rfl) ev_int rfl) ea_nil)) ⟨t, y.m, rfl, hok, hsz, .inr hm, by rw [hr]; omega, rfl⟩) ea_nil))))
    have hmap : (((flat 0 t).map rowE).filter pf).map ff = (t.rowAt q0).enc := by
      rw [List.filter_map, List.map_map]
      have : (pf ∘ rowE) = fun r : Row => decide (r.2.2 = q0) := rfl
      rw [this, hfil, topR_tops _ q0 0, List.map_map, enc_tops _ q0 0]
      refine List.map_congr_left fun y hy => ?_
      show PyData.tuple [.int y.m, .str y.w, .tuple (t.rowAt y.m).enc] = _
      rw [(row_tops hok hq hy).2]; rfl
    rw [hmap] at hlc
    exact st_retM (ev_tuple hlc (.inl rfl)) s q
theorem sc__law_same : FnScope ["_law_actual", "_law_due", "_law_k"] ["_law_actual", "_law_due"] (defScope s__law_same) := ⟨rfl, rfl, rfl, by decide +kernel, rfl, by decide +kernel, by decide +kernel⟩
theorem c__law_same (T : Txt K mg) : ∀ n : Nat, Cl P w K mg base CX0 (n + 1) "_law_same" ["_law_actual", "_law_due"] (PureSp (R_law_same n))
  | 0 => cl_none T.d__law_same fun ds d h => by
    obtain ⟨d, _, h, _⟩ := h
    have : 1 ≤ lvl d := by cases d <;> simp [lvl]
    omega
  | n + 1 => by
    have c_rec := c__law_same T n
    refine pure_ok T.d__law_same sc__law_same (fun ds d h => by obtain ⟨d, rfl, _⟩ := h; rfl) (fun f cdv A outer s H E hr => ⟨_, (pss_cons (ps_if (pt_cmpR op_isN (pv 1) pe_non (nomark _)) (pss_one (ps_ret (pe_cmpR op_isN (pv 0) pe_non (nomark _)))) pss_nil)
    (pss_cons (ps_if (pt_val (pe_callB call_isi (by rfl) T.z_isinstance (by decide +kernel) (pa_cons (pv 1) (pa_cons (pe_bltn (v := .ty "tuple") (u := .type "tuple") (by rfl) T.z_tuple (by decide +kernel) rfl) pa_nil)))) (pss_cons (ps_if (PW.pt (pw_or (pt_not (pt_val (pe_callB call_isi (by rfl) T.z_isinstance (by decide +kernel) (pa_cons (pv 0) (pa_cons (pe_bltn (v := .ty "tuple") (u := .type "tuple") (by rfl) T.z_tuple (by decide +kernel) rfl) pa_nil))))) (pw_or1 (pt_cmpR (op_neD hr.units) (pe_callB call_len (by rfl) T.z_len PySem.boot_len (pa_cons (pv 0) pa_nil)) (pe_callB call_len (by rfl) T.z_len PySem.boot_len (pa_cons (pv 1) pa_nil)) (nomark _))))) (pss_one (ps_ret pe_bl)) pss_nil)
    (pss_cons (ps_for PassesOwn.never rfl (pi_range1 (by rfl) T.z_range (pa_cons (pe_callB call_len (by rfl) T.z_len PySem.boot_len (pa_cons (pv 1) pa_nil)) pa_nil)) (pg_name (i := 2) sc__law_same.nd rfl (Or.inl rfl))
    (pss_one (ps_if (pt_not (pt_val (pe_k c_rec hr (Nat.le_refl _) rfl pass0 (pa_cons (pe_ix ix_seq (pv 0) (pv 2) (fun _ _ => rfl)) (pa_cons (pe_ix ix_seq (pv 1) (pv 2) (fun _ _ => rfl)) pa_nil))))) (pss_one (ps_ret pe_bl)) pss_nil)))
    (pss_one (ps_ret pe_bl)))) pss_nil)
    (pss_cons (ps_if (pt_val (pe_callB call_isi (by rfl) T.z_isinstance (by decide +kernel) (pa_cons (pv 1) (pa_cons (pe_bltn (v := .ty "bool") (u := .type "bool") (by rfl) T.z_bool (by decide +kernel) rfl) pa_nil)))) (pss_one (ps_ret (pe_and (pe_callB call_isi (by rfl) T.z_isinstance (by decide +kernel) (pa_cons (pv 0) (pa_cons (pe_bltn (v := .ty "bool") (u := .type "bool") (by rfl) T.z_bool (by decide +kernel) rfl) pa_nil))) (pe_one (pe_cmpR (op_eqD hr.units) (pv 0) (pv 1) (nomark _)))))) pss_nil)
    (pss_cons (ps_if (pt_val (pe_callB call_isi (by rfl) T.z_isinstance (by decide +kernel) (pa_cons (pv 1) (pa_cons (pe_bltn (v := .ty "int") (u := .type "int") (by rfl) T.z_int (by decide +kernel) rfl) pa_nil)))) (pss_one (ps_ret (pe_and (pe_callB call_isi (by rfl) T.z_isinstance (by decide +kernel) (pa_cons (pv 0) (pa_cons (pe_bltn (v := .ty "int") (u := .type "int") (by rfl) T.z_int (by decide +kernel) rfl) pa_nil))) (pe_and (pe_not (pe_callB call_isi (by rfl) T.z_isinstance (by decide +kernel) (pa_cons (pv 0) (pa_cons (pe_bltn (v := .ty "bool") (u := .type "bool") (by rfl) T.z_bool (by decide +kernel) rfl) pa_nil)))) (pe_one (pe_cmpR (op_eqD hr.units) (pv 0) (pv 1) (nomark _))))))) pss_nil)
    (pss_cons (ps_if (pt_val (pe_callB call_isi (by rfl) T.z_isinstance (by decide +kernel) (pa_cons (pv 1) (pa_cons (pe_bltn (v := .ty "list") (u := .type "list") (by rfl) T.z_list (by decide +kernel) rfl) pa_nil)))) (pss_one (ps_ret (pe_and (pe_callB call_isi (by rfl) T.z_isinstance (by decide +kernel) (pa_cons (pv 0) (pa_cons (pe_bltn (v := .ty "list") (u := .type "list") (by rfl) T.z_list (by decide +kernel) rfl) pa_nil))) (pe_one (pe_k c_rec hr (Nat.le_refl _) rfl pass0 (pa_cons (pe_callTy call_tuple_of (by rfl) T.z_tuple (by decide +kernel) (pa_cons (pv 0) pa_nil)) (pa_cons (pe_callTy call_tuple_of (by rfl) T.z_tuple (by decide +kernel) (pa_cons (pv 1) pa_nil)) pa_nil))))))) pss_nil)
    (pss_one (ps_ret (pe_and (pe_callB call_isi (by rfl) T.z_isinstance (by decide +kernel) (pa_cons (pv 0) (pa_cons (pe_bltn (v := .ty "str") (u := .type "str") (by rfl) T.z_str (by decide +kernel) rfl) pa_nil))) (pe_one (pe_cmpR (op_eqD hr.units) (pv 0) (pv 1) (nomark _))))))))))), ?_⟩)
    rintro O ds r σ ⟨d, rfl, hlv, hsh, rfl⟩ s Q q
    cases d with
    | none =>
      refine sq_yesN (et_is (et_test (ev_isN (ev_var rfl))) rfl) s fun H1 s1 => ?_
      exact st_retM (ev_isN (ev_var rfl)) s1 q
    | bool b =>
      refine sq_noN (et_is (et_test (ev_isN (ev_var rfl))) rfl) s fun H1 s1 => ?_
      refine sq_noN (et_B (ev_isi (b := false) (ev_var rfl) (kit_tuple _))) s1 fun H2 s2 => ?_
      refine sq_yesN (et_B (ev_isi (b := true) (ev_var rfl) (kit_bool _))) s2 fun H3 s3 => ?_
      exact st_retM (ev_is (ev_andV (a := true) (ev_isi (ev_var rfl) (kit_bool _)) fun _ => ev_eqB (ev_var rfl) (ev_var rfl)) (by simp)) s3 q
    | int i =>
      refine sq_noN (et_is (et_test (ev_isN (ev_var rfl))) rfl) s fun H1 s1 => ?_
      refine sq_noN (et_B (ev_isi (b := false) (ev_var rfl) (kit_tuple _))) s1 fun H2 s2 => ?_
      refine sq_noN (et_B (ev_isi (b := false) (ev_var rfl) (kit_bool _))) s2 fun H3 s3 => ?_
      refine sq_yesN (et_B (ev_isi (b := true) (ev_var rfl) (kit_int _))) s3 fun H4 s4 => ?_
      exact st_retM (ev_is (ev_andV (a := true) (ev_isi (ev_var rfl) (kit_int _)) fun _ => ev_andV (a := true) (ev_is (ev_notV (ev_isi (b := false) (ev_var rfl) (kit_bool _))) rfl) fun _ => ev_eqI (ev_var rfl) (ev_var rfl)) (by simp)) s4 q
    | str x =>
      simp only [shortD] at hsh
      refine sq_noN (et_is (et_test (ev_isN (ev_var rfl))) rfl) s fun H1 s1 => ?_
      refine sq_noN (et_B (ev_isi (b := false) (ev_var rfl) (kit_tuple _))) s1 fun H2 s2 => ?_
      refine sq_noN (et_B (ev_isi (b := false) (ev_var rfl) (kit_bool _))) s2 fun H3 s3 => ?_
      refine sq_noN (et_B (ev_isi (b := false) (ev_var rfl) (kit_int _))) s3 fun H4 s4 => ?_
      refine sq_noN (et_B (ev_isi (b := false) (ev_var rfl) (kit_list _))) s4 fun H5 s5 => ?_
      exact st_retM (ev_is (ev_andV (a := true) (ev_isi (ev_var rfl) (kit_str _)) fun _ => ev_eqS (ev_var rfl) (ev_var rfl) hsh hsh) (by simp)) s5 q
    | list xs =>
      simp only [shortD, Bool.and_eq_true] at hsh
      simp only [lvl] at hlv
      refine sq_noN (et_is (et_test (ev_isN (ev_var rfl))) rfl) s fun H1 s1 => ?_
      refine sq_noN (et_B (ev_isi (b := false) (ev_var rfl) (kit_tuple _))) s1 fun H2 s2 => ?_
      refine sq_noN (et_B (ev_isi (b := false) (ev_var rfl) (kit_bool _))) s2 fun H3 s3 => ?_
      refine sq_noN (et_B (ev_isi (b := false) (ev_var rfl) (kit_int _))) s3 fun H4 s4 => ?_
      refine sq_yesN (et_B (ev_isi (b := true) (ev_var rfl) (kit_list _))) s4 fun H5 s5 => ?_
      exact st_retM (ev_is (ev_andV (a := true) (ev_isi (ev_var rfl) (kit_list _)) fun _ => ev_call (ea_cons (ev_tuple (ev_var rfl) (.inl rfl)) (ea_cons (ev_tuple (ev_var rfl) (.inl rfl)) ea_nil)) ⟨.tuple xs, rfl, by simp only [lvl]; omega, by simp only [shortD, Bool.and_eq_true]; exact hsh, rfl⟩) rfl) s5 q
    | dict kvs => simp [shortD] at hsh
    | tuple xs =>
      simp only [shortD, Bool.and_eq_true, decide_eq_true_eq] at hsh
      simp only [lvl] at hlv
      refine sq_noN (et_is (et_test (ev_isN (ev_var rfl))) rfl) s fun H1 s1 => ?_
      refine sq_yesN (et_B (ev_isi (b := true) (ev_var rfl) (kit_tuple _))) s1 fun H2 s2 => ?_
      refine sq_noN (et_is (et_or (a := false) (et_not (a := true) (et_B (ev_isi (ev_var rfl) (kit_tuple _)))) fun _ => et_test (ev_neI (ev_lenT (ev_var rfl)) (ev_lenT (ev_var rfl)))) (by simp)) s2 fun H3 s3 => ?_
      refine sq_for (α := Unit) (fun _ _ => []) (fun _ _ => [.dat (.tuple xs), .dat (.tuple xs), .any]) (fun _ _ => True) () (ei_range1 (ev_lenT (ev_var rfl)) (by omega) (by omega)) s3 True.intro rfl (Le.refl _) ?_ ?_
      · rintro B i ⟨⟩ e σ H v he _ s rv
        unfold rngD at he
        rw [List.getElem?_map, Int.toNat_natCast] at he
        have hi : i < xs.length := by
          rcases Nat.lt_or_ge i xs.length with h | h
          · exact h
          · rw [List.getElem?_eq_none_iff.mpr (by rw [List.length_range]; exact h)] at he; cases he
        rw [List.getElem?_range hi] at he
        cases he
        have rv : Rp _ v (.int (0 + ((i : Nat) : Int))) := rv
        rw [show (0 + ((i : Nat) : Int)) = (i : Int) by omega] at rv
        have hx : xs[i]? = some xs[i] := List.getElem?_eq_getElem hi
        have hm : xs[i] ∈ xs := List.getElem_mem hi
        have hl := lvl_mem hm
        refine tg_use tg_name s rv fun σ1 s1 => ?_
        refine st_no (et_not (a := true) (et_B (ev_call (ea_cons (ev_ixT (ev_var rfl) (ev_var rfl) (atI_nat hx)) (ea_cons (ev_ixT (ev_var rfl) (ev_var rfl) (atI_nat hx)) ea_nil)) ⟨xs[i], rfl, by omega, short_mem hsh.2 hm, rfl⟩))) s1 fun H5 s5 => ⟨(), True.intro, s5.le (.eq (.eq (.any .nil)))⟩
      · rintro ⟨⟩ σ H _ s
        exact st_retM ev_bl s q
end
end G
set_option Elab.async false
set_option linter.all false
set_option maxRecDepth 100000
set_option maxHeartbeats 4000000
/-! The data layer 7: a pool that is drawn from; what is known of an answer is a property. -/
namespace G
open PySem PySem.Spec PyProof.Rows L2
def PoolD (pd : List PyData) : Prop := ∃ (ns : List Int) (i r h : Int), pd = [.list (ns.map PyData.int), .int i, .int r, .int h] ∧ 0 ≤ i
def isL (l : Addr) : Addr → Bool := fun a => a == l
theorem isL_l {l : Addr} : isL l l = true := by unfold isL; simp
theorem isL_eq {l a : Addr} (h : isL l a = true) : a = l := by unfold isL at h; simpa using h
/-- all is kept but the pool -/
def Kl (l : Addr) (H H' : Hp) : Prop := Kp (isL l) H H'
theorem Kl.refl {l : Addr} {H : Hp} : Kl l H H := Kp.refl
theorem Kl.trans {l : Addr} {A B C : Hp} (a : Kl l A B) (b : Kl l B C) : Kl l A C := Kp.trans a b
theorem Kl.of_same {l : Addr} {A B : Hp} (e : Same A B) : Kl l A B := fun a o _ h => e a o h
theorem shr_kl {O : Addr → Bool} {l : Addr} {H H' : Hp} (hO : O l = true) (k : Kl l H H') : Same (shr O H) (shr O H') := fun a o h => by
  unfold shr at h ⊢
  by_cases c : O a = true
  · rw [if_pos c] at h; cases h
  · rw [if_neg c] at h ⊢
    refine k a o ?_ h
    cases q : isL l a with
    | false => rfl
    | true => rw [isL_eq q] at c; exact absurd hO c
structure SP (F : Fm) (l : Addr) (M : List (Addr × OC)) (δ : List SD) (σ : L2.St) (H : Hp) : Prop where
  ex : ∃ pd, PoolD pd ∧ S F ((l, .lst pd) :: M) δ σ H
  w : F.N l = true
section
variable {F : Fm} {l : Addr} {M : List (Addr × OC)} {δ δ' : List SD} {σ : L2.St} {H H' : Hp} {K : PySem.W.Frag} {ta tb te ti : TE} {tr : TA} {tt tu : TT} {d e : PyData} {P P' R : PyData → Prop} {PS PT : List PyData → Prop} {i j : Int}
theorem SP.O (s : SP F l M δ σ H) : F.O l = true := by
  obtain ⟨pd, _, s'⟩ := s.ex
  exact (s'.own _ List.mem_cons_self).1
theorem SP.le (s : SP F l M δ σ H) (h : Le δ δ') : SP F l M δ' σ H := by
  obtain ⟨pd, hp, s'⟩ := s.ex
  exact ⟨⟨pd, hp, s'.le h⟩, s.w⟩
theorem SP.set {v : V} (s : SP F l M δ σ H) (r : Rp (shr F.O H) v d) (i : Nat) : SP F l M (δ.set i (.dat d)) (σ.set i (some v)) H := by
  obtain ⟨pd, hp, s'⟩ := s.ex
  exact ⟨⟨pd, hp, s'.set r i⟩, s.w⟩
theorem SP.same (s : SP F l M δ σ H) (e : Same H H') : SP F l M δ σ H' := by
  obtain ⟨pd, hp, s'⟩ := s.ex
  exact ⟨⟨pd, hp, s'.same e⟩, s.w⟩
theorem SP.fresh (s : SP F l M δ σ H) {p : Addr} (h : H p = none) : F.O p = false := by
  obtain ⟨pd, hp, s'⟩ := s.ex
  exact s'.fresh h
def Evp (F : Fm) (l : Addr) (M : List (Addr × OC)) (δ : List SD) (te : TE) (P : PyData → Prop) : Prop := ∀ (σ : L2.St) (H : Hp), SP F l M δ σ H → ∀ Q : VK, (∀ v H' d, P d → SP F l M δ σ H' → Kl l H H' → Rp (shr F.O H') v d → Q v H') → te σ H Q
def Eap (F : Fm) (l : Addr) (M : List (Addr × OC)) (δ : List SD) (ta : TA) (P : List PyData → Prop) : Prop := ∀ (σ : L2.St) (H : Hp), SP F l M δ σ H → ∀ Q : List V → Hp → Prop, (∀ vs H' ds, P ds → SP F l M δ σ H' → Kl l H H' → RpAll (shr F.O H') vs ds → Q vs H') → ta σ H Q
def Etp (F : Fm) (l : Addr) (M : List (Addr × OC)) (δ : List SD) (tt : TT) (B : Bool → Prop) : Prop := ∀ (σ : L2.St) (H : Hp), SP F l M δ σ H → ∀ Q : Bool → Hp → Prop, (∀ b H', B b → SP F l M δ σ H' → Kl l H H' → Q b H') → tt σ H Q
def Evip (F : Fm) (l : Addr) (M : List (Addr × OC)) (δ : List SD) (wi : TI) (P : List PyData → Prop) : Prop := ∀ (σ : L2.St) (H : Hp), SP F l M δ σ H → ∀ R : It → Hp → Prop, (∀ J H1 ds, P ds → SP F l M δ σ H1 → Kl l H H1 → ItD J (shr F.O H1) ds → R J H1) → wi σ H R
theorem ep_of (h : ∀ pd, PoolD pd → Ev F ((l, .lst pd) :: M) δ te d) : Evp F l M δ te (fun x => x = d) := fun σ H s Q q => by
  obtain ⟨pd, hp, s'⟩ := s.ex
  exact h pd hp σ H s' Q fun v H' s2 e r => q v H' d rfl ⟨⟨pd, hp, s2⟩, s.w⟩ (Kl.of_same e) r
theorem ep_mono (h : Evp F l M δ te P) (hp : ∀ d, P d → P' d) : Evp F l M δ te P' := fun σ H s Q q => h σ H s Q fun v H' d hd => q v H' d (hp d hd)
theorem etp_of {b : Bool} (h : ∀ pd, PoolD pd → Et F ((l, .lst pd) :: M) δ tt b) : Etp F l M δ tt (fun x => x = b) := fun σ H s Q q => by
  obtain ⟨pd, hp, s'⟩ := s.ex
  exact h pd hp σ H s' Q fun H' s2 e => q b H' rfl ⟨⟨pd, hp, s2⟩, s.w⟩ (Kl.of_same e)
theorem evip_of {ds : List PyData} (h : ∀ pd, PoolD pd → Evi F ((l, .lst pd) :: M) δ wi ds) : Evip F l M δ wi (fun x => x = ds) := fun σ H s R q => by
  obtain ⟨pd, hp, s'⟩ := s.ex
  exact h pd hp σ H s' R fun J H' s2 e it => q J H' ds rfl ⟨⟨pd, hp, s2⟩, s.w⟩ (Kl.of_same e) it
def IntP (p : Int → Prop) : PyData → Prop := fun d => ∃ i, d = .int i ∧ p i
theorem ep_add {p q : Int → Prop} (ha : Evp F l M δ ta (IntP p)) (hb : Evp F l M δ tb (IntP q)) : Evp F l M δ (tOp (rI0 fun i j => .int (i + j)) ta tb) (IntP fun k => ∃ i j, p i ∧ q j ∧ k = i + j) := fun σ H s Q k => by
  refine ha σ H s _ fun v H1 d hd s1 e1 r1 => hb σ H1 s1 _ fun u H2 e he s2 e2 r2 => ?_
  obtain ⟨i, rfl, hi⟩ := hd
  obtain ⟨j, rfl, hj⟩ := he
  rw [r1.int_inv, r2.int_inv]
  exact ⟨i, j, rfl, rfl, k _ H2 _ ⟨_, rfl, i, j, hi, hj, rfl⟩ s2 (e1.trans e2) (.int _)⟩
theorem ep_eqI {p q : Int → Prop} (ha : Evp F l M δ ta (IntP p)) (hb : Evp F l M δ tb (IntP q)) : Evp F l M δ (tOp (rEqD K) ta tb) (fun d => ∃ b, d = .bool b) := fun σ H s Q k => by
  refine ha σ H s _ fun v H1 d hd s1 e1 r1 => hb σ H1 s1 _ fun u H2 e he s2 e2 r2 => ?_
  obtain ⟨i, rfl, hi⟩ := hd
  obtain ⟨j, rfl, hj⟩ := he
  rw [r1.int_inv, r2.int_inv]
  exact ⟨.int i, .int j, .int i, .int j, rfl, rfl, k _ H2 _ ⟨_, rfl⟩ s2 (e1.trans e2) (.bl _)⟩
theorem etp_test (h : Evp F l M δ te (fun d => ∃ b, d = .bool b)) : Etp F l M δ (tTest te) (fun _ => True) := fun σ H s Q q => h σ H s _ fun v H1 d hd s1 e1 r1 => by
  obtain ⟨b, rfl⟩ := hd
  exact ⟨b, r1.bl_inv, q b H1 trivial s1 e1⟩
/-- a place drawn, in a list or a tuple whose items are P -/
def SeqP (n : Nat) (P : PyData → Prop) : PyData → Prop := fun d => ∃ ds, (d = .list ds ∨ d = .tuple ds) ∧ ds.length = n ∧ ∀ x ∈ ds, P x
theorem atI_in {α : Type} {xs : List α} {k : Int} (h0 : 0 ≤ k) (h1 : k < (xs.length : Int)) : ∃ x, atI xs k = some x ∧ xs[k.toNat]? = some x ∧ x ∈ xs := by
  obtain ⟨n, rfl⟩ : ∃ n : Nat, k = (n : Int) := ⟨k.toNat, by omega⟩
  have hn : n < xs.length := by omega
  refine ⟨xs[n], ?_, ?_, List.getElem_mem hn⟩
  · unfold L2.atI ixN
    rw [if_pos (by omega), if_pos (by omega)]
    simp [hn]
  · rw [Int.toNat_natCast]; exact List.getElem?_eq_getElem hn
theorem ep_ix {n : Nat} (ha : Evp F l M δ ta (SeqP n P)) (hi : Evp F l M δ ti (IntP fun k => 0 ≤ k ∧ k < (n : Int))) : Evp F l M δ (tOp (rIx K) ta ti) P := fun σ H s Q q => by
  refine ha σ H s _ fun v H1 d hd s1 e1 r1 => hi σ H1 s1 _ fun u H2 e he s2 e2 r2 => ?_
  obtain ⟨k, rfl, h0, h1⟩ := he
  obtain ⟨ds, hd, hn, hP⟩ := hd
  rw [r2.int_inv]
  obtain ⟨x, hx, _, hm⟩ := atI_in h0 (by rw [hn]; exact h1 : k < (ds.length : Int))
  have r1' := r1.same (shr_kl s1.O e2)
  rcases hd with rfl | rfl
  · obtain ⟨a, vs, rfl, hp, rv⟩ := r1'.lst_inv
    obtain ⟨w, hw, rw'⟩ := rv.atI hx
    exact .inl ⟨a, vs, k, w, rfl, rfl, SqL.of (shr_sub _ _ _ _ hp), hw, q w H2 x (hP x hm) s2 (e1.trans e2) rw'⟩
  · obtain ⟨a, vs, rfl, hp, rv⟩ := r1'.tup_inv
    obtain ⟨w, hw, rw'⟩ := rv.atI hx
    exact .inr (.inl ⟨a, vs, k, w, rfl, rfl, SqT.of (shr_sub _ _ _ _ hp), hw, q w H2 x (hP x hm) s2 (e1.trans e2) rw'⟩)
theorem ep_ixS {x : Str} (ha : Evp F l M δ ta (fun d => d = .str x)) (hi : Evp F l M δ ti (IntP fun k => 0 ≤ k ∧ k < (x.cps.toList.length : Int))) (hl : x.length ≤ 16777216) : Evp F l M δ (tOp (rIx K) ta ti) (fun d => ∃ c ∈ x.cps.toList, d = .str ⟨#[c]⟩) := fun σ H s Q q => by
  refine ha σ H s _ fun v H1 d hd s1 e1 r1 => hi σ H1 s1 _ fun u H2 e he s2 e2 r2 => ?_
  subst hd
  obtain ⟨k, rfl, h0, h1⟩ := he
  rw [r1.str_inv, r2.int_inv]
  obtain ⟨c, hc, _, hm⟩ := atI_in h0 h1
  exact .inr (.inr ⟨x, k, c, rfl, rfl, by rw [sizeLine_eq]; exact hl, hc, q _ H2 _ ⟨c, hm, rfl⟩ s2 (e1.trans e2) (.str _)⟩)
theorem eap_nil : Eap F l M δ tNil (fun ds => ds = []) := fun σ H s Q q => q [] H [] rfl s Kl.refl .nil
theorem eap_cons (ha : Evp F l M δ te P) (hr : Eap F l M δ tr PS) : Eap F l M δ (tCons te tr) (fun ds => ∃ x xs, ds = x :: xs ∧ P x ∧ PS xs) := fun σ H s Q q =>
  ha σ H s _ fun v H1 d hd s1 e1 r1 => hr σ H1 s1 _ fun vs H2 ds hds s2 e2 r2 => q _ H2 _ ⟨d, ds, rfl, hd, hds⟩ s2 (e1.trans e2) (.cons (r1.same (shr_kl s1.O e2)) r2)
theorem eap_mono (h : Eap F l M δ tr PS) (hp : ∀ d, PS d → PT d) : Eap F l M δ tr PT := fun σ H s Q q => h σ H s Q fun v H' d hd => q v H' d (hp d hd)
theorem ep_tup (h : Eap F l M δ tr PS) (hl : ∀ ds, PS ds → ds.length ≤ 16777216) : Evp F l M δ (tTup tr) (fun d => ∃ ds, d = .tuple ds ∧ PS ds) := fun σ H s Q q =>
  h σ H s _ fun vs H1 ds hds s1 e1 r1 => ⟨by rw [r1.length, sizeLine_eq]; exact hl ds hds, fun p hp => by
    have e2 := same_new (o := .tup vs) hp
    exact q _ _ _ ⟨ds, rfl, hds⟩ (s1.same e2) (e1.trans (Kl.of_same e2)) (.tup (shr_at upd_same (s1.fresh hp)) (r1.same (shr_same e2)))⟩
theorem ep_lst (h : Eap F l M δ tr PS) (hl : ∀ ds, PS ds → ds.length ≤ 16777216) : Evp F l M δ (tLst tr) (fun d => ∃ ds, d = .list ds ∧ PS ds) := fun σ H s Q q =>
  h σ H s _ fun vs H1 ds hds s1 e1 r1 => ⟨by rw [r1.length, sizeLine_eq]; exact hl ds hds, fun p hp => by
    have e2 := same_new (o := .lst vs) hp
    exact q _ _ _ ⟨ds, rfl, hds⟩ (s1.same e2) (e1.trans (Kl.of_same e2)) (.lst (shr_at upd_same (s1.fresh hp)) (r1.same (shr_same e2)))⟩
theorem ep_catL {a : List PyData} (ha : Evp F l M δ ta (fun d => d = .list a)) (hb : Evp F l M δ tb (fun d => ∃ ds, d = .list ds ∧ PS ds)) (hl : ∀ ds, PS ds → a.length + ds.length ≤ 16777216) : Evp F l M δ (tOp rCat ta tb) (fun d => ∃ ds, d = .list (a ++ ds) ∧ PS ds) := fun σ H s Q q => by
  refine ha σ H s _ fun v H1 d hd s1 e1 r1 => hb σ H1 s1 _ fun u H2 e he s2 e2 r2 => ?_
  subst hd
  obtain ⟨es, rfl, hes⟩ := he
  obtain ⟨p, vs, rfl, hp, rv⟩ := (r1.same (shr_kl s1.O e2)).lst_inv
  obtain ⟨p2, us, rfl, hp2, ru⟩ := r2.lst_inv
  refine ⟨p, p2, vs, us, rfl, rfl, shr_sub _ _ _ _ hp, shr_sub _ _ _ _ hp2, by rw [rv.length, ru.length, sizeLine_eq]; exact hl es hes, fun t ht => ?_⟩
  have e4 := same_new (o := .lst (vs ++ us)) ht
  exact q _ _ _ ⟨es, rfl, hes⟩ (s2.same e4) ((e1.trans e2).trans (Kl.of_same e4)) (.lst (shr_at upd_same (s2.fresh ht)) ((rv.append ru).same (shr_same e4)))
/-- list(x), x a list or a tuple that is P -/
theorem ep_list (h : Evp F l M δ te (fun d => ∃ ds, seqOf d ds ∧ PS ds)) : Evp F l M δ (tCB (rListX K) (tCons te tNil)) (fun d => ∃ ds, d = .list ds ∧ PS ds) := fun σ H s Q q => by
  refine h σ H s _ fun v H1 d hd s1 e1 r1 => ?_
  obtain ⟨ds, hq, hds⟩ := hd
  obtain ⟨a, vs, rfl, rv, hc⟩ := seq_inv r1 hq
  refine ⟨a, vs, rfl, ?_, fun t ht => ?_⟩
  · rcases hc with ⟨_, hc⟩ | ⟨_, hc⟩
    · exact .inl (SqL.of (shr_sub _ _ _ _ hc))
    · exact .inr (SqT.of (shr_sub _ _ _ _ hc))
  · have e4 := same_new (o := .lst vs) ht
    exact q _ _ _ ⟨ds, rfl, hds⟩ (s1.same e4) (e1.trans (Kl.of_same e4)) (.lst (shr_at upd_same (s1.fresh ht)) (rv.same (shr_same e4)))
/-- range(e) -/
theorem evip_range1 {p : Int → Prop} (h : Evp F l M δ te (IntP p)) (hb : ∀ i, p i → -4611686018427387904 ≤ i ∧ i < 4611686018427387904) : Evip F l M δ (iRng1 (tCons te tNil)) (fun ds => ∃ i, p i ∧ ds = rngD 0 i.toNat) := fun σ H s R q => by
  refine h σ H s _ fun v H1 d hd s1 e1 r1 => ?_
  obtain ⟨i, rfl, hi⟩ := hd
  rw [r1.int_inv]
  exact ⟨i, rfl, (hb i hi).1, (hb i hi).2, q _ H1 _ ⟨i, hi, rfl⟩ s1 e1 (itd_rng 0 _)⟩
/-- [e for x in xs], e draws -/
theorem ep_lc {wi : TI} {sl : Nat} (hw : Evip F l M δ wi PS) (hlen : ∀ ds, PS ds → ds.length < 16777216)
    (he : ∀ (F' : Fm) (M' : List (Addr × OC)) (d : PyData), Evp F' l M' (δ.set sl (.dat d)) te P) :
    Evp F l M δ (tLc wi (gName sl) tYes te [sl]) (fun d => ∃ ds es, PS ds ∧ d = .list es ∧ es.length = ds.length ∧ ∀ x ∈ es, P x) := fun σ H s Q q => by
  refine hw σ H s _ fun J H1 ds hds s1 e1 it => ?_
  intro D hD
  have sO : F.O D = false := s1.fresh hD
  obtain ⟨pd0, hp0, s1'⟩ := s1.ex
  have hDl : D ≠ l := fun e => by rw [e, s1.O] at sO; cases sO
  have f0 : S (F.own D) ((D, OC.lst []) :: (l, .lst pd0) :: M) δ σ (upd H1 D (.lst [])) := s1'.newOwn hD ⟨[], upd_same, .nil⟩
  have hwl : (F.own D).N l = true := orA_l s1.w
  have hOl : (F.own D).O l = true := orA_l s1.O
  have hG : Same (shr F.O H1) (shr (F.own D).O (upd H1 D (.lst []))) := by
    intro a o h
    have hne : a ≠ D := fun z => by rw [z] at h; rw [shr_sub _ _ _ _ h] at hD; cases hD
    refine shr_at (by rw [upd_ne hne]; exact shr_sub _ _ _ _ h) ?_
    cases c : (F.own D).O a with
    | false => rfl
    | true =>
      rcases orA_cases c with c | c
      · unfold shr at h; rw [if_pos c] at h; cases h
      · exact absurd c hne
  refine ⟨fun i m H' => m = ds.length - i ∧ i ≤ ds.length ∧ (∃ pd es, PoolD pd ∧ es.length = i ∧ (∀ x ∈ es, P x) ∧ S ((F.own D).push (upd H1 D (.lst []))) ((D, OC.lst es) :: (l, .lst pd) :: M) δ σ H') ∧ Kl l H1 H', ⟨ds.length, by simp, Nat.zero_le _, ⟨pd0, [], hp0, rfl, fun x hx => absurd hx List.not_mem_nil, f0.push⟩, Kl.of_same (same_new hD)⟩, ?_⟩
  rintro i m H' ⟨rfl, hi, ⟨pd, es, hpd, hel, hes, si⟩, se⟩
  have hGH : Same (shr F.O H1) (shr (F.own D).O H') := hG.trans (si.shared (F := (F.own D).push _) (si.kps _ List.mem_cons_self))
  have hsame : Same (shr F.O H1) H' := hGH.trans (shr_sub _ _)
  by_cases hlt : i < ds.length
  · refine .inr ⟨it.go i H' hsame hlt, fun H'' => (∃ pd es, PoolD pd ∧ es.length = i + 1 ∧ (∀ x ∈ es, P x) ∧ S ((F.own D).push (upd H1 D (.lst []))) ((D, OC.lst es) :: (l, .lst pd) :: M) δ σ H'') ∧ Kl l H1 H'', fun H'' hN => ⟨ds.length - (i + 1), by omega, rfl, by omega, hN.1, hN.2⟩, fun x H2 hy => ?_⟩
    have hd : ds[i]? = some ds[i] := List.getElem?_eq_getElem hlt
    obtain ⟨e2, hx⟩ := it.yld i H' x H2 ds[i] hsame hd hy
    have s2 := si.same e2
    have rx : Rp (shr (F.own D).O H2) x ds[i] := hx _ (hGH.trans (shr_same e2)) fun a o hn ho => shr_at ho (si.fresh (F := (F.own D).push _) hn)
    show _ ∧ _
    refine ⟨by simp [wipe], ?_⟩
    have hσ : S ((F.own D).push (upd H1 D (.lst []))) ((D, OC.lst es) :: (l, .lst pd) :: M) (δ.set sl (.dat ds[i])) ((wipe σ [sl]).set sl (some x)) H2 := by
      have := (s2.wipe1 sl).set (F := (F.own D).push _) rx sl
      rw [List.set_set] at this
      exact this
    refine et_yes _ H2 hσ _ fun H3 hσ3 e3 => ?_
    rw [if_pos rfl]
    have swap : ∀ {A B : Addr × OC} {M0 : List (Addr × OC)} {δ0 : List SD} {σ0 : L2.St} {H0 : Hp}, S ((F.own D).push (upd H1 D (.lst []))) (A :: B :: M0) δ0 σ0 H0 → S ((F.own D).push (upd H1 D (.lst []))) (B :: A :: M0) δ0 σ0 H0 := fun {A B M0 δ0 σ0 H0} s =>
      ⟨s.sl, s.dom, s.nsub, s.osub, s.kp0, s.fr, s.kps, fun p hp => s.own p (by
        rcases List.mem_cons.mp hp with rfl | hp
        · exact List.mem_cons_of_mem _ List.mem_cons_self
        · rcases List.mem_cons.mp hp with rfl | hp
          · exact List.mem_cons_self
          · exact List.mem_cons_of_mem _ (List.mem_cons_of_mem _ hp)), by
        have := s.nd
        simp only [List.map_cons] at this ⊢
        exact (List.Perm.swap _ _ _).nodup_iff.mpr this⟩
    refine he _ _ _ _ H3 ⟨⟨pd, hpd, swap hσ3⟩, hwl⟩ _ fun y H4 z hz s4 e4 r4 => ?_
    obtain ⟨pd4, hpd4, s4'⟩ := s4.ex
    have s4s := swap s4'
    obtain ⟨_, vs, hv, rv⟩ := s4s.own (D, OC.lst es) List.mem_cons_self
    have hl : vs.length < sizeLine := by
      rw [rv.length, sizeLine_eq, hel]
      have := hlen ds hds
      omega
    refine ⟨vs, hv, hl, ?_⟩
    have sw := s4s.write (F := (F.own D).push _) (j := 0) (c' := OC.lst (es ++ [z])) (o := .lst (vs ++ [y])) rfl orA_r ⟨_, upd_same, rv.append (.one r4)⟩
    have hkl : Kl l H' H4 := (Kl.of_same (e2.trans e3)).trans e4
    refine ⟨⟨pd4, es ++ [z], hpd4, by rw [List.length_append, hel]; rfl, fun x hx => ?_, ?_⟩, ?_⟩
    · rcases List.mem_append.mp hx with hx | hx
      · exact hes x hx
      · rw [List.mem_singleton.mp hx]; exact hz
    · exact sw.slots (Paired.mapP si.sl fun _ _ h => h.same (by rw [shr_upd (show ((F.own D).push _).O D = true from orA_r)]; exact shr_kl hOl hkl))
    · intro a o ha h
      have hne : a ≠ D := fun e => by rw [e, hD] at h; cases h
      rw [upd_ne hne]
      exact (se.trans hkl) a o ha h
  · have hi' : i = ds.length := by omega
    subst hi'
    refine .inl ⟨it.stop H' hsame, ?_⟩
    obtain ⟨_, vs, hv, rv⟩ := si.own (D, OC.lst es) List.mem_cons_self
    have sub : Same (shr (F.own D).O H') (shr F.O H') := shr_mono fun a h => orA_l h
    have hsl : Paired (SlotOk (shr F.O H')) σ δ := Paired.mapP si.sl fun _ _ h => h.same sub
    have hFH : F.H0 D = none := by
      cases q : F.H0 D with
      | none => rfl
      | some u =>
        have hN : F.N D = false := by
          cases q2 : F.N D with
          | false => rfl
          | true => rw [s1'.nsub D q2] at sO; cases sO
        have := s1'.kp0 D u hN q
        rw [hD] at this; cases this
    have back : ∀ {B : Hp}, B D = none → Kp (F.own D).N B H' → Kp F.N B H' := fun {B} hB k a o hn h => by
      have hne : a ≠ D := fun e => by rw [e, hB] at h; cases h
      refine k a o ?_ h
      cases q : (F.own D).N a with
      | false => rfl
      | true =>
        rcases orA_cases q with q | q
        · rw [hn] at q; cases q
        · exact absurd q hne
    have hst : S F ((l, .lst pd) :: M) δ σ H' := by
      refine ⟨hsl, fun a h => si.dom a (orA_l h), s1'.nsub, s1'.osub, back hFH si.kp0, s1'.fr, fun B hB => ?_, fun p hp => ⟨?_, ?_⟩, ?_⟩
      · have hBD : B D = none := by
          cases q : B D with
          | none => rfl
          | some u =>
            have hN : F.N D = false := by
              cases q2 : F.N D with
              | false => rfl
              | true => rw [s1'.nsub D q2] at sO; cases sO
            have := s1'.kps B hB D u hN q
            rw [hD] at this; cases this
        exact back hBD (si.kps B (List.mem_cons_of_mem _ hB))
      · rcases List.mem_cons.mp hp with rfl | hp
        · exact s1.O
        · exact (s1'.own p (List.mem_cons_of_mem _ hp)).1
      · exact (si.own p (List.mem_cons_of_mem _ hp)).2.same (Same.refl _) sub
      · have := si.nd
        simp only [List.map_cons] at this ⊢
        exact (List.nodup_cons.mp this).2
    exact q _ H' _ ⟨ds, es, hds, rfl, hel, hes⟩ ⟨⟨pd, hpd, hst⟩, s1.w⟩ (e1.trans se) (.lst (shr_at hv sO) (rv.same sub))
end
end G
set_option Elab.async false
set_option linter.all false
set_option maxRecDepth 100000
set_option maxHeartbeats 4000000
/-! The data layer 8: promises of defs that draw from a pool. -/
namespace G
open PySem PySem.Spec PyProof.Rows L2
def PostP (O : Addr → Bool) (l : Addr) (H : Hp) (R : PyData → Prop) (Q : VK) : Prop := ∀ d v H' pv pd, R d → Kl l H H' → (∀ a, O a = true → H' a ≠ none) → H' l = some (.lst pv) → RpAll (shr O H') pv pd → PoolD pd → Rp (shr O H') v d → Q v H'
/-- f(pool, ..): from good arguments to an answer as R says -/
def PSp (Pre : List PyData → Prop) (R : List PyData → PyData → Prop) : Sp := fun vs H Q _ => ∃ (O : Addr → Bool) (l : Addr) (us : List V) (ds : List PyData) (pv : List V) (pd : List PyData), vs = .ref l :: us ∧ (∀ a, O a = true → H a ≠ none) ∧ O l = true ∧ H l = some (.lst pv) ∧ RpAll (shr O H) pv pd ∧ PoolD pd ∧
  RpAll (shr O H) us ds ∧ Pre ds ∧ PostP O l H (R ds) Q
def FP (O : Addr → Bool) (l : Addr) (H : Hp) : Fm := ⟨O, isL l, isL l, O, H, []⟩
theorem SP.start {O : Addr → Bool} {l : Addr} {H : Hp} {us pv : List V} {ds pd : List PyData} {N : List Str} (hO : ∀ a, O a = true → H a ≠ none) (hl : O l = true) (hp : H l = some (.lst pv)) (rp : RpAll (shr O H) pv pd) (hpd : PoolD pd) (r : RpAll (shr O H) us ds) :
    SP (FP O l H) l [] (.raw (.ref l) :: (ds.map SD.dat ++ List.replicate (N.length - (ds.length + 1)) SD.any)) (start N (.ref l :: us)) H := by
  refine ⟨⟨pd, hpd, ⟨?_, hO, fun a h => ?_, fun a h => h, Kp.refl, fun a h => .inl h, fun B h => absurd (show B ∈ ([] : List Hp) from h) (by simp), fun p h => ?_, by simp⟩⟩, isL_l⟩
  · unfold L2.start
    rw [List.map_cons, List.length_cons, ← r.length, List.cons_append]
    refine .cons rfl ?_
    exact paired_start (N.length - (us.length + 1)) r
  · rw [isL_eq h]; exact hl
  · rw [List.mem_singleton.mp h]
    exact ⟨hl, pv, hp, rp⟩
section
variable {F F1 : Fm} {l h : Addr} {M : List (Addr × OC)} {δ δ' : List SD} {σ : L2.St} {H H0 : Hp} {K : PySem.W.Frag} {ta tr : TA} {te to tx : TE} {tt : TT} {t u t2 : TS} {d : PyData} {ds : List PyData} {P P' : PyData → Prop} {PS PT : List PyData → Prop} {Pre : List PyData → Prop} {R : List PyData → PyData → Prop} {E : XK} {D : Ends} {i j : Nat} {O : Addr → Bool} {Q : VK} {B : Bool → Prop}
theorem ep_call (hx : ∀ pd, Er F ((l, .lst pd) :: M) δ tx (.ref l)) (ha : Eap F l M δ ta PS) (hp : ∀ ds, PS ds → Pre ds) : Evp F l M δ (tCall (PSp Pre R) [] E (tCons tx ta)) (fun d => ∃ ds, PS ds ∧ R ds d) := fun σ H s Q q => by
  obtain ⟨pd0, hpd0, s'⟩ := s.ex
  refine hx pd0 σ H s' _ fun H1 s1 e1 => ?_
  refine ha σ H1 ⟨⟨pd0, hpd0, s1⟩, s.w⟩ _ fun vs H2 ds hds s2 e2 r2 => ?_
  obtain ⟨pd, hpd, s2'⟩ := s2.ex
  obtain ⟨hOl, pv, hpv, rpv⟩ := s2'.own _ List.mem_cons_self
  refine ⟨F.O, l, vs, ds, pv, pd, by rw [List.append_nil], s2'.dom, hOl, hpv, rpv, hpd, r2, hp ds hds, fun d v H3 pv3 pd3 hR hk hdom hl3 r3 hpd3 rv => ?_⟩
  have hsh : Same (shr F.O H2) (shr F.O H3) := shr_kl hOl hk
  have kp : ∀ {A : Hp}, Kp F.N A H2 → Kp F.N A H3 := fun {A} k a o hn ho => hk a o (by
    cases q : isL l a with
    | false => rfl
    | true => rw [isL_eq q, s.w] at hn; cases hn) (k a o hn ho)
  have nd := s2'.nd
  have s3 : S F ((l, .lst pd3) :: M) δ σ H3 := by
    refine ⟨Paired.mapP s2'.sl fun _ _ h => h.same hsh, hdom, s2'.nsub, s2'.osub, kp s2'.kp0, s2'.fr, fun B hB => kp (s2'.kps B hB), fun p hp => ?_, by simpa using nd⟩
    rcases List.mem_cons.mp hp with rfl | hp
    · exact ⟨hOl, pv3, hl3, r3⟩
    · obtain ⟨h1, h2⟩ := s2'.own p (List.mem_cons_of_mem _ hp)
      have hne : p.1 ≠ l := fun e => by
        have hn : l ∉ M.map (·.1) := by
          have : (l :: M.map (·.1)).Nodup := by simpa using nd
          exact (List.nodup_cons.mp this).1
        exact hn (e ▸ List.mem_map_of_mem (f := (·.1)) hp)
      refine ⟨h1, ?_⟩
      have keep : ∀ o, H2 p.1 = some o → H3 p.1 = some o := fun o ho => hk p.1 o (by
        cases q : isL l p.1 with
        | false => rfl
        | true => exact absurd (isL_eq q) hne) ho
      obtain ⟨a, c⟩ := p
      cases c with
      | lst es => obtain ⟨vs, e, r⟩ := h2; exact ⟨vs, keep _ e, r.same hsh⟩
      | dct ks es => obtain ⟨vs, e, z, r⟩ := h2; exact ⟨vs, keep _ e, z, r.same hsh⟩
      | raw o => exact keep _ h2
  exact q v H3 d ⟨ds, hds, hR⟩ ⟨⟨pd3, hpd3, s3⟩, s.w⟩ ((Kl.of_same e1).trans (e2.trans hk)) rv
/-! statements -/
theorem sp_asg (he : Evp F l M δ te P) (s : SP F l M δ σ H) (k : ∀ d σ' H', P d → SP F l M (δ.set i (.dat d)) σ' H' → u D σ' H') : tSeq (tAsg te (gName i)) u D σ H :=
  he σ H s _ fun v H1 d hd s1 _ r1 => k d _ _ hd (s1.set r1 i)
theorem stp_asg (he : Evp F l M δ te P) (s : SP F l M δ σ H) (k : ∀ d σ' H', P d → SP F l M (δ.set i (.dat d)) σ' H' → D.nx σ' H') : tAsg te (gName i) D σ H :=
  he σ H s _ fun v H1 d hd s1 _ r1 => k d _ _ hd (s1.set r1 i)
theorem sp_ifN (ht : Etp F l M δ tt B) (s : SP F l M δ σ H) (k1 : B true → ∀ H', SP F l M δ σ H' → t { D with nx := u D } σ H') (k2 : B false → ∀ H', SP F l M δ σ H' → u D σ H') : tSeq (tIfS tt t tNext) u D σ H :=
  ht σ H s _ fun b H1 hb s1 _ => by
    cases b with
    | true => exact k1 hb H1 s1
    | false => exact k2 hb H1 s1
theorem stp_if (ht : Etp F l M δ tt B) (s : SP F l M δ σ H) (k1 : B true → ∀ H', SP F l M δ σ H' → t D σ H') (k2 : B false → ∀ H', SP F l M δ σ H' → u D σ H') : tIfS tt t u D σ H :=
  ht σ H s _ fun b H1 hb s1 _ => by
    cases b with
    | true => exact k1 hb H1 s1
    | false => exact k2 hb H1 s1
/-- the caller's post is met at a state of the def's own -/
theorem SP.post {F1 : Fm} (s : SP F1 l M δ σ H) (h0 : F1.H0 = H0) (hP : ∀ a, F1.P a = true → a = l) (hO : F1.O0 = O) :
    Kl l H0 H ∧ (∀ a, O a = true → H a ≠ none) ∧ ∃ pv pd, H l = some (.lst pv) ∧ RpAll (shr O H) pv pd ∧ PoolD pd ∧ Same (shr F1.O H) (shr O H) := by
  obtain ⟨pd, hpd, s'⟩ := s.ex
  have sub : Same (shr F1.O H) (shr O H) := shr_mono fun a h => s'.osub a (by rw [hO]; exact h)
  obtain ⟨_, pv, hpv, rpv⟩ := s'.own _ List.mem_cons_self
  refine ⟨fun a o hn h => ?_, fun a h => s'.dom a (s'.osub a (by rw [hO]; exact h)), pv, pd, hpv, rpv.same sub, hpd, sub⟩
  subst h0
  refine s'.kp0 a o ?_ h
  cases q : F1.N a with
  | false => rfl
  | true =>
    rcases s'.fr a q with z | z
    · rw [hP a z, isL_l] at hn; cases hn
    · rw [z.1] at h; cases h
theorem stp_ret {Rr : PyData → Prop} (he : Evp F1 l M δ te P) (s : SP F1 l M δ σ H) (hP' : ∀ d, P d → Rr d) (q : PostP O l H0 Rr D.rt) (h0 : F1.H0 = H0 := by rfl) (hP : ∀ a, F1.P a = true → a = l := by intro a h; exact isL_eq h) (hO : F1.O0 = O := by rfl) : tRet te D σ H :=
  he σ H s _ fun v H1 d hd s1 e1 r1 => by
    obtain ⟨k, dom, pv, pd, h1, h2, h3, sub⟩ := s1.post h0 hP hO
    exact q d v H1 pv pd (hP' d hd) k dom h1 h2 h3 (r1.same sub)
/-- an owned list is handed out -/
theorem stp_retO {Rr : PyData → Prop} (hx : ∀ pd, Er (F1.own h) ((l, .lst pd) :: (h, OC.lst ds) :: M) δ te (.ref h)) (s : SP (F1.own h) l ((h, OC.lst ds) :: M) δ σ H) (hR : Rr (.list ds)) (q : PostP O l H0 Rr D.rt) (hhl : h ≠ l) (h0 : F1.H0 = H0 := by rfl) (hP : ∀ a, F1.P a = true → a = l := by intro a h; exact isL_eq h) (hO : F1.O0 = O := by rfl) : tRet te D σ H := by
  obtain ⟨pd0, hpd0, s0⟩ := s.ex
  refine hx pd0 σ H s0 _ fun H1 s1 e1 => ?_
  have s1' : SP (F1.own h) l ((h, OC.lst ds) :: M) δ σ H1 := ⟨⟨pd0, hpd0, s1⟩, s.w⟩
  obtain ⟨k, dom, pv, pd, h1, h2, h3, sub⟩ := s1'.post (F1 := F1.own h) h0 hP hO
  obtain ⟨_, vs, hv, rv⟩ := s1.own _ (List.mem_cons_of_mem _ List.mem_cons_self)
  have hOh : O h = false := by
    rcases s1.fr h (show (F1.own h).N h = true from orA_r) with z | z
    · exact absurd (hP h z) hhl
    · rw [← hO]; exact z.2
  exact q _ _ H1 pv pd hR k dom h1 h2 h3 (.lst (shr_at hv hOh) (rv.same sub))
end
section
variable {P : Program} {w : World} {K : PySem.W.Frag} {mg : Str → Option Value} {base : Heap} {k : Nat} {x : Str} {ps N : List Str} {st : Stmt} {Pre : List PyData → Prop} {R : List PyData → PyData → Prop}
theorem pool_ok (D : Df K mg x st ps) (Sc : FnScope N ps (defScope st)) (hlen : ∀ ds, Pre ds → ds.length + 1 = ps.length)
    (hbody : ∀ (f : Addr) (cdv : Value) (A : Around) (outer : List Env) (s : Shared) (H : Hp) (E : XK), Room k (A.deeper (envOfC x (defScope st) s.heap.objs.size f cdv)) →
      ∃ t, PSs (cxOf CX0 P w K mg base N x (defScope st) f cdv A outer s H E).nox (defBody st) t ∧ ∀ (O : Addr → Bool) (l : Addr) (ds : List PyData) (σ : L2.St), Pre ds → SP (FP O l H) l [] (.raw (.ref l) :: (ds.map SD.dat ++ List.replicate (N.length - (ds.length + 1)) SD.any)) σ H →
        ∀ Q : VK, PostP O l H (R ds) Q → t { nx := fun _ H' => Q .non H', rt := Q } σ H) : Cl P w K mg base CX0 (k + 1) x ps (PSp Pre R) := by
  obtain ⟨f, fd, F, m, b⟩ := D
  refine ⟨f, fd, F.ok Sc (fun vs H Q E h => ?_) (fun cdv A outer s H vs Q E hr h => ?_), m, F.kp, b⟩
  · obtain ⟨O, l, us, ds, pv, pd, rfl, _, _, _, _, _, r, hp, _⟩ := h
    rw [List.length_cons, r.length]; exact hlen ds hp
  · obtain ⟨t, ht, hq⟩ := hbody f cdv A outer s H E hr
    obtain ⟨O, l, us, ds, pv, pd, rfl, hO, hl, hpv, rpv, hpd, r, hp, q⟩ := h
    exact ⟨t, ht, hq O l ds _ hp (SP.start hO hl hpv rpv hpd r) Q q⟩
end
end G
set_option Elab.async false
set_option linter.all false
set_option maxRecDepth 100000
set_option maxHeartbeats 4000000
namespace G
open PySem L2 Fo
/-! ### what draws from the pool -/
section
variable {F : Fm} {M : List (Addr × OC)} {δ : List SD} {σ : L2.St} {H : Hp} {K : PySem.W.Frag} {te to ti ta tb : TE} {d : PyData} {l : Addr} {i k j : Int} {D : Ends} {u : TS}
theorem sq_set {ds : List PyData} {n : Nat} (j : Nat) (he : Ev F M δ te d) (hx : Er F M δ to (.ref l)) (hi : Ev F M δ ti (.int k)) (hm : M[j]? = some (l, OC.lst ds)) (hN : F.N l = true) (hix : ixN ds.length k = some n) (s : S F M δ σ H)
    (q : ∀ H', S F (M.set j (l, OC.lst (ds.set n d))) δ σ H' → u D σ H') : tSeq (tAsg te (gSub to ti rSetL)) u D σ H :=
  he σ H s _ fun v H1 s1 e1 r1 => hx σ H1 s1 _ fun H2 s2 e2 => hi σ H2 s2 _ fun w H3 s3 e3 r3 => by
    obtain ⟨_, vs, hv, rv⟩ := s3.own _ (mem_of_get hm)
    rw [r3.int_inv]
    exact ⟨l, vs, k, n, rfl, rfl, hv, by rw [rv.length]; exact hix, q _ (s3.write hm hN ⟨_, upd_same, rv.set (r1.same (shr_same (e2.trans e3))) n⟩)⟩
theorem st_set {ds : List PyData} {n : Nat} (j : Nat) (he : Ev F M δ te d) (hx : Er F M δ to (.ref l)) (hi : Ev F M δ ti (.int k)) (hm : M[j]? = some (l, OC.lst ds)) (hN : F.N l = true) (hix : ixN ds.length k = some n) (s : S F M δ σ H)
    (q : ∀ H', S F (M.set j (l, OC.lst (ds.set n d))) δ σ H' → D.nx σ H') : tAsg te (gSub to ti rSetL) D σ H := sq_set (u := fun D => D.nx) j he hx hi hm hN hix s q
theorem ev_fdiv (ha : Ev F M δ ta (.int i)) (hb : Ev F M δ tb (.int j)) (c : CDiv i j) : Ev F M δ (tOp (rI CDiv fun i j => .int (i / j)) ta tb) (.int (i / j)) := ev_ii ha hb (r2_I c)
theorem ev_pow (ha : Ev F M δ ta (.int i)) (hb : Ev F M δ tb (.int j)) (c : CPow i j) : Ev F M δ (tOp (rI CPow fun i j => .int (i ^ j.toNat)) ta tb) (.int (i ^ j.toNat)) := ev_ii ha hb (r2_I c)
theorem ev_intI (h : Ev F M δ te (.int i)) : Ev F M δ (tCB (fun xs H Q => (∃ i, xs = [.int i] ∧ Q (.int i) H) ∨ ∃ k, xs = [.bl k] ∧ Q (.int (if k then 1 else 0)) H) (tCons te tNil)) (.int i) := ev_int1 h fun v G r H Q q => by
  rw [r.int_inv]; exact .inl ⟨i, rfl, q⟩
theorem ev_intB {b : Bool} (h : Ev F M δ te (.bool b)) : Ev F M δ (tCB (fun xs H Q => (∃ i, xs = [.int i] ∧ Q (.int i) H) ∨ ∃ k, xs = [.bl k] ∧ Q (.int (if k then 1 else 0)) H) (tCons te tNil)) (.int (if b then 1 else 0)) := ev_int1 h fun v G r H Q q => by
  rw [r.bl_inv]; exact .inr ⟨b, rfl, q⟩
end
section
variable {F : Fm} {l : Addr} {M : List (Addr × OC)} {δ : List SD} {te : TE} {P : PyData → Prop}
theorem ep_ex (h : ∀ pd, PoolD pd → ∃ d, P d ∧ Ev F ((l, .lst pd) :: M) δ te d) : Evp F l M δ te P := fun σ H s Q q => by
  obtain ⟨pd, hp, s'⟩ := s.ex
  obtain ⟨d, hd, he⟩ := h pd hp
  exact he σ H s' Q fun v H' s2 e r => q v H' d hd ⟨⟨pd, hp, s2⟩, s.w⟩ (Kl.of_same e) r
theorem ep_int {n : Int} : Evp F l M δ (tC (.int n)) (IntP fun k => k = n) := ep_ex fun pd _ => ⟨_, ⟨n, rfl, rfl⟩, ev_int⟩
end
def Less (n : Int) : PyData → Prop := IntP fun k => 0 ≤ k ∧ k < n
def R_law_mixed (ds : List PyData) (r : PyData) : Prop := ∃ a b : Int, ds = [.int a, .int b] ∧ ∃ c, r = .int c ∧ c = ((((a % 1000003 * 48271 + b % 999983 * 69621 + 12345) % 2147483647) * ((a % 1000003 * 48271 + b % 999983 * 69621 + 12345) % 2147483647) + ((a % 1000003 * 48271 + b % 999983 * 69621 + 12345) % 2147483647) * 40692 + b % 65537 * 16807 + 7) % 2147483629 * 48271 + ((a % 1000003 * 48271 + b % 999983 * 69621 + 12345) % 2147483647) / 127) % 2147483647
def Pre_draw (ds : List PyData) : Prop := ∃ n : Int, ds = [.int n] ∧ 0 < n ∧ n < 1073741824
def R_draw (ds : List PyData) (r : PyData) : Prop := ∃ n : Int, ds = [.int n] ∧ Less n r
def NoArg (ds : List PyData) : Prop := ds = []
def R_word (_ : List PyData) (r : PyData) : Prop := ∃ x : Str, r = .str x ∧ wordOk x = true
/-- short, and its words are texts of the law -/
def Item.tame (x : Item) : Prop := x.short ∧ shortD x.enc = true
def ItemP (r : PyData) : Prop := ∃ x : Item, x.tame ∧ r = x.enc
def R_item (_ : List PyData) (r : PyData) : Prop := ItemP r
theorem mod_r {a n : Int} (h : 0 < n) : 0 ≤ a % n ∧ a % n < n := ⟨Int.emod_nonneg _ (by omega), Int.emod_lt_of_pos _ h⟩
section
variable {P : Program} {w : World} {K : PySem.W.Frag} {mg : Str → Option Value} {base : Heap}
theorem sc__law_mixed : FnScope ["_law_a", "_law_b", "_law_one", "_law_two"] ["_law_a", "_law_b"] (defScope s__law_mixed) := ⟨rfl, rfl, rfl, by decide +kernel, rfl, by decide +kernel, by decide +kernel⟩
theorem c__law_mixed (T : Txt K mg) : Cl P w K mg base CX0 1 "_law_mixed" ["_law_a", "_law_b"] (PureSp R_law_mixed) := by
  refine pure_ok T.d__law_mixed sc__law_mixed (fun ds d h => by obtain ⟨a, b, rfl, _⟩ := h; rfl) (fun f cdv A outer s H E hr => ⟨_, (pss_cons (ps_set (i := 2) sc__law_mixed.nd rfl (Or.inl rfl) (pe_op op_mod (pe_op op_add (pe_op op_add (pe_op op_mul (pe_op op_mod (pe_callTy call_int1 (by rfl) T.z_int (by decide +kernel) (pa_cons (pv 0) pa_nil)) pe_int) pe_int) (pe_op op_mul (pe_op op_mod (pe_callTy call_int1 (by rfl) T.z_int (by decide +kernel) (pa_cons (pv 1) pa_nil)) pe_int) pe_int)) pe_int) pe_int))
    (pss_cons (ps_set (i := 3) sc__law_mixed.nd rfl (Or.inl rfl) (pe_op op_mod (pe_op op_add (pe_op op_add (pe_op op_add (pe_op op_mul (pv 2) (pv 2)) (pe_op op_mul (pv 2) pe_int)) (pe_op op_mul (pe_op op_mod (pe_callTy call_int1 (by rfl) T.z_int (by decide +kernel) (pa_cons (pv 1) pa_nil)) pe_int) pe_int)) pe_int) pe_int))
    (pss_one (ps_ret (pe_op op_mod (pe_op op_add (pe_op op_mul (pv 3) pe_int) (pe_op op_fdiv (pv 2) pe_int)) pe_int))))), ?_⟩)
  rintro O ds r σ ⟨a, b, rfl, c, rfl, rfl⟩ s Q q
  have m1 := mod_r (a := a) (n := 1000003) (by decide)
  have m2 := mod_r (a := b) (n := 999983) (by decide)
  have m3 := mod_r (a := b) (n := 65537) (by decide)
  refine sq_asg (ev_mod (ev_add (ev_add (ev_mul (ev_mod (ev_intI (ev_var rfl)) ev_int (by decide)) ev_int (.inr (by decide))) (ev_mul (ev_mod (ev_intI (ev_var rfl)) ev_int (by decide)) ev_int (.inr (by decide)))) ev_int) ev_int (by decide)) s fun σ1 H1 s1 => ?_
  have m4 := mod_r (a := a % 1000003 * 48271 + b % 999983 * 69621 + 12345) (n := 2147483647) (by decide)
  refine sq_asg (ev_mod (ev_add (ev_add (ev_add (ev_mul (ev_var rfl) (ev_var rfl) (.inl (by omega))) (ev_mul (ev_var rfl) ev_int (.inr (by decide)))) (ev_mul (ev_mod (ev_intI (ev_var rfl)) ev_int (by decide)) ev_int (.inr (by decide)))) ev_int) ev_int (by decide)) s1 fun σ2 H2 s2 => ?_
  exact st_retM (ev_mod (ev_add (ev_mul (ev_var rfl) ev_int (.inr (by decide))) (ev_fdiv (ev_var rfl) ev_int ⟨by decide, by decide⟩)) ev_int (by decide)) s2 q
theorem sc__law_draw : FnScope ["_law_pool_here", "_law_many", "_law_rest", "_law_cells", "_law_cell"] ["_law_pool_here", "_law_many"] (defScope s__law_draw) := ⟨rfl, rfl, rfl, by decide +kernel, rfl, by decide +kernel, by decide +kernel⟩
theorem c__law_draw (T : Txt K mg) : Cl P w K mg base CX0 2 "_law_draw" ["_law_pool_here", "_law_many"] (PSp Pre_draw R_draw) := by
  refine pool_ok T.d__law_draw sc__law_draw (fun ds h => by obtain ⟨n, rfl, _⟩ := h; rfl) (fun f cdv A outer s H E hr => ⟨_, (pss_cons (ps_set (i := 2) sc__law_draw.nd rfl (Or.inl rfl) (pe_ix ix_seq (pv 0) pe_int (fun _ _ => rfl)))
    (pss_cons (ps_if (PW.pt (pw_and (pt_cmpR op_lt (pv 2) pe_int (nomark _)) (pw_and1 (pt_cmpR op_lt (pe_ix ix_seq (pv 0) pe_int (fun _ _ => rfl)) (pe_callB call_len (by rfl) T.z_len PySem.boot_len (pa_cons (pe_ix ix_seq (pv 0) pe_int (fun _ _ => rfl)) pa_nil)) (nomark _))))) (pss_cons (ps_set (i := 3) sc__law_draw.nd rfl (Or.inl rfl) (pe_ix ix_seq (pv 0) pe_int (fun _ _ => rfl)))
    (pss_cons (ps_set (i := 4) sc__law_draw.nd rfl (Or.inl rfl) (pe_ix ix_seq (pv 3) (pe_ix ix_seq (pv 0) pe_int (fun _ _ => rfl)) (fun _ _ => rfl)))
    (pss_cons (ps_asg (pe_op op_add (pe_ix ix_seq (pv 0) pe_int (fun _ _ => rfl)) pe_int) (pg_sub (pv 0) pe_int set_list))
    (pss_cons (ps_if (pt_cmpR op_ge (pv 4) (pe_op op_pow pe_int pe_int) (nomark _)) (pss_cons (ps_set (i := 2) sc__law_draw.nd rfl (Or.inl rfl) (pe_op op_sub (pv 4) (pe_op op_pow pe_int pe_int)))
    (pss_cons (ps_asg (pe_op op_fdiv (pv 2) (pv 1)) (pg_sub (pv 0) pe_int set_list))
    (pss_one (ps_ret (pe_op op_mod (pe_callTy call_int1 (by rfl) T.z_int (by decide +kernel) (pa_cons (pv 2) pa_nil)) (pv 1)))))) pss_nil)
    (pss_one (ps_asg (pe_k (c__law_mixed T) hr (by decide) rfl pass0 (pa_cons (pe_op op_add (pe_ix ix_seq (pv 0) pe_int (fun _ _ => rfl)) (pv 4)) (pa_cons (pe_ix ix_seq (pv 0) pe_int (fun _ _ => rfl)) pa_nil))) (pg_sub (pv 0) pe_int set_list))))))) (pss_one (ps_if (pt_cmpR op_lt (pv 2) pe_int (nomark _)) (pss_cons (ps_asg (pe_op op_add (pe_ix ix_seq (pv 0) pe_int (fun _ _ => rfl)) pe_int) (pg_sub (pv 0) pe_int set_list))
    (pss_one (ps_asg (pe_k (c__law_mixed T) hr (by decide) rfl pass0 (pa_cons (pe_ix ix_seq (pv 0) pe_int (fun _ _ => rfl)) (pa_cons (pe_op op_add pe_int (pe_ix ix_seq (pv 0) pe_int (fun _ _ => rfl))) pa_nil))) (pg_sub (pv 0) pe_int set_list)))) (pss_cons (ps_asg (pe_op op_fdiv (pv 2) (pv 1)) (pg_sub (pv 0) pe_int set_list))
    (pss_one (ps_ret (pe_op op_mod (pe_callTy call_int1 (by rfl) T.z_int (by decide +kernel) (pa_cons (pv 2) pa_nil)) (pv 1))))))))
    (pss_cons (ps_asg pe_int (pg_sub (pv 0) pe_int set_list))
    (pss_one (ps_ret (pe_op op_mod (pe_callTy call_int1 (by rfl) T.z_int (by decide +kernel) (pa_cons (pe_ix ix_seq (pv 0) pe_int (fun _ _ => rfl)) pa_nil)) (pv 1))))))), ?_⟩)
  rintro O l ds σ ⟨n, rfl, hn, hn2⟩ s Q q
  obtain ⟨pd, ⟨ns, i, r, h, rfl, hi⟩, s⟩ := s.ex
  have fin : ∀ d, Less n d → R_draw [.int n] d := fun d hd => ⟨n, rfl, hd⟩
  have hmod : ∀ a : Int, Less n (.int (a % n)) := fun a => ⟨_, rfl, mod_r hn⟩
  refine sq_asg (ev_ixO (er_var rfl) ev_int List.mem_cons_self rfl) s fun σ1 H1 s1 => ?_
  -- the statements behind the two ways that read the pool
  have rest : ∀ σ' H' (i' h' : Int) x3 x4, 0 ≤ i' → S (FP O l H) [(l, .lst [.list (ns.map .int), .int i', .int r, .int h'])] [.raw (.ref l), .dat (.int n), .dat (.int r), x3, x4] σ' H' →
      tSeq (tAsg (tC (.int 0)) (gSub (tVar 0) (tC (.int 2)) rSetL)) (tRet (tOp (rI (fun _ j => 0 < j) fun i j => .int (i % j)) (tCB (fun xs H Q => (∃ i, xs = [.int i] ∧ Q (.int i) H) ∨ ∃ k, xs = [.bl k] ∧ Q (.int (if k then 1 else 0)) H) (tCons (tOp (rIx K) (tVar 0) (tC (.int 3))) tNil)) (tVar 1))) { nx := fun _ H' => Q .non H', rt := Q } σ' H' := fun σ' H' i' h' x3 x4 hi' s' => by
    refine sq_set 0 ev_int (er_var rfl) ev_int rfl isL_l rfl s' fun H2 s2 => ?_
    refine stp_ret (P := Less n) (ep_ex fun pd hpd => ?_) ⟨⟨_, ⟨ns, i', 0, h', rfl, hi'⟩, s2⟩, isL_l⟩ fin q
    obtain ⟨ns2, i2, r2, h2, rfl, _⟩ := hpd
    exact ⟨_, hmod h2, ev_mod (ev_intI (ev_ixO (er_var rfl) ev_int List.mem_cons_self rfl)) (ev_var rfl) hn⟩
  have div : ∀ σ' H' (i' a h' : Int) x3 x4, 0 ≤ i' → S (FP O l H) [(l, .lst [.list (ns.map .int), .int i', .int r, .int h'])] [.raw (.ref l), .dat (.int n), .dat (.int a), x3, x4] σ' H' → ∀ nx ct bk,
      tSeq (tAsg (tOp (rI CDiv fun i j => .int (i / j)) (tVar 2) (tVar 1)) (gSub (tVar 0) (tC (.int 2)) rSetL)) (tRet (tOp (rI (fun _ j => 0 < j) fun i j => .int (i % j)) (tCB (fun xs H Q => (∃ i, xs = [.int i] ∧ Q (.int i) H) ∨ ∃ k, xs = [.bl k] ∧ Q (.int (if k then 1 else 0)) H) (tCons (tVar 2) tNil)) (tVar 1))) { nx := nx, rt := Q, ct := ct, bk := bk } σ' H' := fun σ' H' i' a h' x3 x4 hi' s' nx ct bk => by
    refine sq_set 0 (ev_fdiv (ev_var rfl) (ev_var rfl) ⟨hn, hn2⟩) (er_var rfl) ev_int rfl isL_l rfl s' fun H2 s2 => ?_
    refine stp_ret (P := Less n) (ep_ex fun pd hpd => ?_) ⟨⟨_, ⟨ns, i', a / n, h', rfl, hi'⟩, s2⟩, isL_l⟩ fin q
    exact ⟨_, hmod a, ev_mod (ev_intI (ev_var rfl)) (ev_var rfl) hn⟩
  refine sq_if (et_and (et_test (ev_lt (ev_var rfl) ev_int)) fun _ => et_test (ev_lt (ev_ixO (er_var rfl) ev_int List.mem_cons_self rfl) (ev_lenL (ev_ixO (d := .list (ns.map .int)) (er_var rfl) ev_int List.mem_cons_self rfl)))) s1 (fun hb H2 s2 => ?_) fun hb H2 s2 => ?_
  · have hlt : i < ((ns.map PyData.int).length : Int) := by
      rw [Bool.and_eq_true] at hb
      exact of_decide_eq_true hb.2
    obtain ⟨c, hc1, hc2, _⟩ := atI_in hi hlt
    obtain ⟨z, hz⟩ : ∃ z : Int, c = .int z := by
      rw [List.getElem?_map] at hc2
      cases e : ns[i.toNat]? with
      | none => rw [e] at hc2; cases hc2
      | some z => rw [e] at hc2; exact ⟨z, (Option.some.inj hc2).symm⟩
    subst hz
    refine sq_asg (d := .list (ns.map .int)) (ev_ixO (er_var rfl) ev_int List.mem_cons_self rfl) s2 fun σ3 H3 s3 => ?_
    refine sq_asg (ev_ixL (ev_var rfl) (ev_ixO (er_var rfl) ev_int List.mem_cons_self rfl) hc1) s3 fun σ4 H4 s4 => ?_
    refine sq_set 0 (ev_add (ev_ixO (er_var rfl) ev_int List.mem_cons_self rfl) ev_int) (er_var rfl) ev_int rfl isL_l rfl s4 fun H5 s5 => ?_
    refine sq_ifN (et_test (ev_ge (ev_var rfl) (ev_pow ev_int ev_int ⟨by decide, by decide, by decide⟩))) s5 (fun hc H6 s6 => ?_) fun hc H6 s6 => ?_
    · refine sq_asg (ev_sub (ev_var rfl) (ev_pow ev_int ev_int ⟨by decide, by decide, by decide⟩)) s6 fun σ7 H7 s7 => ?_
      exact div _ _ (i + 1) _ _ _ _ (by omega) s7 _ _ _
    · refine st_set 0 (ev_call (ea_cons (ev_add (ev_ixO (er_var rfl) ev_int List.mem_cons_self rfl) (ev_var rfl)) (ea_cons (ev_ixO (er_var rfl) ev_int List.mem_cons_self rfl) ea_nil)) ⟨_, _, rfl, _, rfl, rfl⟩) (er_var rfl) ev_int rfl isL_l rfl s6 fun H7 s7 => ?_
      exact rest _ _ (i + 1) _ _ _ (by omega) s7
  · refine st_if (et_test (ev_lt (ev_var rfl) ev_int)) s2 (fun hc H3 s3 => ?_) fun hc H3 s3 => ?_
    · refine sq_set 0 (ev_add (ev_ixO (er_var rfl) ev_int List.mem_cons_self rfl) ev_int) (er_var rfl) ev_int rfl isL_l rfl s3 fun H4 s4 => ?_
      refine st_set 0 (ev_call (ea_cons (ev_ixO (er_var rfl) ev_int List.mem_cons_self rfl) (ea_cons (ev_add ev_int (ev_ixO (er_var rfl) ev_int List.mem_cons_self rfl)) ea_nil)) ⟨_, _, rfl, _, rfl, rfl⟩) (er_var rfl) ev_int rfl isL_l rfl s4 fun H5 s5 => ?_
      exact rest _ _ (i + 1) _ _ _ (by omega) s5
    · exact div _ _ i _ _ _ _ hi s3 _ _ _
end
end G
set_option Elab.async false
set_option linter.all false
set_option maxRecDepth 100000
set_option maxHeartbeats 4000000
namespace G
open PySem L2 Fo
section
variable {F : Fm} {l : Addr} {M : List (Addr × OC)} {δ : List SD} {K : PySem.W.Frag} {te to tx tn : TE} {P : PyData → Prop} {E : XK} {n : Int}
theorem ep_drawN {p : Int → Prop} (hx : ∀ pd, Er F ((l, .lst pd) :: M) δ tx (.ref l)) (h : Evp F l M δ tn (IntP p)) (hp : ∀ j, p j → 0 < j ∧ j < 1073741824) : Evp F l M δ (tCall (PSp Pre_draw R_draw) [] E (tCons tx (tCons tn tNil))) (fun d => ∃ j, p j ∧ Less j d) :=
  ep_mono (ep_call hx (eap_cons h eap_nil) (fun ds hds => by
    obtain ⟨x, xs, rfl, ⟨j, rfl, hj⟩, rfl⟩ := hds
    exact ⟨j, rfl, (hp j hj).1, (hp j hj).2⟩)) fun d hd => by
    obtain ⟨ds, ⟨x, xs, rfl, ⟨j, rfl, hj⟩, rfl⟩, m, e, hl⟩ := hd
    cases e
    exact ⟨j, hj, hl⟩
theorem ep_draw (hx : ∀ pd, Er F ((l, .lst pd) :: M) δ tx (.ref l)) (hn : 0 < n ∧ n < 1073741824) : Evp F l M δ (tCall (PSp Pre_draw R_draw) [] E (tCons tx (tCons (tC (.int n)) tNil))) (Less n) :=
  ep_mono (ep_drawN hx ep_int (fun j hj => by rw [hj]; exact hn)) fun d hd => by
    obtain ⟨j, rfl, h⟩ := hd
    exact h
abbrev rJoin (K : PySem.W.Frag) : V → List V → Hp → VK → Prop := fun x xs H Q => ∃ a p, ∃ ys : List Str, x = .str a ∧ xs = [.ref p] ∧ (SqL K H p (ys.map V.str) ∨ SqT K H p (ys.map V.str)) ∧ (ys.map (·.length)).sum + ys.length * a.length ≤ 16777216 ∧ Q (.str (Txt.join a ys)) H
theorem ep_join {sep : Str} {PX : List Str → Prop} (he : Evp F l M δ te (fun d => ∃ ys : List Str, d = .list (ys.map PyData.str) ∧ PX ys)) (hl : ∀ ys, PX ys → (ys.map (·.length)).sum + ys.length * sep.length ≤ 16777216) : Evp F l M δ (tM1 (rJoin K) (tC (.str sep)) te) (fun d => ∃ ys, PX ys ∧ d = .str (Txt.join sep ys)) := fun σ H s Q q => by
  refine ⟨⟨sep, rfl⟩, ?_⟩
  refine he σ H s _ fun v H1 d hd s1 e1 r1 => ?_
  obtain ⟨ys, rfl, hy⟩ := hd
  obtain ⟨p, vs, rfl, hp, rv⟩ := r1.lst_inv
  rw [rv.strs_inv] at hp
  exact ⟨sep, p, ys, rfl, rfl, .inl (SqL.of (shr_sub _ _ _ _ hp)), hl ys hy, q _ H1 _ ⟨ys, hy, rfl⟩ s1 e1 (.str _)⟩
end
theorem join_nil (ys : List Str) : (Txt.join "" ys).cps.toList = ys.flatMap fun y => y.cps.toList := by
  have h := TL.tl_join "" ys
  rw [← TL.join_eq] at h
  have e : TL.tl "" = [] := rfl
  rw [e] at h
  have key : ∀ ls : List (List Nat), TL.joinL [] ls = ls.flatten := by
    intro ls
    induction ls with
    | nil => rfl
    | cons a ls ih =>
      cases ls with
      | nil => simp [TL.joinL]
      | cons b ls => simp [TL.joinL] at ih ⊢; rw [ih]
  rw [key] at h
  rw [List.flatMap_def]
  exact h
def Lett1 (ys : List Str) : Prop := 1 ≤ ys.length ∧ ys.length ≤ 8 ∧ ∀ y ∈ ys, ∃ c ∈ LETT.cps.toList, y = ⟨#[c]⟩
theorem lett_sum : ∀ {ys : List Str}, (∀ y ∈ ys, ∃ c ∈ LETT.cps.toList, y = ⟨#[c]⟩) → (ys.map (·.length)).sum = ys.length
  | [], _ => rfl
  | y :: ys, h => by
    obtain ⟨c, _, rfl⟩ := h y List.mem_cons_self
    rw [List.map_cons, List.sum_cons, lett_sum fun z hz => h z (List.mem_cons_of_mem _ hz), List.length_cons]
    show 1 + ys.length = _
    omega
theorem lett_word {ys : List Str} (h : Lett1 ys) : wordOk (Txt.join "" ys) = true := by
  obtain ⟨h1, h2, h3⟩ := h
  have hj := join_nil ys
  have hf : ∀ {ys : List Str}, (∀ y ∈ ys, ∃ c ∈ LETT.cps.toList, y = ⟨#[c]⟩) → (ys.flatMap fun y => y.cps.toList).length = ys.length := by
    intro ys
    induction ys with
    | nil => intro _; rfl
    | cons y ys ih =>
      intro h
      obtain ⟨c, _, rfl⟩ := h y List.mem_cons_self
      rw [List.flatMap_cons, List.length_append, ih fun z hz => h z (List.mem_cons_of_mem _ hz)]
      show 1 + ys.length = ys.length + 1
      omega
  have hlen : (Txt.join "" ys).length = ys.length := by
    have : (Txt.join "" ys).cps.toList.length = ys.length := by rw [hj, hf h3]
    rw [Array.length_toList] at this
    exact this
  unfold wordOk
  rw [hlen, decide_eq_true h1, decide_eq_true h2, hj]
  simp only [Bool.true_and]
  rw [List.all_eq_true]
  intro c hc
  obtain ⟨y, hy, hcy⟩ := List.mem_flatMap.mp hc
  obtain ⟨d, hd, rfl⟩ := h3 y hy
  have : c = d := by simpa using hcy
  subst this
  exact decide_eq_true hd
theorem strs_of {S : List Nat} : ∀ {es : List PyData}, (∀ x ∈ es, ∃ c ∈ S, x = .str ⟨#[c]⟩) → ∃ ys : List Str, es = ys.map PyData.str ∧ ∀ y ∈ ys, ∃ c ∈ S, y = ⟨#[c]⟩
  | [], _ => ⟨[], rfl, fun y h => absurd h List.not_mem_nil⟩
  | e :: es, h => by
    obtain ⟨c, hc, rfl⟩ := h e List.mem_cons_self
    obtain ⟨ys, e1, e2⟩ := strs_of fun x hx => h x (List.mem_cons_of_mem _ hx)
    refine ⟨⟨#[c]⟩ :: ys, by rw [e1]; rfl, fun y hy => ?_⟩
    rcases List.mem_cons.mp hy with rfl | hy
    · exact ⟨c, hc, rfl⟩
    · exact e2 y hy
theorem ab_word : ∀ c ∈ (("ab" : Str)).cps.toList, wordOk ⟨#[c]⟩ = true := by decide +kernel
def Deed.fine : Deed → Prop
  | .add _ w _ _ => w.length ≤ 1000 ∧ PyData.strOk w = true
  | .word _ w => w.length ≤ 1000 ∧ PyData.strOk w = true
  | _ => True
theorem fine_tame {x : Deed} (h : x.fine) : (Item.d x).tame := by
  have e1 : PyData.strOk "add" = true := by decide +kernel
  have e2 : PyData.strOk "drop" = true := by decide +kernel
  have e3 : PyData.strOk "move" = true := by decide +kernel
  have e4 : PyData.strOk "word" = true := by decide +kernel
  cases x with
  | add m w p b => exact ⟨h.1, by show shortD (.tuple [.str "add", .int m, .str w, .int p, .int b]) = true; simp [shortD, shortAll, e1, h.2]⟩
  | drop m => exact ⟨trivial, by show shortD (.tuple [.str "drop", .int m]) = true; simp [shortD, shortAll, e2]⟩
  | move m p b => exact ⟨trivial, by show shortD (.tuple [.str "move", .int m, .int p, .int b]) = true; simp [shortD, shortAll, e3]⟩
  | word m w => exact ⟨h.1, by show shortD (.tuple [.str "word", .int m, .str w]) = true; simp [shortD, shortAll, e4, h.2]⟩
theorem junk_tame (n : Nat) : (Item.j n).tame := by
  refine ⟨trivial, ?_⟩
  show shortD (junk.getD n .none) = true
  rcases Nat.lt_or_ge n junk.length with h | h
  · have : ∀ m, m < 9 → shortD (junk.getD m .none) = true := by decide +kernel
    exact this n h
  · rw [List.getD_eq_getElem?_getD, List.getElem?_eq_none_iff.mpr h]; rfl
theorem d_item {x : Deed} (h : x.fine) : ItemP x.enc := ⟨.d x, fine_tame h, rfl⟩
theorem j_item (n : Nat) : ItemP (junk.getD n .none) := ⟨.j n, junk_tame n, rfl⟩
def menuD : List PyData := [.tuple [.str "drop", .int 0], .tuple [.str "cut", .int 1], .tuple [.str "word", .int 1, .str ""], .tuple [.str "add", .int 1, .str "a", .int 0], .tuple [.str "move", .int 1, .int 0, .int (-1)], .tuple [.str "word", .int 1, .str "abcdefghi"],
  .list [.str "drop", .int 1], .tuple [.str "drop", .bool true], .tuple [.str "drop", .int 1, .int 1], .tuple [.str "add", .int 1, .str "A", .int 0, .int 0], .none, .str "drop", .int 7, .tuple []]
theorem menu_item : ∀ x ∈ menuD, ItemP x := by
  intro x hx
  unfold menuD at hx
  simp only [List.mem_cons, List.not_mem_nil, or_false] at hx
  rcases hx with rfl | rfl | rfl | rfl | rfl | rfl | rfl | rfl | rfl | rfl | rfl | rfl | rfl | rfl
  · exact d_item (x := .drop 0) trivial
  · exact j_item 0
  · exact d_item (x := .word 1 "") ⟨by show (("" : Str)).length ≤ 1000; decide, by decide +kernel⟩
  · exact j_item 1
  · exact d_item (x := .move 1 0 (-1)) trivial
  · exact d_item (x := .word 1 "abcdefghi") ⟨by show (("abcdefghi" : Str)).length ≤ 1000; decide, by decide +kernel⟩
  · exact j_item 2
  · exact j_item 3
  · exact j_item 4
  · exact d_item (x := .add 1 "A" 0 0) ⟨by show (("A" : Str)).length ≤ 1000; decide, by decide +kernel⟩
  · exact j_item 5
  · exact j_item 6
  · exact j_item 7
  · exact j_item 8
theorem word_fine {x : Str} (h : wordOk x = true) : x.length ≤ 1000 ∧ PyData.strOk x = true := by
  refine ⟨?_, word_strOk h⟩
  unfold wordOk at h
  simp only [Bool.and_eq_true, decide_eq_true_eq] at h
  have := h.1.2
  omega
section
variable {P : Program} {w : World} {K : PySem.W.Frag} {mg : Str → Option Value} {base : Heap}
theorem sc__law_word : FnScope ["_law_pool_here", "_law_letters", "_law_k"] ["_law_pool_here"] (defScope s__law_word) := ⟨rfl, rfl, rfl, by decide +kernel, rfl, by decide +kernel, by decide +kernel⟩
theorem c__law_word (T : Txt K mg) : Cl P w K mg base CX0 3 "_law_word" ["_law_pool_here"] (PSp NoArg R_word) := by
  refine pool_ok T.d__law_word sc__law_word (fun ds h => by cases h; rfl) (fun f cdv A outer s H E hr => ⟨_, (pss_cons (ps_if (pt_cmpR (op_eqD hr.units) (pe_k (c__law_draw T) hr (by decide) rfl pass0 (pa_cons (pv 0) (pa_cons pe_int pa_nil))) pe_int (nomark _)) (pss_cons (ps_set (i := 1) sc__law_word.nd rfl (Or.inr rfl) pe_str)
    (pss_one (ps_ret (pe_join pe_str (pe_lc (own := [("_law_k", 2)]) (g := gName 2) (tt := tYes) rfl sc__law_word.nd (pi_range1 (by rfl) T.z_range (pa_cons (pe_op op_add pe_int (pe_k (c__law_draw T) hr (by decide) rfl pass0 (pa_cons (pv 0) (pa_cons pe_int pa_nil)))) pa_nil)) (blkOk_by (own := [("_law_k", 2)]) (N := ["_law_pool_here", "_law_letters", "_law_k"]) (sc := (defScope s__law_word)) (by decide +kernel)) (fun _ _ _ _ _ => (pg_name (i := 2) sc__law_word.nd rfl (Or.inl rfl))) (fun _ _ _ _ _ => pts_nil) (fun _ _ _ _ _ => (pe_ix (r := rIx K) ix_seq (pv 1) (pe_k (c__law_draw T) hr (by decide) rfl pass0 (pa_cons (pv 0) (pa_cons pe_int pa_nil))) (fun _ _ => rfl)))))))) pss_nil)
    (pss_one (ps_ret (pe_ix ix_seq pe_str (pe_k (c__law_draw T) hr (by decide) rfl pass0 (pa_cons (pv 0) (pa_cons pe_int pa_nil))) (fun _ _ => rfl))))), ?_⟩)
  rintro O l ds σ h s Q q
  cases h
  refine sp_ifN (etp_test (ep_eqI (ep_draw (fun _ => er_var rfl) (by decide)) ep_int)) s (fun _ H1 s1 => ?_) fun _ H1 s1 => ?_
  · refine sp_asg (ep_of fun _ _ => ev_str) s1 fun d σ2 H2 hd s2 => ?_
    subst hd
    refine stp_ret (ep_join (PX := Lett1) (ep_mono (ep_lc (P := fun d => ∃ c ∈ LETT.cps.toList, d = .str ⟨#[c]⟩) (evip_range1 (ep_add ep_int (ep_draw (fun _ => er_var rfl) (by decide))) ?_) ?_ fun F' M' d => ep_ixS (ep_of fun _ _ => ev_var rfl) (ep_mono (ep_draw (fun _ => er_var rfl) (by decide)) fun d hd => hd) (by decide)) ?_) ?_) s2 (fun d hd => ?_) q
    · rintro i ⟨a, b, rfl, ⟨b1, b2⟩, rfl⟩; omega
    · rintro ds ⟨i, ⟨a, b, rfl, ⟨b1, b2⟩, rfl⟩, rfl⟩
      unfold rngD; rw [List.length_map, List.length_range]; omega
    · rintro d ⟨ds, es, ⟨i, ⟨a, b, rfl, ⟨b1, b2⟩, rfl⟩, rfl⟩, rfl, hl, hes⟩
      obtain ⟨ys, e1, e2⟩ := strs_of hes
      refine ⟨ys, by rw [e1], ?_, ?_, e2⟩
      · have : ys.length = es.length := by rw [e1, List.length_map]
        rw [this, hl]
        unfold rngD; rw [List.length_map, List.length_range]; omega
      · have : ys.length = es.length := by rw [e1, List.length_map]
        rw [this, hl]
        unfold rngD; rw [List.length_map, List.length_range]; omega
    · rintro ys ⟨h1, h2, h3⟩
      rw [lett_sum h3]
      have : (("" : Str)).length = 0 := rfl
      rw [this]; omega
    · obtain ⟨ys, hy, rfl⟩ := hd
      exact ⟨_, rfl, lett_word hy⟩
  · refine stp_ret (ep_ixS (x := "ab") (ep_of fun _ _ => ev_str) (ep_mono (ep_draw (fun _ => er_var rfl) (by decide)) fun d hd => hd) (by decide)) s1 (fun d hd => ?_) q
    obtain ⟨c, hc, rfl⟩ := hd
    exact ⟨_, rfl, ab_word c hc⟩
theorem sc__law_bad : FnScope ["_law_pool_here", "_law_menu"] ["_law_pool_here"] (defScope s__law_bad) := ⟨rfl, rfl, rfl, by decide +kernel, rfl, by decide +kernel, by decide +kernel⟩
theorem c__law_bad (T : Txt K mg) : Cl P w K mg base CX0 3 "_law_bad" ["_law_pool_here"] (PSp NoArg R_item) := by
  refine pool_ok T.d__law_bad sc__law_bad (fun ds h => by cases h; rfl) (fun f cdv A outer s H E hr => ⟨_, (pss_cons (ps_set (i := 1) sc__law_bad.nd rfl (Or.inl rfl) (pe_lst (pa_cons (pe_tup (pa_cons pe_str (pa_cons pe_int pa_nil))) (pa_cons (pe_tup (pa_cons pe_str (pa_cons pe_int pa_nil))) (pa_cons (pe_tup (pa_cons pe_str (pa_cons pe_int (pa_cons pe_str pa_nil)))) (pa_cons (pe_tup (pa_cons pe_str (pa_cons pe_int (pa_cons pe_str (pa_cons pe_int pa_nil))))) (pa_cons (pe_tup (pa_cons pe_str (pa_cons pe_int (pa_cons pe_int (pa_cons (pe_un un_neg pe_int) pa_nil))))) (pa_cons (pe_tup (pa_cons pe_str (pa_cons pe_int (pa_cons pe_str pa_nil)))) pa_nil))))))))
    (pss_cons (ps_set (i := 1) sc__law_bad.nd rfl (Or.inl rfl) (pe_op op_cat (pv 1) (pe_lst (pa_cons (pe_lst (pa_cons pe_str (pa_cons pe_int pa_nil))) (pa_cons (pe_tup (pa_cons pe_str (pa_cons pe_bl pa_nil))) (pa_cons (pe_tup (pa_cons pe_str (pa_cons pe_int (pa_cons pe_int pa_nil)))) (pa_cons (pe_tup (pa_cons pe_str (pa_cons pe_int (pa_cons pe_str (pa_cons pe_int (pa_cons pe_int pa_nil)))))) (pa_cons pe_non (pa_cons pe_str (pa_cons pe_int (pa_cons (pe_tup pa_nil) pa_nil)))))))))))
    (pss_one (ps_ret (pe_ix ix_seq (pv 1) (pe_k (c__law_draw T) hr (by decide) rfl pass0 (pa_cons (pv 0) (pa_cons (pe_callB call_len (by rfl) T.z_len PySem.boot_len (pa_cons (pv 1) pa_nil)) pa_nil))) (fun _ _ => rfl)))))), ?_⟩)
  rintro O l ds σ h s Q q
  cases h
  refine sp_asg (ep_of fun _ _ => ev_lst (ea_cons (ev_tup (ea_cons ev_str (ea_cons ev_int ea_nil))) (ea_cons (ev_tup (ea_cons ev_str (ea_cons ev_int ea_nil))) (ea_cons (ev_tup (ea_cons ev_str (ea_cons ev_int (ea_cons ev_str ea_nil)))) (ea_cons (ev_tup (ea_cons ev_str (ea_cons ev_int (ea_cons ev_str (ea_cons ev_int ea_nil))))) (ea_cons (ev_tup (ea_cons ev_str (ea_cons ev_int (ea_cons ev_int (ea_cons (ev_neg ev_int) ea_nil))))) (ea_cons (ev_tup (ea_cons ev_str (ea_cons ev_int (ea_cons ev_str ea_nil)))) ea_nil))))))) s fun d σ1 H1 hd s1 => ?_
  subst hd
  refine sp_asg (ep_of (d := .list menuD) fun _ _ => ev_is (ev_catL (ev_var rfl) (ev_lst (ea_cons (ev_lst (ea_cons ev_str (ea_cons ev_int ea_nil))) (ea_cons (ev_tup (ea_cons ev_str (ea_cons ev_bl ea_nil))) (ea_cons (ev_tup (ea_cons ev_str (ea_cons ev_int (ea_cons ev_int ea_nil)))) (ea_cons (ev_tup (ea_cons ev_str (ea_cons ev_int (ea_cons ev_str (ea_cons ev_int (ea_cons ev_int ea_nil)))))) (ea_cons ev_non (ea_cons ev_str (ea_cons ev_int (ea_cons (ev_tup ea_nil) ea_nil))))))))) (by decide)) rfl) s1 fun d σ2 H2 hd s2 => ?_
  subst hd
  exact stp_ret (ep_ix (n := 14) (ep_mono (ep_of fun _ _ => ev_var rfl) fun d hd => ⟨menuD, .inl hd, rfl, menu_item⟩) (ep_mono (ep_drawN (p := fun j => j = 14) (fun _ => er_var rfl) (ep_ex fun _ _ => ⟨_, ⟨14, rfl, rfl⟩, ev_lenL (ds := menuD) (ev_var rfl)⟩) (fun j hj => by rw [hj]; decide)) fun d hd => by
    obtain ⟨j, rfl, h⟩ := hd
    exact h)) s2 (fun d hd => hd) q
end
end G
set_option Elab.async false
set_option linter.all false
set_option maxRecDepth 100000
set_option maxHeartbeats 4000000
namespace G
open PySem L2 Fo
theorem less3 {es : List PyData} (h : es.length = 3) (hP : ∀ x ∈ es, Less 6 x) : ∃ a b c : Int, es = [.int a, .int b, .int c] ∧ 0 ≤ a ∧ 0 ≤ b ∧ 0 ≤ c := by
  match es, h with
  | [x, y, z], _ =>
    obtain ⟨a, rfl, ha, _⟩ := hP x (by simp)
    obtain ⟨b, rfl, hb, _⟩ := hP y (by simp)
    obtain ⟨c, rfl, hc, _⟩ := hP z (by simp)
    exact ⟨a, b, c, rfl, ha, hb, hc⟩
def headD : PyData → PyData
  | .tuple (x :: _) => x
  | _ => .none
theorem rowE_heads (rs : List Row) : (rs.map rowE).map headD = (rs.map (·.1)).map PyData.int := by
  rw [List.map_map, List.map_map]; rfl
section
variable {F : Fm} {l : Addr} {M : List (Addr × OC)} {δ : List SD} {te tx tn : TE} {P : PyData → Prop} {d : PyData} {E : XK}
theorem ep_of' (h : ∀ pd, PoolD pd → Ev F ((l, .lst pd) :: M) δ te d) (hp : P d) : Evp F l M δ te P := ep_mono (ep_of h) fun x hx => by rw [hx]; exact hp
theorem ep_intB (h : Evp F l M δ te (fun d => ∃ b, d = .bool b)) : Evp F l M δ (tCB (fun xs H Q => (∃ i, xs = [.int i] ∧ Q (.int i) H) ∨ ∃ k, xs = [.bl k] ∧ Q (.int (if k then 1 else 0)) H) (tCons te tNil)) (IntP fun k => 0 ≤ k ∧ k < ((2 : Nat) : Int)) := fun σ H s Q q => by
  refine h σ H s _ fun v H1 d hd s1 e1 r1 => ?_
  obtain ⟨b, rfl⟩ := hd
  rw [r1.bl_inv]
  exact .inr ⟨b, rfl, q _ H1 _ ⟨_, rfl, by cases b <;> decide⟩ s1 e1 (.int _)⟩
theorem ep_drawL {n : Nat} (hx : ∀ pd, Er F ((l, .lst pd) :: M) δ tx (.ref l)) (h : ∀ pd, PoolD pd → Ev F ((l, .lst pd) :: M) δ tn (.int (n : Int))) (hn : 0 < n ∧ n < 1000000 := by omega) : Evp F l M δ (tCall (PSp Pre_draw R_draw) [] E (tCons tx (tCons tn tNil))) (IntP fun k => 0 ≤ k ∧ k < (n : Int)) :=
  ep_mono (ep_drawN (p := fun j => j = (n : Int)) hx (ep_of' h ⟨_, rfl, rfl⟩) (fun j hj => by rw [hj]; omega)) fun d hd => by
    obtain ⟨j, rfl, h⟩ := hd
    exact h
end
def freeP (ms : List Int) : PyData → Bool
  | .int n => !decide (n ∈ ms)
  | _ => false
/-- among 1 .. 19 one is free of ten marks -/
theorem free_mark {ms : List Int} (h : ms.length ≤ 18) : ∃ k rest, ((rngD 1 19).filter (freeP ms)) = .int k :: rest ∧ 0 < k := by
  have hne : ((rngD 1 19).filter (freeP ms)) ≠ [] := fun e => by
    rw [List.filter_eq_nil_iff] at e
    have hsub : ∀ n ∈ (List.range 19).map (fun k : Nat => (1 : Int) + k), n ∈ ms := fun n hn => by
      obtain ⟨k, hk, rfl⟩ := List.mem_map.mp hn
      have := e (.int (1 + (k : Nat))) (List.mem_map.mpr ⟨k, hk, rfl⟩)
      have h2 : freeP ms (.int (1 + (k : Nat))) = !decide ((1 : Int) + (k : Nat) ∈ ms) := rfl
      simpa [h2] using this
    have := nodup_le (l := (List.range 19).map (fun k : Nat => (1 : Int) + k)) (m := ms) (by decide) hsub
    rw [List.length_map, List.length_range] at this
    omega
  obtain ⟨x, rest, e⟩ := List.exists_cons_of_ne_nil hne
  have hx : x ∈ (rngD 1 19).filter (freeP ms) := by rw [e]; exact List.mem_cons_self
  obtain ⟨k, hk, rfl⟩ := List.mem_map.mp (List.mem_filter.mp hx).1
  exact ⟨_, rest, e, by omega⟩
def Pre_rows (ds : List PyData) : Prop := ∃ t : Fo, ds = [rowsD (flat 0 t)] ∧ Ok t ∧ t.size ≤ 10
theorem good_fine {x : Deed} (h : x.good = true) : x.fine := by
  cases x with
  | add m w p b =>
    have h' : (decide (0 < m) && (wordOk w && (decide (0 ≤ p) && decide (0 ≤ b)))) = true := h
    simp only [Bool.and_eq_true] at h'
    exact word_fine h'.2.1
  | word m w =>
    have h' : (decide (0 < m) && wordOk w) = true := h
    simp only [Bool.and_eq_true] at h'
    exact word_fine h'.2
  | drop m => trivial
  | move m p b => trivial
def DeedP (r : PyData) : Prop := ∃ x : Deed, x.good = true ∧ r = x.enc
def R_deed (_ : List PyData) (r : PyData) : Prop := DeedP r
section
variable {P : Program} {w : World} {K : PySem.W.Frag} {mg : Str → Option Value} {base : Heap}
theorem ep_word {F : Fm} {l : Addr} {M : List (Addr × OC)} {δ : List SD} {tx : TE} {E : XK} (hx : ∀ pd, Er F ((l, .lst pd) :: M) δ tx (.ref l)) : Evp F l M δ (tCall (PSp NoArg R_word) [] E (tCons tx tNil)) (fun d => ∃ x : Str, d = .str x ∧ wordOk x = true) :=
  ep_mono (ep_call hx eap_nil fun ds h => h) fun d hd => by
    obtain ⟨ds, _, h⟩ := hd
    exact h
theorem sc__law_raw : FnScope ["_law_pool_here", "_law_marks", "_law_kind", "_law_k"] ["_law_pool_here"] (defScope s__law_raw) := ⟨rfl, rfl, rfl, by decide +kernel, rfl, by decide +kernel, by decide +kernel⟩
theorem c__law_raw (T : Txt K mg) : Cl P w K mg base CX0 4 "_law_raw" ["_law_pool_here"] (PSp NoArg R_item) := by
  refine pool_ok T.d__law_raw sc__law_raw (fun ds h => by cases h; rfl) (fun f cdv A outer s H E hr => ⟨_, (pss_cons (ps_setLc (i := 1) (own := [("_law_k", 3)]) (g := gName 3) (tt := tYes) rfl sc__law_raw.nd rfl rfl (sw_true rfl rfl rfl (by decide +kernel)) (pi_range1 (by rfl) T.z_range (pa_cons pe_int pa_nil)) (blkOk_by (own := [("_law_k", 3)]) (N := ["_law_pool_here", "_law_marks", "_law_kind", "_law_k"]) (sc := (defScope s__law_raw)) (by decide +kernel)) (fun _ _ _ _ _ => (pg_name (i := 3) sc__law_raw.nd rfl (Or.inl rfl))) (fun _ _ _ _ _ => pts_nil) (fun _ _ _ _ _ => (pe_k (c__law_draw T) hr (by decide) rfl pass0 (pa_cons (pv 0) (pa_cons pe_int pa_nil)))))
    (pss_cons (ps_set (i := 2) sc__law_raw.nd rfl (Or.inl rfl) (pe_k (c__law_draw T) hr (by decide) rfl pass0 (pa_cons (pv 0) (pa_cons pe_int pa_nil))))
    (pss_cons (ps_if (pt_cmpR (op_eqD hr.units) (pv 2) pe_int (nomark _)) (pss_one (ps_ret (pe_tup (pa_cons pe_str (pa_cons (pe_op op_add pe_int (pe_ix ix_seq (pv 1) pe_int (fun _ _ => rfl))) pa_nil))))) pss_nil)
    (pss_cons (ps_if (pt_cmpR (op_eqD hr.units) (pv 2) pe_int (nomark _)) (pss_one (ps_ret (pe_tup (pa_cons pe_str (pa_cons (pe_op op_add pe_int (pe_ix ix_seq (pv 1) pe_int (fun _ _ => rfl))) (pa_cons (pe_k (c__law_word T) hr (by decide) rfl pass0 (pa_cons (pv 0) pa_nil)) pa_nil)))))) pss_nil)
    (pss_cons (ps_if (pt_cmpR (op_eqD hr.units) (pv 2) pe_int (nomark _)) (pss_one (ps_ret (pe_tup (pa_cons pe_str (pa_cons (pe_op op_add pe_int (pe_ix ix_seq (pv 1) pe_int (fun _ _ => rfl))) (pa_cons (pe_ix ix_seq (pv 1) pe_int (fun _ _ => rfl)) (pa_cons (pe_ix ix_seq (pv 1) pe_int (fun _ _ => rfl)) pa_nil))))))) pss_nil)
    (pss_cons (ps_if (pt_cmpR (op_eqD hr.units) (pv 2) pe_int (nomark _)) (pss_one (ps_ret (pe_tup (pa_cons pe_str (pa_cons (pe_op op_add pe_int (pe_ix ix_seq (pv 1) pe_int (fun _ _ => rfl))) (pa_cons (pe_k (c__law_word T) hr (by decide) rfl pass0 (pa_cons (pv 0) pa_nil)) (pa_cons (pe_ix ix_seq (pv 1) pe_int (fun _ _ => rfl)) (pa_cons (pe_ix ix_seq (pv 1) pe_int (fun _ _ => rfl)) pa_nil)))))))) pss_nil)
    (pss_one (ps_ret (pe_k (c__law_bad T) hr (by decide) rfl pass0 (pa_cons (pv 0) pa_nil)))))))))), ?_⟩)
  rintro O l ds σ h s Q q
  cases h
  refine sp_asg (ep_lc (P := Less 6) (evip_of fun _ _ => ei_range1 (i := 3) ev_int (by decide) (by decide)) (fun ds h => by subst h; unfold rngD; rw [List.length_map, List.length_range]; decide) fun F' M' d => ep_draw (fun _ => er_var rfl) (by decide)) s fun d σ1 H1 hd s1 => ?_
  obtain ⟨ds, es, hds, rfl, hl, hes⟩ := hd
  have hl3 : es.length = 3 := by rw [hl, hds]; unfold rngD; rw [List.length_map, List.length_range]; rfl
  obtain ⟨a, b, c, rfl, ha, hb, hc⟩ := less3 hl3 hes
  refine sp_asg (ep_draw (n := 5) (fun _ => er_var rfl) (by decide)) s1 fun d σ2 H2 hd s2 => ?_
  obtain ⟨k, rfl, hk1, hk2⟩ := hd
  refine sp_ifN (etp_of fun _ _ => et_test (ev_eqI (ev_var rfl) ev_int)) s2 (fun _ H3 s3 => ?_) fun _ H3 s3 => ?_
  · exact stp_ret (ep_of fun _ _ => ev_tup (ea_cons ev_str (ea_cons (ev_add ev_int (ev_ixL (ev_var rfl) ev_int rfl)) ea_nil))) s3 (fun d hd => by subst hd; exact d_item (x := .drop (1 + a)) trivial) q
  refine sp_ifN (etp_of fun _ _ => et_test (ev_eqI (ev_var rfl) ev_int)) s3 (fun _ H4 s4 => ?_) fun _ H4 s4 => ?_
  · refine stp_ret (ep_tup (eap_cons (ep_of fun _ _ => ev_str) (eap_cons (ep_of fun _ _ => ev_add ev_int (ev_ixL (d := .int a) (ev_var rfl) ev_int rfl)) (eap_cons (ep_word (fun _ => er_var rfl)) eap_nil))) ?_) s4 (fun d hd => ?_) q
    · rintro ds ⟨x1, _, rfl, _, x2, _, rfl, _, x3, _, rfl, _, rfl⟩; exact Nat.le_of_ble_eq_true rfl
    · obtain ⟨ds, rfl, x1, _, rfl, rfl, x2, _, rfl, rfl, x3, _, rfl, ⟨x, rfl, hx⟩, rfl⟩ := hd
      exact d_item (x := .word (1 + a) x) (word_fine hx)
  refine sp_ifN (etp_of fun _ _ => et_test (ev_eqI (ev_var rfl) ev_int)) s4 (fun _ H5 s5 => ?_) fun _ H5 s5 => ?_
  · exact stp_ret (ep_of fun _ _ => ev_tup (ea_cons ev_str (ea_cons (ev_add ev_int (ev_ixL (ev_var rfl) ev_int rfl)) (ea_cons (ev_ixL (ev_var rfl) ev_int rfl) (ea_cons (ev_ixL (ev_var rfl) ev_int rfl) ea_nil))))) s5 (fun d hd => by subst hd; exact d_item (x := .move (1 + a) b c) trivial) q
  refine sp_ifN (etp_of fun _ _ => et_test (ev_eqI (ev_var rfl) ev_int)) s5 (fun _ H6 s6 => ?_) fun _ H6 s6 => ?_
  · refine stp_ret (ep_tup (eap_cons (ep_of fun _ _ => ev_str) (eap_cons (ep_of fun _ _ => ev_add ev_int (ev_ixL (d := .int a) (ev_var rfl) ev_int rfl)) (eap_cons (ep_word (fun _ => er_var rfl)) (eap_cons (ep_of fun _ _ => ev_ixL (d := .int b) (ev_var rfl) ev_int rfl) (eap_cons (ep_of fun _ _ => ev_ixL (d := .int c) (ev_var rfl) ev_int rfl) eap_nil))))) ?_) s6 (fun d hd => ?_) q
    · rintro ds ⟨x1, _, rfl, _, x2, _, rfl, _, x3, _, rfl, _, x4, _, rfl, _, x5, _, rfl, _, rfl⟩; exact Nat.le_of_ble_eq_true rfl
    · obtain ⟨ds, rfl, x1, _, rfl, rfl, x2, _, rfl, rfl, x3, _, rfl, ⟨x, rfl, hx⟩, x4, _, rfl, rfl, x5, _, rfl, rfl, rfl⟩ := hd
      exact d_item (x := .add (1 + a) x b c) (word_fine hx)
  · exact stp_ret (ep_call (fun _ => er_var rfl) eap_nil fun ds h => h) s6 (fun d hd => by
      obtain ⟨_, _, h⟩ := hd
      exact h) q
theorem sc__law_deed : FnScope ["_law_pool_here", "_law_rows", "_law_marks", "_law_kind", "_law_mark", "_law_parent", "_law_row", "_law_behind", "_law_k"] ["_law_pool_here", "_law_rows"] (defScope s__law_deed) := ⟨rfl, rfl, rfl, by decide +kernel, rfl, by decide +kernel, by decide +kernel⟩
theorem c__law_deed (T : Txt K mg) : Cl P w K mg base CX0 4 "_law_deed" ["_law_pool_here", "_law_rows"] (PSp Pre_rows R_deed) := by
  refine pool_ok T.d__law_deed sc__law_deed (fun ds h => by obtain ⟨t, rfl, _⟩ := h; rfl) (fun f cdv A outer s H E hr => ⟨_, (pss_cons (ps_set (i := 2) sc__law_deed.nd rfl (Or.inr rfl) (pe_lc (own := [("_law_row", 6)]) (g := gName 6) (tt := tYes) rfl sc__law_deed.nd (pi_seq (pv 1)) (blkOk_by (own := [("_law_row", 6)]) (N := ["_law_pool_here", "_law_rows", "_law_marks", "_law_kind", "_law_mark", "_law_parent", "_law_row", "_law_behind", "_law_k"]) (sc := (defScope s__law_deed)) (by decide +kernel)) (fun _ _ _ _ _ => (pg_name (i := 6) sc__law_deed.nd rfl (Or.inl rfl))) (fun _ _ _ _ _ => pts_nil) (fun _ _ _ _ _ => (pe_ix (r := rIx K) ix_seq (pv 6) pe_int (fun _ _ => rfl)))))
    (pss_cons (ps_set (i := 3) sc__law_deed.nd rfl (Or.inl rfl) (pe_k (c__law_draw T) hr (by decide) rfl pass0 (pa_cons (pv 0) (pa_cons pe_int pa_nil))))
    (pss_cons (ps_set (i := 4) sc__law_deed.nd rfl (Or.inl rfl) (pe_op op_add pe_int (pe_k (c__law_draw T) hr (by decide) rfl pass0 (pa_cons (pv 0) (pa_cons (pe_ix ix_seq (pe_lst (pa_cons pe_int (pa_cons pe_int pa_nil))) (pe_callTy call_int1 (by rfl) T.z_int (by decide +kernel) (pa_cons (pe_cmpR (op_eqD hr.units) (pe_k (c__law_draw T) hr (by decide) rfl pass0 (pa_cons (pv 0) (pa_cons pe_int pa_nil))) pe_int (nomark _)) pa_nil)) (fun _ _ => rfl)) pa_nil)))))
    (pss_cons (ps_set (i := 5) sc__law_deed.nd rfl (Or.inr rfl) (pe_ix ix_seq (pe_op op_cat (pe_lst (pa_cons pe_int pa_nil)) (pv 2)) (pe_k (c__law_draw T) hr (by decide) rfl pass0 (pa_cons (pv 0) (pa_cons (pe_op op_add (pe_callB call_len (by rfl) T.z_len PySem.boot_len (pa_cons (pv 2) pa_nil)) pe_int) pa_nil))) (fun _ _ => rfl)))
    (pss_cons (ps_set (i := 6) sc__law_deed.nd rfl (Or.inl rfl) (pe_op op_cat (pe_lst (pa_cons pe_int pa_nil)) (pe_lc (own := [("_law_row", 6)]) (g := gName 6) rfl sc__law_deed.nd (pi_seq (pv 1)) (blkOk_by (own := [("_law_row", 6)]) (N := ["_law_pool_here", "_law_rows", "_law_marks", "_law_kind", "_law_mark", "_law_parent", "_law_row", "_law_behind", "_law_k"]) (sc := (defScope s__law_deed)) (by decide +kernel)) (fun _ _ _ _ _ => (pg_name (i := 6) sc__law_deed.nd rfl (Or.inl rfl))) (fun _ _ _ _ _ => (pts_one (pt_cmpR (r := rEqD K) (op_eqD hr.units) (pe_ix (r := rIx K) ix_seq (pv 6) pe_int (fun _ _ => rfl)) (pv 5) (nomark _)))) (fun _ _ _ _ _ => (pe_ix (r := rIx K) ix_seq (pv 6) pe_int (fun _ _ => rfl))))))
    (pss_cons (ps_set (i := 7) sc__law_deed.nd rfl (Or.inl rfl) (pe_ix ix_seq (pv 6) (pe_k (c__law_draw T) hr (by decide) rfl pass0 (pa_cons (pv 0) (pa_cons (pe_callB call_len (by rfl) T.z_len PySem.boot_len (pa_cons (pv 6) pa_nil)) pa_nil))) (fun _ _ => rfl)))
    (pss_cons (ps_if (PW.pt (pw_or (pt_cmpR op_lt (pv 3) pe_int (nomark _)) (pw_or1 (pt_cmpR (op_eqD hr.units) (pe_callB call_len (by rfl) T.z_len PySem.boot_len (pa_cons (pv 2) pa_nil)) pe_int (nomark _))))) (pss_cons (ps_if (pt_cmpR (op_inD (units65 hr)) (pv 4) (pv 2) rfl) (pss_one (ps_set (i := 4) sc__law_deed.nd rfl (Or.inl rfl) (pe_ix ix_seq (pe_lc (own := [("_law_k", 8)]) (g := gName 8) rfl sc__law_deed.nd (pi_range2 (by rfl) T.z_range (pa_cons pe_int (pa_cons pe_int pa_nil))) (blkOk_by (own := [("_law_k", 8)]) (N := ["_law_pool_here", "_law_rows", "_law_marks", "_law_kind", "_law_mark", "_law_parent", "_law_row", "_law_behind", "_law_k"]) (sc := (defScope s__law_deed)) (by decide +kernel)) (fun _ _ _ _ _ => (pg_name (i := 8) sc__law_deed.nd rfl (Or.inl rfl))) (fun _ _ _ _ _ => (pts_one (pt_cmpR (r := rNotInD K) (op_notInD (units65 hr)) (pv 8) (pv 2) rfl))) (fun _ _ _ _ _ => (pv 8))) pe_int (fun _ _ => rfl)))) pss_nil)
    (pss_one (ps_ret (pe_tup (pa_cons pe_str (pa_cons (pv 4) (pa_cons (pe_k (c__law_word T) hr (by decide) rfl pass0 (pa_cons (pv 0) pa_nil)) (pa_cons (pv 5) (pa_cons (pv 7) pa_nil))))))))) pss_nil)
    (pss_cons (ps_set (i := 4) sc__law_deed.nd rfl (Or.inl rfl) (pe_ix ix_seq (pv 2) (pe_k (c__law_draw T) hr (by decide) rfl pass0 (pa_cons (pv 0) (pa_cons (pe_callB call_len (by rfl) T.z_len PySem.boot_len (pa_cons (pv 2) pa_nil)) pa_nil))) (fun _ _ => rfl)))
    (pss_cons (ps_if (PW.pt (pw_and (pt_cmpR op_lt (pv 3) pe_int (nomark _)) (pw_and1 (pt_cmpR (op_eqD hr.units) (pe_k (c__law_reason T) hr (by decide) rfl pass0 (pa_cons (pv 1) (pa_cons (pe_tup (pa_cons pe_str (pa_cons (pv 4) (pa_cons (pv 5) (pa_cons (pv 7) pa_nil))))) pa_nil))) pe_str (nomark _))))) (pss_one (ps_ret (pe_tup (pa_cons pe_str (pa_cons (pv 4) (pa_cons (pv 5) (pa_cons (pv 7) pa_nil))))))) pss_nil)
    (pss_cons (ps_if (PW.pt (pw_and (pt_cmpR (op_eqD hr.units) (pv 3) pe_int (nomark _)) (pw_and1 (pt_cmpR (op_eqD hr.units) (pe_k (c__law_reason T) hr (by decide) rfl pass0 (pa_cons (pv 1) (pa_cons (pe_tup (pa_cons pe_str (pa_cons (pv 4) pa_nil))) pa_nil))) pe_str (nomark _))))) (pss_one (ps_ret (pe_tup (pa_cons pe_str (pa_cons (pv 4) pa_nil))))) pss_nil)
    (pss_one (ps_ret (pe_tup (pa_cons pe_str (pa_cons (pv 4) (pa_cons (pe_k (c__law_word T) hr (by decide) rfl pass0 (pa_cons (pv 0) pa_nil)) pa_nil)))))))))))))))), ?_⟩)
  rintro O l ds σ ⟨t, rfl, hok, hsz⟩ s Q q
  have hlen : (flat 0 t).length = t.size := flat_length t 0
  have hml : t.marks.length = t.size := by rw [← flat_marks t 0, List.length_map, hlen]
  have hmp : ∀ a ∈ t.marks, 0 < a := hok.pos
  refine sp_asg (P := fun d => d = .list (t.marks.map PyData.int)) (ep_of fun _ _ => ev_is (ev_lc (f := headD) (ei_seq (ev_var rfl) (.inl rfl)) (fun F' M' d hd => by
      obtain ⟨rr, _, rfl⟩ := List.mem_map.mp hd
      exact ev_ixT (ev_var rfl) ev_int rfl) (by rw [List.length_map]; omega)) (by rw [rowE_heads, flat_marks])) s fun d σ1 H1 hd s1 => ?_
  subst hd
  refine sp_asg (ep_draw (n := 8) (fun _ => er_var rfl) (by decide)) s1 fun d σ2 H2 hd s2 => ?_
  obtain ⟨kd, rfl, _, _⟩ := hd
  have h59 : ∀ x ∈ [PyData.int 5, .int 999999999], IntP (fun j => 0 < j ∧ j < 1073741824) x := fun x hx => by
    simp only [List.mem_cons, List.not_mem_nil, or_false] at hx
    rcases hx with rfl | rfl
    · exact ⟨5, rfl, by decide, by decide⟩
    · exact ⟨999999999, rfl, by decide, by decide⟩
  have hless : ∀ d, (∃ j, (0 < j ∧ j < 1073741824) ∧ Less j d) → IntP (fun j => 0 ≤ j) d := fun d hd => by
    obtain ⟨j, _, k, rfl, hk, _⟩ := hd
    exact ⟨k, rfl, hk⟩
  refine sp_asg (ep_add ep_int (ep_mono (ep_drawN (p := fun j => 0 < j ∧ j < 1073741824) (fun _ => er_var rfl) (ep_ix (n := 2) (P := IntP fun j => 0 < j ∧ j < 1073741824) (ep_of' (d := .list [.int 5, .int 999999999]) (fun _ _ => ev_lst (ea_cons ev_int (ea_cons ev_int ea_nil))) ⟨_, .inl rfl, rfl, h59⟩) (ep_intB (ep_eqI (ep_draw (n := 9) (fun _ => er_var rfl) (by decide)) ep_int))) (fun j h => h)) hless)) s2 fun d σ3 H3 hd s3 => ?_
  obtain ⟨mk, rfl, _, j, rfl, hj, rfl⟩ := hd
  -- the parent: 0 or a mark
  refine sp_asg (ep_ix (n := t.marks.length + 1) (P := IntP fun p => p = 0 ∨ p ∈ t.marks) (ep_of' (d := .list (.int 0 :: t.marks.map PyData.int)) (fun _ _ => ev_catL (ds := [.int 0]) (ev_lst (ea_cons ev_int ea_nil)) (ev_var rfl) (by rw [List.length_map]; simp only [List.length_cons, List.length_nil]; omega)) ⟨_, .inl rfl, by rw [List.length_cons, List.length_map], fun x hx => ?_⟩) (ep_drawL (fun _ => er_var rfl) (fun _ _ => ev_is (ev_add (ev_lenL (ev_var rfl)) ev_int) (by rw [List.length_map]; rfl)) (by omega))) s3 fun d σ4 H4 hd s4 => ?_
  · rcases List.mem_cons.mp hx with rfl | hx
    · exact ⟨0, rfl, .inl rfl⟩
    · obtain ⟨a, ha, rfl⟩ := List.mem_map.mp hx
      exact ⟨a, rfl, .inr ha⟩
  obtain ⟨p, rfl, hp⟩ := hd
  have hp0 : 0 ≤ p := by
    rcases hp with rfl | hp
    · exact Int.le_refl _
    · exact Int.le_of_lt (hmp p hp)
  -- the row of the parent's children
  let pf : PyData → Bool := fun d => match d with | .tuple [_, _, .int q] => decide (q = p) | _ => false
  have hkid : ∀ x ∈ (((flat 0 t).map rowE).filter pf).map headD, ∃ a ∈ t.marks, x = .int a := fun x hx => by
    obtain ⟨y, hy, rfl⟩ := List.mem_map.mp hx
    obtain ⟨rr, hrr, rfl⟩ := List.mem_map.mp (List.mem_filter.mp hy).1
    exact ⟨rr.1, flat_mark hrr, rfl⟩
  have hkl : ((((flat 0 t).map rowE).filter pf).map headD).length ≤ 10 := by
    rw [List.length_map]
    have := List.length_filter_le pf ((flat 0 t).map rowE)
    rw [List.length_map] at this
    omega
  generalize hks : (((flat 0 t).map rowE).filter pf).map headD = ks at hkid hkl
  refine sp_asg (P := fun d => d = .list (.int 0 :: ks)) (ep_of fun _ _ => ev_catL (ds := [.int 0]) (ev_lst (ea_cons ev_int ea_nil)) (ev_is (ev_lcF (p := pf) (f := headD) (ei_seq (ev_var rfl) (.inl rfl)) (by rw [List.length_map]; omega) (fun F' M' d hd => by
      obtain ⟨rr, _, rfl⟩ := List.mem_map.mp hd
      exact et_test (ev_eqI (ev_ixT (ds := [.int rr.1, .str rr.2.1, .int rr.2.2]) (ev_var rfl) ev_int rfl) (ev_var rfl))) (fun F' M' d hd _ => by
      obtain ⟨rr, _, rfl⟩ := List.mem_map.mp hd
      exact ev_ixT (ev_var rfl) ev_int rfl)) (by rw [hks])) (by simp only [List.length_cons, List.length_nil]; omega)) s4 fun d σ5 H5 hd s5 => ?_
  subst hd
  refine sp_asg (ep_ix (n := ks.length + 1) (P := IntP fun b => 0 ≤ b) (ep_of' (d := .list (.int 0 :: ks)) (fun _ _ => ev_var rfl) ⟨_, .inl rfl, by rw [List.length_cons], fun x hx => ?_⟩) (ep_drawL (fun _ => er_var rfl) (fun _ _ => ev_is (ev_lenL (ev_var rfl)) (by rw [List.length_cons])) (by omega))) s5 fun d σ6 H6 hd s6 => ?_
  · rcases List.mem_cons.mp hx with rfl | hx
    · exact ⟨0, rfl, Int.le_refl _⟩
    · obtain ⟨a, ha, rfl⟩ := hkid x hx
      exact ⟨a, rfl, Int.le_of_lt (hmp a ha)⟩
  obtain ⟨b, rfl, hb0⟩ := hd
  have hwd : ∀ m : Int, 0 < m → ∀ x : Str, wordOk x = true → DeedP (Deed.word m x).enc := fun m hm x hx => ⟨.word m x, by show (decide (0 < m) && wordOk x) = true; rw [decide_eq_true hm, hx]; rfl, rfl⟩
  have had : ∀ m : Int, 0 < m → ∀ x : Str, wordOk x = true → DeedP (Deed.add m x p b).enc := fun m hm x hx => ⟨.add m x p b, by show (decide (0 < m) && (wordOk x && (decide (0 ≤ p) && decide (0 ≤ b)))) = true; rw [decide_eq_true hm, hx, decide_eq_true hp0, decide_eq_true hb0]; rfl, rfl⟩
  refine sp_ifN (B := fun c => c = (decide (kd < 3) || decide (t.marks.length = 0))) (etp_of fun _ _ => et_is (et_or (et_test (ev_lt (ev_var rfl) ev_int)) fun _ => et_test (ev_eqI (ev_lenL (ev_var rfl)) ev_int)) (by rw [List.length_map]; congr 1; exact dec_congr (by omega))) s6 (fun hc H7 s7 => ?_) fun hc H7 s7 => ?_
  · have fin : ∀ σ' H' (m : Int), 0 < m → SP (FP O l H) l [] [.raw (.ref l), .dat (rowsD (flat 0 t)), .dat (.list (t.marks.map PyData.int)), .dat (.int kd), .dat (.int m), .dat (.int p), .dat (.list (.int 0 :: ks)), .dat (.int b), .any] σ' H' →
        tRet (tTup (tCons (tC (.str "add")) (tCons (tVar 4) (tCons (tCall (PSp NoArg R_word) [] E0 (tCons (tVar 0) tNil)) (tCons (tVar 5) (tCons (tVar 7) tNil)))))) { nx := fun _ H' => Q .non H', rt := Q } σ' H' := fun σ' H' m hm s' => by
      refine stp_ret (ep_tup (eap_cons (ep_of fun _ _ => ev_str) (eap_cons (ep_of fun _ _ => ev_var rfl) (eap_cons (ep_word (fun _ => er_var rfl)) (eap_cons (ep_of fun _ _ => ev_var rfl) (eap_cons (ep_of fun _ _ => ev_var rfl) eap_nil))))) ?_) s' (fun d hd => ?_) q
      · rintro ds ⟨x1, _, rfl, _, x2, _, rfl, _, x3, _, rfl, _, x4, _, rfl, _, x5, _, rfl, _, rfl⟩; exact Nat.le_of_ble_eq_true rfl
      · obtain ⟨ds, rfl, x1, _, rfl, rfl, x2, _, rfl, rfl, x3, _, rfl, ⟨x, rfl, hx⟩, x4, _, rfl, rfl, x5, _, rfl, rfl, rfl⟩ := hd
        exact had m hm x hx
    refine sp_ifN (B := fun _ => True) (fun σ H s Q q => by
      obtain ⟨pd, hpd, s'⟩ := s.ex
      exact et_test (ev_in (ev_var rfl) (ev_var rfl) sh_int (ints_shaped _)) σ H s' Q fun H' s2 e => q _ H' trivial ⟨⟨pd, hpd, s2⟩, s.w⟩ (Kl.of_same e)) s7 (fun _ H8 s8 => ?_) fun _ H8 s8 => ?_
    · obtain ⟨k, rest, hk, hk0⟩ := free_mark (ms := t.marks) (by omega)
      refine stp_asg (P := fun d => d = .int k) (ep_of fun _ _ => ev_ixL (ds := .int k :: rest) (ev_is (ev_lcF (p := freeP t.marks) (f := fun d => d) (ei_range2 ev_int ev_int (by decide)) (by decide) (fun F' M' d hd => by
          obtain ⟨n, _, rfl⟩ := List.mem_map.mp hd
          exact et_is (et_test (ev_notIn (ev_var rfl) (ev_var rfl) sh_int (ints_shaped _))) (by rw [ints_any]; rfl)) (fun F' M' d hd _ => ev_var rfl)) (by rw [List.map_id']; exact congrArg PyData.list hk)) ev_int (atI_0 _ _)) s8 fun d σ9 H9 hd s9 => ?_
      subst hd
      exact fin _ _ k hk0 s9
    · exact fin _ _ _ (by omega) s8
  · have hc' : ¬ kd < 3 ∧ t.marks.length ≠ 0 := by simpa using hc.symm
    refine sp_asg (ep_ix (n := t.marks.length) (P := IntP fun m => m ∈ t.marks) (ep_of' (d := .list (t.marks.map PyData.int)) (fun _ _ => ev_var rfl) ⟨_, .inl rfl, by rw [List.length_map], fun x hx => ?_⟩) (ep_drawL (fun _ => er_var rfl) (fun _ _ => ev_is (ev_lenL (ev_var rfl)) (by rw [List.length_map])) (by omega))) s7 fun d σ8 H8 hd s8 => ?_
    · obtain ⟨a, ha, rfl⟩ := List.mem_map.mp hx
      exact ⟨a, rfl, ha⟩
    obtain ⟨m, rfl, hm⟩ := hd
    have hm0 := hmp m hm
    refine sp_ifN (B := fun _ => True) (fun σ H s Q q => by
      obtain ⟨pd, hpd, s'⟩ := s.ex
      exact et_and (et_test (ev_lt (ev_var rfl) ev_int)) (fun _ => et_test (ev_eqS (ev_call (ea_cons (ev_var rfl) (ea_cons (ev_tup (ea_cons ev_str (ea_cons (ev_var rfl) (ea_cons (ev_var rfl) (ea_cons (ev_var rfl) ea_nil))))) ea_nil)) ⟨t, .move m p b, rfl, hok, by omega, rfl⟩) ev_str (reasonS_ok t _).1)) σ H s' Q fun H' s2 e => q _ H' trivial ⟨⟨pd, hpd, s2⟩, s.w⟩ (Kl.of_same e)) s8 (fun _ H9 s9 => ?_) fun _ H9 s9 => ?_
    · exact stp_ret (ep_of fun _ _ => ev_tup (ea_cons ev_str (ea_cons (ev_var rfl) (ea_cons (ev_var rfl) (ea_cons (ev_var rfl) ea_nil))))) s9 (fun d hd => by
        subst hd
        exact ⟨.move m p b, by show (decide (0 < m) && (decide (0 ≤ p) && decide (0 ≤ b))) = true; rw [decide_eq_true hm0, decide_eq_true hp0, decide_eq_true hb0]; rfl, rfl⟩) q
    refine sp_ifN (B := fun _ => True) (fun σ H s Q q => by
      obtain ⟨pd, hpd, s'⟩ := s.ex
      exact et_and (et_test (ev_eqI (ev_var rfl) ev_int)) (fun _ => et_test (ev_eqS (ev_call (ea_cons (ev_var rfl) (ea_cons (ev_tup (ea_cons ev_str (ea_cons (ev_var rfl) ea_nil))) ea_nil)) ⟨t, .drop m, rfl, hok, by omega, rfl⟩) ev_str (reasonS_ok t _).1)) σ H s' Q fun H' s2 e => q _ H' trivial ⟨⟨pd, hpd, s2⟩, s.w⟩ (Kl.of_same e)) s9 (fun _ H10 s10 => ?_) fun _ H10 s10 => ?_
    · exact stp_ret (ep_of fun _ _ => ev_tup (ea_cons ev_str (ea_cons (ev_var rfl) ea_nil))) s10 (fun d hd => by
        subst hd
        exact ⟨.drop m, decide_eq_true hm0, rfl⟩) q
    refine stp_ret (ep_tup (eap_cons (ep_of fun _ _ => ev_str) (eap_cons (ep_of fun _ _ => ev_var rfl) (eap_cons (ep_word (fun _ => er_var rfl)) eap_nil))) ?_) s10 (fun d hd => ?_) q
    · rintro ds ⟨x1, _, rfl, _, x2, _, rfl, _, x3, _, rfl, _, rfl⟩; exact Nat.le_of_ble_eq_true rfl
    · obtain ⟨ds, rfl, x1, _, rfl, rfl, x2, _, rfl, rfl, x3, _, rfl, ⟨x, rfl, hx⟩, rfl⟩ := hd
      exact hwd m hm0 x hx
end
end G
set_option Elab.async false
set_option linter.all false
set_option maxRecDepth 100000
set_option maxHeartbeats 4000000
namespace G
open PySem L2 Fo
section
variable {F : Fm} {M : List (Addr × OC)} {δ : List SD} {σ : L2.St} {H : Hp} {K : PySem.W.Frag} {te tk tx td : TE} {a : Addr} {kvs : List (Key × V)} {k : Str} {z : Int} {i : Nat} {u : TS} {D : Ends}
/-- d.get(k, n) of an owned table of texts and ints -/
theorem ev_dgetS {n : Int} (hd : Er F M δ td (.ref a)) (hm : (a, OC.raw (.dK kvs)) ∈ M) (hk : Ev F M δ tk (.str k)) (hx : Ev F M δ tx (.int z)) (hv : (valV kvs (Sum.inr k : Key)).getD (.int z) = .int n) : Ev F M δ (tDGet2 td tk tx) (.int n) := fun σ H s Q q => by
  refine hd σ H s _ fun H1 s1 e1 => ?_
  have h1 : H1 a = some (.dK kvs) := (s1.own _ hm).2
  refine ⟨a, rfl, .inl ⟨kvs, .inl h1⟩, hk σ H1 s1 _ fun v H2 s2 e2 r2 => hx σ H2 s2 _ fun u H3 s3 e3 r3 => ?_⟩
  have h3 : H3 a = some (.dK kvs) := (s3.own _ hm).2
  rw [r2.str_inv, r3.int_inv]
  refine ⟨_, DGet.k (k := (Sum.inr k : Key)) h3, ?_⟩
  rw [hv]
  exact q _ H3 s3 (e1.trans (e2.trans e3)) (.int _)
theorem sq_raw {kvs0 : List (Key × V)} {trs : List (TE × TE)} (s : S F M δ σ H) (ht : ∀ (σ : L2.St) (H : Hp) (Q : List (V × V) → Hp → Prop), Q (kvs0.map fun kv => (kV kv.1, kv.2)) H → tPairs trs σ H Q) (hl : kvs0.length ≤ 15)
    (k : ∀ p σ' H', S (F.own p) ((p, OC.raw (.dK (mergeK [] kvs0))) :: M) (δ.set i (.raw (.ref p))) σ' H' → u D σ' H') : tSeq (tAsg (tDisp trs) (gName i)) u D σ H := fun p hp => by
  refine ht σ _ _ ⟨upd_same, kvs0, rfl, hl, ?_⟩
  rw [upd_upd]
  exact k p _ _ ((s.newOwn (o := .dK (mergeK [] kvs0)) (c := .raw (.dK (mergeK [] kvs0))) hp upd_same).setRaw _ i)
end
def sizesK : List (Key × V) := [(.inr "add", .int 5), (.inr "drop", .int 2), (.inr "move", .int 4), (.inr "word", .int 3)]
def chk : Deed → List Bool
  | .add m w p b => [decide (0 < m), wordOk w, decide (0 ≤ p), decide (0 ≤ b)]
  | .drop m => [decide (0 < m)]
  | .move m p b => [decide (0 < m), decide (0 ≤ p), decide (0 ≤ b)]
  | .word m w => [decide (0 < m), wordOk w]
theorem good_chk (x : Deed) : x.good = (chk x).all id := by
  cases x <;> simp [chk, Deed.good]
theorem chk_bad {x : Deed} {i : Nat} (h : (chk x)[i]? = some false) : x.good = false := by
  rw [good_chk]
  cases q : (chk x).all id with
  | false => rfl
  | true =>
    have := List.all_eq_true.mp q false (List.mem_of_getElem? h)
    cases this
theorem chk_good {x : Deed} (h : ∀ (j : Nat) (c : Bool), (chk x)[j]? = some c → c = true) : x.good = true := by
  rw [good_chk, List.all_eq_true]
  intro c hc
  obtain ⟨j, hj⟩ := List.mem_iff_getElem?.mp hc
  exact h j c hj
def R_law_is_deed (ds : List PyData) (r : PyData) : Prop := ∃ x : Item, ds = [x.enc] ∧ x.short ∧ r = .bool x.good
def signP : PyData → Bool
  | .str y => !decide (y.cps.toList.all letterOk = true)
  | _ => false
theorem odd_none {w : Str} : ((sgnD w).filter signP).length = 0 ↔ w.cps.toList.all letterOk = true := by
  unfold sgnD
  rw [List.length_eq_zero_iff, List.filter_eq_nil_iff, List.all_eq_true]
  constructor
  · intro h c hc
    have := h (.str ⟨#[c]⟩) (List.mem_map.mpr ⟨c, hc, rfl⟩)
    simpa [signP] using this
  · intro h x hx
    obtain ⟨c, hc, rfl⟩ := List.mem_map.mp hx
    simpa [signP] using h c hc
section
variable {F : Fm} {M : List (Addr × OC)} {σ : L2.St} {H : Hp} {K : PySem.W.Frag} {tb : Addr} {kd : Str} {ds : List PyData} {k : Int} {x4 x5 : SD} {D : Ends}
abbrev tt1 (K : PySem.W.Frag) : TT := tAnd (tTest (tOp (rInD K) (tOp (rIx K) (tVar 0) (tC (.int 0))) (tLst (tCons (tC (.str "add")) (tCons (tC (.str "word")) tNil))))) (tTest (tOp (rEqD K) (tVar 2) (tC (.int 2))))
abbrev rInt1 : List V → Hp → VK → Prop := fun xs H Q => (∃ i, xs = [.int i] ∧ Q (.int i) H) ∨ ∃ k, xs = [.bl k] ∧ Q (.int (if k then 1 else 0)) H
abbrev tt2 (K : PySem.W.Frag) : TT := tOr (tB (tCB (rIsi K) (tCons (tOp (rIx K) (tVar 0) (tVar 2)) (tCons (tC (.ty "bool")) tNil)))) (tTest (tOp (rI0 fun i j => .bl (decide (i < j))) (tOp (rIx K) (tVar 0) (tVar 2)) (tCB rInt1 (tCons (tOp (rEqD K) (tVar 2) (tC (.int 1))) tNil))))
abbrev dl (kd : Str) (ds : List PyData) (tb : Addr) (k : Int) (x4 x5 : SD) : List SD := [.dat (.tuple (.str kd :: ds)), .raw (.ref tb), .dat (.int k), x4, x5]
theorem et_tt1 (hk : PyData.strOk kd = true) : Et F M (dl kd ds tb k x4 x5) (tt1 K) ((decide ("add" = kd) || decide ("word" = kd)) && decide (k = 2)) := by
  refine et_and (et_is (et_test (ev_in (d := .str kd) (ds := [.str "add", .str "word"]) (ev_ixT (ev_var rfl) ev_int (atI_0 _ _)) (ev_lst (ea_cons ev_str (ea_cons ev_str ea_nil))) (sh_str hk) (by decide +kernel))) ?_) fun _ => et_test (ev_eqI (ev_var rfl) ev_int)
  rw [List.any_cons, List.any_cons, List.any_nil, eqv_strs, eqv_strs, Bool.or_false]
theorem turn_int {tw : TS} {z : Int} (hk : PyData.strOk kd = true) (h1 : ((decide ("add" = kd) || decide ("word" = kd)) && decide (k = 2)) = false) (hz : atI (.str kd :: ds) k = some (.int z)) (s : S F M (dl kd ds tb k x4 x5) σ H)
    (hn : decide ((if k = 1 then 1 else 0 : Int) ≤ z) = true → ∀ H', S F M (dl kd ds tb k x4 x5) σ H' → D.nx σ H') (hr : decide ((if k = 1 then 1 else 0 : Int) ≤ z) = false → ∀ H', S F M (dl kd ds tb k x4 x5) σ H' → tRet (tC (.bl false)) D σ H') :
    tIfS (tt1 K) tw (tIfS (tt2 K) (tRet (tC (.bl false))) tNext) D σ H := by
  refine st_no (et_is (et_tt1 hk) h1) s fun H1 s1 => ?_
  refine st_if (b := decide (z < (if k = 1 then 1 else 0 : Int))) (et_is (et_or (a := false) (et_B (ev_isi (b := false) (ev_ixT (ev_var rfl) (ev_var rfl) hz) (kit_bool _))) fun _ => et_test (ev_lt (ev_ixT (ev_var rfl) (ev_var rfl) hz) (ev_intB (ev_eqI (ev_var rfl) ev_int)))) ?_) s1 (fun hb H2 s2 => ?_) fun hb H2 s2 => ?_
  · rw [Bool.false_or]
    by_cases h : k = 1 <;> simp [h]
  · exact hr (by have := of_decide_eq_true hb; exact decide_eq_false (by omega)) H2 s2
  · exact hn (by have := of_decide_eq_false hb; exact decide_eq_true (by omega)) H2 s2
abbrev tOdd (K : PySem.W.Frag) : TE := tLc (iStr (tOp (rIx K) (tVar 0) (tC (.int 2)))) (gName 4) (tTest (tOp (fun x y H Q => ∃ (c : Nat) (z : Str), x = .str ⟨#[c]⟩ ∧ y = .str z ∧ Q (.bl (!decide (c ∈ z.cps.toList))) H) (tVar 4) (tC (.str LETT)))) (tVar 4) [4]
abbrev tWd (K : PySem.W.Frag) : TS := tSeq (tAsg (tOdd K) (gName 3)) (tIfS (tOr (tTest (tOp (rI0 fun i j => .bl (decide (i < j))) (tCB (rLenX K) (tCons (tOp (rIx K) (tVar 0) (tC (.int 2))) tNil)) (tC (.int 1)))) (tOr (tTest (tOp (rI0 fun i j => .bl (decide (j < i))) (tCB (rLenX K) (tCons (tOp (rIx K) (tVar 0) (tC (.int 2))) tNil)) (tC (.int 8)))) (tTest (tOp (rI0 fun i j => .bl (decide (j < i))) (tCB (rLenX K) (tCons (tVar 3) tNil)) (tC (.int 0)))))) (tRet (tC (.bl false))) tNext)
theorem turn_word {tv : TS} {w : Str} (hk : PyData.strOk kd = true) (h1 : (decide ("add" = kd) || decide ("word" = kd)) = true) (hw : atI (.str kd :: ds) 2 = some (.str w)) (hl : w.length ≤ 1000) (s : S F M (dl kd ds tb 2 x4 x5) σ H)
    (hn : wordOk w = true → ∀ σ' H', S F M (dl kd ds tb 2 .any .any) σ' H' → D.nx σ' H') (hr : wordOk w = false → ∀ σ' H', S F M (dl kd ds tb 2 .any .any) σ' H' → tRet (tC (.bl false)) D σ' H') :
    tIfS (tt1 K) (tWd K) tv D σ H := by
  refine st_yes (et_is (et_tt1 hk) (by rw [h1]; rfl)) s fun H1 s1 => ?_
  have hsl : (sgnD w).length = w.length := by unfold sgnD; rw [List.length_map, Array.length_toList]; rfl
  refine sq_asg (d := .list (((sgnD w).filter signP).map fun d => d)) (ev_lcF (p := signP) (f := fun d => d) (ei_str (ev_ixT (ev_var rfl) ev_int hw)) (by rw [hsl]; omega) (fun F' M' d hd => by
      obtain ⟨c, _, rfl⟩ := List.mem_map.mp hd
      refine et_is (et_test (ev_notInS (c := c) (y := LETT) (ev_var rfl) ev_str)) ?_
      show (!letterOk c) = !decide (([c] : List Nat).all letterOk = true)
      simp) (fun F' M' d hd _ => ev_var rfl)) s1 fun σ2 H2 s2 => ?_
  rw [List.map_id'] at s2
  refine st_if (b := !wordOk w) (et_is (et_or (et_test (ev_lt (ev_lenS (ev_ixT (ev_var rfl) ev_int hw) (by omega)) ev_int)) fun _ => et_or (et_test (ev_gt (ev_lenS (ev_ixT (ev_var rfl) ev_int hw) (by omega)) ev_int)) fun _ => et_test (ev_gt (ev_lenL (ev_var rfl)) ev_int)) ?_) s2 (fun hb H3 s3 => ?_) fun hb H3 s3 => ?_
  · unfold wordOk
    have e1 : decide ((w.length : Int) < 1) = !decide (1 ≤ w.length) := by by_cases h : 1 ≤ w.length <;> simp [h] <;> omega
    have e2 : decide ((8 : Int) < (w.length : Int)) = !decide (w.length ≤ 8) := by by_cases h : w.length ≤ 8 <;> simp [h] <;> omega
    have e3 : decide ((0 : Int) < (((sgnD w).filter signP).length : Int)) = !(w.cps.toList.all letterOk) := by
      cases h : w.cps.toList.all letterOk with
      | true => have := odd_none.mpr h; rw [this]; rfl
      | false =>
        refine decide_eq_true ?_
        have : ((sgnD w).filter signP).length ≠ 0 := fun e => by rw [odd_none.mp e] at h; cases h
        omega
    rw [e1, e2, e3]
    cases decide (1 ≤ w.length) <;> cases decide (w.length ≤ 8) <;> cases w.cps.toList.all letterOk <;> rfl
  · exact hr (by simpa using hb) _ _ (s3.le (.eq (.eq (.eq (.any (.any .nil))))))
  · exact hn (by simpa using hb) _ _ (s3.le (.eq (.eq (.eq (.any (.any .nil))))))
end
section
variable {P : Program} {w : World} {K : PySem.W.Frag} {mg : Str → Option Value} {base : Heap}
theorem sc__law_is_deed : FnScope ["_law_deed_here", "_law_sizes", "_law_k", "_law_odd", "_law_sign"] ["_law_deed_here"] (defScope s__law_is_deed) := ⟨rfl, rfl, rfl, by decide +kernel, rfl, by decide +kernel, by decide +kernel⟩
theorem c__law_is_deed (T : Txt K mg) : Cl P w K mg base CX0 1 "_law_is_deed" ["_law_deed_here"] (PureSp R_law_is_deed) := by
  refine pure_ok T.d__law_is_deed sc__law_is_deed (fun ds d h => by obtain ⟨x, rfl, _⟩ := h; rfl) (fun f cdv A outer s H E hr => ⟨_, (pss_cons (ps_set (i := 1) sc__law_is_deed.nd rfl (Or.inl rfl) (pe_disp (pps_cons pe_str pe_int (pps_cons pe_str pe_int (pps_cons pe_str pe_int (pps_cons pe_str pe_int pps_nil)))) (by rfl) (by rfl) (fun z => by cases z) (by decide)))
    (pss_cons (ps_if (PW.pt (pw_or (pt_not (pt_val (pe_callB call_isi (by rfl) T.z_isinstance (by decide +kernel) (pa_cons (pv 0) (pa_cons (pe_bltn (v := .ty "tuple") (u := .type "tuple") (by rfl) T.z_tuple (by decide +kernel) rfl) pa_nil))))) (pw_or (pt_cmpR op_lt (pe_callB call_len (by rfl) T.z_len PySem.boot_len (pa_cons (pv 0) pa_nil)) pe_int (nomark _)) (pw_or1 (pt_cmpR (op_neD hr.units) (pe_dget2 (hu_of hr) (pv 1) (pe_ix ix_seq (pv 0) pe_int (fun _ _ => rfl)) pe_int ⟨rfl, rfl, rfl, rfl⟩) (pe_callB call_len (by rfl) T.z_len PySem.boot_len (pa_cons (pv 0) pa_nil)) (nomark _)))))) (pss_one (ps_ret pe_bl)) pss_nil)
    (pss_cons (ps_for PassesOwn.never rfl (pi_range2 (by rfl) T.z_range (pa_cons pe_int (pa_cons (pe_callB call_len (by rfl) T.z_len PySem.boot_len (pa_cons (pv 0) pa_nil)) pa_nil))) (pg_name (i := 2) sc__law_is_deed.nd rfl (Or.inl rfl))
    (pss_one (ps_if (PW.pt (pw_and (pt_cmpR (op_inD (units65 hr)) (pe_ix ix_seq (pv 0) pe_int (fun _ _ => rfl)) (pe_lst (pa_cons pe_str (pa_cons pe_str pa_nil))) rfl) (pw_and1 (pt_cmpR (op_eqD hr.units) (pv 2) pe_int (nomark _))))) (pss_cons (ps_setLc (i := 3) (own := [("_law_sign", 4)]) (g := gName 4) rfl sc__law_is_deed.nd rfl rfl (sw_true rfl rfl rfl (by decide +kernel)) (pi_str (pe_ix ix_seq (pv 0) pe_int (fun _ _ => rfl))) (blkOk_by (own := [("_law_sign", 4)]) (N := ["_law_deed_here", "_law_sizes", "_law_k", "_law_odd", "_law_sign"]) (sc := (defScope s__law_is_deed)) (by decide +kernel)) (fun _ _ _ _ _ => (pg_name (i := 4) sc__law_is_deed.nd rfl (Or.inl rfl))) (fun _ _ _ _ _ => (pts_one (pt_cmpR op_notIn_sign (pv 4) pe_str rfl))) (fun _ _ _ _ _ => (pv 4)))
    (pss_one (ps_if (PW.pt (pw_or (pt_cmpR op_lt (pe_callB call_len (by rfl) T.z_len PySem.boot_len (pa_cons (pe_ix ix_seq (pv 0) pe_int (fun _ _ => rfl)) pa_nil)) pe_int (nomark _)) (pw_or (pt_cmpR op_gt (pe_callB call_len (by rfl) T.z_len PySem.boot_len (pa_cons (pe_ix ix_seq (pv 0) pe_int (fun _ _ => rfl)) pa_nil)) pe_int (nomark _)) (pw_or1 (pt_cmpR op_gt (pe_callB call_len (by rfl) T.z_len PySem.boot_len (pa_cons (pv 3) pa_nil)) pe_int (nomark _)))))) (pss_one (ps_ret pe_bl)) pss_nil))) (pss_one (ps_if (PW.pt (pw_or (pt_val (pe_callB call_isi (by rfl) T.z_isinstance (by decide +kernel) (pa_cons (pe_ix ix_seq (pv 0) (pv 2) (fun _ _ => rfl)) (pa_cons (pe_bltn (v := .ty "bool") (u := .type "bool") (by rfl) T.z_bool (by decide +kernel) rfl) pa_nil)))) (pw_or1 (pt_cmpR op_lt (pe_ix ix_seq (pv 0) (pv 2) (fun _ _ => rfl)) (pe_callTy call_int1 (by rfl) T.z_int (by decide +kernel) (pa_cons (pe_cmpR (op_eqD hr.units) (pv 2) pe_int (nomark _)) pa_nil)) (nomark _))))) (pss_one (ps_ret pe_bl)) pss_nil)))))
    (pss_one (ps_ret pe_bl))))), ?_⟩)
  rintro O ds r σ ⟨x, rfl, hsh, rfl⟩ s Q q
  have out : ∀ b : Bool, x.good = b → ∀ u H', Same H H' → Rp (shr O H') u (.bool b) → Q u H' := fun b hb u H' e r => q u H' e (by rw [hb]; exact r)
  refine sq_raw (kvs0 := sizesK) s (fun σ H Q q => q) (by decide) fun tb σ1 H1 s1 => ?_
  have hmg : mergeK [] sizesK = sizesK := by decide +kernel
  rw [hmg] at s1
  cases x with
  | j n =>
    have get : ∀ (kd : Str) (n : Int) (xs : List PyData), (valV sizesK (Sum.inr kd : Key)).getD (.int 0) = .int n → Ev ((F0 O H).own tb) [(tb, .raw (.dK sizesK))] [.dat (.tuple (.str kd :: xs)), .raw (.ref tb), .any, .any, .any] (tDGet2 (tVar 1) (tOp (rIx K) (tVar 0) (tC (.int 0))) (tC (.int 0))) (.int n) := fun kd n xs h => ev_dgetS (er_var rfl) List.mem_cons_self (ev_ixT (ev_var rfl) ev_int (atI_0 _ _)) ev_int h
    match n, s1 with
    | 0, s1 => exact sq_yesN (et_is (et_or (et_not (a := true) (et_B (ev_isi (ev_var rfl) (kit_tuple _)))) fun _ => et_or (et_test (ev_lt (ev_lenT (ev_var rfl)) ev_int)) fun _ => et_test (ev_neI (get "cut" 0 [.int 1] (by decide +kernel)) (ev_lenT (ev_var rfl)))) (by decide)) s1 fun H2 s2 => st_retM ev_bl s2 (out false rfl)
    | 1, s1 => exact sq_yesN (et_is (et_or (et_not (a := true) (et_B (ev_isi (ev_var rfl) (kit_tuple _)))) fun _ => et_or (et_test (ev_lt (ev_lenT (ev_var rfl)) ev_int)) fun _ => et_test (ev_neI (get "add" 5 [.int 1, .str "a", .int 0] (by decide +kernel)) (ev_lenT (ev_var rfl)))) (by decide)) s1 fun H2 s2 => st_retM ev_bl s2 (out false rfl)
    | 2, s1 => exact sq_yesN (et_or (a := true) (b := true) (et_not (a := false) (et_B (ev_isi (ev_var rfl) (kit_tuple _)))) (fun h => nomatch h)) s1 fun H2 s2 => st_retM ev_bl s2 (out false rfl)
    | 3, s1 =>
      refine sq_noN (et_is (et_or (et_not (a := true) (et_B (ev_isi (ev_var rfl) (kit_tuple _)))) fun _ => et_or (et_test (ev_lt (ev_lenT (ev_var rfl)) ev_int)) fun _ => et_test (ev_neI (get "drop" 2 [.bool true] (by decide +kernel)) (ev_lenT (ev_var rfl)))) (by decide)) s1 fun H2 s2 => ?_
      refine sq_for (α := Unit) (fun _ _ => [(tb, .raw (.dK sizesK))]) (fun _ _ => [.dat (.tuple [.str "drop", .bool true]), .raw (.ref tb), .any, .any, .any]) (fun i _ => i = 0) () (ei_range2 ev_int (ev_lenT (ev_var rfl)) (by decide)) s2 rfl rfl (Le.refl _) ?_ ?_
      · rintro B i ⟨⟩ d σ H v hd rfl s r
        cases hd
        refine tg_use tg_name s r fun σ3 s3 => ?_
        refine st_no (et_is (et_tt1 (kd := "drop") (ds := [.bool true]) (by decide +kernel)) (by decide)) s3 fun H4 s4 => ?_
        refine st_yes (et_or (a := true) (b := true) (et_B (ev_isi (b := true) (ev_ixT (d := .bool true) (ev_var rfl) (ev_var rfl) rfl) (kit_bool _))) (fun h => nomatch h)) s4 fun H5 s5 => ?_
        exact st_retM ev_bl s5 (out false rfl)
      · rintro ⟨⟩ σ H h s
        exact absurd h (by decide)
    | 4, s1 => exact sq_yesN (et_is (et_or (et_not (a := true) (et_B (ev_isi (ev_var rfl) (kit_tuple _)))) fun _ => et_or (et_test (ev_lt (ev_lenT (ev_var rfl)) ev_int)) fun _ => et_test (ev_neI (get "drop" 2 [.int 1, .int 1] (by decide +kernel)) (ev_lenT (ev_var rfl)))) (by decide)) s1 fun H2 s2 => st_retM ev_bl s2 (out false rfl)
    | 5, s1 => exact sq_yesN (et_or (a := true) (b := true) (et_not (a := false) (et_B (ev_isi (ev_var rfl) (kit_tuple _)))) (fun h => nomatch h)) s1 fun H2 s2 => st_retM ev_bl s2 (out false rfl)
    | 6, s1 => exact sq_yesN (et_or (a := true) (b := true) (et_not (a := false) (et_B (ev_isi (ev_var rfl) (kit_tuple _)))) (fun h => nomatch h)) s1 fun H2 s2 => st_retM ev_bl s2 (out false rfl)
    | 7, s1 => exact sq_yesN (et_or (a := true) (b := true) (et_not (a := false) (et_B (ev_isi (ev_var rfl) (kit_tuple _)))) (fun h => nomatch h)) s1 fun H2 s2 => st_retM ev_bl s2 (out false rfl)
    | 8, s1 => exact sq_yesN (et_is (et_or (a := false) (b := true) (et_not (a := true) (et_B (ev_isi (ev_var rfl) (kit_tuple _)))) fun _ => et_or (a := true) (b := true) (et_is (et_test (ev_lt (ev_lenT (ds := []) (ev_var rfl)) ev_int)) (by decide)) (fun h => nomatch h)) (by rfl)) s1 fun H2 s2 => st_retM ev_bl s2 (out false rfl)
    | n + 9, s1 => exact sq_yesN (et_or (a := true) (b := true) (et_not (a := false) (et_B (ev_isi (ev_var rfl) (kit_tuple _)))) (fun h => nomatch h)) s1 fun H2 s2 => st_retM ev_bl s2 (out false rfl)
  | d x =>
    have first : ∀ (kd : Str) (n : Int) (xs : List PyData), (valV sizesK (Sum.inr kd : Key)).getD (.int 0) = .int n → ((xs.length : Int) + 1) = n → 1 ≤ xs.length → Et ((F0 O H).own tb) [(tb, .raw (.dK sizesK))] [.dat (.tuple (.str kd :: xs)), .raw (.ref tb), .any, .any, .any]
        (tOr (tNot (tB (tCB (rIsi K) (tCons (tVar 0) (tCons (tC (.ty "tuple")) tNil))))) (tOr (tTest (tOp (rI0 fun i j => .bl (decide (i < j))) (tCB (rLenX K) (tCons (tVar 0) tNil)) (tC (.int 2)))) (tTest (tOp (rNeD K) (tDGet2 (tVar 1) (tOp (rIx K) (tVar 0) (tC (.int 0))) (tC (.int 0))) (tCB (rLenX K) (tCons (tVar 0) tNil)))))) false := fun kd n xs h hn h1 =>
      et_is (et_or (et_not (a := true) (et_B (ev_isi (ev_var rfl) (kit_tuple _)))) fun _ => et_or (et_test (ev_lt (ev_lenT (ev_var rfl)) ev_int)) fun _ => et_test (ev_neI (ev_dgetS (er_var rfl) List.mem_cons_self (ev_ixT (ev_var rfl) ev_int (atI_0 _ _)) ev_int h) (ev_lenT (ev_var rfl)))) (by
        have e1 : decide ((((.str kd :: xs : List PyData).length : Nat) : Int) < 2) = false := decide_eq_false (by simp only [List.length_cons]; omega)
        have e2 : decide (n = (((.str kd :: xs : List PyData).length : Nat) : Int)) = true := decide_eq_true (by simp only [List.length_cons]; omega)
        rw [e1, e2]; rfl)
    have run : ∀ (kd : Str) (xs : List PyData) (H2 : Hp), PyData.strOk kd = true → x.enc = .tuple (.str kd :: xs) → xs.length = (chk x).length → xs.length ≤ 4 → S ((F0 O H).own tb) [(tb, .raw (.dK sizesK))] [.dat (.tuple (.str kd :: xs)), .raw (.ref tb), .any, .any, .any] σ1 H2 →
        (∀ (i : Nat) (c : Bool), (chk x)[i]? = some c → (∃ z : Int, ((decide ("add" = kd) || decide ("word" = kd)) && decide (((1 + i : Nat) : Int) = 2)) = false ∧ atI (.str kd :: xs) ((1 + i : Nat) : Int) = some (.int z) ∧ c = decide ((if ((1 + i : Nat) : Int) = 1 then 1 else 0 : Int) ≤ z)) ∨ (∃ v : Str, i = 1 ∧ (decide ("add" = kd) || decide ("word" = kd)) = true ∧ atI (.str kd :: xs) 2 = some (.str v) ∧ v.length ≤ 1000 ∧ c = wordOk v)) →
        tSeq (tFor (iRng2 (tCons (tC (.int 1)) (tCons (tCB (rLenX K) (tCons (tVar 0) tNil)) tNil))) (gName 2) (tIfS (tt1 K) (tWd K) (tIfS (tt2 K) (tRet (tC (.bl false))) tNext))) (tRet (tC (.bl true))) { nx := fun _ H' => Q .non H', rt := Q } σ1 H2 := fun kd xs H2 hkd hxe hxl hx4 s2 hst => by
      have hcnt : ((.str kd :: xs : List PyData).length : Int) - 1 = (xs.length : Int) := by simp only [List.length_cons]; omega
      refine sq_for (α := Unit) (fun _ _ => [(tb, .raw (.dK sizesK))]) (fun _ _ => [.dat (.tuple (.str kd :: xs)), .raw (.ref tb), .any, .any, .any]) (fun i _ => ∀ (j : Nat) (c : Bool), j < i → (chk x)[j]? = some c → c = true) () (ei_range2 ev_int (ev_lenT (ev_var rfl)) (by simp only [List.length_cons]; omega)) s2 (fun j c h => absurd h (Nat.not_lt_zero _)) rfl (Le.refl _) ?_ ?_
      · rintro B i ⟨⟩ d σ H v hd hok s r
        unfold rngD at hd
        rw [List.getElem?_map, hcnt, Int.toNat_natCast] at hd
        have hi : i < xs.length := by
          rcases Nat.lt_or_ge i xs.length with h | h
          · exact h
          · rw [List.getElem?_eq_none_iff.mpr (by rw [List.length_range]; exact h)] at hd; cases hd
        rw [List.getElem?_range hi] at hd
        cases hd
        have r : Rp _ v (.int (1 + ((i : Nat) : Int))) := r
        rw [show ((1 : Int) + ((i : Nat) : Int)) = ((1 + i : Nat) : Int) by omega] at r
        have hci : (chk x)[i]? = some (chk x)[i] := List.getElem?_eq_getElem (by omega)
        have more : (chk x)[i] = true → ∀ (j : Nat) (c : Bool), j < i + 1 → (chk x)[j]? = some c → c = true := fun ht j c hj hjc => by
          by_cases e : j = i
          · subst e; rw [hci] at hjc; cases hjc; exact ht
          · exact hok j c (by omega) hjc
        refine tg_use tg_name s r fun σ3 s3 => ?_
        rcases hst i _ hci with ⟨z, g1, g2, g3⟩ | ⟨u, rfl, g1, g2, g3, g4⟩
        · refine turn_int hkd g1 g2 s3 (fun hb H4 s4 => ⟨(), more (by rw [g3]; exact hb), s4.le (.eq (.eq (.any (.any (.any .nil)))))⟩) fun hb H4 s4 => st_retM ev_bl s4 (out false (chk_bad (i := i) (by rw [hci, g3, hb])))
        · refine turn_word hkd g1 g2 g3 s3 (fun hb σ4 H4 s4 => ⟨(), more (by rw [g4]; exact hb), s4.le (.eq (.eq (.any (.any (.any .nil)))))⟩) fun hb σ4 H4 s4 => st_retM ev_bl s4 (out false (chk_bad (i := 1) (by rw [hci, g4, hb])))
      · rintro ⟨⟩ σ H hok s
        unfold rngD at hok
        rw [List.length_map, List.length_range, hcnt, Int.toNat_natCast] at hok
        exact st_retM ev_bl s (out true (chk_good fun j c hjc => hok j c (by rw [hxl]; exact (List.getElem?_eq_some_iff.mp hjc).1) hjc))
    cases x with
    | add m u p b =>
      refine sq_noN (first "add" 5 [.int m, .str u, .int p, .int b] (by decide +kernel) rfl (Nat.le_of_ble_eq_true rfl)) s1 fun H2 s2 => ?_
      refine run "add" [.int m, .str u, .int p, .int b] H2 (by decide +kernel) rfl rfl (Nat.le_of_ble_eq_true rfl) s2 fun i c hc => ?_
      match i, hc with
      | 0, hc => cases hc; exact .inl ⟨m, by decide, rfl, by show decide (0 < m) = decide ((1 : Int) ≤ m); exact dec_congr (by omega)⟩
      | 1, hc => cases hc; exact .inr ⟨u, rfl, by decide, rfl, hsh, rfl⟩
      | 2, hc => cases hc; exact .inl ⟨p, by decide, rfl, rfl⟩
      | 3, hc => cases hc; exact .inl ⟨b, by decide, rfl, rfl⟩
      | n + 4, hc => simp [chk] at hc
    | drop m =>
      refine sq_noN (first "drop" 2 [.int m] (by decide +kernel) rfl (Nat.le_of_ble_eq_true rfl)) s1 fun H2 s2 => ?_
      refine run "drop" [.int m] H2 (by decide +kernel) rfl rfl (Nat.le_of_ble_eq_true rfl) s2 fun i c hc => ?_
      match i, hc with
      | 0, hc => cases hc; exact .inl ⟨m, by decide, rfl, by show decide (0 < m) = decide ((1 : Int) ≤ m); exact dec_congr (by omega)⟩
      | n + 1, hc => simp [chk] at hc
    | move m p b =>
      refine sq_noN (first "move" 4 [.int m, .int p, .int b] (by decide +kernel) rfl (Nat.le_of_ble_eq_true rfl)) s1 fun H2 s2 => ?_
      refine run "move" [.int m, .int p, .int b] H2 (by decide +kernel) rfl rfl (Nat.le_of_ble_eq_true rfl) s2 fun i c hc => ?_
      match i, hc with
      | 0, hc => cases hc; exact .inl ⟨m, by decide, rfl, by show decide (0 < m) = decide ((1 : Int) ≤ m); exact dec_congr (by omega)⟩
      | 1, hc => cases hc; exact .inl ⟨p, by decide, rfl, rfl⟩
      | 2, hc => cases hc; exact .inl ⟨b, by decide, rfl, rfl⟩
      | n + 3, hc => simp [chk] at hc
    | word m u =>
      refine sq_noN (first "word" 3 [.int m, .str u] (by decide +kernel) rfl (Nat.le_of_ble_eq_true rfl)) s1 fun H2 s2 => ?_
      refine run "word" [.int m, .str u] H2 (by decide +kernel) rfl rfl (Nat.le_of_ble_eq_true rfl) s2 fun i c hc => ?_
      match i, hc with
      | 0, hc => cases hc; exact .inl ⟨m, by decide, rfl, by show decide (0 < m) = decide ((1 : Int) ≤ m); exact dec_congr (by omega)⟩
      | 1, hc => cases hc; exact .inr ⟨u, rfl, by decide, rfl, hsh, rfl⟩
      | n + 2, hc => simp [chk] at hc
end
end G
set_option Elab.async false
set_option linter.all false
set_option maxRecDepth 100000
set_option maxHeartbeats 4000000
namespace G
open PySem L2 Fo
section
variable {F : Fm} {l h : Addr} {M : List (Addr × OC)} {δ δ' : List SD} {σ : L2.St} {H H0 : Hp} {K : PySem.W.Frag} {ta tr : TA} {te to tx : TE} {tt : TT} {t u t2 tb : TS} {d : PyData} {ds : List PyData} {D : Ends} {i j : Nat} {O : Addr → Bool} {g : TG}
theorem S.swap {A B : Addr × OC} (s : S F (A :: B :: M) δ σ H) : S F (B :: A :: M) δ σ H :=
  ⟨s.sl, s.dom, s.nsub, s.osub, s.kp0, s.fr, s.kps, fun p hp => s.own p (by
    rcases List.mem_cons.mp hp with rfl | hp
    · exact List.mem_cons_of_mem _ List.mem_cons_self
    · rcases List.mem_cons.mp hp with rfl | hp
      · exact List.mem_cons_self
      · exact List.mem_cons_of_mem _ (List.mem_cons_of_mem _ hp)), by
    have := s.nd
    simp only [List.map_cons, List.nodup_cons, List.mem_cons, not_or] at this ⊢
    exact ⟨⟨fun e => this.1.1 e.symm, this.2.1⟩, this.1.2, this.2.2⟩⟩
/-- a list of its own -/
theorem sp_own {es : List PyData} (he : ∀ pd, Ea F ((l, .lst pd) :: M) δ ta es) (s : SP F l M δ σ H)
    (k : ∀ h σ' H', h ≠ l → SP (F.own h) l ((h, OC.lst es) :: M) (δ.set i (.raw (.ref h))) σ' H' → u D σ' H')
    (hl : es.length ≤ 16777216 := by first | decide | (simp only [List.length_cons, List.length_nil]; decide)) : tSeq (tAsg (tLst ta) (gName i)) u D σ H := by
  obtain ⟨pd, hp, s'⟩ := s.ex
  refine sq_own (he pd) s' (fun h σ' H' hO s2 => k h σ' H' ?_ ⟨⟨pd, hp, s2.swap⟩, orA_l s.w⟩) hl
  rintro rfl
  have := s2.nd
  simp at this
/-- a list of its own grows -/
theorem sp_append {es : List PyData} (hx : ∀ pd, Er F ((l, .lst pd) :: (h, OC.lst es) :: M) δ to (.ref h)) (he : ∀ pd, Ev F ((l, .lst pd) :: (h, OC.lst es) :: M) δ te d) (hN : F.N h = true) (hl : es.length < 16777216) (s : SP F l ((h, OC.lst es) :: M) δ σ H)
    (k : ∀ H', SP F l ((h, OC.lst (es ++ [d])) :: M) δ σ H' → u D σ H') : tSeq (tDrop (tBM K "list" rAppend to (tCons te tNil))) u D σ H := by
  obtain ⟨pd, hp, s'⟩ := s.ex
  exact sq_append 1 (hx pd) (he pd) rfl hN hl s' fun H' s2 => k H' ⟨⟨pd, hp, s2⟩, s.w⟩
theorem sp_for {α : Type} {wi : TI} (Mf : Nat → α → List (Addr × OC)) (δf : Nat → α → List SD) (ok : Nat → α → Prop) (a0 : α) (hw : ∀ pd, Evi F ((l, .lst pd) :: M) δ wi ds) (s : SP F l M δ σ H)
    (h0 : ok 0 a0) (hM : Mf 0 a0 = M) (hle : Le δ (δf 0 a0))
    (turn : ∀ (B : Hp) (i : Nat) (a : α) (d : PyData) (σ : L2.St) (H : Hp) (v : V), ds[i]? = some d → ok i a → SP (F.push B) l (Mf i a) (δf i a) σ H → Rp (shr F.O H) v d →
      g v σ H fun σ2 H2 => tb { D with nx := fun σ' H' => ∃ a', ok (i + 1) a' ∧ SP (F.push B) l (Mf (i + 1) a') (δf (i + 1) a') σ' H', ct := fun σ' H' => ∃ a', ok (i + 1) a' ∧ SP (F.push B) l (Mf (i + 1) a') (δf (i + 1) a') σ' H', bk := u D } σ2 H2)
    (done : ∀ (a : α) (σ : L2.St) (H : Hp), ok ds.length a → SP F l (Mf ds.length a) (δf ds.length a) σ H → u D σ H) : tSeq (tFor wi g tb) u D σ H := by
  obtain ⟨pd0, hp0, s'⟩ := s.ex
  refine sq_for (α := α × List PyData) (fun i a => (l, .lst a.2) :: Mf i a.1) (fun i a => δf i a.1) (fun i a => ok i a.1 ∧ PoolD a.2) (a0, pd0) (hw pd0) s' ⟨h0, hp0⟩ (by show _ :: Mf 0 a0 = _; rw [hM]) hle ?_ ?_
  · rintro B i ⟨a, pd⟩ d σ H v hd ⟨hok, hpd⟩ s1 r
    have e : ∀ B i, (fun (σ' : L2.St) (H' : Hp) => ∃ a' : α × List PyData, (ok (i + 1) a'.1 ∧ PoolD a'.2) ∧ S (F.push B) ((l, .lst a'.2) :: Mf (i + 1) a'.1) (δf (i + 1) a'.1) σ' H') = fun σ' H' => ∃ a', ok (i + 1) a' ∧ SP (F.push B) l (Mf (i + 1) a') (δf (i + 1) a') σ' H' := fun B i => by
      funext σ' H'
      refine propext ⟨?_, ?_⟩
      · rintro ⟨⟨a', pd'⟩, ⟨h1, h2⟩, h3⟩
        exact ⟨a', h1, ⟨pd', h2, h3⟩, s.w⟩
      · rintro ⟨a', h1, ⟨⟨pd', h2, h3⟩, _⟩⟩
        exact ⟨(a', pd'), ⟨h1, h2⟩, h3⟩
    have := turn B i a d σ H v hd hok ⟨⟨pd, hpd, s1⟩, s.w⟩ r
    rw [← e B i] at this
    exact this
  · rintro ⟨a, pd⟩ σ H ⟨hok, hpd⟩ s1
    exact done a σ H hok ⟨⟨pd, hpd, s1⟩, s.w⟩
theorem sp_useG {v : V} {k : L2.St → Hp → Prop} (s : SP F l M δ σ H) (r : Rp (shr F.O H) v d) (h : ∀ σ', SP F l M (δ.set i (.dat d)) σ' H → k σ' H) : gName i v σ H k := h _ (s.set r i)
theorem sp_meet {ι : Type} {B : Bool → Prop} (I : ι → L2.St → Hp → Prop) (ht : Etp F l M δ tt B) (s : SP F l M δ σ H) (k1 : ∀ H', SP F l M δ σ H' → (∀ x σ' H', I x σ' H' → u D σ' H') → t { D with nx := u D } σ H') (k2 : ∀ H', SP F l M δ σ H' → (∀ x σ' H', I x σ' H' → u D σ' H') → u D σ H') (fin : ∀ x σ' H', I x σ' H' → u D σ' H') : tSeq (tIfS tt t tNext) u D σ H :=
  sp_ifN ht s (fun _ H' s' => k1 H' s' fin) fun _ H' s' => k2 H' s' fin
end
def Pre_hist (ds : List PyData) : Prop := ∃ (n : Nat) (b : Bool), ds = [.int n, .bool b] ∧ n ≤ 5
def HistP (r : PyData) : Prop := ∃ xs : List Item, r = .list (xs.map Item.enc) ∧ (∀ x ∈ xs, x.tame) ∧ xs.length ≤ 5
def R_hist (_ : List PyData) (r : PyData) : Prop := HistP r
def itemFree (t : Fo) : Item → Bool
  | .d y => (reasonAt t y).isNone
  | .j _ => false
theorem less2 {es : List PyData} (h : ∃ x y, es = [x, y] ∧ Less 5 x ∧ Less 5 y) : ∃ a b : Int, es = [a, b].map PyData.int := by
  obtain ⟨x, y, rfl, ⟨a, rfl, _⟩, ⟨b, rfl, _⟩⟩ := h
  exact ⟨a, b, rfl⟩
section
variable {P : Program} {w : World} {K : PySem.W.Frag} {mg : Str → Option Value} {base : Heap}
theorem sc__law_history : FnScope ["_law_pool_here", "_law_many", "_law_spoilt", "_law_rows", "_law_history_here", "_law_at", "_law_k", "_law_deed_here"] ["_law_pool_here", "_law_many", "_law_spoilt"] (defScope s__law_history) := ⟨rfl, rfl, rfl, by decide +kernel, rfl, by decide +kernel, by decide +kernel⟩
theorem c__law_history (T : Txt K mg) : Cl P w K mg base CX0 5 "_law_history" ["_law_pool_here", "_law_many", "_law_spoilt"] (PSp Pre_hist R_hist) := by
  refine pool_ok T.d__law_history sc__law_history (fun ds h => by obtain ⟨n, b, rfl, _⟩ := h; rfl) (fun f cdv A outer s0 H0 E hr => ⟨_, (pss_cons (ps_set (i := 3) sc__law_history.nd rfl (Or.inl rfl) (pe_lst pa_nil))
    (pss_cons (ps_set (i := 4) sc__law_history.nd rfl (Or.inl rfl) (pe_lst pa_nil))
    (pss_cons (ps_set (i := 5) sc__law_history.nd rfl (Or.inl rfl) (pe_lst (pa_cons (pe_k (c__law_draw T) hr (by decide) rfl pass0 (pa_cons (pv 0) (pa_cons pe_int pa_nil))) (pa_cons (pe_k (c__law_draw T) hr (by decide) rfl pass0 (pa_cons (pv 0) (pa_cons pe_int pa_nil))) pa_nil))))
    (pss_cons (ps_for PassesOwn.never rfl (pi_range1 (by rfl) T.z_range (pa_cons (pv 1) pa_nil)) (pg_name (i := 6) sc__law_history.nd rfl (Or.inl rfl))
    (pss_cons (ps_set (i := 7) sc__law_history.nd rfl (Or.inl rfl) (pe_k (c__law_deed T) hr (by decide) rfl pass0 (pa_cons (pv 0) (pa_cons (pv 3) pa_nil))))
    (pss_cons (ps_if (PW.pt (pw_and (pt_val (pv 2)) (pw_and1 (pt_cmpR (op_inD (units65 hr)) (pv 6) (pv 5) rfl)))) (pss_one (ps_set (i := 7) sc__law_history.nd rfl (Or.inl rfl) (pe_k (c__law_raw T) hr (by decide) rfl pass0 (pa_cons (pv 0) pa_nil)))) pss_nil)
    (pss_cons (ps_expr (pe_bm PySem.F.plainAttrs_list PySem.F.slot_list_append PySem.F.type_list_append mt_append (pv 4) (pa_cons (pv 7) pa_nil)))
    (pss_one (ps_if (PW.pt (pw_and (pt_val (pe_k (c__law_is_deed T) hr (by decide) rfl pass0 (pa_cons (pv 7) pa_nil))) (pw_and1 (pt_cmpR (op_eqD hr.units) (pe_k (c__law_reason T) hr (by decide) rfl pass0 (pa_cons (pv 3) (pa_cons (pv 7) pa_nil))) pe_str (nomark _))))) (pss_one (ps_set (i := 3) sc__law_history.nd rfl (Or.inl rfl) (pe_k (c__law_done T) hr (by decide) rfl pass0 (pa_cons (pv 3) (pa_cons (pv 7) pa_nil))))) pss_nil))))))
    (pss_one (ps_ret (pv 4))))))), ?_⟩)
  rintro O l ds σ ⟨n, sp, rfl, hn⟩ s Q q
  refine sp_asg (P := fun d => d = rowsD (flat 0 .nil)) (ep_of fun _ _ => ev_lst ea_nil) s fun d σ1 H1 hd s1 => ?_
  subst hd
  refine sp_own (es := []) (fun _ => ea_nil) s1 fun h σ2 H2 hhl s2 => ?_
  refine sp_asg (ep_lst (eap_cons (ep_draw (n := 5) (fun _ => er_var rfl) (by decide)) (eap_cons (ep_draw (n := 5) (fun _ => er_var rfl) (by decide)) eap_nil)) ?_) s2 fun d σ3 H3 hd s3 => ?_
  · rintro ds ⟨x1, _, rfl, _, x2, _, rfl, _, rfl⟩; exact Nat.le_of_ble_eq_true rfl
  obtain ⟨es, rfl, he⟩ := hd
  obtain ⟨a, b, rfl⟩ : ∃ a b : Int, es = [a, b].map PyData.int := by
    obtain ⟨x1, _, rfl, ⟨a, rfl, _⟩, x2, _, rfl, ⟨b, rfl, _⟩, rfl⟩ := he
    exact ⟨a, b, rfl⟩
  refine sp_for (α := Fo × List Item) (fun _ a => [(h, OC.lst (a.2.map Item.enc))]) (fun _ u => [.raw (.ref l), .dat (.int n), .dat (.bool sp), .dat (rowsD (flat 0 u.1)), .raw (.ref h), .dat (.list ([a, b].map PyData.int)), .any, .any]) (fun i u => Ok u.1 ∧ u.1.size ≤ i ∧ u.2.length = i ∧ ∀ x ∈ u.2, x.tame) (.nil, []) (fun _ => ei_range1 (i := (n : Int)) (ev_var rfl) (by omega) (by omega)) s3 ⟨nil_ok, Nat.le_refl _, rfl, fun x hx => absurd hx List.not_mem_nil⟩ rfl (Le.refl _) ?_ ?_
  · rintro B i ⟨t, xs⟩ d σ H v hd ⟨h1, h2, h3, h4⟩ s r
    dsimp only at h1 h2 h3 h4 s
    unfold rngD at hd
    rw [List.getElem?_map, Int.toNat_natCast] at hd
    have hi : i < n := by
      rcases Nat.lt_or_ge i n with h | h
      · exact h
      · rw [List.getElem?_eq_none_iff.mpr (by rw [List.length_range]; exact h)] at hd; cases hd
    rw [List.getElem?_range hi] at hd
    cases hd
    refine sp_useG s r fun σ1 s1 => ?_
    refine sp_asg (ep_call (fun _ => er_var rfl) (eap_cons (ep_of fun _ _ => ev_var rfl) eap_nil) (fun ds hds => by obtain ⟨x1, _, rfl, rfl, rfl⟩ := hds; exact ⟨t, rfl, h1, by omega⟩)) s1 fun d σ2 H2 hd s2 => ?_
    obtain ⟨ds2, _, y, hy, rfl⟩ := hd
    refine sp_meet (B := fun c => c = (sp && decide (((0 : Int) + (i : Nat)) ∈ [a, b]))) (fun (x : Item) σ' H' => x.tame ∧ SP (((FP O l H0).own h).push B) l [(h, OC.lst (xs.map Item.enc))] [.raw (.ref l), .dat (.int n), .dat (.bool sp), .dat (rowsD (flat 0 t)), .raw (.ref h), .dat (.list ([a, b].map PyData.int)), .dat (.int (0 + (i : Int))), .dat x.enc] σ' H')
      (etp_of fun _ _ => et_and (et_test (ev_var rfl)) fun _ => et_is (et_test (ev_in (ev_var rfl) (ev_var rfl) sh_int (ints_shaped _))) (by rw [ints_any])) s2 (fun H3 s3 fin => ?_) (fun H3 s3 fin => fin (.d y) _ _ ⟨fine_tame (good_fine hy), s3⟩) ?_
    · refine stp_asg (ep_call (fun _ => er_var rfl) eap_nil fun ds h => h) s3 fun d σ4 H4 hd s4 => ?_
      obtain ⟨_, _, x, hx, rfl⟩ := hd
      exact fin x _ _ ⟨hx, s4⟩
    rintro x σ3 H3 ⟨hx, s3⟩
    refine sp_append (fun _ => er_var rfl) (fun _ => ev_var rfl) (orA_r) (by rw [List.length_map, h3]; omega) s3 fun H4 s4 => ?_
    have hxs : ∀ z ∈ xs ++ [x], z.tame := fun z hz => by
      rcases List.mem_append.mp hz with hz | hz
      · exact h4 z hz
      · rw [List.mem_singleton.mp hz]; exact hx
    have e : xs.map Item.enc ++ [x.enc] = (xs ++ [x]).map Item.enc := by rw [List.map_append]; rfl
    rw [e] at s4
    refine stp_if (B := fun c => c = (x.good && itemFree t x)) (etp_of fun _ _ => et_and (et_test (ev_call (ea_cons (ev_var rfl) ea_nil) ⟨x, rfl, hx.1, rfl⟩)) fun hg => ?_) s4 (fun hb H5 s5 => ?_) fun hb H5 s5 => ⟨(t, xs ++ [x]), ⟨h1, by show t.size ≤ i + 1; omega, by rw [List.length_append, h3]; rfl, hxs⟩, s5.le (.eq (.eq (.eq (.eq (.eq (.eq (.any (.any .nil))))))))⟩
    · cases x with
      | j n => cases hg
      | d z =>
        obtain ⟨rs1, rs2⟩ := reasonS_ok t z
        exact et_is (et_test (ev_eqS (ev_call (ea_cons (ev_var rfl) (ea_cons (ev_var rfl) ea_nil)) ⟨t, z, rfl, h1, by omega, rfl⟩) ev_str rs1)) (by rw [rs2]; rfl)
    · cases x with
      | j n => cases hb
      | d z =>
        have hb : ((Item.d z).good && (reasonAt t z).isNone) = true := hb.symm
        rw [Bool.and_eq_true] at hb
        have hre : reasonAt t z = none := Option.isNone_iff_eq_none.mp hb.2
        obtain ⟨o1, o2⟩ := behind_ok h1 hb.1 hre
        refine stp_asg (P := fun d => d = rowsD (flat 0 (behindT t z))) (ep_of fun _ _ => ev_call (ea_cons (ev_var rfl) (ea_cons (ev_var rfl) ea_nil)) ⟨t, z, rfl, h1, by omega, hre, rfl⟩) s5 fun d σ6 H6 hd s6 => ?_
        subst hd
        exact ⟨(behindT t z, xs ++ [.d z]), ⟨o1, by show (behindT t z).size ≤ i + 1; omega, by rw [List.length_append, h3]; rfl, hxs⟩, s6.le (.eq (.eq (.eq (.eq (.eq (.eq (.any (.any .nil))))))))⟩
  · rintro ⟨t, xs⟩ σ H ⟨h1, h2, h3, h4⟩ s
    dsimp only at h1 h2 h3 h4 s
    have hxl : xs.length ≤ 5 := by
      rw [h3]
      unfold rngD
      rw [List.length_map, List.length_range]
      omega
    exact stp_retO (fun _ => er_var rfl) s ⟨xs, rfl, h4, hxl⟩ q hhl
end
end G
set_option Elab.async false
set_option linter.all false
set_option maxRecDepth 100000
set_option maxHeartbeats 4000000
namespace G
open PySem L2 Fo
def refuse : Fo → List Deed → Option (Deed × Str)
  | _, [] => none
  | t, x :: r => match reasonAt t x with
    | none => refuse (behindT t x) r
    | some why => some (x, why)
def histD (xs : List Item) : PyData := .list (xs.map Item.enc)
def badP : Item → Bool := fun x => !x.good
def refD (x : Deed) (why : Str) : PyData := .tuple [.str "refusal", x.enc, .str why]
def badD (x : Item) : PyData := .tuple [.str "script", x.enc]
def refs (xs : List Item) : Option (Deed × Str) := refuse .nil (deedsOf xs)
def faultD (hs : List (List Item)) : PyData := match hs.flatten.find? badP with
  | some x => badD x
  | none => match hs.findSome? refs with
    | some p => refD p.1 p.2
    | none => .none
def R_law_fault (ds : List PyData) (r : PyData) : Prop := ∃ hs : List (List Item), ds = [.list (hs.map histD)] ∧ (∀ xs ∈ hs, (∀ x ∈ xs, x.short) ∧ xs.length ≤ 10) ∧ r = faultD hs
section
variable {P : Program} {w : World} {K : PySem.W.Frag} {mg : Str → Option Value} {base : Heap}
theorem sc__law_fault : FnScope ["_law_histories", "_law_history_here", "_law_deed_here", "_law_rows", "_law_reason_here"] ["_law_histories"] (defScope s__law_fault) := ⟨rfl, rfl, rfl, by decide +kernel, rfl, by decide +kernel, by decide +kernel⟩
theorem c__law_fault (T : Txt K mg) : Cl P w K mg base CX0 4 "_law_fault" ["_law_histories"] (PureSp R_law_fault) := by
  refine pure_ok T.d__law_fault sc__law_fault (fun ds d h => by obtain ⟨hs, rfl, _⟩ := h; rfl) (fun f cdv A outer s H E hr => ⟨_, (pss_cons (ps_for PassesOwn.never rfl (pi_seq (pv 0)) (pg_name (i := 1) sc__law_fault.nd rfl (Or.inl rfl))
    (pss_one (ps_for PassesOwn.never rfl (pi_seq (pv 1)) (pg_name (i := 2) sc__law_fault.nd rfl (Or.inl rfl))
    (pss_one (ps_if (pt_not (pt_val (pe_k (c__law_is_deed T) hr (by decide) rfl pass0 (pa_cons (pv 2) pa_nil)))) (pss_one (ps_ret (pe_tup (pa_cons pe_str (pa_cons (pv 2) pa_nil))))) pss_nil)))))
    (pss_cons (ps_for PassesOwn.never rfl (pi_seq (pv 0)) (pg_name (i := 1) sc__law_fault.nd rfl (Or.inl rfl))
    (pss_cons (ps_set (i := 3) sc__law_fault.nd rfl (Or.inl rfl) (pe_lst pa_nil))
    (pss_one (ps_for PassesOwn.never rfl (pi_seq (pv 1)) (pg_name (i := 2) sc__law_fault.nd rfl (Or.inl rfl))
    (pss_cons (ps_set (i := 4) sc__law_fault.nd rfl (Or.inl rfl) (pe_k (c__law_reason T) hr (by decide) rfl pass0 (pa_cons (pv 3) (pa_cons (pv 2) pa_nil))))
    (pss_cons (ps_if (pt_cmpR (op_neD hr.units) (pv 4) pe_str (nomark _)) (pss_one (ps_ret (pe_tup (pa_cons pe_str (pa_cons (pv 2) (pa_cons (pv 4) pa_nil)))))) pss_nil)
    (pss_one (ps_set (i := 3) sc__law_fault.nd rfl (Or.inl rfl) (pe_k (c__law_done T) hr (by decide) rfl pass0 (pa_cons (pv 3) (pa_cons (pv 2) pa_nil)))))))))))
    (pss_one (ps_ret pe_non)))), ?_⟩)
  rintro O ds r σ ⟨hs, rfl, hall, rfl⟩ s Q q
  refine sq_for (α := List (List Item)) (fun _ _ => []) (fun _ _ => [.dat (.list (hs.map histD)), .any, .any, .any, .any]) (fun i a => hs.drop i = a ∧ hs.flatten.find? badP = a.flatten.find? badP) hs (ei_seq (ev_var rfl) (.inl rfl)) s ⟨rfl, rfl⟩ rfl (Le.refl _) ?_ ?_
  · rintro B i rest d σ H v hd ⟨h1, h2⟩ s r
    rw [List.getElem?_map] at hd
    cases hx : hs[i]? with
    | none => rw [hx] at hd; cases hd
    | some xs =>
      rw [hx] at hd
      cases hd
      cases rest with
      | nil => exact absurd h1 (drop_some hx)
      | cons y rest =>
        obtain ⟨rfl, h5⟩ := drop_step hx h1
        obtain ⟨hsh, hlen⟩ := hall xs (List.mem_of_getElem? hx)
        refine tg_use tg_name s r fun σ1 s1 => ?_
        refine st_for (α := List Item) (fun _ _ => []) (fun _ _ => [.dat (.list (hs.map histD)), .dat (histD xs), .any, .any, .any]) (fun j b => xs.drop j = b ∧ hs.flatten.find? badP = (b ++ rest.flatten).find? badP) xs (ei_seq (ev_var rfl) (.inl rfl)) s1 ⟨rfl, h2⟩ rfl (Le.refl _) ?_ ?_
        · rintro B j b d σ H v hd ⟨k1, k2⟩ s r
          rw [List.getElem?_map] at hd
          cases hz : xs[j]? with
          | none => rw [hz] at hd; cases hd
          | some z =>
            rw [hz] at hd
            cases hd
            cases b with
            | nil => exact absurd k1 (drop_some hz)
            | cons z2 b =>
              obtain ⟨rfl, k5⟩ := drop_step hz k1
              refine tg_use tg_name s r fun σ1 s1 => ?_
              refine st_if (b := !z.good) (et_not (et_test (ev_call (ea_cons (ev_var rfl) ea_nil) ⟨z, rfl, hsh z (List.mem_of_getElem? hz), rfl⟩))) s1 (fun hb H2 s2 => ?_) fun hb H2 s2 => ⟨b, ⟨k5, ?_⟩, s2.le (.eq (.eq (.any (.any (.any .nil)))))⟩
              · have e : faultD hs = badD z := by
                  unfold faultD
                  rw [k2, List.cons_append, List.find?_cons_of_pos (by exact hb)]
                exact st_retM (ev_is (ev_tup (ea_cons ev_str (ea_cons (ev_var rfl) ea_nil))) e.symm) s2 q
              · rw [k2, List.cons_append, List.find?_cons_of_neg (by show ¬ badP z = true; unfold badP; rw [hb]; exact Bool.false_ne_true)]
        · rintro b σ H ⟨k1, k2⟩ s
          rw [List.length_map] at k1
          have := drop_all k1
          subst this
          exact ⟨rest, ⟨h5, k2⟩, s.le (.eq (.any (.any (.any (.any .nil)))))⟩
  rintro rest σ H ⟨h1, h2⟩ s
  rw [List.length_map] at h1
  have := drop_all h1
  subst this
  have h2 : hs.flatten.find? badP = none := h2
  have hgood : ∀ xs ∈ hs, (xs.find? badP) = none := fun xs hxs => by
    rw [List.find?_eq_none] at h2 ⊢
    exact fun x hx => h2 x (List.mem_flatten.mpr ⟨xs, hxs, hx⟩)
  have e : faultD hs = (match hs.findSome? refs with
    | some p => refD p.1 p.2
    | none => .none) := by unfold faultD; rw [h2]
  rw [e] at q
  clear e
  refine sq_for (α := List (List Item)) (fun _ _ => []) (fun _ _ => [.dat (.list (hs.map histD)), .any, .any, .any, .any]) (fun i a => hs.drop i = a ∧ hs.findSome? refs = a.findSome? refs) hs (ei_seq (ev_var rfl) (.inl rfl)) s ⟨rfl, rfl⟩ rfl (Le.refl _) ?_ ?_
  · rintro B i rest d σ H v hd ⟨h1, h2⟩ s r
    rw [List.getElem?_map] at hd
    cases hx : hs[i]? with
    | none => rw [hx] at hd; cases hd
    | some xs =>
      rw [hx] at hd
      cases hd
      cases rest with
      | nil => exact absurd h1 (drop_some hx)
      | cons y rest =>
        obtain ⟨rfl, h5⟩ := drop_step hx h1
        obtain ⟨hsh, hlen⟩ := hall xs (List.mem_of_getElem? hx)
        obtain ⟨g1, g2⟩ := all_good (hgood xs (List.mem_of_getElem? hx))
        have hrefs : refs xs = refuse .nil (deedsOf xs) := rfl
        generalize hzs : deedsOf xs = zs at g1 g2 hrefs
        have hye : xs.map Item.enc = zs.map Deed.enc := by rw [g1, List.map_map]; rfl
        have hzl : zs.length ≤ 10 := by rw [g1, List.length_map] at hlen; exact hlen
        refine tg_use tg_name s r fun σ1 s1 => ?_
        refine sq_asg (d := rowsD (flat 0 .nil)) (ev_lst ea_nil) s1 fun σ2 H2 s2 => ?_
        refine st_for (α := Fo × List Deed) (ds := zs.map Deed.enc) (fun _ _ => []) (fun _ u => [.dat (.list (hs.map histD)), .dat (histD xs), .any, .dat (rowsD (flat 0 u.1)), .any]) (fun j u => zs.drop j = u.2 ∧ refuse .nil zs = refuse u.1 u.2 ∧ Ok u.1 ∧ Fits u.1 u.2.length) (.nil, zs) (ei_seq (ev_var rfl) (.inl (by unfold histD; rw [hye]))) s2 ⟨rfl, rfl, nil_ok, by show 0 + zs.length < 20; omega⟩ rfl (.eq (.eq (.any (.eq (.any .nil))))) ?_ ?_
        · rintro B j ⟨t, b⟩ d σ H v hd ⟨k1, k2, k3, k4⟩ s r
          dsimp only at k1 k2 k3 k4 s
          rw [List.getElem?_map] at hd
          cases hz : zs[j]? with
          | none => rw [hz] at hd; cases hd
          | some z =>
            rw [hz] at hd
            cases hd
            cases b with
            | nil => exact absurd k1 (drop_some hz)
            | cons z2 b =>
              obtain ⟨rfl, k5⟩ := drop_step hz k1
              have hgz := g2 z (List.mem_of_getElem? hz)
              have hf := k4.fit
              have k4' : t.size + (b.length + 1) < 20 := k4
              obtain ⟨rs1, rs2⟩ := reasonS_ok t z
              refine tg_use tg_name s r fun σ1 s1 => ?_
              refine sq_asg (d := .str (reasonS (reasonAt t z))) (ev_call (ea_cons (ev_var rfl) (ea_cons (ev_var rfl) ea_nil)) ⟨t, z, rfl, k3, hf.2, rfl⟩) s1 fun σ2 H2 s2 => ?_
              refine sq_ifN (b := !(reasonAt t z).isNone) (et_is (et_test (ev_neS (ev_var rfl) ev_str rs1)) (by rw [rs2])) s2 (fun hb H3 s3 => ?_) fun hb H3 s3 => ?_
              · cases hre : reasonAt t z with
                | none => rw [hre] at hb; cases hb
                | some why =>
                  have hre2 : refuse t (z :: b) = some (z, why) := by unfold refuse; rw [hre]
                  have e : hs.findSome? refs = some (z, why) := by
                    rw [h2, List.findSome?_cons, hrefs, k2, hre2]
                  rw [e] at q
                  exact st_retM (ev_is (ev_tup (ea_cons ev_str (ea_cons (ev_var rfl) (ea_cons (ev_var rfl) ea_nil)))) (by rw [hre]; rfl)) s3 q
              · cases hre : reasonAt t z with
                | some why => rw [hre] at hb; cases hb
                | none =>
                  have hre2 : refuse t (z :: b) = refuse (behindT t z) b := by
                    conv => lhs; unfold refuse
                    rw [hre]
                  obtain ⟨o1, o2⟩ := behind_ok k3 hgz hre
                  refine st_asg (ev_call (ea_cons (ev_var rfl) (ea_cons (ev_var rfl) ea_nil)) ⟨t, z, rfl, k3, by omega, hre, rfl⟩) s3 fun σ4 H4 s4 => ⟨(behindT t z, b), ⟨k5, by rw [k2, hre2], o1, ?_⟩, s4.le (.eq (.eq (.any (.eq (.any .nil)))))⟩
                  show (behindT t z).size + b.length < 20
                  omega
        · rintro ⟨t, b⟩ σ H ⟨k1, k2, k3, k4⟩ s
          dsimp only at k1 k2 k3 k4 s
          rw [List.length_map] at k1
          have := drop_all k1
          subst this
          refine ⟨rest, ⟨h5, ?_⟩, s.le (.eq (.any (.any (.any (.any .nil)))))⟩
          have e0 : refuse t [] = none := rfl
          rw [h2, List.findSome?_cons, hrefs, k2, e0]
  · rintro rest σ H ⟨h1, h2⟩ s
    rw [List.length_map] at h1
    have := drop_all h1
    subst this
    rw [h2] at q
    exact st_retM ev_non s q
end
end G
set_option Elab.async false
set_option linter.all false
set_option maxRecDepth 100000
set_option maxHeartbeats 4000000
/-! Mathematics 8: the order of data is total where data may be compared; the law's own sort. -/
namespace G
open PySem L2 Fo
theorem cps_inj {x y : Str} (h : x.cps.toList = y.cps.toList) : x = y := by
  cases x; cases y
  simpa using h
theorem str_tri {x y : Str} (h : strLt x y = false) (k : strLt y x = false) : x = y := by
  have h := of_decide_eq_false h
  have k := of_decide_eq_false k
  exact cps_inj (List.le_antisymm (List.not_lt.mp k) (List.not_lt.mp h))
mutual
theorem le_lt : ∀ d e : PyData, nb d = true → nb e = true → comp d e = true → leD d e = !ltD e d
  | .int i, .int j, _, _, _ => by
    simp only [leD, ltD]
    cases h : decide (j < i) with
    | true => have := of_decide_eq_true h; exact decide_eq_false (by omega)
    | false => have := of_decide_eq_false h; exact decide_eq_true (by omega)
  | .str x, .str y, _, _, _ => by simp only [leD, ltD]; rfl
  | .tuple xs, .tuple ys, hx, hy, hc => by
    simp only [leD, ltD]
    exact le_ltL xs ys (by simpa only [nb] using hx) (by simpa only [nb] using hy) (by simpa only [comp] using hc)
  | .none, e, _, _, hc => by cases e <;> simp [comp] at hc
  | .bool _, e, _, _, hc => by cases e <;> simp [comp] at hc
  | .list _, e, _, _, hc => by cases e <;> simp [comp] at hc
  | .dict _, e, _, _, hc => by cases e <;> simp [comp] at hc
  | .int _, .none, _, _, hc => by simp [comp] at hc
  | .int _, .bool _, _, _, hc => by simp [comp] at hc
  | .int _, .str _, _, _, hc => by simp [comp] at hc
  | .int _, .list _, _, _, hc => by simp [comp] at hc
  | .int _, .tuple _, _, _, hc => by simp [comp] at hc
  | .int _, .dict _, _, _, hc => by simp [comp] at hc
  | .str _, .none, _, _, hc => by simp [comp] at hc
  | .str _, .bool _, _, _, hc => by simp [comp] at hc
  | .str _, .int _, _, _, hc => by simp [comp] at hc
  | .str _, .list _, _, _, hc => by simp [comp] at hc
  | .str _, .tuple _, _, _, hc => by simp [comp] at hc
  | .str _, .dict _, _, _, hc => by simp [comp] at hc
  | .tuple _, .none, _, _, hc => by simp [comp] at hc
  | .tuple _, .bool _, _, _, hc => by simp [comp] at hc
  | .tuple _, .int _, _, _, hc => by simp [comp] at hc
  | .tuple _, .str _, _, _, hc => by simp [comp] at hc
  | .tuple _, .list _, _, _, hc => by simp [comp] at hc
  | .tuple _, .dict _, _, _, hc => by simp [comp] at hc
theorem le_ltL : ∀ xs ys : List PyData, nbAll xs = true → nbAll ys = true → compL xs ys = true → leL xs ys = !ltL ys xs
  | [], ys, _, _, _ => by cases ys <;> simp [leL, ltL]
  | x :: xs, [], _, _, _ => by simp [leL, ltL]
  | x :: xs, y :: ys, hx, hy, hc => by
    simp only [nbAll, Bool.and_eq_true] at hx hy
    simp only [compL] at hc
    simp only [leL, ltL]
    by_cases h : x = y
    · subst h
      have e := (eqv_iff x x hx.1 hx.1).mpr rfl
      rw [if_pos e] at hc
      rw [if_pos e, if_pos e]
      exact le_ltL xs ys hx.2 hy.2 hc
    · have e : ¬ PyData.eqv x y = true := fun z => h ((eqv_iff x y hx.1 hy.1).mp z)
      have e2 : ¬ PyData.eqv y x = true := fun z => h ((eqv_iff y x hy.1 hx.1).mp z).symm
      rw [if_neg e] at hc
      rw [if_neg e, if_neg e2]
      exact le_lt x y hx.1 hy.1 hc
end
mutual
theorem lt_irr : ∀ d : PyData, nb d = true → ltD d d = false
  | .int i, _ => by simp [ltD]
  | .str x, _ => by simp only [ltD]; exact decide_eq_false (List.lt_irrefl _)
  | .tuple xs, h => by simp only [ltD]; exact ltL_irr xs (by simpa only [nb] using h)
  | .none, _ => by simp [ltD]
  | .bool _, _ => by simp [ltD]
  | .list _, _ => by simp [ltD]
  | .dict _, _ => by simp [ltD]
theorem ltL_irr : ∀ xs : List PyData, nbAll xs = true → ltL xs xs = false
  | [], _ => by simp [ltL]
  | x :: xs, h => by
    simp only [nbAll, Bool.and_eq_true] at h
    simp only [ltL]
    rw [if_pos ((eqv_iff x x h.1 h.1).mpr rfl)]
    exact ltL_irr xs h.2
end
mutual
theorem lt_tri : ∀ d e : PyData, nb d = true → nb e = true → comp d e = true → ltD d e = false → ltD e d = false → d = e
  | .int i, .int j, _, _, _, h, k => by
    simp only [ltD] at h k
    have h := of_decide_eq_false h
    have k := of_decide_eq_false k
    congr 1
    omega
  | .str x, .str y, _, _, _, h, k => by simp only [ltD] at h k; rw [str_tri h k]
  | .tuple xs, .tuple ys, hx, hy, hc, h, k => by
    simp only [ltD] at h k
    rw [ltL_tri xs ys (by simpa only [nb] using hx) (by simpa only [nb] using hy) (by simpa only [comp] using hc) h k]
  | .none, e, _, _, hc, _, _ => by cases e <;> simp [comp] at hc
  | .bool _, e, _, _, hc, _, _ => by cases e <;> simp [comp] at hc
  | .list _, e, _, _, hc, _, _ => by cases e <;> simp [comp] at hc
  | .dict _, e, _, _, hc, _, _ => by cases e <;> simp [comp] at hc
  | .int _, .none, _, _, hc, _, _ => by simp [comp] at hc
  | .int _, .bool _, _, _, hc, _, _ => by simp [comp] at hc
  | .int _, .str _, _, _, hc, _, _ => by simp [comp] at hc
  | .int _, .list _, _, _, hc, _, _ => by simp [comp] at hc
  | .int _, .tuple _, _, _, hc, _, _ => by simp [comp] at hc
  | .int _, .dict _, _, _, hc, _, _ => by simp [comp] at hc
  | .str _, .none, _, _, hc, _, _ => by simp [comp] at hc
  | .str _, .bool _, _, _, hc, _, _ => by simp [comp] at hc
  | .str _, .int _, _, _, hc, _, _ => by simp [comp] at hc
  | .str _, .list _, _, _, hc, _, _ => by simp [comp] at hc
  | .str _, .tuple _, _, _, hc, _, _ => by simp [comp] at hc
  | .str _, .dict _, _, _, hc, _, _ => by simp [comp] at hc
  | .tuple _, .none, _, _, hc, _, _ => by simp [comp] at hc
  | .tuple _, .bool _, _, _, hc, _, _ => by simp [comp] at hc
  | .tuple _, .int _, _, _, hc, _, _ => by simp [comp] at hc
  | .tuple _, .str _, _, _, hc, _, _ => by simp [comp] at hc
  | .tuple _, .list _, _, _, hc, _, _ => by simp [comp] at hc
  | .tuple _, .dict _, _, _, hc, _, _ => by simp [comp] at hc
theorem ltL_tri : ∀ xs ys : List PyData, nbAll xs = true → nbAll ys = true → compL xs ys = true → ltL xs ys = false → ltL ys xs = false → xs = ys
  | [], [], _, _, _, _, _ => rfl
  | [], y :: ys, _, _, _, h, _ => by simp [ltL] at h
  | x :: xs, [], _, _, _, _, k => by simp [ltL] at k
  | x :: xs, y :: ys, hx, hy, hc, h, k => by
    simp only [nbAll, Bool.and_eq_true] at hx hy
    simp only [compL] at hc
    simp only [ltL] at h k
    by_cases z : x = y
    · subst z
      have e := (eqv_iff x x hx.1 hx.1).mpr rfl
      rw [if_pos e] at hc h k
      rw [ltL_tri xs ys hx.2 hy.2 hc h k]
    · have e : ¬ PyData.eqv x y = true := fun w => z ((eqv_iff x y hx.1 hy.1).mp w)
      have e2 : ¬ PyData.eqv y x = true := fun w => z ((eqv_iff y x hy.1 hx.1).mp w).symm
      rw [if_neg e] at hc h
      rw [if_neg e2] at k
      exact absurd (lt_tri x y hx.1 hy.1 hc h k) z
end
mutual
theorem lt_trn : ∀ d e f : PyData, nb d = true → nb e = true → nb f = true → ltD d e = true → ltD e f = true → ltD d f = true
  | .int i, .int j, .int k, _, _, _, h1, h2 => by
    simp only [ltD] at h1 h2 ⊢
    have h1 := of_decide_eq_true h1
    have h2 := of_decide_eq_true h2
    exact decide_eq_true (by omega)
  | .str x, .str y, .str z, _, _, _, h1, h2 => by
    simp only [ltD] at h1 h2 ⊢
    exact decide_eq_true (List.lt_trans (of_decide_eq_true h1) (of_decide_eq_true h2))
  | .tuple xs, .tuple ys, .tuple zs, hx, hy, hz, h1, h2 => by
    simp only [ltD] at h1 h2 ⊢
    exact ltL_trn xs ys zs (by simpa only [nb] using hx) (by simpa only [nb] using hy) (by simpa only [nb] using hz) h1 h2
  | .none, e, _, _, _, _, h1, _ => by simp [ltD] at h1
  | .bool _, e, _, _, _, _, h1, _ => by simp [ltD] at h1
  | .list _, e, _, _, _, _, h1, _ => by simp [ltD] at h1
  | .dict _, e, _, _, _, _, h1, _ => by simp [ltD] at h1
  | .int i, .int j, .none, _, _, _, _, h => by simp [ltD] at h
  | .int i, .int j, .bool _, _, _, _, _, h => by simp [ltD] at h
  | .int i, .int j, .str _, _, _, _, _, h => by simp [ltD] at h
  | .int i, .int j, .list _, _, _, _, _, h => by simp [ltD] at h
  | .int i, .int j, .tuple _, _, _, _, _, h => by simp [ltD] at h
  | .int i, .int j, .dict _, _, _, _, _, h => by simp [ltD] at h
  | .str i, .str j, .none, _, _, _, _, h => by simp [ltD] at h
  | .str i, .str j, .bool _, _, _, _, _, h => by simp [ltD] at h
  | .str i, .str j, .int _, _, _, _, _, h => by simp [ltD] at h
  | .str i, .str j, .list _, _, _, _, _, h => by simp [ltD] at h
  | .str i, .str j, .tuple _, _, _, _, _, h => by simp [ltD] at h
  | .str i, .str j, .dict _, _, _, _, _, h => by simp [ltD] at h
  | .tuple i, .tuple j, .none, _, _, _, _, h => by simp [ltD] at h
  | .tuple i, .tuple j, .bool _, _, _, _, _, h => by simp [ltD] at h
  | .tuple i, .tuple j, .int _, _, _, _, _, h => by simp [ltD] at h
  | .tuple i, .tuple j, .list _, _, _, _, _, h => by simp [ltD] at h
  | .tuple i, .tuple j, .str _, _, _, _, _, h => by simp [ltD] at h
  | .tuple i, .tuple j, .dict _, _, _, _, _, h => by simp [ltD] at h
  | .int _, .none, _, _, _, _, h, _ => by simp [ltD] at h
  | .int _, .bool _, _, _, _, _, h, _ => by simp [ltD] at h
  | .int _, .str _, _, _, _, _, h, _ => by simp [ltD] at h
  | .int _, .list _, _, _, _, _, h, _ => by simp [ltD] at h
  | .int _, .tuple _, _, _, _, _, h, _ => by simp [ltD] at h
  | .int _, .dict _, _, _, _, _, h, _ => by simp [ltD] at h
  | .str _, .none, _, _, _, _, h, _ => by simp [ltD] at h
  | .str _, .bool _, _, _, _, _, h, _ => by simp [ltD] at h
  | .str _, .int _, _, _, _, _, h, _ => by simp [ltD] at h
  | .str _, .list _, _, _, _, _, h, _ => by simp [ltD] at h
  | .str _, .tuple _, _, _, _, _, h, _ => by simp [ltD] at h
  | .str _, .dict _, _, _, _, _, h, _ => by simp [ltD] at h
  | .tuple _, .none, _, _, _, _, h, _ => by simp [ltD] at h
  | .tuple _, .bool _, _, _, _, _, h, _ => by simp [ltD] at h
  | .tuple _, .int _, _, _, _, _, h, _ => by simp [ltD] at h
  | .tuple _, .str _, _, _, _, _, h, _ => by simp [ltD] at h
  | .tuple _, .list _, _, _, _, _, h, _ => by simp [ltD] at h
  | .tuple _, .dict _, _, _, _, _, h, _ => by simp [ltD] at h
theorem ltL_trn : ∀ xs ys zs : List PyData, nbAll xs = true → nbAll ys = true → nbAll zs = true → ltL xs ys = true → ltL ys zs = true → ltL xs zs = true
  | _, [], _, _, _, _, h1, _ => by simp [ltL] at h1
  | _, _ :: _, [], _, _, _, _, h2 => by simp [ltL] at h2
  | [], y :: ys, z :: zs, _, _, _, _, _ => by simp [ltL]
  | x :: xs, y :: ys, z :: zs, hx, hy, hz, h1, h2 => by
    simp only [nbAll, Bool.and_eq_true] at hx hy hz
    simp only [ltL] at h1 h2 ⊢
    have eq : ∀ {a b : PyData}, nb a = true → nb b = true → a = b → PyData.eqv a b = true := fun {a b} ha hb h => (eqv_iff a b ha hb).mpr h
    have ne : ∀ {a b : PyData}, nb a = true → nb b = true → a ≠ b → ¬ PyData.eqv a b = true := fun {a b} ha hb h z => h ((eqv_iff a b ha hb).mp z)
    by_cases e1 : x = y
    · subst e1
      rw [if_pos (eq hx.1 hx.1 rfl)] at h1
      by_cases e2 : x = z
      · subst e2
        rw [if_pos (eq hx.1 hx.1 rfl)] at h2 ⊢
        exact ltL_trn xs ys zs hx.2 hy.2 hz.2 h1 h2
      · rw [if_neg (ne hx.1 hz.1 e2)] at h2 ⊢
        exact h2
    · rw [if_neg (ne hx.1 hy.1 e1)] at h1
      by_cases e2 : y = z
      · subst e2
        rw [if_neg (ne hx.1 hy.1 e1)]
        exact h1
      · rw [if_neg (ne hy.1 hz.1 e2)] at h2
        have h3 := lt_trn x y z hx.1 hy.1 hz.1 h1 h2
        have e3 : x ≠ z := fun e => by
          subst e
          rw [lt_irr x hx.1] at h3; cases h3
        rw [if_neg (ne hx.1 hz.1 e3)]
        exact h3
end
/-- data that may be sorted -/
def Sortable (L : List PyData) : Prop := (∀ x ∈ L, nb x = true) ∧ ∀ x ∈ L, ∀ y ∈ L, comp x y = true
/-- nothing in L lies ahead of x -/
def Least (L : List PyData) (x : PyData) : Prop := ∀ y ∈ L, ltD y x = false
theorem least_one {L : List PyData} (h : Sortable L) {x y : PyData} (hx : x ∈ L) (hy : y ∈ L) (lx : Least L x) (ly : Least L y) : x = y :=
  lt_tri x y (h.1 x hx) (h.1 y hy) (h.2 x hx y hy) (ly x hx) (lx y hy)
/-- no a < b, b ≤ c: .. -/
theorem nlt_trn {a b c : PyData} (ha : nb a = true) (hb : nb b = true) (hc : nb c = true) (ab : comp a b = true) (h1 : ltD b a = false) (h2 : ltD c b = false) : ltD c a = false := by
  cases q : ltD c a with
  | false => rfl
  | true =>
    cases r : ltD a b with
    | true => rw [lt_trn c a b hc ha hb q r] at h2; cases h2
    | false =>
      have e := lt_tri a b ha hb ab r h1
      subst e
      rw [q] at h2; cases h2
theorem minL_least : ∀ (ds : List PyData) (d : PyData), Sortable (d :: ds) → Least (d :: ds) (minL d ds)
  | [], d, h => fun y hy => by
    rw [List.mem_singleton.mp hy]
    exact lt_irr d (h.1 d List.mem_cons_self)
  | e :: ds, d, h => by
    have hd := h.1 d List.mem_cons_self
    have he := h.1 e (List.mem_cons_of_mem _ List.mem_cons_self)
    have em : minL d (e :: ds) = minL (if ltD e d then e else d) ds := rfl
    rw [em]
    have sub : ∀ x, x ∈ (if ltD e d then e else d) :: ds → x ∈ d :: e :: ds := fun x hx => by
      rcases List.mem_cons.mp hx with rfl | hx
      · by_cases c : ltD e d = true
        · rw [if_pos c]; exact List.mem_cons_of_mem _ List.mem_cons_self
        · rw [if_neg c]; exact List.mem_cons_self
      · exact List.mem_cons_of_mem _ (List.mem_cons_of_mem _ hx)
    have ih := minL_least ds (if ltD e d then e else d) ⟨fun x hx => h.1 x (sub x hx), fun x hx y hy => h.2 x (sub x hx) y (sub y hy)⟩
    have hm := sub _ (minL_mem (if ltD e d then e else d) ds)
    generalize minL (if ltD e d then e else d) ds = m at ih hm
    have h0 := ih _ List.mem_cons_self
    intro y hy
    have hmn := h.1 m hm
    rcases List.mem_cons.mp hy with rfl | hy
    · by_cases c : ltD e y = true
      · rw [if_pos c] at h0
        refine nlt_trn hmn he hd (h.2 _ hm _ (List.mem_cons_of_mem _ List.mem_cons_self)) h0 ?_
        cases q : ltD y e with
        | false => rfl
        | true =>
          have := lt_trn e y e he hd he c q
          rw [lt_irr e he] at this; cases this
      · rw [if_neg c] at h0; exact h0
    · rcases List.mem_cons.mp hy with rfl | hy
      · by_cases c : ltD y d = true
        · rw [if_pos c] at h0; exact h0
        · rw [if_neg c] at h0
          refine nlt_trn hmn hd he (h.2 _ hm _ List.mem_cons_self) h0 ?_
          simpa using c
      · exact ih y (List.mem_cons_of_mem _ hy)
/-- where the law puts a row in -/
def insD (r : PyData) (found : List PyData) : List PyData :=
  found.take (found.filter fun y => leD y r).length ++ [r] ++ found.drop (found.filter fun y => leD y r).length
def inoD (rows found : List PyData) : List PyData := rows.foldl (fun f r => insD r f) found
theorem insD_perm (r : PyData) (found : List PyData) : (insD r found).Perm (r :: found) := by
  unfold insD
  rw [List.append_assoc]
  refine (List.perm_append_comm_assoc _ _ _).trans ?_
  rw [List.take_append_drop]
  exact List.Perm.refl _
theorem inoD_perm : ∀ rows found : List PyData, (inoD rows found).Perm (rows ++ found)
  | [], found => List.Perm.refl _
  | r :: rows, found => by
    have e : inoD (r :: rows) found = inoD rows (insD r found) := rfl
    rw [e]
    refine (inoD_perm rows _).trans ?_
    refine (List.Perm.append_left rows (insD_perm r found)).trans ?_
    rw [List.cons_append]
    exact List.perm_middle
theorem ins_head {L : List PyData} (hL : Sortable L) {r : PyData} (hr : r ∈ L) {found : List PyData} (hf : ∀ y ∈ found, y ∈ L) (hh : ∀ x ∈ found.head?, Least found x) : ∀ x ∈ (insD r found).head?, Least (insD r found) x := by
  have rr := lt_irr r (hL.1 r hr)
  cases found with
  | nil =>
    intro x hx y hy
    have e : insD r [] = [r] := rfl
    rw [e] at hx hy
    cases hx
    rw [List.mem_singleton.mp hy]; exact rr
  | cons z zs =>
    have hz := hf z List.mem_cons_self
    have lz := hh z rfl
    have hmem : ∀ y, y ∈ insD r (z :: zs) ↔ y = r ∨ y ∈ z :: zs := fun y => by rw [(insD_perm r (z :: zs)).mem_iff, List.mem_cons]
    have e := le_lt z r (hL.1 z hz) (hL.1 r hr) (hL.2 z hz r hr)
    cases q : leD z r with
    | true =>
      rw [q] at e
      have hrz : ltD r z = false := by simpa using e.symm
      have ehd : (insD r (z :: zs)).head? = some z := by
        unfold insD
        rw [List.filter_cons_of_pos (by exact q), List.length_cons, List.take_succ_cons]
        rfl
      intro x hx y hy
      rw [ehd] at hx
      cases hx
      rcases (hmem y).mp hy with rfl | hy
      · exact hrz
      · exact lz y hy
    | false =>
      rw [q] at e
      have hrz : ltD r z = true := by simpa using e.symm
      have en : (z :: zs).filter (fun y => leD y r) = [] := by
        rw [List.filter_eq_nil_iff]
        intro y hy hle
        have hyL := hf y hy
        have e2 := le_lt y r (hL.1 y hyL) (hL.1 r hr) (hL.2 y hyL r hr)
        have hle : leD y r = true := hle
        rw [hle] at e2
        have hry : ltD r y = false := by simpa using e2.symm
        have := nlt_trn (hL.1 z hz) (hL.1 y hyL) (hL.1 r hr) (hL.2 z hz y hyL) (lz y hy) hry
        rw [this] at hrz; cases hrz
      have ehd : (insD r (z :: zs)).head? = some r := by unfold insD; rw [en]; rfl
      intro x hx y hy
      rw [ehd] at hx
      cases hx
      rcases (hmem y).mp hy with rfl | hy
      · exact rr
      · have hyL := hf y hy
        have h1 : ltD z r = false := by
          cases q2 : ltD z r with
          | false => rfl
          | true =>
            have := lt_trn r z r (hL.1 r hr) (hL.1 z hz) (hL.1 r hr) hrz q2
            rw [rr] at this; cases this
        exact nlt_trn (hL.1 r hr) (hL.1 z hz) (hL.1 y hyL) (hL.2 r hr z hz) h1 (lz y hy)
theorem ino_head {L : List PyData} (hL : Sortable L) : ∀ {rows found : List PyData}, (∀ y ∈ rows, y ∈ L) → (∀ y ∈ found, y ∈ L) → (∀ x ∈ found.head?, Least found x) → ∀ x ∈ (inoD rows found).head?, Least (inoD rows found) x
  | [], found, _, _, hh => hh
  | r :: rows, found, hr, hf, hh => by
    have e : inoD (r :: rows) found = inoD rows (insD r found) := rfl
    rw [e]
    refine ino_head hL (fun y hy => hr y (List.mem_cons_of_mem _ hy)) (fun y hy => ?_) (ins_head hL (hr r List.mem_cons_self) hf hh)
    rcases List.mem_cons.mp ((insD_perm r found).mem_iff.mp hy) with rfl | hy
    · exact hr _ List.mem_cons_self
    · exact hf y hy
end G
set_option Elab.async false
set_option linter.all false
set_option maxRecDepth 100000
set_option maxHeartbeats 4000000
namespace G
open PySem L2 Fo
def R_law_in_order (ds : List PyData) (r : PyData) : Prop := ∃ rows : List PyData, ds = [.list rows] ∧ rows.length ≤ 1000 ∧ Sortable rows ∧ (∀ x ∈ rows, SeqAt.shaped x = true) ∧ r = .list (inoD rows [])
def swapsOf (ys : List Deed) (o : List Nat) : List (List Nat) := ((List.range (o.length - 1)).filter fun k => canSwap .nil (formOf ys o) k).map (swapL o)
def R_law_swaps (ds : List PyData) (r : PyData) : Prop := ∃ (ys : List Deed) (o : List Nat) (u : Fo), ds = [.list (ys.map Deed.enc), ordD (toI o)] ∧ (∀ y ∈ ys, y.good = true) ∧ In ys o ∧ o.length ≤ 5 ∧ reachD .nil (formOf ys o) = some u ∧ r = .list (((swapsOf ys o).map toI).map ordD)
section
variable {F : Fm} {M : List (Addr × OC)} {δ : List SD} {σ : L2.St} {H : Hp} {tt : TT} {t u : TS} {D : Ends} {b : Bool}
theorem sq_meet {ι : Type} (I : ι → L2.St → Hp → Prop) (ht : Et F M δ tt b) (s : S F M δ σ H) (k1 : b = true → ∀ H', S F M δ σ H' → (∀ x σ' H', I x σ' H' → u D σ' H') → t { D with nx := u D } σ H') (k2 : b = false → ∀ H', S F M δ σ H' → (∀ x σ' H', I x σ' H' → u D σ' H') → u D σ H') (fin : ∀ x σ' H', I x σ' H' → u D σ' H') : tSeq (tIfS tt t tNext) u D σ H :=
  sq_ifN ht s (fun hb H' s' => k1 hb H' s' fin) fun hb H' s' => k2 hb H' s' fin
end
section
variable {P : Program} {w : World} {K : PySem.W.Frag} {mg : Str → Option Value} {base : Heap}
theorem sc__law_in_order : FnScope ["_law_rows", "_law_found", "_law_row", "_law_at", "_law_one"] ["_law_rows"] (defScope s__law_in_order) := ⟨rfl, rfl, rfl, by decide +kernel, rfl, by decide +kernel, by decide +kernel⟩
theorem c__law_in_order (T : Txt K mg) : Cl P w K mg base CX0 1 "_law_in_order" ["_law_rows"] (PureSp R_law_in_order) := by
  refine pure_ok T.d__law_in_order sc__law_in_order (fun ds d h => by obtain ⟨rows, rfl, _⟩ := h; rfl) (fun f cdv A outer s H E hr => ⟨_, (pss_cons (ps_set (i := 1) sc__law_in_order.nd rfl (Or.inl rfl) (pe_lst pa_nil))
    (pss_cons (ps_for PassesOwn.never rfl (pi_seq (pv 0)) (pg_name (i := 2) sc__law_in_order.nd rfl (Or.inr rfl))
    (pss_cons (ps_set (i := 3) sc__law_in_order.nd rfl (Or.inl rfl) (pe_callB call_len (by rfl) T.z_len PySem.boot_len (pa_cons (pe_lc (own := [("_law_one", 4)]) (g := gName 4) rfl sc__law_in_order.nd (pi_seq (pv 1)) (blkOk_by (own := [("_law_one", 4)]) (N := ["_law_rows", "_law_found", "_law_row", "_law_at", "_law_one"]) (sc := (defScope s__law_in_order)) (by decide +kernel)) (fun _ _ _ _ _ => (pg_name (i := 4) sc__law_in_order.nd rfl (Or.inl rfl))) (fun _ _ _ _ _ => (pts_one (pt_cmpR (r := rLeD K) (op_leD (units65 hr)) (pv 4) (pv 2) (nomark _)))) (fun _ _ _ _ _ => (pv 4))) pa_nil)))
    (pss_one (ps_set (i := 1) sc__law_in_order.nd rfl (Or.inl rfl) (pe_op op_cat (pe_op op_cat (pe_slice sl_list (pv 1) po_none (po_some (pv 3))) (pe_lst (pa_cons (pv 2) pa_nil))) (pe_slice sl_list (pv 1) (po_some (pv 3)) po_none))))))
    (pss_one (ps_ret (pv 1))))), ?_⟩)
  rintro O ds r σ ⟨rows, rfl, hl, hS, hsh, rfl⟩ s Q q
  refine sq_asg (d := .list []) (ev_lst ea_nil) s fun σ1 H1 s1 => ?_
  refine sq_for (α := List PyData × List PyData) (fun _ _ => []) (fun _ a => [.dat (.list rows), .dat (.list a.2), .any, .any, .any]) (fun i a => rows.drop i = a.1 ∧ inoD rows [] = inoD a.1 a.2 ∧ (∀ y ∈ a.2, y ∈ rows) ∧ a.2.length = i) (rows, []) (ei_seq (ev_var rfl) (.inl rfl)) s1 ⟨rfl, rfl, fun y h => absurd h List.not_mem_nil, rfl⟩ rfl (Le.refl _) ?_ ?_
  · rintro B i ⟨rest, found⟩ d σ H v hd ⟨h1, h2, h3, h4⟩ s r
    dsimp only at h1 h2 h3 h4 s
    cases rest with
    | nil => exact absurd h1 (drop_some hd)
    | cons y rest =>
      obtain ⟨rfl, h5⟩ := drop_step hd h1
      have hdm := List.mem_of_getElem? hd
      have hil : i < rows.length := (List.getElem?_eq_some_iff.mp hd).1
      refine tg_use tg_name s r fun σ1 s1 => ?_
      have hfl := List.length_filter_le (fun y => leD y d) found
      refine sq_asg (d := .int ((found.filter fun y => leD y d).length : Nat)) (ev_lenL (ev_is (ev_lcF (p := fun y => leD y d) (f := fun y => y) (ei_seq (ev_var rfl) (.inl rfl)) (by omega) (fun F' M' y hy => et_test (ev_leD (ev_var rfl) (ev_var rfl) (hsh _ (h3 y hy)) (hsh _ hdm) (hS.2 _ (h3 y hy) _ hdm))) (fun F' M' y hy _ => ev_var rfl)) (by rw [List.map_id']))) s1 fun σ2 H2 s2 => ?_
      refine st_asg (d := .list (insD d found)) (ev_is (ev_catL (ev_catL (ev_slL (ev_var rfl) eo_none (eo_some (ev_var rfl))) (ev_lst (ea_cons (ev_var rfl) ea_nil)) ?_) (ev_slL (ev_var rfl) (eo_some (ev_var rfl)) eo_none) ?_) ?_) s2 fun σ3 H3 s3 => ⟨(rest, insD d found), ⟨h5, h2, fun y hy => ?_, ?_⟩, s3.le (.eq (.eq (.any (.any (.any .nil)))))⟩
      · rw [cut_to, List.length_take]; simp only [List.length_cons, List.length_nil]; omega
      · rw [cut_to, cut_from, List.length_append, List.length_take, List.length_drop]; simp only [List.length_cons, List.length_nil]; omega
      · rw [cut_to, cut_from]; rfl
      · rcases List.mem_cons.mp ((insD_perm d found).mem_iff.mp hy) with rfl | hy
        · exact hdm
        · exact h3 y hy
      · rw [(insD_perm d found).length_eq, List.length_cons, h4]
  · rintro ⟨rest, found⟩ σ H ⟨h1, h2, h3, h4⟩ s
    dsimp only at h1 h2 h3 h4 s
    have := drop_all h1
    subst this
    exact st_retM (ev_is (ev_var rfl) (by rw [h2]; rfl)) s q
theorem sc__law_swaps : FnScope ["_law_history_here", "_law_order", "_law_rows", "_law_found", "_law_k"] ["_law_history_here", "_law_order"] (defScope s__law_swaps) := ⟨rfl, rfl, rfl, by decide +kernel, rfl, by decide +kernel, by decide +kernel⟩
theorem c__law_swaps (T : Txt K mg) : Cl P w K mg base CX0 6 "_law_swaps" ["_law_history_here", "_law_order"] (PureSp R_law_swaps) := by
  refine pure_ok T.d__law_swaps sc__law_swaps (fun ds d h => by obtain ⟨ys, o, u, rfl, _⟩ := h; rfl) (fun f cdv A outer s0 H0 E hr => ⟨_, (pss_cons (ps_set (i := 2) sc__law_swaps.nd rfl (Or.inl rfl) (pe_lst pa_nil))
    (pss_cons (ps_set (i := 3) sc__law_swaps.nd rfl (Or.inl rfl) (pe_lst pa_nil))
    (pss_cons (ps_for PassesOwn.never rfl (pi_range1 (by rfl) T.z_range (pa_cons (pe_op op_sub (pe_callB call_len (by rfl) T.z_len PySem.boot_len (pa_cons (pv 1) pa_nil)) pe_int) pa_nil)) (pg_name (i := 4) sc__law_swaps.nd rfl (Or.inl rfl))
    (pss_cons (ps_if (pt_val (pe_k (c__law_free T) hr (by decide) rfl pass0 (pa_cons (pv 2) (pa_cons (pe_ix ix_seq (pv 0) (pe_ix ix_seq (pv 1) (pv 4) (fun _ _ => rfl)) (fun _ _ => rfl)) (pa_cons (pe_ix ix_seq (pv 0) (pe_ix ix_seq (pv 1) (pe_op op_add (pv 4) pe_int) (fun _ _ => rfl)) (fun _ _ => rfl)) pa_nil))))) (pss_one (ps_expr (pe_bm PySem.F.plainAttrs_list PySem.F.slot_list_append PySem.F.type_list_append mt_append (pv 3) (pa_cons (pe_op op_catA (pe_op op_catA (pe_slice sl_tupA (pv 1) po_none (po_some (pv 4))) (pe_tup (pa_cons (pe_ix ix_seq (pv 1) (pe_op op_add (pv 4) pe_int) (fun _ _ => rfl)) (pa_cons (pe_ix ix_seq (pv 1) (pv 4) (fun _ _ => rfl)) pa_nil)))) (pe_slice sl_tupA (pv 1) (po_some (pe_op op_add (pv 4) pe_int)) po_none)) pa_nil)))) pss_nil)
    (pss_one (ps_set (i := 2) sc__law_swaps.nd rfl (Or.inl rfl) (pe_k (c__law_done T) hr (by decide) rfl pass0 (pa_cons (pv 2) (pa_cons (pe_ix ix_seq (pv 0) (pe_ix ix_seq (pv 1) (pv 4) (fun _ _ => rfl)) (fun _ _ => rfl)) pa_nil)))))))
    (pss_one (ps_ret (pv 3)))))), ?_⟩)
  rintro O ds r σ ⟨ys, o, u, rfl, hg, hin, hol, hrun, rfl⟩ s Q q
  have hfl := form_len hin
  have hgf : ∀ y ∈ formOf ys o, y.good = true := fun y hy => form_good hg o y hy
  have hget : ∀ k : Nat, k < o.length → ∃ (n : Nat) (x : Deed), o[k]? = some n ∧ (formOf ys o)[k]? = some x ∧ ys[n]? = some x ∧ x ∈ formOf ys o := fun k hk => by
    have h1 : o[k]? = some o[k] := List.getElem?_eq_getElem hk
    have h2 := form_get hin k
    have h3 : (formOf ys o)[k]? = some ((formOf ys o)[k]'(by omega)) := List.getElem?_eq_getElem (by omega)
    rw [h1, h3] at h2
    exact ⟨_, _, h1, h3, h2.symm, List.getElem_mem _⟩
  have hat : ∀ (k n : Nat) (x : Deed), o[k]? = some n → ys[n]? = some x → ∀ {F : Fm} {M : List (Addr × OC)} {δ : List SD} {ti : TE}, δ[0]? = some (.dat (.list (ys.map Deed.enc))) → δ[1]? = some (.dat (ordD (toI o))) → Ev F M δ ti (.int (k : Int)) → Ev F M δ (tOp (rIx K) (tVar 0) (tOp (rIx K) (tVar 1) ti)) x.enc := fun k n x h1 h2 {F M δ ti} d0 d1 hi =>
    ev_ixL (ds := ys.map Deed.enc) (ev_var d0) (ev_ixT (ds := (toI o).map PyData.int) (d := .int (n : Int)) (ev_var d1) hi (atI_nat (by unfold toI; rw [List.getElem?_map, List.getElem?_map, h1]; rfl))) (atI_nat (by rw [List.getElem?_map, h2]; rfl))
  refine sq_asg (d := rowsD (flat 0 .nil)) (ev_lst ea_nil) s fun σ1 H1 s1 => ?_
  refine sq_own (ds := []) ea_nil s1 fun l σ2 H2 hl2 s2 => ?_
  refine sq_for (α := Fo × List (List Nat)) (fun _ a => [(l, .lst ((a.2.map toI).map ordD))]) (fun _ a => [.dat (.list (ys.map Deed.enc)), .dat (ordD (toI o)), .dat (rowsD (flat 0 a.1)), .raw (.ref l), .any]) (fun i a => reachD .nil ((formOf ys o).take i) = some a.1 ∧ a.2 = ((List.range i).filter fun k => canSwap .nil (formOf ys o) k).map (swapL o)) (.nil, [])
    (ei_range1 (ev_sub (ev_lenT (ev_var rfl)) ev_int) (by omega) (by unfold toI; rw [List.length_map, List.length_map]; omega)) s2 ⟨rfl, rfl⟩ rfl (Le.refl _) ?_ ?_
  · rintro B i ⟨t, found⟩ d σ H v hd ⟨h1, h2⟩ s r
    dsimp only at h1 h2 s
    unfold rngD toI at hd
    rw [List.length_map, List.length_map, List.getElem?_map, show (((o.length : Nat) : Int) - 1).toNat = o.length - 1 by omega] at hd
    have hi : i < o.length - 1 := by
      rcases Nat.lt_or_ge i (o.length - 1) with h | h
      · exact h
      · rw [List.getElem?_eq_none_iff.mpr (by rw [List.length_range]; exact h)] at hd; cases hd
    rw [List.getElem?_range hi] at hd
    cases hd
    have r : Rp _ v (.int (0 + ((i : Nat) : Int))) := r
    rw [show ((0 : Int) + ((i : Nat) : Int)) = (i : Int) by omega] at r
    obtain ⟨n1, x, o1, f1, y1, m1⟩ := hget i (by omega)
    obtain ⟨n2, y, o2, f2, y2, m2⟩ := hget (i + 1) (by omega)
    obtain ⟨ok, sz⟩ := reach_ok nil_ok (fun z hz => hgf z (List.mem_of_mem_take hz)) h1
    have hsz : t.size ≤ i := by
      have : t.size ≤ 0 + ((formOf ys o).take i).length := sz
      rw [List.length_take] at this
      omega
    have hcan : canSwap .nil (formOf ys o) i = (metD t x y).isSome := by unfold canSwap; rw [h1, f1, f2]
    -- x fits at t
    have hnext : reachD .nil ((formOf ys o).take (i + 1)) = reachD t [x] := by
      rw [List.take_add_one, f1, reachD_append, h1]; rfl
    obtain ⟨v1, hv1⟩ := reach_take hrun (i + 1)
    have hx1 : reasonAt t x = none := by
      rw [hnext, reachD_cons] at hv1
      cases q : reasonAt t x with
      | none => rfl
      | some why => rw [q] at hv1; cases hv1
    have hv2 : reachD .nil ((formOf ys o).take (i + 1)) = some (behindT t x) := by rw [hnext, reachD_cons, hx1]; rfl
    refine tg_use tg_name s r fun σ1 s1 => ?_
    have hstep : ((List.range (i + 1)).filter fun k => canSwap .nil (formOf ys o) k).map (swapL o) = found ++ (if (metD t x y).isSome = true then [swapL o i] else []) := by
      rw [List.range_succ, List.filter_append, List.map_append, ← h2]
      by_cases c : (metD t x y).isSome = true
      · rw [if_pos c, List.filter_cons_of_pos (by rw [hcan]; exact c)]; rfl
      · rw [if_neg c, List.filter_cons_of_neg (by rw [hcan]; exact c)]; rfl
    refine sq_meet (fun (a : List (List Nat)) σ' H' => a = ((List.range (i + 1)).filter fun k => canSwap .nil (formOf ys o) k).map (swapL o) ∧ S (((F0 O H0).own l).push B) [(l, .lst ((a.map toI).map ordD))] [.dat (.list (ys.map Deed.enc)), .dat (ordD (toI o)), .dat (rowsD (flat 0 t)), .raw (.ref l), .dat (.int (i : Int))] σ' H') (b := (metD t x y).isSome) (et_test (ev_call (ea_cons (ev_var rfl) (ea_cons (hat i n1 x o1 y1 rfl rfl (ev_var rfl)) (ea_cons (hat (i + 1) n2 y o2 y2 rfl rfl (ev_is (ev_add (ev_var rfl) ev_int) (by congr 1))) ea_nil))) ⟨t, x, y, rfl, hgf x m1, hgf y m2, ok, by show t.size + 2 < 20; omega, rfl⟩)) s1 (fun hb H2 s2 fin => ?_) (fun hb H2 s2 fin => fin found _ _ ⟨by rw [hstep, hb]; simp, s2⟩) ?_
    rotate_left
    · rintro a σ' H' ⟨ha, s'⟩
      exact st_asg (ev_call (ea_cons (ev_var rfl) (ea_cons (hat i n1 x o1 y1 rfl rfl (ev_var rfl)) ea_nil)) ⟨t, x, rfl, ok, by omega, hx1, rfl⟩) s' fun σ3 H3 s3 => ⟨(behindT t x, a), ⟨hv2, ha⟩, s3.le (.eq (.eq (.eq (.eq (.any .nil)))))⟩
    have c1 : ((i : Int) + 1) = ((i + 1 : Nat) : Int) := by omega
    have c2 : ((i : Int) + 2) = ((i + 2 : Nat) : Int) := by omega
    have g1 : (toI o)[i]? = some (n1 : Int) := by unfold toI; rw [List.getElem?_map, o1]; rfl
    have g2 : (toI o)[i + 1]? = some (n2 : Int) := by unfold toI; rw [List.getElem?_map, o2]; rfl
    have k1 : ((toI o).map PyData.int)[i]? = some (.int n1) := by rw [List.getElem?_map, g1]; rfl
    have k2 : ((toI o).map PyData.int)[i + 1]? = some (.int n2) := by rw [List.getElem?_map, g2]; rfl
    have hfc : found.length ≤ i := by
      rw [h2, List.length_map]
      have := List.length_filter_le (fun k => canSwap .nil (formOf ys o) k) (List.range i)
      rw [List.length_range] at this
      exact this
    refine st_append (j := 0) (d := ordD (toI (swapL o i))) (er_var rfl) (ev_is (ev_catT (K := K) (ev_catT (K := K) (ev_slT (K := K) (ev_var rfl) eo_none (eo_some (ev_var rfl))) (ev_tup (ea_cons (ev_ixT (K := K) (ev_var rfl) (ev_add (ev_var rfl) ev_int) (by rw [c1]; exact atI_nat k2)) (ea_cons (ev_ixT (K := K) (ev_var rfl) (ev_var rfl) (atI_nat k1)) ea_nil))) ?_) (ev_slT (K := K) (ev_var rfl) (eo_some (ev_add (ev_var rfl) ev_int)) eo_none) ?_) ?_) rfl own_lp (by rw [List.length_map, List.length_map]; omega) s2 fun H4 s4 => fin (found ++ [swapL o i]) _ _ ⟨by rw [hstep, hb, if_pos rfl], ?_⟩
    · rw [cut_to, List.length_take, List.length_map]; simp only [List.length_cons, List.length_nil]; unfold toI; rw [List.length_map]; omega
    · rw [cut_to, c2, cut_from, List.length_append, List.length_take, List.length_drop, List.length_map]; simp only [List.length_cons, List.length_nil]; unfold toI; rw [List.length_map]; omega
    · rw [cut_to, c2, cut_from]
      unfold ordD
      rw [← toI_swap, swapL_at g1 g2, List.map_append, List.map_append, List.map_take, List.map_drop]; rfl
    · have e1 : ((found ++ [swapL o i]).map toI).map ordD = (found.map toI).map ordD ++ [ordD (toI (swapL o i))] := by rw [List.map_append, List.map_append]; rfl
      rw [e1]
      exact s4
  · rintro ⟨t, found⟩ σ H ⟨h1, h2⟩ s
    dsimp only at h1 h2 s
    have hlen : (rngD 0 ((((toI o).map PyData.int).length : Nat) - 1 : Int).toNat).length = o.length - 1 := by
      unfold rngD toI
      rw [List.length_map, List.length_range, List.length_map, List.length_map]
      omega
    rw [hlen] at h2
    have : found = swapsOf ys o := h2
    rw [this] at s
    exact st_retO (er_var rfl) s q
end
end G
set_option Elab.async false
set_option linter.all false
set_option maxRecDepth 100000
set_option maxHeartbeats 4000000
namespace G
open PySem L2 Fo
def addN (a : List (List Nat)) (x : List Nat) : List (List Nat) := if x ∈ a then a else a ++ [x]
theorem addN_len (a : List (List Nat)) (x : List Nat) : (addN a x).length ≤ a.length + 1 := by
  unfold addN
  split
  · omega
  · rw [List.length_append]; simp
theorem fold_swaps {ys : List Deed} {o : List Nat} : ∀ (ks : List Nat) (a : List (List Nat)), ((ks.filter fun k => canSwap .nil (formOf ys o) k).map (swapL o)).foldl addN a = ks.foldl (stepK ys o) a
  | [], a => rfl
  | k :: ks, a => by
    rw [List.foldl_cons]
    by_cases c : canSwap .nil (formOf ys o) k = true
    · rw [List.filter_cons_of_pos (by exact c), List.map_cons, List.foldl_cons, fold_swaps ks]
      congr 1
      unfold addN stepK
      by_cases m : swapL o k ∈ a
      · rw [if_pos m, if_neg (fun z => z.1 m)]
      · rw [if_neg m, if_pos ⟨m, c⟩]
    · rw [List.filter_cons_of_neg (by exact c), fold_swaps ks]
      congr 1
      unfold stepK
      rw [if_neg (fun z => c z.2)]
theorem swaps_expand {ys : List Deed} {o : List Nat} (h : o.length = ys.length) (a : List (List Nat)) : (swapsOf ys o).foldl addN a = expand ys o a := by
  unfold swapsOf expand
  rw [fold_swaps, h]
theorem ords_sortable (bs : List (List Int)) : Sortable (bs.map ordD) := ⟨fun x hx => by
    obtain ⟨b, _, rfl⟩ := List.mem_map.mp hx
    exact (ord_nb b).1, fun x hx y hy => by
    obtain ⟨b, _, rfl⟩ := List.mem_map.mp hx
    obtain ⟨c, _, rfl⟩ := List.mem_map.mp hy
    exact ord_comp b c⟩
def ordL (ys : List Deed) : List PyData := inoD (((ordersOf ys).map toI).map ordD) []
def Pre_run (ds : List PyData) (ys : List Deed) : Prop := ds = [.list (ys.map Deed.enc)] ∧ (∀ y ∈ ys, y.good = true) ∧ ys.length ≤ 5 ∧ ∃ u, reachD .nil ys = some u
def R_law_orders (ds : List PyData) (r : PyData) : Prop := ∃ ys, Pre_run ds ys ∧ r = .list (ordL ys)
theorem ordL_mem {ys : List Deed} {x : PyData} : x ∈ ordL ys ↔ ∃ o ∈ ordersOf ys, x = ordD (toI o) := by
  unfold ordL
  rw [(inoD_perm _ _).mem_iff, List.append_nil]
  constructor
  · intro h
    obtain ⟨b, hb, rfl⟩ := List.mem_map.mp h
    obtain ⟨o, ho, rfl⟩ := List.mem_map.mp hb
    exact ⟨o, ho, rfl⟩
  · rintro ⟨o, ho, rfl⟩
    exact List.mem_map_of_mem (List.mem_map_of_mem ho)
theorem ordL_len {ys : List Deed} : (ordL ys).length = (ordersOf ys).length := by
  unfold ordL
  rw [(inoD_perm _ _).length_eq, List.append_nil, List.length_map, List.length_map]
/-- the deeds an order names -/
def pickD (ys : List Deed) : PyData → PyData
  | .tuple ns => .tuple (ns.map fun n => match n with | .int n => (ys.map Deed.enc).getD n.toNat .none | _ => .none)
  | _ => .none
def nthD (ys : List Deed) : PyData → PyData
  | .int n => (ys.map Deed.enc).getD n.toNat .none
  | _ => .none
theorem pick_ord {ys : List Deed} {o : List Nat} (h : In ys o) : PyData.tuple (((toI o).map PyData.int).map (nthD ys)) = rowD (formOf ys o) := by
  rw [List.map_map]
  unfold rowD
  rw [← form_data h]; rfl
theorem pickD_ord {ys : List Deed} {o : List Nat} (h : In ys o) : pickD ys (ordD (toI o)) = rowD (formOf ys o) := by
  rw [← pick_ord h]; rfl
/-- the law's row of forms -/
def lawForms (ys : List Deed) : List PyData := inoD ((ordL ys).map (pickD ys)) []
def R_law_forms (ds : List PyData) (r : PyData) : Prop := ∃ ys, Pre_run ds ys ∧ r = .list (lawForms ys)
theorem pick_mem {ys : List Deed} {u : Fo} (hl : ys.length ≤ 5) (hrun : reachD .nil ys = some u) {x : PyData} : x ∈ (ordL ys).map (pickD ys) ↔ ∃ zs ∈ formsL ys, x = rowD zs := by
  obtain ⟨hB, _⟩ := orders_ok hl hrun
  rw [List.mem_map]
  constructor
  · rintro ⟨y, hy, rfl⟩
    obtain ⟨o, ho, rfl⟩ := ordL_mem.mp hy
    exact ⟨_, forms_mem.mpr ⟨o, ho, rfl⟩, pickD_ord (hB.ins ho)⟩
  · rintro ⟨zs, hz, rfl⟩
    obtain ⟨o, ho, rfl⟩ := forms_mem.mp hz
    exact ⟨_, ordL_mem.mpr ⟨o, ho, rfl⟩, pickD_ord (hB.ins ho)⟩
theorem pick_sortable {ys : List Deed} {u : Fo} (hg : ∀ y ∈ ys, y.good = true) (hl : ys.length ≤ 5) (hrun : reachD .nil ys = some u) : Sortable ((ordL ys).map (pickD ys)) := by
  have h := forms_good hg
  refine ⟨fun x hx => ?_, fun x hx y hy => ?_⟩
  · obtain ⟨zs, hz, rfl⟩ := (pick_mem hl hrun).mp hx
    exact (row_nb (h zs hz)).1
  · obtain ⟨zs, hz, rfl⟩ := (pick_mem hl hrun).mp hx
    obtain ⟨vs, hv, rfl⟩ := (pick_mem hl hrun).mp hy
    exact row_comp (h zs hz) (h vs hv)
theorem lawForms_mem {ys : List Deed} {u : Fo} (hl : ys.length ≤ 5) (hrun : reachD .nil ys = some u) {x : PyData} : x ∈ lawForms ys ↔ ∃ zs, Cls ys zs ∧ x = rowD zs := by
  unfold lawForms
  rw [(inoD_perm _ _).mem_iff, List.append_nil, pick_mem hl hrun]
  constructor
  · rintro ⟨zs, hz, rfl⟩
    exact ⟨zs, (forms_cls hl hrun zs).mp (forms_mem.mp hz), rfl⟩
  · rintro ⟨zs, hz, rfl⟩
    exact ⟨zs, forms_mem.mpr ((forms_cls hl hrun zs).mpr hz), rfl⟩
theorem lawForms_len {ys : List Deed} {u : Fo} (hl : ys.length ≤ 5) (hrun : reachD .nil ys = some u) : (lawForms ys).length ≤ 120 := by
  unfold lawForms
  rw [(inoD_perm _ _).length_eq, List.append_nil, List.length_map, ordL_len]
  exact (orders_ok hl hrun).1.len hl
/-- its first form is the normal one -/
theorem lawForms_head {ys : List Deed} {u : Fo} (hg : ∀ y ∈ ys, y.good = true) (hl : ys.length ≤ 5) (hrun : reachD .nil ys = some u) : ∃ rest, lawForms ys = normD ys :: rest := by
  have hS := pick_sortable hg hl hrun
  have hmem : ∀ x, x ∈ lawForms ys ↔ x ∈ (ordL ys).map (pickD ys) := fun x => by
    unfold lawForms
    rw [(inoD_perm _ _).mem_iff, List.append_nil]
  have hh := ino_head hS (rows := (ordL ys).map (pickD ys)) (found := []) (fun y h => h) (fun y h => absurd h List.not_mem_nil) (fun x h => by cases h)
  have hn : normD ys ∈ (ordL ys).map (pickD ys) := by
    obtain ⟨z, hz, e⟩ := norm_mem hl hrun
    exact (pick_mem hl hrun).mpr ⟨z, hz, e⟩
  have hleast : Least ((ordL ys).map (pickD ys)) (normD ys) := by
    unfold normD
    cases hf : formsL ys with
    | nil => exact absurd hf (forms_ne hl hrun)
    | cons z zs =>
      have hsub : ∀ x, x ∈ (z :: zs).map rowD ↔ x ∈ (ordL ys).map (pickD ys) := fun x => by
        rw [pick_mem hl hrun, hf, List.mem_map]
        constructor
        · rintro ⟨a, ha, rfl⟩; exact ⟨a, ha, rfl⟩
        · rintro ⟨a, ha, rfl⟩; exact ⟨a, ha, rfl⟩
      have := minL_least (zs.map rowD) (rowD z) ⟨fun x hx => hS.1 x ((hsub x).mp hx), fun x hx y hy => hS.2 x ((hsub x).mp hx) y ((hsub y).mp hy)⟩
      exact fun y hy => this y ((hsub y).mpr hy)
  cases he : lawForms ys with
  | nil =>
    have := (hmem _).mpr hn
    rw [he] at this; exact absurd this List.not_mem_nil
  | cons x rest =>
    have hx : x ∈ (ordL ys).map (pickD ys) := (hmem x).mp (by rw [he]; exact List.mem_cons_self)
    have hxl : Least ((ordL ys).map (pickD ys)) x := fun y hy => by
      have : inoD ((ordL ys).map (pickD ys)) [] = x :: rest := he
      rw [this] at hh
      exact hh x rfl y (by rw [← he]; exact (hmem y).mpr hy)
    rw [least_one hS hx hn hxl hleast]
    exact ⟨rest, rfl⟩
theorem own_lp0 {F : Fm} {l : Addr} : (F.own l).N l = true := orA_r
/-- an owned list is data again, in its slot -/
theorem S.give {O : Addr → Bool} {H0 H : Hp} {l : Addr} {ds : List PyData} {δ : List SD} {σ : L2.St} {i : Nat} (s : S ((F0 O H0).own l) [(l, OC.lst ds)] δ σ H) (hr : δ[i]? = some (.raw (.ref l))) (hO : O l = false) : S (F0 O H0) [] (δ.set i (.dat (.list ds))) σ H := by
  have hH : H0 l = none := by
    rcases s.fr l (show ((F0 O H0).own l).N l = true from own_lp0) with z | z
    · cases z
    · exact z.1
  have hv := s.getRaw hr
  obtain ⟨s1, r⟩ := s.release (F := F0 O H0) rfl hH hO (fun p hp => absurd hp List.not_mem_nil) (fun a h => by cases h) (fun a h => h)
  have s2 := s1.set r i
  have e : σ.set i (some (.ref l)) = σ := by
    obtain ⟨hi, e⟩ := List.getElem?_eq_some_iff.mp hv
    rw [← e]
    exact List.set_getElem_self hi
  rw [e] at s2
  exact s2
section
variable {P : Program} {w : World} {K : PySem.W.Frag} {mg : Str → Option Value} {base : Heap}
theorem sc__law_orders : FnScope ["_law_history_here", "_law_found", "_law_turn", "_law_order", "_law_k"] ["_law_history_here"] (defScope s__law_orders) := ⟨rfl, rfl, rfl, by decide +kernel, rfl, by decide +kernel, by decide +kernel⟩
theorem c__law_orders (T : Txt K mg) : Cl P w K mg base CX0 7 "_law_orders" ["_law_history_here"] (PureSp R_law_orders) := by
  refine pure_ok T.d__law_orders sc__law_orders (fun ds d h => by obtain ⟨ys, ⟨rfl, _⟩, _⟩ := h; rfl) (fun f cdv A outer s0 H0 E hr => ⟨_, (pss_cons (ps_set (i := 1) sc__law_orders.nd rfl (Or.inl rfl) (pe_lst (pa_cons (pe_callTy call_tuple_of (by rfl) T.z_tuple (by decide +kernel) (pa_cons (pe_lc (own := [("_law_k", 4)]) (g := gName 4) (tt := tYes) rfl sc__law_orders.nd (pi_range1 (by rfl) T.z_range (pa_cons (pe_callB call_len (by rfl) T.z_len PySem.boot_len (pa_cons (pv 0) pa_nil)) pa_nil)) (blkOk_by (own := [("_law_k", 4)]) (N := ["_law_history_here", "_law_found", "_law_turn", "_law_order", "_law_k"]) (sc := (defScope s__law_orders)) (by decide +kernel)) (fun _ _ _ _ _ => (pg_name (i := 4) sc__law_orders.nd rfl (Or.inl rfl))) (fun _ _ _ _ _ => pts_nil) (fun _ _ _ _ _ => (pv 4))) pa_nil)) pa_nil)))
    (pss_cons (ps_for PassesOwn.never rfl (pi_range1 (by rfl) T.z_range (pa_cons pe_int pa_nil)) (pg_name (i := 2) sc__law_orders.nd rfl (Or.inl rfl))
    (pss_one (ps_if (pt_cmpR op_lt (pv 2) (pe_callB call_len (by rfl) T.z_len PySem.boot_len (pa_cons (pv 1) pa_nil)) (nomark _)) (pss_one (ps_for PassesOwn.never rfl (pi_seq (pe_k (c__law_swaps T) hr (by decide) rfl pass0 (pa_cons (pv 0) (pa_cons (pe_ix ix_seq (pv 1) (pv 2) (fun _ _ => rfl)) pa_nil)))) (pg_name (i := 3) sc__law_orders.nd rfl (Or.inl rfl))
    (pss_one (ps_if (pt_cmpR (op_notInD (units65 hr)) (pv 3) (pv 1) rfl) (pss_one (ps_expr (pe_bm PySem.F.plainAttrs_list PySem.F.slot_list_append PySem.F.type_list_append mt_append (pv 1) (pa_cons (pv 3) pa_nil)))) pss_nil)))) pss_nil)))
    (pss_one (ps_ret (pe_k (c__law_in_order T) hr (by decide) rfl pass0 (pa_cons (pv 1) pa_nil)))))), ?_⟩)
  rintro O ds r σ ⟨ys, ⟨rfl, hg, hl, u, hrun⟩, rfl⟩ s Q q
  have hr0 : (rngD 0 ((ys.map Deed.enc).length : Int).toNat).map (fun x => x) = (toI (List.range ys.length)).map PyData.int := by rw [Int.toNat_natCast, List.length_map]; exact range_data _
  refine sq_own (ds := (([List.range ys.length] : List (List Nat)).map toI).map ordD) (ea_cons (ev_is (ev_tuple (ev_lc (f := fun x => x) (ei_range1 (ev_lenL (ev_var rfl)) (by omega) (by rw [List.length_map]; omega)) (fun F' M' x hx => ev_var rfl) (by unfold rngD; rw [List.length_map, List.length_range, Int.toNat_natCast, List.length_map]; omega)) (.inl rfl)) (by rw [hr0]; rfl)) ea_nil) s (fun l σ1 H1 hl1 s1 => ?_) (Nat.le_of_ble_eq_true rfl)
  refine sq_for (α := List (List Nat)) (fun _ a => [(l, .lst ((a.map toI).map ordD))]) (fun _ a => [.dat (.list (ys.map Deed.enc)), .raw (.ref l), .any, .any, .any]) (fun i a => BInv ys u a ∧ bfs ys (120 - i) i a = ordersOf ys) [List.range ys.length] (ei_range1 (i := 120) ev_int (by decide) (by decide)) s1 ⟨binv0 hrun, rfl⟩ rfl (Le.refl _) ?_ ?_
  · rintro B i found d σ H v hd ⟨hB, hbfs⟩ s r
    unfold rngD at hd
    rw [List.getElem?_map] at hd
    have hi : i < 120 := by
      rcases Nat.lt_or_ge i 120 with h | h
      · exact h
      · rw [List.getElem?_eq_none_iff.mpr (by rw [List.length_range]; exact h)] at hd; cases hd
    rw [List.getElem?_range (by exact hi)] at hd
    cases hd
    have r : Rp _ v (.int (0 + ((i : Nat) : Int))) := r
    rw [show ((0 : Int) + ((i : Nat) : Int)) = (i : Int) by omega] at r
    refine tg_use tg_name s r fun σ1 s1 => ?_
    have hfl := hB.len hl
    have hcnt : ((found.map toI).map ordD).length = found.length := by rw [List.length_map, List.length_map]
    refine st_if (b := decide (i < found.length)) (et_is (et_test (ev_lt (ev_var rfl) (ev_lenO (er_var rfl) List.mem_cons_self))) (by rw [hcnt]; exact dec_congr (by omega))) s1 (fun hb H2 s2 => ?_) fun hb H2 s2 => ⟨found, ⟨hB, ?_⟩, s2.le (.eq (.eq (.any (.any (.any .nil)))))⟩
    · have hlt := of_decide_eq_true hb
      obtain ⟨o, ho⟩ : ∃ o, found[i]? = some o := ⟨_, List.getElem?_eq_getElem hlt⟩
      have hom := List.mem_of_getElem? ho
      have hin := hB.ins hom
      have hpl : o.length = ys.length := by rw [(hB.pm o hom).length_eq, List.length_range]
      have hsl : (swapsOf ys o).length ≤ 5 := by
        unfold swapsOf
        rw [List.length_map]
        have := List.length_filter_le (fun k => canSwap .nil (formOf ys o) k) (List.range (o.length - 1))
        rw [List.length_range] at this
        omega
      have hnext : bfs ys (120 - (i + 1)) (i + 1) (expand ys o found) = ordersOf ys := by
        rw [← hbfs, show 120 - i = (120 - (i + 1)) + 1 by omega]
        show _ = (match found[i]? with
          | none => found
          | some o => bfs ys (120 - (i + 1)) (i + 1) (expand ys o found))
        rw [ho]
      refine st_for (α := List (List Nat) × List (List Nat)) (fun _ a => [(l, .lst ((a.2.map toI).map ordD))]) (fun _ a => [.dat (.list (ys.map Deed.enc)), .raw (.ref l), .any, .any, .any]) (fun j a => (swapsOf ys o).drop j = a.1 ∧ a.1.foldl addN a.2 = expand ys o found ∧ a.2.length + a.1.length ≤ 1000) (swapsOf ys o, found)
        (ei_seq (ev_call (ea_cons (ev_var rfl) (ea_cons (ev_ixO (er_var rfl) (ev_var rfl) List.mem_cons_self (atI_nat (by rw [List.getElem?_map, List.getElem?_map, ho]; rfl))) ea_nil)) ⟨ys, o, u, rfl, hg, hin, by omega, hB.run hom, rfl⟩) (.inl rfl)) s2 ⟨rfl, swaps_expand hpl found, by show found.length + (swapsOf ys o).length ≤ 1000; omega⟩ rfl (.eq (.eq (.any (.any (.any .nil))))) ?_ ?_
      · rintro B2 j ⟨rest, a⟩ d σ H v hd ⟨h1, h2, h3⟩ s r
        dsimp only at h1 h2 h3 s
        rw [List.getElem?_map, List.getElem?_map] at hd
        cases hx : (swapsOf ys o)[j]? with
        | none => rw [hx] at hd; cases hd
        | some x =>
          rw [hx] at hd
          cases hd
          cases rest with
          | nil => exact absurd h1 (drop_some hx)
          | cons y rest =>
            obtain ⟨rfl, h5⟩ := drop_step hx h1
            rw [List.length_cons] at h3
            refine tg_use tg_name s r fun σ1 s1 => ?_
            refine st_if (b := decide (x ∉ a)) (et_is (et_test (ev_notInO (ev_var rfl) (er_var rfl) List.mem_cons_self (ord_nb _).2 (found_shaped _))) (by rw [found_any]; by_cases c1 : x ∈ a <;> simp [c1])) s1 (fun hb H3 s3 => ?_) fun hb H3 s3 => ?_
            · have hb' := of_decide_eq_true hb
              have ea : addN a x = a ++ [x] := if_neg hb'
              refine st_append (j := 0) (er_var rfl) (ev_var rfl) rfl own_lpp (by rw [List.length_map, List.length_map]; omega) s3 fun H4 s4 => ⟨(rest, a ++ [x]), ⟨h5, by rw [← h2, List.foldl_cons, ea], by show (a ++ [x]).length + rest.length ≤ 1000; rw [List.length_append, List.length_singleton]; omega⟩, ?_⟩
              have e1 : ((a ++ [x]).map toI).map ordD = (a.map toI).map ordD ++ [ordD (toI x)] := by rw [List.map_append, List.map_append]; rfl
              show S _ [(l, .lst (((a ++ [x]).map toI).map ordD))] _ _ _
              rw [e1]
              exact s4.le (.eq (.eq (.any (.any (.any .nil)))))
            · have hb' := of_decide_eq_false hb
              have ea : addN a x = a := if_pos (Decidable.of_not_not hb')
              exact ⟨(rest, a), ⟨h5, by rw [← h2, List.foldl_cons, ea], by show a.length + rest.length ≤ 1000; omega⟩, s3.le (.eq (.eq (.any (.any (.any .nil)))))⟩
      · rintro ⟨rest, a⟩ σ H ⟨h1, h2, h3⟩ s
        dsimp only at h1 h2 h3 s
        rw [List.length_map, List.length_map] at h1
        have := drop_all h1
        subst this
        have h2 : a = expand ys o found := h2
        subst h2
        exact ⟨_, ⟨(expand_ok hB hom).1, hnext⟩, s.le (.eq (.eq (.any (.any (.any .nil)))))⟩
    · have hge := of_decide_eq_false hb
      have hn : found[i]? = none := List.getElem?_eq_none_iff.mpr (by omega)
      have hn2 : found[i + 1]? = none := List.getElem?_eq_none_iff.mpr (by omega)
      have stop : ∀ f j, found[j]? = none → bfs ys f j found = found := fun f j h => by
        cases f with
        | zero => rfl
        | succ f =>
          show (match found[j]? with
            | none => found
            | some o => bfs ys f (j + 1) (expand ys o found)) = found
          rw [h]
      rw [stop _ _ hn2, ← hbfs, stop _ _ hn]
  · rintro found σ H ⟨hB, hbfs⟩ s
    have h120 : (rngD 0 (120 : Int).toNat).length = 120 := by unfold rngD; rw [List.length_map, List.length_range]; rfl
    rw [h120] at hbfs
    have hf : found = ordersOf ys := hbfs
    subst hf
    have hlen := hB.len hl
    exact st_retM (ev_call (ea_cons (ev_var rfl) ea_nil) ⟨_, rfl, by rw [List.length_map, List.length_map]; omega, ords_sortable _, fun x hx => by
      obtain ⟨b, _, rfl⟩ := List.mem_map.mp hx
      exact (ord_nb b).2, rfl⟩) (s.give (i := 1) rfl hl1) q
theorem sc__law_forms : FnScope ["_law_history_here", "_law_order", "_law_k"] ["_law_history_here"] (defScope s__law_forms) := ⟨rfl, rfl, rfl, by decide +kernel, rfl, by decide +kernel, by decide +kernel⟩
theorem c__law_forms (T : Txt K mg) : Cl P w K mg base CX0 8 "_law_forms" ["_law_history_here"] (PureSp R_law_forms) := by
  refine pure_ok T.d__law_forms sc__law_forms (fun ds d h => by obtain ⟨ys, ⟨rfl, _⟩, _⟩ := h; rfl) (fun f cdv A outer s0 H0 E hr => ⟨_, (pss_one (ps_ret (pe_k (c__law_in_order T) hr (by decide) rfl pass0 (pa_cons (pe_lc (own := [("_law_order", 1)]) (g := gName 1) (tt := tYes) rfl sc__law_forms.nd (pi_seq (pe_k (c__law_orders T) hr (by decide) rfl pass0 (pa_cons (pv 0) pa_nil))) (blkOk_by (own := [("_law_order", 1)]) (N := ["_law_history_here", "_law_order", "_law_k"]) (sc := (defScope s__law_forms)) (by decide +kernel)) (fun _ _ _ _ _ => (pg_name (i := 1) sc__law_forms.nd rfl (Or.inl rfl))) (fun _ _ _ _ _ => pts_nil) (fun _ _ _ _ _ => (pe_callTy (r := rTupleX K) call_tuple_of (by rfl) T.z_tuple (by decide +kernel) (pa_cons (pe_lc (own := [("_law_k", 2)]) (X := _) (wi := iSeq K (tVar 1)) (te := tOp (rIx K) (tVar 0) (tVar 2)) (g := gName 2) (tt := tYes) rfl sc__law_forms.nd (pi_seq (pv 1)) (blkOk_by (own := [("_law_k", 2)]) (N := ["_law_history_here", "_law_order", "_law_k"]) (sc := { kind := .function, names := [(".0", .local), ("_law_order", .local), ("tuple", .globalImplicit), ("_law_history_here", .cell)], isGenerator := false, isCoroutine := false }) (by decide +kernel)) (fun _ _ _ _ _ => (pg_name (i := 2) sc__law_forms.nd rfl (Or.inl rfl))) (fun _ _ _ _ _ => pts_nil) (fun _ _ _ _ _ => (pe_ix (r := rIx K) ix_seq (pv 0) (pv 2) (fun _ _ => rfl)))) pa_nil)))) pa_nil)))), ?_⟩)
  rintro O ds r σ ⟨ys, ⟨rfl, hg, hl, u, hrun⟩, rfl⟩ s Q q
  obtain ⟨hB, hcl⟩ := orders_ok hl hrun
  have hol := hB.len hl
  have h1 : ∀ F : Fm, Ev F [] [.dat (.list (ys.map Deed.enc)), .any, .any] _ (.list ((ordL ys).map (pickD ys))) := fun F => ev_lc (wi := iSeq K (tCall (PureSp R_law_orders) [] E0 (tCons (tVar 0) tNil))) (sl := 1) (te := tCB (rTupleX K) (tCons (tLc (iSeq K (tVar 1)) (gName 2) tYes (tOp (rIx K) (tVar 0) (tVar 2)) [2]) tNil))
    (ei_seq (ev_call (ea_cons (ev_var rfl) ea_nil) ⟨ys, ⟨rfl, hg, hl, u, hrun⟩, rfl⟩) (.inl rfl)) (fun F' M' x hx => by
      obtain ⟨o, ho, rfl⟩ := ordL_mem.mp hx
      have hin := hB.ins ho
      have hpl : o.length = ys.length := by rw [(hB.pm o ho).length_eq, List.length_range]
      refine ev_is (ev_tuple (ev_lc (f := nthD ys) (ei_seq (ev_var rfl) (.inr rfl)) (fun F2 M2 n hn => ?_) (by unfold toI; rw [List.length_map, List.length_map]; omega)) (.inl rfl)) ?_
      · obtain ⟨k, hk, rfl⟩ := List.mem_map.mp hn
        obtain ⟨j, hj, rfl⟩ := List.mem_map.mp hk
        have hjl := hin j hj
        refine ev_ixL (ds := ys.map Deed.enc) (ev_var rfl) (ev_var rfl) (atI_nat ?_)
        show _ = some ((ys.map Deed.enc).getD ((j : Int)).toNat .none)
        rw [Int.toNat_natCast, List.getD_eq_getElem?_getD, List.getElem?_map, List.getElem?_eq_getElem hjl]; rfl
      · rfl) (by rw [ordL_len]; omega)
  refine st_retM (ev_call (ea_cons (h1 _) ea_nil) ⟨_, rfl, by rw [List.length_map, ordL_len]; omega, pick_sortable hg hl hrun, fun x hx => ?_, rfl⟩) s q
  obtain ⟨zs, hz, rfl⟩ := (pick_mem hl hrun).mp hx
  exact (row_nb (forms_good hg zs hz)).2
end
end G
set_option Elab.async false
set_option linter.all false
set_option maxRecDepth 100000
set_option maxHeartbeats 4000000
/-! Errors 3: a try with clauses that each bind the same name. -/
namespace G
open PySem PySem.Spec PyProof.Rows L2
/-- the name of slot i is gone behind the suite -/
def goneE (D : Ends) (i : Nat) : Ends := { nx := fun σ' H' => D.nx (σ'.set i none) H', rt := D.rt, bk := fun σ' H' => D.bk (σ'.set i none) H', ct := fun σ' H' => D.ct (σ'.set i none) H' }
abbrev ClT := Value × (Addr → Value → Option Addr → TS)
def wNamed (K : PySem.W.Frag) (i : Nat) (Wout : WX) (D : Ends) : List ClT → WX
  | [] => Wout
  | q :: r => fun cls d σ H => ∃ b, PySem.W.exmOne K cls q.1 = some b ∧ (b = true → ∀ a, H a = none → q.2 a cls d (goneE D i) (σ.set i (some (.ref a))) H) ∧ (b = false → wNamed K i Wout D r cls d σ H)
inductive Clauses (X : Cx) (n : Str) : List ExceptHandler → List ClT → Prop
  | none : Clauses X n [] []
  | more {x : Str} {q : ClT} {b : Stmt} {suite : List Stmt} {p p' : Pos} {hds : List ExceptHandler} {l : List ClT} (hc : Names X x q.1)
      (hsu : ∀ (a : Addr) (oe : Obj) (cls : Value) (d : Option Addr) (pn : List (Addr × Obj)), Zc cls d oe → (∃ vs, oe.data = .fields vs) → PSs (X.suite a ((a, oe) :: pn)) (b :: suite) (q.2 a cls d)) (r : Clauses X n hds l) :
      Clauses X n (.ExceptHandler (some (.Name x p)) (some n) (b :: suite) p' :: hds) (q :: l)
section
variable {X : Cx} {body : List Stmt} {h₀ : ExceptHandler} {hds : List ExceptHandler} {l : List ClT} {pos : Pos} {tb : WX → TS} {Wout : WX} {n : Str} {i : Nat} {pins : List (Addr × Obj)} {σ : L2.St} {H : Hp} {D : Ends}
/-- the ends of a try's body, as ends of the whole -/
theorem end_try {f : Flow} {s : Shared} {xe : Value → Shared → Prop} (ok : X.Ok) (h : L2.SP (X.tr (X.pn ++ pins) xe) [] D f s) : L2.SP X pins D f s := by
  cases f with
  | next => obtain ⟨σ', H', J, q⟩ := h; exact ⟨σ', H', J.ofTry ok, q⟩
  | brk => obtain ⟨σ', H', J, q⟩ := h; exact ⟨σ', H', J.ofTry ok, q⟩
  | cont => obtain ⟨σ', H', J, q⟩ := h; exact ⟨σ', H', J.ofTry ok, q⟩
  | ret u => obtain ⟨v, σ', H', J, r, q⟩ := h; exact ⟨v, σ', H', J.ofTry ok, r, q⟩
/-- the state in which a caught exception a lies down -/
structure Caught (X : Cx) (pins : List (Addr × Obj)) (B : Heap) (a : Addr) (cls : Value) (d : Option Addr) (σ : L2.St) (H : Hp) (sI s' : Shared) : Prop where
  J : L2.Inv X pins σ H sI
  nb : ∀ b o, sI.heap.get? b = some o → b ∉ frs X.stack → B.get? b = some o
  na : H a = none
  os : s'.os = sI.os
  ag : AllBare s'.gens
structure Down (X : Cx) (B : Heap) (a : Addr) (cls : Value) (d : Option Addr) (sI : Shared) (h : Heap) : Prop where
  up : sI.heap.UpToSlots h
  fl : HandSPX.FlyingZ B (X.env :: X.outer) a (Zc cls d) h
variable {a : Addr} {B h : Heap} {cls : Value} {d : Option Addr} {sI s' : Shared}
theorem Caught.inv (c : Caught X pins B a cls d σ H sI s') (w : Down X B a cls d sI h) : L2.Inv X pins σ H { s' with heap := h } :=
  c.J.landed c.nb w.fl.1 w.up c.os c.ag
theorem Caught.suite (c : Caught X pins B a cls d σ H sI s') (hf : X.env.frame = some X.env.locals) (w : Down X B a cls d sI h) :
    ∃ oe vs, h.get? a = some oe ∧ Zc cls d oe ∧ oe.data = .fields vs ∧ L2.Inv (X.suite a ((a, oe) :: (X.pn ++ pins))) [] σ H { s' with heap := h } := by
  obtain ⟨oe, vs, he, hz, hd⟩ := w.fl.there
  have out : a ∉ frs (X.env :: X.outer) := fun hm => by
    obtain ⟨_, o', e', hnf⟩ := w.fl.2.2.1.mem hm
    rw [he] at e'; cases e'
    exact hnf _ hd
  refine ⟨oe, vs, he, hz, hd, (c.inv w).suite he hd c.na (fun z => out ?_) fun hm => out ?_⟩
  · exact List.mem_filterMap.mpr ⟨X.env, List.mem_cons_self, by rw [hf, z]⟩
  · obtain ⟨e, he, q⟩ := List.mem_filterMap.mp hm
    exact List.mem_filterMap.mpr ⟨e, List.mem_cons_of_mem _ he, q⟩
/-- no clause is left -/
theorem Caught.out (c : Caught X pins B a cls d σ H sI s') (hs : X.stack = X.env :: X.outer) (hf : X.env.frame = some X.env.locals) (tk : Takes X Wout) (w : Down X B a cls d sI h) (q : Wout cls d σ H) :
    wpAny (model X.prog X.w) X.A (handleBy (.ref a) X.env []) (L2.SP X pins D) X.xe { s' with heap := h } := by
  refine wpAny_handleBy_nil ?_
  obtain ⟨_, _, _, oe, vs, T, oT, ts, he, hz, hd, h1, hr⟩ := id w.fl
  unfold PySem.passOn
  refine wpAny_bind (wpAny_field he hd h1 ?_)
  rw [if_neg (show ¬ ((Value.ref T == Value.none) = true) from by simp)]
  have up : wpAny (model X.prog X.w) X.A (setFlight (.ref a) X.env.frame) (fun _ s4 => wpAny (model X.prog X.w) X.A (throw (.ref a) : Sem Flow) (L2.SP X pins D) X.xe s4) X.xe { s' with heap := h } := by
    rw [hf]
    exact HandSPX.setFlight_upZ w.fl fun h4 hh4 up4 => wpAny_throw (tk _ _ ⟨a, B, sI, pins, σ, H, cls, d, rfl, c.J, c.nb, w.up.trans up4, .inr (.inr (by rw [hs]; exact hh4)), c.na, c.os, c.ag, q⟩)
  first
    | exact wpAny_bind (wpAny_pure (wpAny_bind up))
    | exact wpAny_bind up
/-- the clauses, one behind the other -/
theorem Caught.run (c : Caught X pins B a cls d σ H sI s') (hs : X.stack = X.env :: X.outer) (hf : X.env.frame = some X.env.locals) (hN : X.N.Nodup) (hi : X.N[i]? = some n) (hln : X.env.kindOf n = some .local) (tk : Takes X Wout) (w : Down X B a cls d sI h) {hds : List ExceptHandler} {l : List ClT} (C : Clauses X n hds l) :
    wNamed X.K i Wout D l cls d σ H → wpAny (model X.prog X.w) X.A (handleBy (.ref a) X.env hds) (L2.SP X pins D) X.xe { s' with heap := h } := by
  have ok := c.J.ok
  induction C with
  | none => exact fun q => c.out hs hf tk w q
  | @more x q b suite p p' hds l hc hsu r ih =>
    rintro ⟨t, ht, yes, no⟩
    obtain ⟨oe, vs, he, hz, hd, S3⟩ := c.suite hf w
    refine wpAny_handleBy_cons (codeAny_handlers_test ?_) (by intro q; cases q)
    have name : ∀ {Q : Value → Shared → Prop} {E : Value → Shared → Prop}, Q q.1 { s' with heap := h } → wpAny (model X.prog X.w) (X.A.mark (some (.ref a))) (eval (.Name x p) X.env) Q E { s' with heap := h } := fun {Q E} z => by
      obtain ⟨hg, hdbg, hm | ⟨hm, hv, hnn⟩⟩ := hc
      · exact ld_glob (X := X.suite a ((a, oe) :: (X.pn ++ pins))) S3 hg hm z hdbg
      · exact ld_blt (X := X.suite a ((a, oe) :: (X.pn ++ pins))) S3 hg hm hv z hnn hdbg
    have looks : PySem.W.Looks (model X.prog X.w) h (typeOf (.ref a)) cls := fun A Q E s k z => wpAny_typeOf_ref (k _ _ he) (by rw [hz.1]; exact z)
    refine name ((PySem.W.exm_one (M := model X.prog X.w) ((c.inv w).kIn) looks ht).here ?_)
    cases t with
    | false => exact ih (no rfl)
    | true =>
      refine codeAny_handlers_suite_as (HandSPX.lands_againZ w.fl fun h4 fl4 up4 => ?_)
      have w4 : Down X B a cls d sI h4 := ⟨w.up.trans up4, fl4⟩
      obtain ⟨oe4, vs4, he4, hz4, hd4, S4⟩ := c.suite hf w4
      refine store_ok (X := X.suite a ((a, oe4) :: (X.pn ++ pins))) (v := .ref a) S4 hN hi (.inl hln) rfl (fun s5 S5 => ?_) (.inr hln)
      refine wpAny_mono ((hsu a oe4 cls d (X.pn ++ pins) hz4 ⟨_, hd4⟩).run [] s5 _ H _ S5 (yes rfl a c.na)) (fun f s6 hsp => ?_) (fun _ _ z => False.elim z)
      have gone : ∀ {σ6 : L2.St} {H6 : Hp} {Q : Shared → Prop}, L2.Inv (X.suite a ((a, oe4) :: (X.pn ++ pins))) [] σ6 H6 s6 → (∀ s7, L2.Inv X pins (σ6.set i none) H6 s7 → Q s7) →
          wpAny (model X.prog X.w) X.A (do bindName X.env n .none; unbindBehindTheSuite X.env n p') (fun _ s7 => Q s7) X.xe s6 := fun S6 hq => gone_ok (S6.unsuite ok) hN hi hln hq
      cases f with
      | next => obtain ⟨σ6, H6, S6, q6⟩ := hsp; exact gone S6 fun s7 J7 => ⟨_, _, J7, q6⟩
      | brk => obtain ⟨σ6, H6, S6, q6⟩ := hsp; exact gone S6 fun s7 J7 => ⟨_, _, J7, q6⟩
      | cont => obtain ⟨σ6, H6, S6, q6⟩ := hsp; exact gone S6 fun s7 J7 => ⟨_, _, J7, q6⟩
      | ret u => obtain ⟨v6, σ6, H6, S6, r6, q6⟩ := hsp; exact gone S6 fun s7 J7 => ⟨_, _, _, J7, r6, q6⟩
theorem ps_try_named (hs : X.stack = X.env :: X.outer) (hf : X.env.frame = some X.env.locals) (hN : X.N.Nodup) (hi : X.N[i]? = some n) (hln : X.env.kindOf n = some .local) (tk : Takes X Wout)
    (hb : ∀ (W : WX) (pn : List (Addr × Obj)) (xe : Value → Shared → Prop), Takes (X.tr pn xe) W → PassesOwn (model X.prog X.w) X.A X.env xe → PSs (X.tr pn xe) body (tb W))
    (hh : Clauses X n (h₀ :: hds) l) : PS X (.Try body (h₀ :: hds) [] [] pos) (fun D σ H => tb (wNamed X.K i Wout D l) D σ H) := by
  refine ⟨fun pins s σ H D I h => wpAny_Try_except ?_⟩
  have ok := I.ok
  refine wpAny_mono ((hb (wNamed X.K i Wout D l) (X.pn ++ pins) _ (fun u s' xx => ?_) PassesOwn.looking).run [] s σ H D (I.toTry _) h) (fun f s1 hsp => ?_) (fun e s1 he => he)
  · obtain ⟨a, B, sI, pins', σ', H', cls, d, rfl, J', nb, up, sky, na, os, ag, w⟩ := xx
    have c : Caught X pins B a cls d σ' H' sI s' := ⟨J'.ofTry ok, nb, na, os, ag⟩
    have fr : X.A.frames = some (X.env :: X.outer) := by rw [ok.frames, hs]
    have sky' : Sky B (X.env :: X.outer) a (Zc cls d) X.env.locals s'.heap := by rw [← hs]; exact sky
    exact Sky.land Zc.steady fr hf sky' fun h3 fl3 up3 => c.run hs hf hN hi hln tk ⟨up.trans up3, fl3⟩ hh w
  · have := end_try ok hsp
    cases f with
    | next => exact wpAny_execs_nil this
    | brk => exact this
    | cont => exact this
    | ret u => exact this
end
end G
set_option Elab.async false
set_option linter.all false
set_option maxRecDepth 100000
set_option maxHeartbeats 4000000
namespace G
open PySem PySem.Spec PyProof.Rows L2 Fo
section
variable {P : Program} {w : World} {K : PySem.W.Frag} {mg : Str → Option Value} {base : Heap} {k : Nat} {x : Str} {ps : List Str}
/-- a def that may raise, where it does not -/
theorem Cl.calm {R : List PyData → Out → Prop} (c : Cl P w K mg base (L2.CX P w) k x ps (SpX R)) : Cl P w K mg base CX0 k x ps (PureSp fun ds d => R ds (.ret d)) := by
  obtain ⟨f, fd, F, m, kp, b⟩ := c.ex
  have imp : ∀ vs H Q (E E' : XK), PureSp (fun ds d => R ds (.ret d)) vs H Q E → SpX R vs H Q E' := fun vs H Q E E' ⟨O, ds, d, h1, h2, h3, h4⟩ => ⟨O, ds, .ret d, h1, h2, h3, h4⟩
  refine ⟨f, fd, ⟨fun vs H Q E h => F.len vs H Q E0 (imp _ _ _ _ _ h), fun A outer s H args us vs Q E hr he hb hv h => codeAny_mono (F.run A outer s H args us vs Q E0 hr he hb hv (imp _ _ _ _ _ h)) fun r s' hc => ?_⟩, m, kp, b⟩
  cases r with
  | ok f => cases f <;> exact hc
  | error e =>
    obtain ⟨_, _, _, _, _, _, _, _, _, _, _, _, hE⟩ := hc
    exact hE.elim
end
section
variable {F : Fm} {M : List (Addr × OC)} {δ : List SD} {σ : L2.St} {H H0 : Hp} {O : Addr → Bool} {ta : TA} {te : TE} {d e : PyData} {ds : List PyData} {D : Ends} {a C dd : Addr} {fs : List (Str × V)} {f g z : Str} {v u : V} {i : Nat}
theorem ev_callXS {R : List PyData → Out → Prop} {E : L2.St → XK} (ha : Ea F M δ ta ds) (hR : R ds (.ret d)) : Ev F M δ (tCallS (SpX R) E ta) d := fun σ H s Q q => by
  refine ha σ H s _ fun vs H1 s1 e1 r1 => ?_
  exact ⟨F.O, ds, .ret d, s1.dom, r1, hR, fun v H' e r => q v H' (s1.same e) (e1.trans e) r⟩
/-- the second part of a pair raises -/
theorem tx_pair {R : List PyData → Out → Prop} {E : L2.St → XK} {fs : List (Str × PyData)} (ha : Ea F M δ ta ds) (hR : R ds (.exc C fs)) (s : S F M δ σ H)
    (k : ∀ dd H' vs, S F M δ σ H' → H' dd = some (.xd ((fs.map (·.1)).zip vs)) → RpAll (shr F.O H') vs (fs.map (·.2)) → E σ (.ref C) (some dd) H') : tRet (tTup (tCons (tC (.str z)) (tCons (tCallS (SpX R) E ta) tNil))) D σ H := by
  refine ha σ H s _ fun vs H1 s1 e1 r1 => ?_
  exact ⟨F.O, ds, .exc C fs, s1.dom, r1, hR, fun dd H' vs e hd r => k dd H' vs (s1.same e) hd r⟩
theorem st_tup {vs : List V} (s : S F M δ σ H) (r : RpAll (shr F.O H) vs ds) (hl : ds.length ≤ 16777216) (k : ∀ v H', Same H0 H' → Rp (shr O H') v (.tuple ds) → D.rt v H') (h0 : F.H0 = H0 := by rfl) (hP : ∀ a, F.P a = false := by intro _; rfl) (hO : F.O0 = O := by rfl) : vs.length ≤ sizeLine ∧ ∀ p, H p = none → D.rt (.ref p) (upd H p (.tup vs)) := by
  refine ⟨by rw [r.length, sizeLine_eq]; exact hl, fun p hp => ?_⟩
  have e2 := same_new (o := .tup vs) hp
  have s2 := s.same e2
  refine k _ _ (s2.pureSame h0 hP) ?_
  have : Rp (shr F.O (upd H p (.tup vs))) (.ref p) (.tuple ds) := .tup (shr_at upd_same (s.fresh hp)) (r.same (shr_same e2))
  exact this.same (shr_mono fun a h => s2.osub a (by rw [hO]; exact h))
end

/-- what is told of an outcome -/
inductive Told (cS cR : Addr) : Out → PyData → Prop
  | ret (d : PyData) : Told cS cR (.ret d) (.tuple [.str "told", d])
  | bad (x : Item) : Told cS cR (badOut cS x) (badD x)
  | ref (x : Deed) (why : Str) : Told cS cR (refOut cR x why) (refD x why)
def R_law_told (cS cR : Addr) (ds : List PyData) (r : PyData) : Prop := ∃ (w : Str) (d e : PyData) (o : Out), ds = [.str w, d, e] ∧ Told cS cR o r ∧ ((w = "normal" ∧ R_normal cS cR [d] o) ∨ (w = "same" ∧ R_same_deeds cS cR [d, e] o))
section
variable {P : Program} {w : World} {K : PySem.W.Frag} {mg : Str → Option Value} {base : Heap} {cS cR : Addr}
theorem sc__law_told : FnScope ["_law_word_here", "_law_history_here", "_law_other_here", "e"] ["_law_word_here", "_law_history_here", "_law_other_here"] (defScope s__law_told) := ⟨rfl, rfl, rfl, by decide +kernel, rfl, by decide +kernel, by decide +kernel⟩
def tS (cS : Addr) : Addr → Value → Option Addr → TS := fun a cls d => tRet (tTup (tCons (tC (.str "script")) (tCons (tXf a cls d cS "value" (tVar 3)) tNil)))
def tR (cR : Addr) : Addr → Value → Option Addr → TS := fun a cls d => tRet (tTup (tCons (tC (.str "refusal")) (tCons (tXf a cls d cR "deed" (tVar 3)) (tCons (tXf a cls d cR "reason" (tVar 3)) tNil))))
theorem c__law_told (T : Txt K mg) (XE : Errs P K mg cS cR) : Cl P w K mg base CX0 33 "_law_told" ["_law_word_here", "_law_history_here", "_law_other_here"] (PureSp (R_law_told cS cR)) := by
  refine pure_ok T.d__law_told sc__law_told (fun ds d h => by obtain ⟨w, d, e, o, rfl, _⟩ := h; rfl) (fun f cdv A outer s0 H0 E hr => ⟨_, pss_one (ps_try_named (i := 3) (n := "e") (Wout := fun _ _ _ _ => False) rfl rfl sc__law_told.nd rfl rfl takes_none5
    (fun W pn xe tk po => pss_cons (ps_if (pt_cmpR (r := rEqD K) (op_eqD hr.units) (pv 0) pe_str (nomark _)) (pss_one (ps_ret (pe_tup (pa_cons pe_str (pa_cons (pe_kS (E := WE W) (c_normal T XE) hr (by decide) rfl (passAt tk) (pa_cons (pv 1) pa_nil)) pa_nil))))) pss_nil)
      (pss_one (ps_ret (pe_tup (pa_cons pe_str (pa_cons (pe_kS (E := WE W) (c_same_deeds T XE) hr (by decide) rfl (passAt tk) (pa_cons (pv 1) (pa_cons (pv 2) pa_nil))) pa_nil))))))
    (.more (q := (.ref cS, tS cS)) ⟨rfl, by decide, .inl XE.s.glob⟩ (fun a oe cls d pn hz hf => pss_one (ps_ret (pe_tup (pa_cons pe_str (pa_cons (pe_xf XE.s.xf (XE.s.nos _ (by simp)) hz hf (pv 3)) pa_nil)))))
      (.more (q := (.ref cR, tR cR)) ⟨rfl, by decide, .inl XE.r.glob⟩ (fun a oe cls d pn hz hf => pss_one (ps_ret (pe_tup (pa_cons pe_str (pa_cons (pe_xf XE.r.xf (XE.r.nos _ (by simp)) hz hf (pv 3)) (pa_cons (pe_xf XE.r.xf (XE.r.nos _ (by simp)) hz hf (pv 3)) pa_nil)))))) .none))), ?_⟩)
  rintro O ds r σ ⟨word, d, e, o, rfl, ht, hw⟩ s Q q
  have exc : ∀ C fs, o = .exc C fs → ∀ σ1 dd H' vs, S (F0 O H0) [] [.dat (.str word), .dat d, .dat e, .any] σ1 H' → H' dd = some (.xd ((fs.map (·.1)).zip vs)) → RpAll (shr O H') vs (fs.map (·.2)) →
      wNamed K 3 (fun _ _ _ _ => False) { nx := fun _ H' => Q .non H', rt := Q } [(.ref cS, tS cS), (.ref cR, tR cR)] (.ref C) (some dd) σ1 H' := fun C fs ho σ1 dd H' vs s' hd rv => by
    cases ht with
    | ret d => cases ho
    | bad x =>
      cases ho
      obtain ⟨v, rfl, r1⟩ : ∃ v, vs = [v] ∧ Rp (shr O H') v x.enc := by
        cases rv with | cons a b => cases b; exact ⟨_, rfl, a⟩
      refine ⟨true, XE.ss, fun _ a na => ?_, fun h => by cases h⟩
      have s3 := s'.setRaw (.ref a) 3
      exact ⟨.ref a, s3.getRaw rfl, rfl, rfl, dd, _, v, rfl, hd, rfl, st_tup (D := { nx := fun _ H' => Q .non H', rt := Q }) (ds := [.str "script", x.enc]) s3 (.cons (.str _) (.cons r1 .nil)) (Nat.le_of_ble_eq_true rfl) q⟩
    | ref x why =>
      cases ho
      obtain ⟨u, v, rfl, r1, r2⟩ : ∃ u v, vs = [u, v] ∧ Rp (shr O H') u (.str why) ∧ Rp (shr O H') v x.enc := by
        cases rv with | cons a b => cases b with | cons b c => cases c; exact ⟨_, _, rfl, a, b⟩
      refine ⟨false, XE.rs, (fun h => by cases h), fun _ => ⟨true, XE.rr, fun _ a na => ?_, fun h => by cases h⟩⟩
      have s3 := s'.setRaw (.ref a) 3
      exact ⟨.ref a, s3.getRaw rfl, rfl, rfl, dd, _, v, rfl, hd, rfl, .ref a, s3.getRaw rfl, rfl, rfl, dd, _, u, rfl, hd, rfl, st_tup (D := { nx := fun _ H' => Q .non H', rt := Q }) (ds := [.str "refusal", x.enc, .str why]) s3 (.cons (.str _) (.cons r2 (.cons r1 .nil))) (Nat.le_of_ble_eq_true rfl) q⟩
  rcases hw with ⟨rfl, hR⟩ | ⟨rfl, hR⟩
  · refine sq_ifN (b := true) (et_is (et_test (ev_eqS (ev_var rfl) ev_str (by decide +kernel))) (by decide +kernel)) s (fun _ H2 s2 => ?_) (fun h => by cases h)
    cases o with
    | ret x =>
      cases ht
      exact st_retM (ev_tup (ea_cons ev_str (ea_cons (ev_callXS (ea_cons (ev_var rfl) ea_nil) hR) ea_nil))) s2 q
    | exc C fs => exact tx_pair (ea_cons (ev_var rfl) ea_nil) hR s2 fun dd H' vs s' hd r => exc C fs rfl _ dd H' vs s' hd r
  · refine sq_ifN (b := false) (et_is (et_test (ev_eqS (ev_var rfl) ev_str (by decide +kernel))) (by decide +kernel)) s (fun h => by cases h) (fun _ H2 s2 => ?_)
    cases o with
    | ret x =>
      cases ht
      exact st_retM (ev_tup (ea_cons ev_str (ea_cons (ev_callXS (ea_cons (ev_var rfl) (ea_cons (ev_var rfl) ea_nil)) hR) ea_nil))) s2 q
    | exc C fs => exact tx_pair (ea_cons (ev_var rfl) (ea_cons (ev_var rfl) ea_nil)) hR s2 fun dd H' vs s' hd r => exc C fs rfl _ dd H' vs s' hd r
end
end G
set_option Elab.async false
set_option linter.all false
set_option maxRecDepth 100000
set_option maxHeartbeats 4000000
/-! Mathematics 9: the normal form names the class. -/
namespace G
open PySem L2 Fo
/-- a history that runs -/
def Runs (ys : List Deed) (u : Fo) : Prop := (∀ y ∈ ys, y.good = true) ∧ ys.length ≤ 5 ∧ reachD .nil ys = some u
section
variable {ys zs : List Deed} {u v : Fo}
theorem Runs.cls (h : Runs ys u) (c : Cls ys zs) : Runs zs u := by
  obtain ⟨h1, h2, h3⟩ := h
  have p := c.perm
  exact ⟨fun y hy => h1 y (p.mem_iff.mp hy), by rw [p.length_eq]; exact h2, by rw [c.reach]; exact h3⟩
theorem Runs.norm (h : Runs ys u) : ∃ z, Cls ys z ∧ normD ys = rowD z := by
  obtain ⟨z, hz, e⟩ := norm_mem h.2.1 h.2.2
  exact ⟨z, (forms_cls h.2.1 h.2.2 z).mp (forms_mem.mp hz), e⟩
theorem Runs.sortable (h : Runs ys u) : Sortable (lawForms ys) := by
  have hS := pick_sortable h.1 h.2.1 h.2.2
  have hm : ∀ x, x ∈ lawForms ys → x ∈ (ordL ys).map (pickD ys) := fun x hx => by
    unfold lawForms at hx
    rw [(inoD_perm _ _).mem_iff, List.append_nil] at hx
    exact hx
  exact ⟨fun x hx => hS.1 x (hm x hx), fun x hx y hy => hS.2 x (hm x hx) y (hm y hy)⟩
theorem Runs.least (h : Runs ys u) : Least (lawForms ys) (normD ys) := by
  obtain ⟨rest, e⟩ := lawForms_head h.1 h.2.1 h.2.2
  have hS := pick_sortable h.1 h.2.1 h.2.2
  have hh := ino_head hS (rows := (ordL ys).map (pickD ys)) (found := []) (fun y h => h) (fun y h => absurd h List.not_mem_nil) (fun x h => by cases h)
  have e2 : inoD ((ordL ys).map (pickD ys)) [] = normD ys :: rest := e
  have := hh (normD ys) (by rw [e2]; rfl)
  exact this
theorem norm_cls (h : Runs ys u) (c : Cls ys zs) : normD zs = normD ys := by
  have h2 := h.cls c
  have hm : ∀ x, x ∈ lawForms zs ↔ x ∈ lawForms ys := fun x => by
    rw [lawForms_mem h.2.1 h.2.2, lawForms_mem h2.2.1 h2.2.2]
    constructor
    · rintro ⟨a, ha, rfl⟩; exact ⟨a, c.trans ha, rfl⟩
    · rintro ⟨a, ha, rfl⟩; exact ⟨a, c.symm.trans ha, rfl⟩
  obtain ⟨r1, e1⟩ := lawForms_head h.1 h.2.1 h.2.2
  obtain ⟨r2, e2⟩ := lawForms_head h2.1 h2.2.1 h2.2.2
  refine least_one h.sortable ((hm _).mp (by rw [e2]; exact List.mem_cons_self)) (by rw [e1]; exact List.mem_cons_self) (fun y hy => h2.least y ((hm y).mpr hy)) h.least
theorem norm_iff (h : Runs ys u) (k : Runs zs v) : rowD zs ∈ lawForms ys ↔ normD ys = normD zs := by
  rw [lawForms_mem h.2.1 h.2.2]
  constructor
  · rintro ⟨a, ha, e⟩
    rw [row_inj.mp e]
    exact (norm_cls h ha).symm
  · intro e
    obtain ⟨a, ha, e1⟩ := h.norm
    obtain ⟨b, hb, e2⟩ := k.norm
    rw [e1, e2] at e
    rw [row_inj.mp e] at ha
    exact ⟨zs, ha.trans hb.symm, rfl⟩
theorem Runs.items (h : Runs ys u) : (∀ x ∈ ys.map Item.d, x.short) ∧ ((ys.map Item.d).find? fun x => !x.good) = none ∧ deedsOf (ys.map Item.d) = ys ∧ (ys.map Item.d).map Item.enc = ys.map Deed.enc := good_items h.1
theorem Runs.runD (h : Runs ys u) (cR : Addr) : runD cR .nil ys = .ret (.tuple u.enc) := by
  rcases runD_cases cR .nil ys with ⟨w, h1, h2⟩ | ⟨h1, _⟩
  · rw [h.2.2] at h1; cases h1; exact h2
  · rw [h.2.2] at h1; cases h1
theorem Runs.runO (h : Runs ys u) (cS cR : Addr) : runO cS cR .nil (ys.map Item.d) = .ret (.tuple u.enc) := by
  unfold G.runO
  rw [h.items.2.1, h.items.2.2.1]
  exact h.runD cR
theorem Runs.noOut (h : Runs ys u) (cS cR : Addr) : noOut cS cR (ys.map Item.d) = .ret (normD ys) := by
  unfold G.noOut
  rw [h.runO, h.items.2.2.1]; rfl
theorem Runs.saOut (h : Runs ys u) (k : Runs zs v) (cS cR : Addr) : saOut cS cR (ys.map Item.d) (zs.map Item.d) = .ret (.bool (PyData.eqv (normD ys) (normD zs))) := by
  unfold G.saOut needH
  rw [List.find?_append, h.items.2.1, k.items.2.1, h.items.2.2.1, k.items.2.2.1]
  show thenO (thenO (G.runD cR .nil ys) (thenO (G.runD cR .nil zs) (.ret .none))) _ = _
  rw [h.runD, k.runD]; rfl
theorem Runs.norm_nb (h : Runs ys u) : nb (normD ys) = true ∧ SeqAt.shaped (normD ys) = true := by
  obtain ⟨z, hz, e⟩ := h.norm
  rw [e]
  exact row_nb (h.cls hz).1
theorem norm_eqv (h : Runs ys u) (k : Runs zs v) : PyData.eqv (normD ys) (normD zs) = true ↔ normD ys = normD zs := eqv_iff _ _ h.norm_nb.1 k.norm_nb.1
/-- tuple(other) in forms(history) -/
theorem forms_any (h : Runs ys u) (k : Runs zs v) : (lawForms ys).any (fun z => PyData.eqv z (rowD zs)) = PyData.eqv (normD ys) (normD zs) := by
  have hz := (row_nb k.1).1
  rw [Bool.eq_iff_iff, norm_eqv h k, List.any_eq_true, ← norm_iff h k]
  constructor
  · rintro ⟨x, hx, e⟩
    rw [← (eqv_iff x (rowD zs) (h.sortable.1 x hx) hz).mp e]
    exact hx
  · exact fun hx => ⟨_, hx, (eqv_iff _ _ hz hz).mpr rfl⟩
theorem eqv_sym (h : Runs ys u) (k : Runs zs v) : PyData.eqv (normD zs) (normD ys) = PyData.eqv (normD ys) (normD zs) := by
  rw [Bool.eq_iff_iff, norm_eqv h k, norm_eqv k h]
  exact eq_comm
end
end G
set_option Elab.async false
set_option linter.all false
set_option maxRecDepth 100000
set_option maxHeartbeats 4000000
/-! Mathematics 10: sizes of what is compared; what a fault says of a history. -/
namespace G
open PySem L2 Fo
theorem enc_size : ∀ t : Fo, t.enc.length ≤ t.size
  | .nil => Nat.le_refl _
  | .cons m w c r => by
    show (spotD m w c.enc :: r.enc).length ≤ 1 + (c.size + r.size)
    have := enc_size r
    rw [List.length_cons]; omega
theorem enc_lvl : ∀ t : Fo, lvlAll t.enc ≤ 2 * t.dep
  | .nil => Nat.le_refl _
  | .cons m w c r => by
    show max (lvl (spotD m w c.enc)) (lvlAll r.enc) ≤ 2 * max (c.dep + 1) r.dep
    have h1 := enc_lvl c
    have h2 := enc_lvl r
    have e : lvl (spotD m w c.enc) ≤ lvlAll c.enc + 2 := by
      unfold spotD
      simp only [lvl, lvlAll]
      omega
    omega
theorem enc_short : ∀ t : Fo, t.size ≤ 1000 → (∀ w ∈ t.words, wordOk w = true) → shortAll t.enc = true
  | .nil, _, _ => rfl
  | .cons m w c r, hs, hw => by
    have hs : 1 + (c.size + r.size) ≤ 1000 := hs
    have hw' : ∀ x, x = w ∨ x ∈ c.words ∨ x ∈ r.words → wordOk x = true := fun x hx => hw x (by
      show x ∈ w :: (c.words ++ r.words)
      simpa using hx)
    show (shortD (spotD m w c.enc) && shortAll r.enc) = true
    have h1 := enc_short c (by omega) fun x hx => hw' x (.inr (.inl hx))
    have h2 := enc_short r (by omega) fun x hx => hw' x (.inr (.inr hx))
    have hl := enc_size c
    rw [h2]
    unfold spotD
    simp only [shortD, shortAll, h1, word_strOk (hw' w (.inl rfl)), List.length_cons, List.length_nil]
    simp
    omega
theorem plot_small {u : Fo} (h : Ok u) (hs : u.size ≤ 5) : lvl (.tuple u.enc) ≤ 19 ∧ shortD (.tuple u.enc) = true := by
  have h1 := enc_lvl u
  have h2 := dep_le u
  have h3 := enc_size u
  refine ⟨by simp only [lvl]; omega, ?_⟩
  simp only [shortD, enc_short u (by omega) h.wd, Bool.and_true, decide_eq_true_eq]
  omega
theorem deed_small {x : Deed} (h : x.good = true) : lvl x.enc ≤ 2 ∧ shortD x.enc = true := by
  refine ⟨?_, (fine_tame (good_fine h)).2⟩
  cases x with
  | add m w p b => show lvl (.tuple [.str "add", .int m, .str w, .int p, .int b]) ≤ 2; simp [lvl, lvlAll]
  | drop m => show lvl (.tuple [.str "drop", .int m]) ≤ 2; simp [lvl, lvlAll]
  | move m p b => show lvl (.tuple [.str "move", .int m, .int p, .int b]) ≤ 2; simp [lvl, lvlAll]
  | word m w => show lvl (.tuple [.str "word", .int m, .str w]) ≤ 2; simp [lvl, lvlAll]
theorem row_small : ∀ {zs : List Deed}, (∀ z ∈ zs, z.good = true) → lvlAll (zs.map Deed.enc) ≤ 2 ∧ shortAll (zs.map Deed.enc) = true
  | [], _ => ⟨Nat.zero_le _, rfl⟩
  | z :: zs, h => by
    obtain ⟨a1, a2⟩ := deed_small (h z List.mem_cons_self)
    obtain ⟨b1, b2⟩ := row_small fun y hy => h y (List.mem_cons_of_mem _ hy)
    refine ⟨?_, ?_⟩
    · show max (lvl z.enc) (lvlAll (zs.map Deed.enc)) ≤ 2
      omega
    · show (shortD z.enc && shortAll (zs.map Deed.enc)) = true
      rw [a2, b2]; rfl
theorem str_told : PyData.strOk "told" = true ∧ PyData.strOk "script" = true ∧ PyData.strOk "refusal" = true := ⟨by decide +kernel, by decide +kernel, by decide +kernel⟩
section
variable {ys zs : List Deed} {u v : Fo}
theorem Runs.norm_small (h : Runs ys u) : lvl (.tuple [.str "told", normD ys]) ≤ 19 ∧ shortD (.tuple [.str "told", normD ys]) = true := by
  obtain ⟨z, hz, e⟩ := h.norm
  have hr := h.cls hz
  obtain ⟨h1, h2⟩ := row_small hr.1
  have hl := hr.2.1
  rw [e]
  unfold rowD
  refine ⟨by simp only [lvl, lvlAll]; omega, ?_⟩
  simp only [shortD, shortAll, h2, str_told.1, List.length_cons, List.length_nil, List.length_map, Bool.and_true, Bool.true_and]
  simp
  omega
theorem bool_small (b : Bool) : lvl (.tuple [.str "told", .bool b]) ≤ 19 ∧ shortD (.tuple [.str "told", .bool b]) = true := by
  refine ⟨by simp [lvl, lvlAll], ?_⟩
  simp [shortD, shortAll, str_told.1]
end
end G
set_option Elab.async false
set_option linter.all false
set_option maxRecDepth 100000
set_option maxHeartbeats 4000000
namespace G
open PySem L2 Fo
def R_law_good (ds : List PyData) (r : PyData) : Prop := ∃ (ys : List Deed) (u : Fo) (d : PyData), ds = [.list (ys.map Deed.enc), d] ∧ seqOf d (ys.map Deed.enc) ∧ Runs ys u ∧ r = .bool true
def R_law_both (ds : List PyData) (r : PyData) : Prop := ∃ (ys zs : List Deed) (u v : Fo) (d e : PyData), ds = [d, e, .bool (PyData.eqv (normD ys) (normD zs))] ∧ seqOf d (ys.map Deed.enc) ∧ seqOf e (zs.map Deed.enc) ∧ Runs ys u ∧ Runs zs v ∧ r = .bool true
section
variable {P : Program} {w : World} {K : PySem.W.Frag} {mg : Str → Option Value} {base : Heap} {cS cR : Addr}
theorem bool_shaped (b : Bool) : SeqAt.shaped (.bool b) = true := by cases b <;> decide +kernel
theorem same_true {F : Fm} {M : List (Addr × OC)} {δ : List SD} {ta tb : TE} {d : PyData} (ha : Ev F M δ ta d) (hb : Ev F M δ tb d) (h : lvl d ≤ 19 ∧ shortD d = true) : Ev F M δ (tCall (PureSp (R_law_same 20)) [] E0 (tCons ta (tCons tb tNil))) (.bool true) :=
  ev_call (ea_cons ha (ea_cons hb ea_nil)) ⟨d, rfl, Nat.le_succ_of_le h.1, h.2, rfl⟩
theorem told_norm {F : Fm} {M : List (Addr × OC)} {δ : List SD} {tb : TE} {d e : PyData} {ys : List Deed} {u : Fo} {te : TE} (hb : Ev F M δ tb d) (he : Ev F M δ te e) (hd : seqOf d (ys.map Deed.enc)) (h : Runs ys u) :
    Ev F M δ (tCall (PureSp (R_law_told cS cR)) [] E0 (tCons (tC (.str "normal")) (tCons tb (tCons te tNil)))) (.tuple [.str "told", normD ys]) :=
  ev_call (ea_cons ev_str (ea_cons hb (ea_cons he ea_nil))) ⟨"normal", d, e, _, rfl, .ret _, .inl ⟨rfl, d, ys.map Item.d, rfl, by rw [h.items.2.2.2]; exact hd, h.items.1, by rw [List.length_map]; exact h.2.1, (h.noOut cS cR).symm⟩⟩
theorem told_same {F : Fm} {M : List (Addr × OC)} {δ : List SD} {ta tb : TE} {d e : PyData} {ys zs : List Deed} {u v : Fo} (ha : Ev F M δ ta d) (hb : Ev F M δ tb e) (hd : seqOf d (ys.map Deed.enc)) (he : seqOf e (zs.map Deed.enc)) (h : Runs ys u) (k : Runs zs v) :
    Ev F M δ (tCall (PureSp (R_law_told cS cR)) [] E0 (tCons (tC (.str "same")) (tCons ta (tCons tb tNil)))) (.tuple [.str "told", .bool (PyData.eqv (normD ys) (normD zs))]) :=
  ev_call (ea_cons ev_str (ea_cons ha (ea_cons hb ea_nil))) ⟨"same", d, e, _, rfl, .ret _, .inr ⟨rfl, d, e, ys.map Item.d, zs.map Item.d, rfl, by rw [h.items.2.2.2]; exact hd, by rw [k.items.2.2.2]; exact he, h.items.1, k.items.1, by rw [List.length_map]; exact h.2.1, by rw [List.length_map]; exact k.2.1, (h.saOut k cS cR).symm⟩⟩
theorem run_plot {F : Fm} {M : List (Addr × OC)} {δ : List SD} {tb : TE} {d : PyData} {ys : List Deed} {u : Fo} (hb : Ev F M δ tb d) (hd : seqOf d (ys.map Deed.enc)) (h : Runs ys u) :
    Ev F M δ (tCall (PureSp fun ds r => R_run cS cR ds (.ret r)) [] E0 (tCons (tTup tNil) (tCons tb tNil))) (.tuple u.enc) :=
  ev_call (ea_cons (ev_is (ev_tup ea_nil) rfl) (ea_cons hb ea_nil)) ⟨.nil, d, ys.map Item.d, rfl, by rw [h.items.2.2.2]; exact hd, h.items.1, nil_ok, fits_nil (by rw [List.length_map]; exact h.2.1), (h.runO cS cR).symm⟩
theorem norm_calm {F : Fm} {M : List (Addr × OC)} {δ : List SD} {tb : TE} {d : PyData} {ys : List Deed} {u : Fo} (hb : Ev F M δ tb d) (hd : seqOf d (ys.map Deed.enc)) (h : Runs ys u) :
    Ev F M δ (tCall (PureSp fun ds r => R_normal cS cR ds (.ret r)) [] E0 (tCons tb tNil)) (normD ys) :=
  ev_call (ea_cons hb ea_nil) ⟨d, ys.map Item.d, rfl, by rw [h.items.2.2.2]; exact hd, h.items.1, by rw [List.length_map]; exact h.2.1, (h.noOut cS cR).symm⟩
theorem sc__law_both : FnScope ["_law_history_here", "_law_other_here", "_law_same_here"] ["_law_history_here", "_law_other_here", "_law_same_here"] (defScope s__law_both) := ⟨rfl, rfl, rfl, by decide +kernel, rfl, by decide +kernel, by decide +kernel⟩
theorem c__law_both (T : Txt K mg) (XE : Errs P K mg cS cR) : Cl P w K mg base CX0 34 "_law_both" ["_law_history_here", "_law_other_here", "_law_same_here"] (PureSp R_law_both) := by
  refine pure_ok T.d__law_both sc__law_both (fun ds d h => by obtain ⟨ys, zs, u, v, d, e, rfl, _⟩ := h; rfl) (fun f cdv A outer s0 H0 E hr => ⟨_, (pss_cons (ps_if (pt_not (pt_val (pe_k (c__law_same T 20) hr (by decide) rfl pass0 (pa_cons (pe_k (c__law_told T XE) hr (by decide) rfl pass0 (pa_cons pe_str (pa_cons (pv 0) (pa_cons (pv 1) pa_nil)))) (pa_cons (pe_tup (pa_cons pe_str (pa_cons (pv 2) pa_nil))) pa_nil))))) (pss_one (ps_ret pe_bl)) pss_nil)
    (pss_cons (ps_if (pt_not (pt_val (pe_k (c__law_same T 20) hr (by decide) rfl pass0 (pa_cons (pe_k (c__law_told T XE) hr (by decide) rfl pass0 (pa_cons pe_str (pa_cons (pv 1) (pa_cons (pv 0) pa_nil)))) (pa_cons (pe_tup (pa_cons pe_str (pa_cons (pv 2) pa_nil))) pa_nil))))) (pss_one (ps_ret pe_bl)) pss_nil)
    (pss_one (ps_ret (pe_cmpR (op_eqD hr.units) (pe_cmpR (op_eqD hr.units) (pe_k (c_normal T XE).calm hr (by decide) rfl pass0 (pa_cons (pv 0) pa_nil)) (pe_k (c_normal T XE).calm hr (by decide) rfl pass0 (pa_cons (pv 1) pa_nil)) (nomark _)) (pv 2) (nomark _)))))), ?_⟩)
  rintro O ds r σ ⟨ys, zs, u, v, d, e, rfl, hd, he, hy, hz, rfl⟩ s Q q
  refine sq_ifN (b := false) (et_not (et_test (same_true (told_same (ev_var rfl) (ev_var rfl) hd he hy hz) (ev_tup (ea_cons ev_str (ea_cons (ev_var rfl) ea_nil))) (bool_small _)))) s (fun h => by cases h) fun _ H1 s1 => ?_
  refine sq_ifN (b := false) (et_not (et_test (same_true (ev_is (told_same (ev_var rfl) (ev_var rfl) he hd hz hy) (by rw [eqv_sym hy hz])) (ev_tup (ea_cons ev_str (ea_cons (ev_var rfl) ea_nil))) (bool_small _)))) s1 (fun h => by cases h) fun _ H2 s2 => ?_
  exact st_retM (ev_is (ev_eq (ev_eq (norm_calm (ev_var rfl) hd hy) (norm_calm (ev_var rfl) he hz) hy.norm_nb.2 hz.norm_nb.2) (ev_var rfl) (bool_shaped _) (bool_shaped _)) (by cases PyData.eqv (normD ys) (normD zs) <;> rfl)) s2 q
theorem sc__law_good : FnScope ["_law_history_here", "_law_handed_here", "_law_due", "_law_first", "_law_plot_here"] ["_law_history_here", "_law_handed_here"] (defScope s__law_good) := ⟨rfl, rfl, rfl, by decide +kernel, rfl, by decide +kernel, by decide +kernel⟩
theorem c__law_good (T : Txt K mg) (XE : Errs P K mg cS cR) : Cl P w K mg base CX0 34 "_law_good" ["_law_history_here", "_law_handed_here"] (PureSp R_law_good) := by
  refine pure_ok T.d__law_good sc__law_good (fun ds d h => by obtain ⟨ys, u, d, rfl, _⟩ := h; rfl) (fun f cdv A outer s0 H0 E hr => ⟨_, (pss_cons (ps_set (i := 2) sc__law_good.nd rfl (Or.inl rfl) (pe_ix ix_seq (pe_k (c__law_forms T) hr (by decide) rfl pass0 (pa_cons (pv 0) pa_nil)) pe_int (fun _ _ => rfl)))
    (pss_cons (ps_set (i := 3) sc__law_good.nd rfl (Or.inl rfl) (pe_k (c__law_told T XE) hr (by decide) rfl pass0 (pa_cons pe_str (pa_cons (pv 1) (pa_cons pe_non pa_nil)))))
    (pss_cons (ps_if (pt_not (pt_val (pe_k (c__law_same T 20) hr (by decide) rfl pass0 (pa_cons (pv 3) (pa_cons (pe_tup (pa_cons pe_str (pa_cons (pv 2) pa_nil))) pa_nil))))) (pss_one (ps_ret pe_bl)) pss_nil)
    (pss_cons (ps_set (i := 4) sc__law_good.nd rfl (Or.inl rfl) (pe_k (c__law_plot T 20) hr (by decide) rfl pass0 (pa_cons (pe_k (c__law_run T) hr (by decide) rfl pass0 (pa_cons (pe_lst pa_nil) (pa_cons (pv 0) pa_nil))) (pa_cons pe_int pa_nil))))
    (pss_cons (ps_if (PW.pt (pw_or (pt_not (pt_val (pe_k (c__law_same T 20) hr (by decide) rfl pass0 (pa_cons (pe_k (c_run T XE).calm hr (by decide) rfl pass0 (pa_cons (pe_tup pa_nil) (pa_cons (pv 2) pa_nil))) (pa_cons (pv 4) pa_nil))))) (pw_or1 (pt_not (pt_val (pe_k (c__law_same T 20) hr (by decide) rfl pass0 (pa_cons (pe_k (c_run T XE).calm hr (by decide) rfl pass0 (pa_cons (pe_tup pa_nil) (pa_cons (pv 1) pa_nil))) (pa_cons (pv 4) pa_nil)))))))) (pss_one (ps_ret pe_bl)) pss_nil)
    (pss_cons (ps_if (pt_not (pt_val (pe_k (c__law_same T 20) hr (by decide) rfl pass0 (pa_cons (pe_k (c__law_told T XE) hr (by decide) rfl pass0 (pa_cons pe_str (pa_cons (pv 2) (pa_cons pe_non pa_nil)))) (pa_cons (pv 3) pa_nil))))) (pss_one (ps_ret pe_bl)) pss_nil)
    (pss_one (ps_ret (pe_k (c__law_same T 20) hr (by decide) rfl pass0 (pa_cons (pe_k (c__law_told T XE) hr (by decide) rfl pass0 (pa_cons pe_str (pa_cons (pv 1) (pa_cons (pv 2) pa_nil)))) (pa_cons (pe_tup (pa_cons pe_str (pa_cons pe_bl pa_nil))) pa_nil))))))))))), ?_⟩)
  rintro O ds r σ ⟨ys, u, d, rfl, hd, hy, rfl⟩ s Q q
  obtain ⟨rest, hf⟩ := lawForms_head hy.1 hy.2.1 hy.2.2
  obtain ⟨z, hcz, hnz⟩ := hy.norm
  have hz := hy.cls hcz
  have hnn : normD z = normD ys := norm_cls hy hcz
  have hzd : seqOf (normD ys) (z.map Deed.enc) := .inr hnz
  obtain ⟨uok, usz⟩ := reach_ok nil_ok hy.1 hy.2.2
  have usz : u.size ≤ 5 := by
    have : u.size ≤ 0 + ys.length := usz
    have := hy.2.1
    omega
  have udep := dep_le u
  refine sq_asg (d := normD ys) (ev_ixL (ds := normD ys :: rest) (ev_is (ev_call (ea_cons (ev_var rfl) ea_nil) ⟨ys, ⟨rfl, hy.1, hy.2.1, u, hy.2.2⟩, rfl⟩) (by rw [hf])) ev_int (atI_0 _ _)) s fun σ1 H1 s1 => ?_
  refine sq_asg (told_norm (ev_var rfl) ev_non hd hy) s1 fun σ2 H2 s2 => ?_
  refine sq_ifN (b := false) (et_not (et_test (same_true (ev_var rfl) (ev_tup (ea_cons ev_str (ea_cons (ev_var rfl) ea_nil))) hy.norm_small))) s2 (fun h => by cases h) fun _ H3 s3 => ?_
  refine sq_asg (d := .tuple u.enc) (ev_call (ea_cons (ev_call (d := rowsD (flat 0 u)) (ea_cons (ev_is (ev_lst ea_nil) rfl) (ea_cons (ev_var rfl) ea_nil)) ⟨.nil, _, ys, rfl, .inl rfl, hy.1, nil_ok, fits_nil hy.2.1, by rw [hy.2.2]; rfl⟩) (ea_cons ev_int ea_nil)) ⟨u, 0, rfl, uok, by omega, .inl rfl, by show u.dep < 20; omega, rfl⟩) s3 fun σ4 H4 s4 => ?_
  refine sq_ifN (b := false) (et_is (et_or (a := false) (et_not (et_test (same_true (run_plot (ev_var rfl) hzd hz) (ev_var rfl) (plot_small uok usz)))) fun _ => et_not (et_test (same_true (run_plot (ev_var rfl) hd hy) (ev_var rfl) (plot_small uok usz)))) rfl) s4 (fun h => by cases h) fun _ H5 s5 => ?_
  refine sq_ifN (b := false) (et_not (et_test (same_true (ev_is (told_norm (ev_var rfl) ev_non hzd hz) (by rw [hnn])) (ev_var rfl) hy.norm_small))) s5 (fun h => by cases h) fun _ H6 s6 => ?_
  exact st_retM (same_true (ev_is (told_same (ev_var rfl) (ev_var rfl) hd hzd hy hz) (by rw [(norm_eqv hy hz).mpr hnn.symm])) (ev_tup (ea_cons ev_str (ea_cons ev_bl ea_nil))) (bool_small true)) s6 q
def Pre_list (ds : List PyData) : Prop := ∃ es, ds = [.list es]
def R_handed (ds : List PyData) (r : PyData) : Prop := ∃ es, ds = [.list es] ∧ seqOf r es
theorem sc__law_handed : FnScope ["_law_pool_here", "_law_history_here"] ["_law_pool_here", "_law_history_here"] (defScope s__law_handed) := ⟨rfl, rfl, rfl, by decide +kernel, rfl, by decide +kernel, by decide +kernel⟩
theorem c__law_handed (T : Txt K mg) : Cl P w K mg base CX0 3 "_law_handed" ["_law_pool_here", "_law_history_here"] (PSp Pre_list R_handed) := by
  refine pool_ok T.d__law_handed sc__law_handed (fun ds h => by obtain ⟨es, rfl⟩ := h; rfl) (fun f cdv A outer s0 H0 E hr => ⟨_, (pss_cons (ps_if (pt_cmpR (op_eqD hr.units) (pe_k (c__law_draw T) hr (by decide) rfl pass0 (pa_cons (pv 0) (pa_cons pe_int pa_nil))) pe_int (nomark _)) (pss_one (ps_ret (pe_callTy call_tuple_of (by rfl) T.z_tuple (by decide +kernel) (pa_cons (pv 1) pa_nil)))) pss_nil)
    (pss_one (ps_ret (pe_callTy call_list_of (by rfl) T.z_list (by decide +kernel) (pa_cons (pv 1) pa_nil))))), ?_⟩)
  rintro O l ds σ ⟨es, rfl⟩ s Q q
  refine sp_ifN (etp_test (ep_eqI (ep_draw (n := 2) (fun _ => er_var rfl) (by decide)) ep_int)) s (fun _ H1 s1 => ?_) fun _ H1 s1 => ?_
  · exact stp_ret (ep_of fun _ _ => ev_tuple (ev_var rfl) (.inl rfl)) s1 (fun d hd => by subst hd; exact ⟨es, rfl, .inr rfl⟩) q
  · exact stp_ret (ep_of fun _ _ => ev_list (ev_var rfl) (.inl rfl)) s1 (fun d hd => by subst hd; exact ⟨es, rfl, .inl rfl⟩) q
end
end G
set_option Elab.async false
set_option linter.all false
set_option maxRecDepth 100000
set_option maxHeartbeats 4000000
namespace G
open PySem L2 Fo
theorem seq_at {k : Int} {n : Nat} (h0 : 0 ≤ k) (h1 : k < (n : Int)) : seqIndex? k n = some k.toNat := by
  have h2 : ¬ k < 0 := by omega
  simp only [seqIndex?, if_neg h2]
  rw [if_pos (by rw [decide_eq_true h0, decide_eq_true h1]; rfl)]
theorem rp_erase {G : Hp} {vs : List V} {ds : List PyData} (r : RpAll G vs ds) (j : Nat) : RpAll G (vs.eraseIdx j) (ds.eraseIdx j) := by
  rw [List.eraseIdx_eq_take_drop_succ, List.eraseIdx_eq_take_drop_succ]
  exact (r.take j).append (r.drop (j + 1))
section
variable {F : Fm} {l hf hl : Addr} {M : List (Addr × OC)} {δ δ' : List SD} {σ : L2.St} {H H0 : Hp} {K : PySem.W.Frag} {td te to5 to4 : TE} {t u : TS} {d : PyData} {left found ds : List PyData} {D : Ends} {i j : Nat}
/-- x.append(y.pop(draw)) -/
theorem stp_moved (hx5 : ∀ pd, Er F ((l, .lst pd) :: (hf, .lst found) :: (hl, .lst left) :: M) δ to5 (.ref hf)) (hx4 : ∀ pd, Er F ((l, .lst pd) :: (hf, .lst found) :: (hl, .lst left) :: M) δ to4 (.ref hl))
    (hd : Evp F l ((hf, .lst found) :: (hl, .lst left) :: M) δ td (IntP fun k => 0 ≤ k ∧ k < (left.length : Int))) (hNf : F.N hf = true) (hNl : F.N hl = true) (h1 : left.length ≤ 1000) (h2 : found.length ≤ 1000) (s : SP F l ((hf, .lst found) :: (hl, .lst left) :: M) δ σ H)
    (k : ∀ (j : Nat) (hj : j < left.length) (H' : Hp), SP F l ((hf, .lst (found ++ [left[j]])) :: (hl, .lst (left.eraseIdx j)) :: M) δ σ H' → D.nx σ H') :
    tDrop (tBM K "list" rAppend to5 (tCons (tBM K "list" rPopAt to4 (tCons td tNil)) tNil)) D σ H := by
  obtain ⟨pd, hp, s0⟩ := s.ex
  refine hx5 pd σ H s0 _ fun H1 s1 _ => ?_
  obtain ⟨_, vf, hvf, rvf⟩ := s1.own _ (mem_of_get (j := 1) rfl)
  refine ⟨.inl ⟨rfl, vf, SqL.of hvf⟩, ?_⟩
  refine hx4 pd σ H1 s1 _ fun H2 s2 _ => ?_
  obtain ⟨_, vl, hvl, rvl⟩ := s2.own _ (mem_of_get (j := 2) rfl)
  refine ⟨.inl ⟨rfl, vl, SqL.of hvl⟩, ?_⟩
  refine hd σ H2 ⟨⟨pd, hp, s2⟩, s.w⟩ _ fun v H3 d hd s3 _ r3 => ?_
  obtain ⟨n, rfl, n0, n1⟩ := hd
  obtain ⟨pd3, hp3, s3'⟩ := s3.ex
  obtain ⟨_, vl3, hvl3, rvl3⟩ := s3'.own _ (mem_of_get (j := 2) rfl)
  have hj : n.toNat < left.length := by omega
  obtain ⟨y, hy, ry⟩ := rvl3.get (i := n.toNat) (d := left[n.toNat]) (List.getElem?_eq_getElem hj)
  refine ⟨hl, vl3, n, n.toNat, y, rfl, by rw [r3.int_inv], hvl3, by omega, by omega, by rw [rvl3.length]; exact seq_at n0 n1, hy, ?_⟩
  have sw := s3'.write (o := .lst (vl3.eraseIdx n.toNat)) (j := 2) (c' := OC.lst (left.eraseIdx n.toNat)) rfl hNl ⟨_, upd_same, rp_erase rvl3 _⟩
  obtain ⟨_, vf4, hvf4, rvf4⟩ := sw.own _ (mem_of_get (j := 1) rfl)
  have ry' : Rp (shr F.O (upd H3 hl (.lst (vl3.eraseIdx n.toNat)))) y left[n.toNat] := by rw [shr_upd (s3'.nsub hl hNl)]; exact ry
  exact ⟨hf, vf4, y, rfl, rfl, hvf4, by rw [rvf4.length, sizeLine_eq]; omega, k n.toNat hj _ ⟨⟨pd3, hp3, sw.write (o := .lst (vf4 ++ [y])) (j := 1) (c' := OC.lst (found ++ [left[n.toNat]])) rfl hNf ⟨_, upd_same, rvf4.append (.one ry')⟩⟩, s.w⟩⟩
/-- x = list(y), a list of its own -/
theorem sp_ownL (he : ∀ pd, Ev F ((l, .lst pd) :: M) δ te d) (hq : seqOf d ds) (s : SP F l M δ σ H)
    (k : ∀ h σ' H', h ≠ l → SP (F.own h) l ((h, OC.lst ds) :: M) (δ.set i (.raw (.ref h))) σ' H' → u D σ' H') : tSeq (tAsg (tCB (rListX K) (tCons te tNil)) (gName i)) u D σ H := by
  obtain ⟨pd, hp, s'⟩ := s.ex
  refine he pd σ H s' _ fun v H1 s1 _ r1 => ?_
  obtain ⟨a, vs, rfl, rv, hc⟩ := seq_inv r1 hq
  refine ⟨a, vs, rfl, ?_, fun t ht => ?_⟩
  · rcases hc with ⟨_, hc⟩ | ⟨_, hc⟩
    · exact .inl (SqL.of (shr_sub _ _ _ _ hc))
    · exact .inr (SqT.of (shr_sub _ _ _ _ hc))
  · have s2 := (s1.newOwn (o := .lst vs) (c := .lst ds) ht ⟨vs, upd_same, rv⟩).setRaw (.ref t) i
    refine k t _ _ ?_ ⟨⟨pd, hp, s2.swap⟩, orA_l s.w⟩
    rintro rfl
    have := s2.nd
    simp at this
/-- x[:draw] -/
theorem ep_slTo (ha : Evp F l M δ te (fun x => x = .list ds)) (hi : Evp F l M δ td (IntP fun k => 0 ≤ k)) : Evp F l M δ (tSl (rSlL K) te tNoPart (tPart td)) (fun d => ∃ k : Nat, d = .list (ds.take k)) := fun σ H s Q q => by
  refine ha σ H s _ fun v H1 d hd s1 e1 r1 => ?_
  subst hd
  refine hi σ H1 s1 _ fun u H2 e he s2 e2 r2 => ?_
  obtain ⟨k, rfl, hk⟩ := he
  rw [r2.int_inv]
  refine ⟨k, rfl, ?_⟩
  obtain ⟨p, vs, rfl, hp, rv⟩ := (r1.same (shr_kl s1.O e2)).lst_inv
  refine ⟨p, vs, rfl, SqL.of (shr_sub _ _ _ _ hp), fun t ht => ?_⟩
  have e4 := same_new (o := .lst (cutV vs none (some k))) ht
  have := rv.cut none (some k)
  refine q _ _ (.list (ds.take k.toNat)) ⟨_, rfl⟩ (s2.same e4) ((e1.trans e2).trans (Kl.of_same e4)) (.lst (shr_at upd_same (s2.fresh ht)) ?_)
  have e5 : cut ds none (some k) = ds.take k.toNat := by
    rw [← cut_to, Int.toNat_of_nonneg hk]
  rw [← e5]
  exact this.same (shr_same e4)
end
def Pre_other (ds : List PyData) : Prop := ∃ (ys : List Deed) (u : Fo), ds = [.list (ys.map Deed.enc)] ∧ Runs ys u
theorem hist_deeds {ys : List Deed} (h : ∀ y ∈ ys, y.good = true) (hl : ys.length ≤ 5) : HistP (.list (ys.map Deed.enc)) :=
  ⟨ys.map Item.d, by rw [List.map_map]; rfl, fun x hx => by
    obtain ⟨y, hy, rfl⟩ := List.mem_map.mp hx
    exact fine_tame (good_fine (h y hy)), by rw [List.length_map]; exact hl⟩
section
variable {P : Program} {w : World} {K : PySem.W.Frag} {mg : Str → Option Value} {base : Heap}
theorem sc__law_other : FnScope ["_law_pool_here", "_law_history_here", "_law_way", "_law_forms_here", "_law_left", "_law_found", "_law_k", "_law_rows"] ["_law_pool_here", "_law_history_here"] (defScope s__law_other) := ⟨rfl, rfl, rfl, by decide +kernel, rfl, by decide +kernel, by decide +kernel⟩
theorem c__law_other (T : Txt K mg) : Cl P w K mg base CX0 9 "_law_other" ["_law_pool_here", "_law_history_here"] (PSp Pre_other R_hist) := by
  refine pool_ok T.d__law_other sc__law_other (fun ds h => by obtain ⟨ys, u, rfl, _⟩ := h; rfl) (fun f cdv A outer s0 H0 E hr => ⟨_, (pss_cons (ps_set (i := 2) sc__law_other.nd rfl (Or.inl rfl) (pe_k (c__law_draw T) hr (by decide) rfl pass0 (pa_cons (pv 0) (pa_cons pe_int pa_nil))))
    (pss_cons (ps_if (pt_cmpR op_lt (pv 2) pe_int (nomark _)) (pss_cons (ps_set (i := 3) sc__law_other.nd rfl (Or.inl rfl) (pe_k (c__law_forms T) hr (by decide) rfl pass0 (pa_cons (pv 1) pa_nil)))
    (pss_one (ps_ret (pe_callTy call_list_of (by rfl) T.z_list (by decide +kernel) (pa_cons (pe_ix ix_seq (pv 3) (pe_k (c__law_draw T) hr (by decide) rfl pass0 (pa_cons (pv 0) (pa_cons (pe_callB call_len (by rfl) T.z_len PySem.boot_len (pa_cons (pv 3) pa_nil)) pa_nil))) (fun _ _ => rfl)) pa_nil))))) pss_nil)
    (pss_cons (ps_set (i := 4) sc__law_other.nd rfl (Or.inl rfl) (pe_callTy call_list_of (by rfl) T.z_list (by decide +kernel) (pa_cons (pv 1) pa_nil)))
    (pss_cons (ps_set (i := 5) sc__law_other.nd rfl (Or.inl rfl) (pe_lst pa_nil))
    (pss_cons (ps_for PassesOwn.never rfl (pi_range1 (by rfl) T.z_range (pa_cons (pe_callB call_len (by rfl) T.z_len PySem.boot_len (pa_cons (pv 1) pa_nil)) pa_nil)) (pg_name (i := 6) sc__law_other.nd rfl (Or.inl rfl))
    (pss_one (ps_expr (pe_bm PySem.F.plainAttrs_list PySem.F.slot_list_append PySem.F.type_list_append mt_append (pv 5) (pa_cons (pe_bm PySem.F.plainAttrs_list PySem.F.slot_list_pop PySem.F.type_list_pop mt_popAt (pv 4) (pa_cons (pe_k (c__law_draw T) hr (by decide) rfl pass0 (pa_cons (pv 0) (pa_cons (pe_callB call_len (by rfl) T.z_len PySem.boot_len (pa_cons (pv 4) pa_nil)) pa_nil))) pa_nil)) pa_nil)))))
    (pss_cons (ps_if (pt_cmpR op_lt (pv 2) pe_int (nomark _)) (pss_one (ps_ret (pv 5))) pss_nil)
    (pss_cons (ps_if (PW.pt (pw_and (pt_cmpR (op_eqD hr.units) (pv 2) pe_int (nomark _)) (pw_and1 (pt_cmpR op_gt (pe_callB call_len (by rfl) T.z_len PySem.boot_len (pa_cons (pv 1) pa_nil)) pe_int (nomark _))))) (pss_cons (ps_set (i := 7) sc__law_other.nd rfl (Or.inl rfl) (pe_k (c__law_run T) hr (by decide) rfl pass0 (pa_cons (pe_lst pa_nil) (pa_cons (pe_slice sl_list (pv 1) po_none (po_some (pe_op op_sub (pe_callB call_len (by rfl) T.z_len PySem.boot_len (pa_cons (pv 1) pa_nil)) pe_int))) pa_nil))))
    (pss_one (ps_ret (pe_op op_cat (pe_slice sl_list (pv 1) po_none (po_some (pe_op op_sub (pe_callB call_len (by rfl) T.z_len PySem.boot_len (pa_cons (pv 1) pa_nil)) pe_int))) (pe_lst (pa_cons (pe_k (c__law_deed T) hr (by decide) rfl pass0 (pa_cons (pv 0) (pa_cons (pv 7) pa_nil))) pa_nil)))))) pss_nil)
    (pss_cons (ps_if (pt_cmpR (op_eqD hr.units) (pv 2) pe_int (nomark _)) (pss_one (ps_ret (pe_slice sl_list (pv 1) po_none (po_some (pe_k (c__law_draw T) hr (by decide) rfl pass0 (pa_cons (pv 0) (pa_cons (pe_op op_add (pe_callB call_len (by rfl) T.z_len PySem.boot_len (pa_cons (pv 1) pa_nil)) pe_int) pa_nil))))))) pss_nil)
    (pss_one (ps_ret (pe_k (c__law_history T) hr (by decide) rfl pass0 (pa_cons (pv 0) (pa_cons (pe_k (c__law_draw T) hr (by decide) rfl pass0 (pa_cons (pv 0) (pa_cons pe_int pa_nil))) (pa_cons (pe_cmpR (op_eqD hr.units) (pe_k (c__law_draw T) hr (by decide) rfl pass0 (pa_cons (pv 0) (pa_cons pe_int pa_nil))) pe_int (nomark _)) pa_nil)))))))))))))), ?_⟩)
  rintro O l ds σ ⟨ys, u, rfl, hy⟩ s Q q
  obtain ⟨hg, hlen, hrun⟩ := id hy
  refine sp_asg (ep_draw (n := 8) (fun _ => er_var rfl) (by decide)) s fun d σ1 H1 hd s1 => ?_
  obtain ⟨way, rfl, _, _⟩ := hd
  refine sp_ifN (etp_of fun _ _ => et_test (ev_lt (ev_var rfl) ev_int)) s1 (fun _ H2 s2 => ?_) fun _ H2 s2 => ?_
  · obtain ⟨rest, hf⟩ := lawForms_head hg hlen hrun
    have hL := lawForms_len hlen hrun
    have hL0 : 0 < (lawForms ys).length := by rw [hf]; exact Nat.succ_pos _
    refine sp_asg (P := fun d => d = .list (lawForms ys)) (ep_of fun _ _ => ev_call (ea_cons (ev_var rfl) ea_nil) ⟨ys, ⟨rfl, hg, hlen, u, hrun⟩, rfl⟩) s2 fun d σ3 H3 hd s3 => ?_
    subst hd
    refine stp_ret (ep_list (PS := fun es => HistP (.list es)) (ep_mono (ep_ix (n := (lawForms ys).length) (P := fun x => ∃ zs, Cls ys zs ∧ x = rowD zs) (ep_of' (d := .list (lawForms ys)) (fun _ _ => ev_var rfl) ⟨_, .inl rfl, rfl, fun x hx => (lawForms_mem hlen hrun).mp hx⟩) (ep_drawL (fun _ => er_var rfl) (fun _ _ => ev_lenL (ev_var rfl)) (by omega))) fun d hd => ?_)) s3 (fun d hd => ?_) q
    · obtain ⟨zs, hz, rfl⟩ := hd
      have k := hy.cls hz
      exact ⟨_, .inr rfl, hist_deeds k.1 k.2.1⟩
    · obtain ⟨es, rfl, h⟩ := hd
      exact h
  refine sp_ownL (ds := ys.map Deed.enc) (fun _ => ev_var rfl) (.inl rfl) s2 fun hl σ3 H3 hll s3 => ?_
  refine sp_own (es := []) (fun _ => ea_nil) s3 fun hf σ4 H4 hfl s4 => ?_
  refine sp_for (α := List Deed × List Deed) (fun _ a => [(hf, OC.lst (a.2.map Deed.enc)), (hl, OC.lst (a.1.map Deed.enc))]) (fun _ a => [.raw (.ref l), .dat (.list (ys.map Deed.enc)), .dat (.int way), .any, .raw (.ref hl), .raw (.ref hf), .any, .any]) (fun i a => a.1.length + i = ys.length ∧ a.2.length = i ∧ (∀ y ∈ a.1, y.good = true) ∧ ∀ y ∈ a.2, y.good = true) (ys, [])
    (fun _ => ei_range1 (ev_lenL (ev_var rfl)) (by omega) (by rw [List.length_map]; omega)) s4 ⟨rfl, rfl, hg, fun y h => absurd h List.not_mem_nil⟩ rfl (Le.refl _) ?_ ?_
  · rintro B i ⟨left, found⟩ d σ H v hd ⟨h1, h2, h3, h4⟩ s r
    dsimp only at h1 h2 h3 h4 s
    unfold rngD at hd
    rw [List.getElem?_map, Int.toNat_natCast, List.length_map] at hd
    have hi : i < ys.length := by
      rcases Nat.lt_or_ge i ys.length with h | h
      · exact h
      · rw [List.getElem?_eq_none_iff.mpr (by rw [List.length_range]; exact h)] at hd; cases hd
    rw [List.getElem?_range hi] at hd
    cases hd
    refine sp_useG s r fun σ1 s1 => ?_
    refine stp_moved (left := left.map Deed.enc) (found := found.map Deed.enc) (fun _ => er_var rfl) (fun _ => er_var rfl) (ep_drawL (n := (left.map Deed.enc).length) (fun _ => er_var rfl) (fun _ _ => ev_lenO (er_var rfl) (mem_of_get (j := 2) rfl)) (by rw [List.length_map]; omega)) (own_lp) (orA_l orA_r) (by rw [List.length_map]; omega) (by rw [List.length_map]; omega) s1 fun j hj H2 s2 => ?_
    rw [List.length_map] at hj
    refine ⟨(left.eraseIdx j, found ++ [left[j]]), ⟨?_, ?_, fun y hy => h3 y (List.mem_of_mem_eraseIdx hy), fun y hy => ?_⟩, ?_⟩
    · show (left.eraseIdx j).length + (i + 1) = ys.length
      rw [List.length_eraseIdx, if_pos hj]; omega
    · show (found ++ [left[j]]).length = i + 1
      rw [List.length_append, h2]; rfl
    · rcases List.mem_append.mp hy with hy | hy
      · exact h4 y hy
      · rw [List.mem_singleton.mp hy]; exact h3 _ (List.getElem_mem hj)
    · have e1 : (found ++ [left[j]]).map Deed.enc = found.map Deed.enc ++ [(left.map Deed.enc)[j]'(by rw [List.length_map]; exact hj)] := by rw [List.map_append, List.getElem_map]; rfl
      have e2 : (left.eraseIdx j).map Deed.enc = (left.map Deed.enc).eraseIdx j := by rw [List.eraseIdx_eq_take_drop_succ, List.eraseIdx_eq_take_drop_succ, List.map_append, List.map_take, List.map_drop]
      show SP _ l [(hf, OC.lst ((found ++ [left[j]]).map Deed.enc)), (hl, OC.lst ((left.eraseIdx j).map Deed.enc))] _ _ _
      rw [e1, e2]
      exact s2.le (.eq (.eq (.eq (.eq (.eq (.eq (.any (.any .nil))))))))
  rintro ⟨left, found⟩ σ H ⟨h1, h2, h3, h4⟩ s
  dsimp only at h1 h2 h3 h4 s
  have hfl5 : found.length ≤ 5 := by
    rw [h2]; unfold rngD
    rw [List.length_map, List.length_range, Int.toNat_natCast, List.length_map]; exact hlen
  refine sp_ifN (etp_of fun _ _ => et_test (ev_lt (ev_var rfl) ev_int)) s (fun _ H5 s5 => ?_) fun _ H5 s5 => ?_
  · exact stp_retO (fun _ => er_var rfl) s5 (hist_deeds h4 hfl5) q hfl
  refine sp_ifN (B := fun c => c = (decide (way = 5) && decide (0 < ys.length))) (etp_of fun _ _ => et_is (et_and (et_test (ev_eqI (ev_var rfl) ev_int)) fun _ => et_test (ev_gt (ev_lenL (ev_var rfl)) ev_int)) (by rw [List.length_map]; congr 1; exact dec_congr (by omega))) s5 (fun hb H6 s6 => ?_) fun _ H6 s6 => ?_
  · have hpos : 0 < ys.length := by
      have := hb.symm
      rw [Bool.and_eq_true] at this
      exact of_decide_eq_true this.2
    have hcut : ∀ {F : Fm} {M : List (Addr × OC)} {δ : List SD}, δ[1]? = some (.dat (.list (ys.map Deed.enc))) → Ev F M δ (tSl (rSlL K) (tVar 1) tNoPart (tPart (tOp (rI0 fun i j => .int (i - j)) (tCB (rLenX K) (tCons (tVar 1) tNil)) (tC (.int 1))))) (.list ((ys.take (ys.length - 1)).map Deed.enc)) := fun h =>
      ev_is (ev_slL (ev_var h) eo_none (eo_some (ev_sub (ev_lenL (ev_var h)) ev_int))) (by
        rw [List.length_map, show ((ys.length : Nat) : Int) - 1 = ((ys.length - 1 : Nat) : Int) by omega, cut_to, List.map_take])
    obtain ⟨v, hv⟩ := reach_take hrun (ys.length - 1)
    have hgt : ∀ y ∈ ys.take (ys.length - 1), y.good = true := fun y hy => hg y (List.mem_of_mem_take hy)
    have hlt : (ys.take (ys.length - 1)).length ≤ 4 := by rw [List.length_take]; omega
    obtain ⟨vok, vsz⟩ := reach_ok nil_ok hgt hv
    have vsz : v.size ≤ 0 + (ys.take (ys.length - 1)).length := vsz
    refine sp_asg (P := fun d => d = rowsD (flat 0 v)) (ep_of fun _ _ => ev_call (ea_cons (ev_is (ev_lst ea_nil) rfl) (ea_cons (hcut rfl) ea_nil)) ⟨.nil, _, ys.take (ys.length - 1), rfl, .inl rfl, hgt, nil_ok, fits_nil (by omega), by rw [hv]; rfl⟩) s6 fun d σ7 H7 hd s7 => ?_
    subst hd
    refine stp_ret (ep_catL (a := (ys.take (ys.length - 1)).map Deed.enc) (ep_of fun _ _ => hcut rfl) (ep_lst (eap_cons (ep_call (fun _ => er_var rfl) (eap_cons (ep_of fun _ _ => ev_var rfl) eap_nil) (fun ds hds => by obtain ⟨x1, _, rfl, rfl, rfl⟩ := hds; exact ⟨v, rfl, vok, by omega⟩)) eap_nil) ?_) ?_) s7 (fun d hd => ?_) q
    · rintro ds ⟨x1, _, rfl, _, rfl⟩; exact Nat.le_of_ble_eq_true rfl
    · rintro ds ⟨x1, _, rfl, _, rfl⟩; rw [List.length_map]; simp only [List.length_cons, List.length_nil]; omega
    · obtain ⟨ds, rfl, x1, _, rfl, ⟨_, _, y, hyg, rfl⟩, rfl⟩ := hd
      have := hist_deeds (ys := ys.take (ys.length - 1) ++ [y]) (fun z hz => by
        rcases List.mem_append.mp hz with hz | hz
        · exact hgt z hz
        · rw [List.mem_singleton.mp hz]; exact hyg) (by rw [List.length_append, List.length_singleton]; omega)
      rw [List.map_append] at this
      exact this
  refine sp_ifN (etp_of fun _ _ => et_test (ev_eqI (ev_var rfl) ev_int)) s6 (fun _ H7 s7 => ?_) fun _ H7 s7 => ?_
  · refine stp_ret (ep_slTo (ds := ys.map Deed.enc) (ep_of fun _ _ => ev_var rfl) (ep_mono (ep_drawL (n := ys.length + 1) (fun _ => er_var rfl) (fun _ _ => ev_is (ev_add (ev_lenL (ev_var rfl)) ev_int) (by rw [List.length_map]; rfl)) (by omega)) fun d hd => by
      obtain ⟨k, rfl, h, _⟩ := hd
      exact ⟨k, rfl, h⟩)) s7 (fun d hd => ?_) q
    obtain ⟨k, rfl⟩ := hd
    rw [← List.map_take]
    exact hist_deeds (fun y hy => hg y (List.mem_of_mem_take hy)) (by rw [List.length_take]; omega)
  · exact stp_ret (ep_call (fun _ => er_var rfl) (eap_cons (ep_draw (n := 6) (fun _ => er_var rfl) (by decide)) (eap_cons (ep_eqI (ep_draw (n := 2) (fun _ => er_var rfl) (by decide)) ep_int) eap_nil)) (fun ds hds => by
      obtain ⟨x1, _, rfl, ⟨n, rfl, n0, n1⟩, x2, _, rfl, ⟨b, rfl⟩, rfl⟩ := hds
      exact ⟨n.toNat, b, by rw [Int.toNat_of_nonneg n0], by omega⟩)) s7 (fun d hd => by
      obtain ⟨_, _, h⟩ := hd
      exact h) q
end
end G
set_option Elab.async false
set_option linter.all false
set_option maxRecDepth 100000
set_option maxHeartbeats 4000000
/-! Mathematics 11: what the law calls a fault is what the program raises. -/
namespace G
open PySem L2 Fo
theorem refuse_run (cR : Addr) : ∀ (t : Fo) (zs : List Deed), (refuse t zs = none ∧ ∃ u, reachD t zs = some u ∧ runD cR t zs = .ret (.tuple u.enc)) ∨ (∃ x why, refuse t zs = some (x, why) ∧ runD cR t zs = refOut cR x why ∧ x ∈ zs ∧ PyData.strOk why = true)
  | t, [] => .inl ⟨rfl, t, rfl, rfl⟩
  | t, x :: r => by
    have e : runD cR t (x :: r) = (match reasonAt t x with
      | none => runD cR (behindT t x) r
      | some why => refOut cR x why) := rfl
    have e2 : refuse t (x :: r) = (match reasonAt t x with
      | none => refuse (behindT t x) r
      | some why => some (x, why)) := rfl
    rw [e, e2, reachD_cons]
    cases h : reasonAt t x with
    | none =>
      rcases refuse_run cR (behindT t x) r with h1 | ⟨y, why, h1, h2, h3, h4⟩
      · exact .inl h1
      · exact .inr ⟨y, why, h1, h2, List.mem_cons_of_mem _ h3, h4⟩
    | some why =>
      have := (reasonS_ok t x).1
      rw [h] at this
      exact .inr ⟨x, why, rfl, rfl, List.mem_cons_self, this⟩
theorem bad_ne (x : Item) : badD x ≠ .none := fun h => by cases h
theorem ref_ne (x : Deed) (w : Str) : refD x w ≠ .none := fun h => by cases h
section
variable {xs zs : List Item} {cS cR : Addr}
theorem findP {xs : List Item} : xs.find? badP = xs.find? fun x => !x.good := rfl
theorem fault_of (hs : List (List Item)) : (∃ x, hs.flatten.find? badP = some x ∧ faultD hs = badD x) ∨ (hs.flatten.find? badP = none ∧ ∃ p, hs.findSome? refs = some p ∧ faultD hs = refD p.1 p.2) ∨ (hs.flatten.find? badP = none ∧ hs.findSome? refs = none ∧ faultD hs = .none) := by
  unfold faultD
  cases h : hs.flatten.find? badP with
  | some x => exact .inl ⟨x, rfl, rfl⟩
  | none =>
    cases h2 : hs.findSome? refs with
    | some p => exact .inr (.inl ⟨rfl, p, rfl, rfl⟩)
    | none => exact .inr (.inr ⟨rfl, rfl, rfl⟩)
theorem run_of_none (hl : xs.length ≤ 5) (h1 : xs.find? badP = none) (h2 : refs xs = none) : ∃ ys u, xs = ys.map Item.d ∧ Runs ys u := by
  obtain ⟨e, hg⟩ := all_good h1
  rcases refuse_run 0 .nil (deedsOf xs) with ⟨_, u, h3, _⟩ | ⟨x, why, h3, _⟩
  · refine ⟨deedsOf xs, u, e, hg, ?_, h3⟩
    rw [e, List.length_map] at hl; exact hl
  · have : refs xs = some (x, why) := h3
    rw [h2] at this; cases this
theorem fault1_none (hl : xs.length ≤ 5) (h : faultD [xs] = .none) : ∃ ys u, xs = ys.map Item.d ∧ Runs ys u := by
  rcases fault_of [xs] with ⟨x, _, e⟩ | ⟨_, p, _, e⟩ | ⟨h1, h2, _⟩
  · rw [h] at e; exact absurd e.symm (bad_ne x)
  · rw [h] at e; exact absurd e.symm (ref_ne _ _)
  · refine run_of_none hl (by simpa using h1) ?_
    cases q : refs xs with
    | none => rfl
    | some p => rw [List.findSome?_cons, q] at h2; cases h2
theorem fault2_none (hl : xs.length ≤ 5) (kl : zs.length ≤ 5) (h : faultD [xs, zs] = .none) : (∃ ys u, xs = ys.map Item.d ∧ Runs ys u) ∧ ∃ ys u, zs = ys.map Item.d ∧ Runs ys u := by
  rcases fault_of [xs, zs] with ⟨x, _, e⟩ | ⟨_, p, _, e⟩ | ⟨h1, h2, _⟩
  · rw [h] at e; exact absurd e.symm (bad_ne x)
  · rw [h] at e; exact absurd e.symm (ref_ne _ _)
  · have e : [xs, zs].flatten = xs ++ zs := by simp
    rw [e, List.find?_append, Option.or_eq_none_iff] at h1
    have hr : refs xs = none ∧ refs zs = none := by
      rw [List.findSome?_cons] at h2
      cases q : refs xs with
      | some p => rw [q] at h2; cases h2
      | none =>
        rw [q] at h2
        refine ⟨rfl, ?_⟩
        cases q2 : refs zs with
        | none => rfl
        | some p => rw [List.findSome?_cons, q2] at h2; cases h2
    exact ⟨run_of_none hl h1.1 hr.1, run_of_none kl h1.2 hr.2⟩
theorem fault1_told (h : faultD [xs] ≠ .none) : Told cS cR (noOut cS cR xs) (faultD [xs]) := by
  have e : [xs].flatten = xs := by simp
  rcases fault_of [xs] with ⟨x, h1, e1⟩ | ⟨h1, p, h2, e1⟩ | ⟨_, _, e1⟩
  · rw [e1]
    rw [e] at h1
    have : noOut cS cR xs = badOut cS x := by
      unfold noOut runO
      rw [← findP, h1]; rfl
    rw [this]; exact .bad x
  · rw [e1]
    rw [e] at h1
    have hr : refs xs = some p := by
      rw [List.findSome?_cons] at h2
      cases q : refs xs with
      | some r => rw [q] at h2; exact h2
      | none => rw [q] at h2; cases h2
    rcases refuse_run cR .nil (deedsOf xs) with ⟨h3, _⟩ | ⟨x, why, h3, h4, _⟩
    · have : refs xs = none := h3
      rw [hr] at this; cases this
    · have h5 : refs xs = some (x, why) := h3
      rw [hr] at h5; cases h5
      have : noOut cS cR xs = refOut cR x why := by
        unfold noOut runO
        rw [← findP, h1]
        show thenO (runD cR .nil (deedsOf xs)) _ = _
        rw [h4]; rfl
      rw [this]; exact .ref x why
  · exact absurd e1 h
theorem fault2_told (h : faultD [xs, zs] ≠ .none) : Told cS cR (saOut cS cR xs zs) (faultD [xs, zs]) := by
  have e : [xs, zs].flatten = xs ++ zs := by simp
  rcases fault_of [xs, zs] with ⟨x, h1, e1⟩ | ⟨h1, p, h2, e1⟩ | ⟨_, _, e1⟩
  · rw [e1]
    rw [e] at h1
    have : saOut cS cR xs zs = badOut cS x := by
      unfold saOut needH
      rw [← findP, h1]; rfl
    rw [this]; exact .bad x
  · rw [e1]
    rw [e] at h1
    have hn : needH cS cR xs zs = thenO (runD cR .nil (deedsOf xs)) (thenO (runD cR .nil (deedsOf zs)) (.ret .none)) := by
      unfold needH
      rw [← findP, h1]
    rcases refuse_run cR .nil (deedsOf xs) with ⟨h3, u, _, h4⟩ | ⟨x, why, h3, h4, _⟩
    · have h5 : refs xs = none := h3
      rcases refuse_run cR .nil (deedsOf zs) with ⟨k3, _⟩ | ⟨x, why, k3, k4, _⟩
      · have k5 : refs zs = none := k3
        rw [List.findSome?_cons, h5, List.findSome?_cons, k5] at h2
        cases h2
      · have k5 : refs zs = some (x, why) := k3
        rw [List.findSome?_cons, h5, List.findSome?_cons, k5] at h2
        cases h2
        have : saOut cS cR xs zs = refOut cR x why := by
          unfold saOut
          rw [hn, h4, k4]; rfl
        rw [this]; exact .ref x why
    · have h5 : refs xs = some (x, why) := h3
      rw [List.findSome?_cons, h5] at h2
      cases h2
      have : saOut cS cR xs zs = refOut cR x why := by
        unfold saOut
        rw [hn, h4]; rfl
      rw [this]; exact .ref x why
  · exact absurd e1 h
end
end G
set_option Elab.async false
set_option linter.all false
set_option maxRecDepth 100000
set_option maxHeartbeats 4000000
namespace G
open PySem L2 Fo
theorem deeds_mem {xs : List Item} {x : Deed} (h : x ∈ deedsOf xs) : Item.d x ∈ xs := by
  unfold deedsOf at h
  obtain ⟨y, hy, e⟩ := List.mem_filterMap.mp h
  cases y with
  | d z => cases e; exact hy
  | j n => cases e
theorem enc_lvl2 (x : Item) : lvl x.enc ≤ 3 := by
  cases x with
  | d x =>
    cases x with
    | add m w p b => show lvl (.tuple [.str "add", .int m, .str w, .int p, .int b]) ≤ 3; simp [lvl, lvlAll]
    | drop m => show lvl (.tuple [.str "drop", .int m]) ≤ 3; simp [lvl, lvlAll]
    | move m p b => show lvl (.tuple [.str "move", .int m, .int p, .int b]) ≤ 3; simp [lvl, lvlAll]
    | word m w => show lvl (.tuple [.str "word", .int m, .str w]) ≤ 3; simp [lvl, lvlAll]
  | j n =>
    show lvl (junk.getD n .none) ≤ 3
    rcases Nat.lt_or_ge n junk.length with h | h
    · have : ∀ m, m < 9 → lvl (junk.getD m .none) ≤ 3 := by decide +kernel
      exact this n h
    · rw [List.getD_eq_getElem?_getD, List.getElem?_eq_none_iff.mpr h]; show 1 ≤ 3; omega
theorem fault_small {hs : List (List Item)} (ht : ∀ xs ∈ hs, ∀ x ∈ xs, x.tame) (h : faultD hs ≠ .none) : lvl (faultD hs) ≤ 19 ∧ shortD (faultD hs) = true := by
  rcases fault_of hs with ⟨x, h1, e1⟩ | ⟨_, p, h2, e1⟩ | ⟨_, _, e1⟩
  · rw [e1]
    obtain ⟨xs, hxs, hx⟩ := List.mem_flatten.mp (List.mem_of_find?_eq_some h1)
    have t := (ht xs hxs x hx).2
    have l := enc_lvl2 x
    unfold badD
    refine ⟨by simp only [lvl, lvlAll]; omega, ?_⟩
    simp [shortD, shortAll, str_told.2.1, t]
  · rw [e1]
    obtain ⟨xs, hxs, hr⟩ := List.exists_of_findSome?_eq_some h2
    rcases refuse_run 0 .nil (deedsOf xs) with ⟨h3, _⟩ | ⟨x, why, h3, _, hm, hw⟩
    · have : refs xs = none := h3
      rw [hr] at this; cases this
    · have h5 : refs xs = some (x, why) := h3
      rw [hr] at h5; cases h5
      have t := (ht xs hxs _ (deeds_mem hm)).2
      have l := enc_lvl2 (.d x)
      have t : shortD x.enc = true := t
      have l : lvl x.enc ≤ 3 := l
      unfold refD
      refine ⟨by simp only [lvl, lvlAll]; omega, ?_⟩
      simp [shortD, shortAll, str_told.2.2, t, hw]
  · exact absurd e1 h
theorem isNon_iff {d : PyData} : isNon d = true ↔ d = .none := by cases d <;> simp [isNon]
/-- a pool is made of a list of ints, wherever it lies -/
def PoolSp (K : PySem.W.Frag) : L2.Sp := fun vs H Q _ => ∃ (a : Addr) (ns : List Int), vs = [.ref a] ∧ SqL K H a (ns.map V.int) ∧ ∀ v H', Same H H' → Rp H' v (.list [.list (ns.map PyData.int), .int 0, .int 0, .int 0]) → Q v H'
theorem ints_all {G : Hp} : ∀ ns : List Int, RpAll G (ns.map V.int) (ns.map PyData.int)
  | [] => .nil
  | n :: ns => .cons (.int n) (ints_all ns)
section
variable {P : Program} {w : World} {K : PySem.W.Frag} {mg : Str → Option Value} {base : Heap} {cS cR : Addr}
theorem sc__law_pool : FnScope ["_law_script"] ["_law_script"] (defScope s__law_pool) := ⟨rfl, rfl, rfl, by decide +kernel, rfl, by decide +kernel, by decide +kernel⟩
theorem c__law_pool (T : Txt K mg) : Cl P w K mg base CX0 1 "_law_pool" ["_law_script"] (PoolSp K) := by
  obtain ⟨f, fd, F, m, b⟩ := T.d__law_pool
  refine ⟨f, fd, F.ok sc__law_pool (fun vs H Q E h => by obtain ⟨a, ns, rfl, _⟩ := h; rfl) (fun cdv A outer s0 H0 vs Q E hr h => ⟨_, (pss_one (ps_ret (pe_lst (pa_cons (pe_callTy call_list_of (by rfl) T.z_list (by decide +kernel) (pa_cons (pv 0) pa_nil)) (pa_cons pe_int (pa_cons pe_int (pa_cons pe_int pa_nil))))))), ?_⟩), m, F.kp, b⟩
  obtain ⟨a, ns, rfl, hS, q⟩ := h
  refine ⟨.ref a, rfl, a, ns.map V.int, rfl, .inl hS, fun p hp => ?_⟩
  have e1 := same_new (o := .lst (ns.map V.int)) hp
  have r1 : Rp (upd H0 p (.lst (ns.map V.int))) (.ref p) (.list (ns.map PyData.int)) := .lst upd_same (ints_all ns)
  refine ⟨by rw [sizeLine_eq]; exact Nat.le_of_ble_eq_true rfl, fun t ht => ?_⟩
  have e2 := same_new (o := .lst [.ref p, .int 0, .int 0, .int 0]) ht
  exact q _ _ (e1.trans e2) (.lst upd_same (.cons (r1.same e2) (.cons (.int 0) (.cons (.int 0) (.cons (.int 0) .nil)))))
end
end G
set_option Elab.async false
set_option linter.all false
set_option maxRecDepth 100000
set_option maxHeartbeats 4000000
namespace G
open PySem L2 Fo
/-- the law's promise -/
def LawSp (K : PySem.W.Frag) : L2.Sp := fun vs H Q _ => ∃ (a : Addr) (ns : List Int), vs = [.ref a] ∧ SqL K H a (ns.map V.int) ∧ ∀ H', Q (.bl true) H'
theorem shr_none {H : Hp} : shr (fun _ => false) H = H := by funext a; rfl
section
variable {F : Fm} {l : Addr} {M : List (Addr × OC)} {δ : List SD} {σ : L2.St} {H : Hp} {tt : TT} {t t2 u : TS} {D : Ends} {B : Bool → Prop}
theorem sp_join {ι : Type} (I : ι → L2.St → Hp → Prop) (ht : Etp F l M δ tt B) (s : SP F l M δ σ H) (k1 : B true → ∀ H', SP F l M δ σ H' → (∀ x σ' H', I x σ' H' → u D σ' H') → t { D with nx := u D } σ H') (k2 : B false → ∀ H', SP F l M δ σ H' → (∀ x σ' H', I x σ' H' → u D σ' H') → t2 { D with nx := u D } σ H') (fin : ∀ x σ' H', I x σ' H' → u D σ' H') : tSeq (tIfS tt t t2) u D σ H :=
  stp_if (D := { D with nx := u D }) ht s (fun hb H' s' => k1 hb H' s' fin) fun hb H' s' => k2 hb H' s' fin
theorem paired_any {G : Hp} : ∀ σ : L2.St, Paired (SlotOk G) σ (List.replicate σ.length SD.any)
  | [] => .nil
  | o :: σ => .cons (by cases o <;> trivial) (paired_any σ)
theorem ints_rp {G G' : Hp} : ∀ {us : List V} {ns : List Int}, RpAll G us (ns.map PyData.int) → RpAll G' us (ns.map PyData.int)
  | _, [], r => by
    have r' : RpAll G _ [] := r
    cases r'; exact .nil
  | _, n :: ns, r => by
    have r' : RpAll G _ (.int n :: ns.map PyData.int) := r
    cases r' with
    | cons a b =>
      rw [a.int_inv]
      exact .cons (.int n) (ints_rp b)
/-- a list just made, held as a pool -/
theorem pool_take {v : V} {ns : List Int} (r : Rp H v (.list [.list (ns.map PyData.int), .int 0, .int 0, .int 0])) (i : Nat) (hi : σ[i]? = some (some v)) :
    ∃ p, v = .ref p ∧ SP (FP (isL p) p H) p [] ((List.replicate σ.length SD.any).set i (.raw (.ref p))) σ H := by
  obtain ⟨p, vs, rfl, hp, rv⟩ := r.lst_inv
  cases rv with
  | cons r1 rv =>
    obtain ⟨q, us, rfl, hq, ru⟩ := r1.lst_inv
    have hne : q ≠ p := fun e => by
      subst e
      rw [hp] at hq
      cases hq
      cases ns with
      | nil =>
        have ru' : RpAll H _ [] := ru
        cases ru'
      | cons n ns =>
        have ru' : RpAll H _ (.int n :: ns.map PyData.int) := ru
        cases ru' with | cons a b => cases a
    have hq' : shr (isL p) H q = some (.lst us) := shr_at hq (by
      cases c : isL p q with
      | false => rfl
      | true => exact absurd (isL_eq c) hne)
    refine ⟨p, rfl, ⟨_, ⟨ns, 0, 0, 0, rfl, Int.le_refl _⟩, ⟨?_, fun a h => ?_, fun a h => h, fun a h => h, Kp.refl, fun a h => .inl h, fun B h => absurd (show B ∈ ([] : List Hp) from h) (by simp), fun c h => ?_, by simp⟩⟩, isL_l⟩
    · have e : σ.set i (some (.ref p)) = σ := by
        obtain ⟨hlt, e⟩ := List.getElem?_eq_some_iff.mp hi
        rw [← e]
        exact List.set_getElem_self hlt
      have := pr_set (F := SlotOk (shr (FP (isL p) p H).O H)) (x := some (.ref p)) (y := .raw (.ref p)) rfl i (paired_any σ)
      rw [e] at this
      exact this
    · rw [isL_eq h, hp]; exact fun z => by cases z
    · rw [List.mem_singleton.mp h]
      refine ⟨isL_l, _, hp, .cons (.lst hq' (ints_rp ru)) ?_⟩
      exact ints_rp (ns := [0, 0, 0]) rv
end
end G
set_option Elab.async false
set_option linter.all false
set_option maxRecDepth 100000
set_option maxHeartbeats 4000000
/-! Mathematics 12: what may be compared as a whole; two histories that run have no fault. -/
namespace G
open PySem L2 Fo
mutual
theorem short_lay : ∀ d : PyData, shortD d = true → d.canLay0 = true ∧ d.depth ≤ lvl d
  | .none, _ => ⟨by simp [PyData.canLay0], by simp [PyData.depth]⟩
  | .bool _, _ => ⟨by simp [PyData.canLay0], by simp [PyData.depth]⟩
  | .int _, _ => ⟨by simp [PyData.canLay0], by simp [PyData.depth]⟩
  | .str x, h => ⟨by simpa [PyData.canLay0, shortD] using h, by simp [PyData.depth]⟩
  | .tuple xs, h => by
    simp only [shortD, Bool.and_eq_true, decide_eq_true_eq] at h
    obtain ⟨h1, h2⟩ := short_layAll xs h.2
    exact ⟨by simp [PyData.canLay0, h1], by simp only [PyData.depth, lvl]; omega⟩
  | .list xs, h => by
    simp only [shortD, Bool.and_eq_true, decide_eq_true_eq] at h
    obtain ⟨h1, h2⟩ := short_layAll xs h.2
    exact ⟨by simp [PyData.canLay0, h1], by simp only [PyData.depth, lvl]; omega⟩
  | .dict _, h => by simp [shortD] at h
theorem short_layAll : ∀ xs : List PyData, shortAll xs = true → PyData.canLayAll0 xs = true ∧ PyData.depthAll xs ≤ lvlAll xs
  | [], _ => ⟨by simp [PyData.canLayAll0], by simp [PyData.depthAll]⟩
  | x :: xs, h => by
    simp only [shortAll, Bool.and_eq_true] at h
    obtain ⟨a1, a2⟩ := short_lay x h.1
    obtain ⟨b1, b2⟩ := short_layAll xs h.2
    exact ⟨by simp [PyData.canLayAll0, a1, b1], by simp only [PyData.depthAll, lvlAll]; omega⟩
end
theorem short_shaped {d : PyData} (h : shortD d = true) (hl : lvl d ≤ 60) : SeqAt.shaped d = true := by
  obtain ⟨h1, h2⟩ := short_lay d h
  unfold SeqAt.shaped
  rw [h1, decide_eq_true (by omega)]; rfl
theorem items_shaped {xs : List Item} (h : ∀ x ∈ xs, x.tame) (hl : xs.length ≤ 1000) : SeqAt.shaped (.list (xs.map Item.enc)) = true := by
  have e : ∀ xs : List Item, (∀ x ∈ xs, x.tame) → shortAll (xs.map Item.enc) = true ∧ lvlAll (xs.map Item.enc) ≤ 3 := by
    intro xs
    induction xs with
    | nil => exact fun _ => ⟨rfl, Nat.zero_le _⟩
    | cons x xs ih =>
      intro h
      obtain ⟨i1, i2⟩ := ih fun y hy => h y (List.mem_cons_of_mem _ hy)
      have := enc_lvl2 x
      have t := (h x List.mem_cons_self).2
      refine ⟨?_, ?_⟩
      · show (shortD x.enc && shortAll (xs.map Item.enc)) = true
        rw [t, i1]; rfl
      · show max (lvl x.enc) (lvlAll (xs.map Item.enc)) ≤ 3
        omega
  obtain ⟨h1, h2⟩ := e xs h
  refine short_shaped ?_ ?_
  · simp only [shortD, h1, List.length_map, Bool.and_true, decide_eq_true_eq]; omega
  · simp only [lvl]; omega
section
variable {ys zs : List Deed} {u v : Fo}
theorem Runs.refs (h : Runs ys u) : refs (ys.map Item.d) = none := by
  unfold G.refs
  rw [h.items.2.2.1]
  rcases refuse_run 0 .nil ys with ⟨h1, _⟩ | ⟨x, why, _, h2, _⟩
  · exact h1
  · rw [h.runD 0] at h2; cases h2
theorem runs_fault (h : Runs ys u) (k : Runs zs v) : faultD [ys.map Item.d, zs.map Item.d] = .none := by
  have e : [ys.map Item.d, zs.map Item.d].flatten = ys.map Item.d ++ zs.map Item.d := by simp
  unfold faultD
  rw [e, List.find?_append, findP, findP, h.items.2.1, k.items.2.1]
  show (match [ys.map Item.d, zs.map Item.d].findSome? G.refs with
    | some p => refD p.1 p.2
    | none => .none) = PyData.none
  rw [List.findSome?_cons, h.refs, List.findSome?_cons, k.refs]; rfl
theorem lawForms_shaped (h : Runs ys u) : SeqAt.shaped (.list (lawForms ys)) = true := by
  refine shaped_of ?_ ?_
  · simp only [nb]
    rw [nbAll_iff]
    exact h.sortable.1
  · have : PyData.depthAll (lawForms ys) ≤ 60 := depthAll_le fun d hd => by
      obtain ⟨z, hz, rfl⟩ := (lawForms_mem h.2.1 h.2.2).mp hd
      obtain ⟨a, b⟩ := row_small (h.cls hz).1
      have := (short_layAll _ b).2
      unfold rowD
      simp only [PyData.depth]
      omega
    simp only [PyData.depth]; omega
end
end G
set_option Elab.async false
set_option linter.all false
set_option maxRecDepth 100000
set_option maxHeartbeats 8000000
namespace G
open PySem L2 Fo
theorem pair_len {α β : Type} {F : α → β → Prop} : ∀ {xs : List α} {ys : List β}, Paired F xs ys → xs.length = ys.length
  | _, _, .nil => rfl
  | _, _, .cons _ r => by rw [List.length_cons, List.length_cons, pair_len r]
def pairD (p : List Item × PyData) : PyData := .tuple [histD p.1, p.2]
section
variable {P : Program} {w : World} {K : PySem.W.Frag} {mg : Str → Option Value} {base : Heap} {cS cR : Addr}
theorem sc_law : FnScope ["_law_script", "_law_pool_here", "_law_many", "_law_history_here", "_law_handed_here", "_law_other_here", "_law_given", "_law_kept", "_law_pair", "_law_fault_here"] ["_law_script"] (defScope s_law) := ⟨rfl, rfl, rfl, by decide +kernel, rfl, by decide +kernel, by decide +kernel⟩
theorem law_ok (T : Txt K mg) (XE : Errs P K mg cS cR) {f : Addr} {fd : FuncData} (F : Fun K "law" "law" s_law f fd) : FnOk P w K mg base CX0 35 f fd ["_law_script"] (LawSp K) := by
  refine F.ok sc_law (fun vs H Q E h => by obtain ⟨a, ns, rfl, _⟩ := h; rfl) (fun cdv A outer s0 H0 vs Q E hr h => ⟨_, (pss_cons (ps_set (i := 1) sc_law.nd rfl (Or.inl rfl) (pe_k (c__law_pool T) hr (by decide) rfl pass0 (pa_cons (pv 0) pa_nil)))
    (pss_cons (ps_set (i := 2) sc_law.nd rfl (Or.inl rfl) (pe_ix ix_seq (pe_lst (pa_cons pe_int (pa_cons pe_int (pa_cons pe_int (pa_cons pe_int (pa_cons (pe_k (c__law_draw T) hr (by decide) rfl pass0 (pa_cons (pv 1) (pa_cons pe_int pa_nil))) pa_nil)))))) (pe_k (c__law_draw T) hr (by decide) rfl pass0 (pa_cons (pv 1) (pa_cons pe_int pa_nil))) (fun _ _ => rfl)))
    (pss_cons (ps_set (i := 3) sc_law.nd rfl (Or.inl rfl) (pe_k (c__law_history T) hr (by decide) rfl pass0 (pa_cons (pv 1) (pa_cons (pv 2) (pa_cons (pe_cmpR (op_eqD hr.units) (pe_k (c__law_draw T) hr (by decide) rfl pass0 (pa_cons (pv 1) (pa_cons pe_int pa_nil))) pe_int (nomark _)) pa_nil)))))
    (pss_cons (ps_set (i := 4) sc_law.nd rfl (Or.inl rfl) (pe_k (c__law_handed T) hr (by decide) rfl pass0 (pa_cons (pv 1) (pa_cons (pv 3) pa_nil))))
    (pss_cons (ps_if (pt_cmpR op_notN (pe_k (c__law_fault T) hr (by decide) rfl pass0 (pa_cons (pe_lst (pa_cons (pv 3) pa_nil)) pa_nil)) pe_non (nomark _)) (pss_one (ps_set (i := 5) sc_law.nd rfl (Or.inl rfl) (pe_k (c__law_history T) hr (by decide) rfl pass0 (pa_cons (pv 1) (pa_cons (pe_k (c__law_draw T) hr (by decide) rfl pass0 (pa_cons (pv 1) (pa_cons pe_int pa_nil))) (pa_cons (pe_cmpR (op_eqD hr.units) (pe_k (c__law_draw T) hr (by decide) rfl pass0 (pa_cons (pv 1) (pa_cons pe_int pa_nil))) pe_int (nomark _)) pa_nil)))))) (pss_one (ps_set (i := 5) sc_law.nd rfl (Or.inl rfl) (pe_k (c__law_other T) hr (by decide) rfl pass0 (pa_cons (pv 1) (pa_cons (pv 3) pa_nil))))))
    (pss_cons (ps_set (i := 6) sc_law.nd rfl (Or.inl rfl) (pe_k (c__law_handed T) hr (by decide) rfl pass0 (pa_cons (pv 1) (pa_cons (pv 5) pa_nil))))
    (pss_cons (ps_set (i := 7) sc_law.nd rfl (Or.inl rfl) (pe_lst (pa_cons (pe_callTy call_list_of (by rfl) T.z_list (by decide +kernel) (pa_cons (pv 3) pa_nil)) (pa_cons (pe_callTy call_list_of (by rfl) T.z_list (by decide +kernel) (pa_cons (pv 5) pa_nil)) pa_nil))))
    (pss_cons (ps_for PassesOwn.never rfl (pi_seq (pe_lst (pa_cons (pe_tup (pa_cons (pv 3) (pa_cons (pv 4) pa_nil))) (pa_cons (pe_tup (pa_cons (pv 5) (pa_cons (pv 6) pa_nil))) pa_nil)))) (pg_name (i := 8) sc_law.nd rfl (Or.inl rfl))
    (pss_cons (ps_set (i := 9) sc_law.nd rfl (Or.inl rfl) (pe_k (c__law_fault T) hr (by decide) rfl pass0 (pa_cons (pe_lst (pa_cons (pe_ix ix_seq (pv 8) pe_int (fun _ _ => rfl)) pa_nil)) pa_nil)))
    (pss_cons (ps_if (PW.pt (pw_and (pt_cmpR op_notN (pv 9) pe_non (nomark _)) (pw_and1 (pt_not (pt_val (pe_k (c__law_same T 20) hr (by decide) rfl pass0 (pa_cons (pe_k (c__law_told T XE) hr (by decide) rfl pass0 (pa_cons pe_str (pa_cons (pe_ix ix_seq (pv 8) pe_int (fun _ _ => rfl)) (pa_cons pe_non pa_nil)))) (pa_cons (pv 9) pa_nil)))))))) (pss_one (ps_ret pe_bl)) pss_nil)
    (pss_one (ps_if (PW.pt (pw_and (pt_cmpR op_isN (pv 9) pe_non (nomark _)) (pw_and1 (pt_not (pt_val (pe_k (c__law_good T XE) hr (by decide) rfl pass0 (pa_cons (pe_ix ix_seq (pv 8) pe_int (fun _ _ => rfl)) (pa_cons (pe_ix ix_seq (pv 8) pe_int (fun _ _ => rfl)) pa_nil)))))))) (pss_one (ps_ret pe_bl)) pss_nil)))))
    (pss_cons (ps_set (i := 9) sc_law.nd rfl (Or.inl rfl) (pe_k (c__law_fault T) hr (by decide) rfl pass0 (pa_cons (pe_lst (pa_cons (pv 3) (pa_cons (pv 5) pa_nil))) pa_nil)))
    (pss_cons (ps_if (pt_cmpR op_notN (pv 9) pe_non (nomark _)) (pss_cons (ps_if (pt_not (pt_val (pe_k (c__law_same T 20) hr (by decide) rfl pass0 (pa_cons (pe_k (c__law_told T XE) hr (by decide) rfl pass0 (pa_cons pe_str (pa_cons (pv 4) (pa_cons (pv 6) pa_nil)))) (pa_cons (pv 9) pa_nil))))) (pss_one (ps_ret pe_bl)) pss_nil)
    (pss_one (ps_if (pt_not (pt_val (pe_k (c__law_same T 20) hr (by decide) rfl pass0 (pa_cons (pe_k (c__law_told T XE) hr (by decide) rfl pass0 (pa_cons pe_str (pa_cons (pv 6) (pa_cons (pv 4) pa_nil)))) (pa_cons (pe_k (c__law_fault T) hr (by decide) rfl pass0 (pa_cons (pe_lst (pa_cons (pv 5) (pa_cons (pv 3) pa_nil))) pa_nil)) pa_nil))))) (pss_one (ps_ret pe_bl)) pss_nil))) (pss_one (ps_if (pt_not (pt_val (pe_k (c__law_both T XE) hr (by decide) rfl pass0 (pa_cons (pv 4) (pa_cons (pv 6) (pa_cons (pe_cmpR (op_inD (units65 hr)) (pe_callTy call_tuple_of (by rfl) T.z_tuple (by decide +kernel) (pa_cons (pv 5) pa_nil)) (pe_k (c__law_forms T) hr (by decide) rfl pass0 (pa_cons (pv 3) pa_nil)) rfl) pa_nil)))))) (pss_one (ps_ret pe_bl)) pss_nil)))
    (pss_one (ps_ret (pe_and (pe_cmpR (op_eqD hr.units) (pe_callTy call_list_of (by rfl) T.z_list (by decide +kernel) (pa_cons (pv 4) pa_nil)) (pe_ix ix_seq (pv 7) pe_int (fun _ _ => rfl)) (nomark _)) (pe_one (pe_cmpR (op_eqD hr.units) (pe_callTy call_list_of (by rfl) T.z_list (by decide +kernel) (pa_cons (pv 6) pa_nil)) (pe_ix ix_seq (pv 7) pe_int (fun _ _ => rfl)) (nomark _)))))))))))))))), ?_⟩)
  obtain ⟨a, ns, rfl, hS, q⟩ := h
  refine ⟨.ref a, rfl, a, ns, rfl, hS, fun v1 H1 _ r1 => ?_⟩
  obtain ⟨l, rfl, s2⟩ := pool_take (σ := (start ["_law_script", "_law_pool_here", "_law_many", "_law_history_here", "_law_handed_here", "_law_other_here", "_law_given", "_law_kept", "_law_pair", "_law_fault_here"] [.ref a]).set 1 (some v1)) r1 1 rfl
  have s2 : SP (FP (isL l) l H1) l [] [.any, .raw (.ref l), .any, .any, .any, .any, .any, .any, .any, .any] _ H1 := s2
  have h5 : ∀ d, (∃ ds, d = .list ds ∧ ∃ a b c e x, ds = [a, b, c, e, x] ∧ a = .int 5 ∧ b = .int 5 ∧ c = .int 4 ∧ e = .int 3 ∧ Less 6 x) → SeqP 5 (IntP fun k => 0 ≤ k ∧ k ≤ 5) d := fun d hd => by
    obtain ⟨_, rfl, a, b, c, e, x, rfl, rfl, rfl, rfl, rfl, n, rfl, h0, h1⟩ := hd
    refine ⟨_, .inl rfl, rfl, fun y hy => ?_⟩
    simp only [List.mem_cons, List.not_mem_nil, or_false] at hy
    rcases hy with rfl | rfl | rfl | rfl | rfl
    · exact ⟨5, rfl, by omega, by omega⟩
    · exact ⟨5, rfl, by omega, by omega⟩
    · exact ⟨4, rfl, by omega, by omega⟩
    · exact ⟨3, rfl, by omega, by omega⟩
    · exact ⟨n, rfl, h0, by omega⟩
  refine sp_asg (ep_ix (n := 5) (P := IntP fun k => 0 ≤ k ∧ k ≤ 5) (ep_mono (ep_lst (eap_cons (ep_of fun _ _ => ev_int) (eap_cons (ep_of fun _ _ => ev_int) (eap_cons (ep_of fun _ _ => ev_int) (eap_cons (ep_of fun _ _ => ev_int) (eap_cons (ep_draw (n := 6) (fun _ => er_var rfl) (by decide)) eap_nil))))) ?_) fun d hd => h5 d ?_) (ep_draw (n := 5) (fun _ => er_var rfl) (by decide))) s2 fun d σ3 H3 hd s3 => ?_
  · rintro ds ⟨a, _, rfl, _, b, _, rfl, _, c, _, rfl, _, e, _, rfl, _, x, _, rfl, _, rfl⟩; exact Nat.le_of_ble_eq_true rfl
  · obtain ⟨ds, rfl, a, _, rfl, ha, b, _, rfl, hb, c, _, rfl, hc, e, _, rfl, he, x, _, rfl, hx, rfl⟩ := hd
    exact ⟨_, rfl, a, b, c, e, x, rfl, ha, hb, hc, he, hx⟩
  obtain ⟨many, rfl, hm0, hm1⟩ := hd
  have hist : ∀ {F : Fm} {M : List (Addr × OC)} {δ : List SD} {tn : TE}, δ[1]? = some (.raw (.ref l)) → Evp F l M δ tn (IntP fun k => 0 ≤ k ∧ k ≤ 5) → ∀ n : Nat, 0 < n ∧ n < 1000 → Evp F l M δ (tCall (PSp Pre_hist R_hist) [] E0 (tCons (tVar 1) (tCons tn (tCons (tOp (rEqD K) (tCall (PSp Pre_draw R_draw) [] E0 (tCons (tVar 1) (tCons (tC (.int (n : Int))) tNil))) (tC (.int 0))) tNil)))) HistP := fun h1 hn n hn1 =>
    ep_mono (ep_call (fun _ => er_var h1) (eap_cons hn (eap_cons (ep_eqI (ep_draw (n := (n : Int)) (fun _ => er_var h1) (by omega)) ep_int) eap_nil)) (fun ds hds => by
      obtain ⟨x1, _, rfl, ⟨k, rfl, k0, k1⟩, x2, _, rfl, ⟨b, rfl⟩, rfl⟩ := hds
      exact ⟨k.toNat, b, by rw [Int.toNat_of_nonneg k0], by omega⟩)) fun d hd => by
      obtain ⟨_, _, h⟩ := hd
      exact h
  refine sp_asg (hist rfl (ep_of' (fun _ _ => ev_var rfl) ⟨many, rfl, hm0, hm1⟩) 7 (by decide)) s3 fun d σ4 H4 hd s4 => ?_
  obtain ⟨xs, rfl, hxt, hxl⟩ := hd
  have handed : ∀ {F : Fm} {M : List (Addr × OC)} {δ : List SD} {tn : TE} {es : List PyData}, δ[1]? = some (.raw (.ref l)) → (∀ pd, PoolD pd → Ev F ((l, .lst pd) :: M) δ tn (.list es)) → Evp F l M δ (tCall (PSp Pre_list R_handed) [] E0 (tCons (tVar 1) (tCons tn tNil))) (fun r => seqOf r es) := fun h1 hn =>
    ep_mono (ep_call (fun _ => er_var h1) (eap_cons (ep_of hn) eap_nil) (fun ds hds => by
      obtain ⟨x1, _, rfl, rfl, rfl⟩ := hds
      exact ⟨_, rfl⟩)) fun d hd => by
      obtain ⟨ds, ⟨x1, _, rfl, rfl, rfl⟩, es, e, h⟩ := hd
      cases e
      exact h
  refine sp_asg (handed rfl (fun _ _ => ev_var rfl)) s4 fun hd1 σ5 H5 hd1q s5 => ?_
  refine sp_join (B := fun c => c = !isNon (faultD [xs])) (fun (os : List Item) σ' H' => ((∀ x ∈ os, x.tame) ∧ os.length ≤ 5) ∧ SP (FP (isL l) l H1) l [] [.any, .raw (.ref l), .dat (.int many), .dat (.list (xs.map Item.enc)), .dat hd1, .dat (.list (os.map Item.enc)), .any, .any, .any, .any] σ' H')
    (etp_of fun _ _ => et_test (ev_notN (ev_call (ea_cons (ev_lst (ea_cons (ev_var rfl) ea_nil)) ea_nil) ⟨[xs], rfl, fun y hy => by rw [List.mem_singleton.mp hy]; exact ⟨fun x hx => (hxt x hx).1, by omega⟩, rfl⟩))) s5 (fun hb H6 s6 fin => ?_) (fun hb H6 s6 fin => ?_) ?_
  · refine stp_asg (hist rfl (ep_mono (ep_draw (n := 6) (fun _ => er_var rfl) (by decide)) fun d hd => by
      obtain ⟨k, rfl, k0, k1⟩ := hd
      exact ⟨k, rfl, k0, by omega⟩) 2 (by decide)) s6 fun d σ7 H7 hd s7 => ?_
    obtain ⟨os, rfl, hot, hol⟩ := hd
    exact fin os _ _ ⟨⟨hot, hol⟩, s7⟩
  · have hfn : faultD [xs] = .none := isNon_iff.mp (by
      have : (!isNon (faultD [xs])) = false := hb.symm
      simpa using this)
    obtain ⟨ys, u, rfl, hy⟩ := fault1_none hxl hfn
    refine stp_asg (ep_mono (ep_call (fun _ => er_var rfl) (eap_cons (ep_of fun _ _ => ev_var rfl) eap_nil) (fun ds hds => by
      obtain ⟨x1, _, rfl, rfl, rfl⟩ := hds
      exact ⟨ys, u, by rw [List.map_map]; rfl, hy⟩)) fun d hd => by
      obtain ⟨_, _, h⟩ := hd
      exact h) s6 fun d σ7 H7 hd s7 => ?_
    have hd : HistP d := hd
    obtain ⟨os, rfl, hot, hol⟩ := hd
    exact fin os _ _ ⟨⟨hot, hol⟩, s7⟩
  rintro os σ6 H6 ⟨⟨hot, hol⟩, s6⟩
  refine sp_asg (handed rfl (fun _ _ => ev_var rfl)) s6 fun hd2 σ7 H7 hd2q s7 => ?_
  refine sp_asg (P := fun d => d = .list [.list (xs.map Item.enc), .list (os.map Item.enc)]) (ep_of fun _ _ => ev_lst (ea_cons (ev_list (ev_var rfl) (.inl rfl)) (ea_cons (ev_list (ev_var rfl) (.inl rfl)) ea_nil))) s7 fun d σ8 H8 hd s8 => ?_
  subst hd
  obtain ⟨pd, hpd, s9⟩ := s8.ex
  have hq1 : seqOf hd1 (xs.map Item.enc) := hd1q
  have hq2 : seqOf hd2 (os.map Item.enc) := hd2q
  have hx5 : ∀ x ∈ xs, x.short := fun x hx => (hxt x hx).1
  have ho5 : ∀ x ∈ os, x.short := fun x hx => (hot x hx).1
  have hpairs : ∀ p ∈ [(xs, hd1), (os, hd2)], (∀ x ∈ p.1, x.tame) ∧ p.1.length ≤ 5 ∧ seqOf p.2 (p.1.map Item.enc) := fun p hp => by
    simp only [List.mem_cons, List.not_mem_nil, or_false] at hp
    rcases hp with rfl | rfl
    · exact ⟨hxt, hxl, hq1⟩
    · exact ⟨hot, hol, hq2⟩
  have fault2 : ∀ {F : Fm} {M : List (Addr × OC)} {δ : List SD} {ta tb : TE} {as bs : List Item}, (∀ x ∈ as, x.tame) → as.length ≤ 5 → (∀ x ∈ bs, x.tame) → bs.length ≤ 5 → Ev F M δ ta (histD as) → Ev F M δ tb (histD bs) → Ev F M δ (tCall (PureSp R_law_fault) [] E0 (tCons (tLst (tCons ta (tCons tb tNil))) tNil)) (faultD [as, bs]) := fun h1 h2 h3 h4 ha hb =>
    ev_call (ea_cons (ev_lst (ea_cons ha (ea_cons hb ea_nil))) ea_nil) ⟨[_, _], rfl, fun y hy => by
      simp only [List.mem_cons, List.not_mem_nil, or_false] at hy
      rcases hy with rfl | rfl
      · exact ⟨fun x hx => (h1 x hx).1, by omega⟩
      · exact ⟨fun x hx => (h3 x hx).1, by omega⟩, rfl⟩
  have told2 : ∀ {F : Fm} {M : List (Addr × OC)} {δ : List SD} {ta tb : TE} {as bs : List Item} {d e : PyData}, (∀ x ∈ as, x.tame) → as.length ≤ 5 → (∀ x ∈ bs, x.tame) → bs.length ≤ 5 → seqOf d (as.map Item.enc) → seqOf e (bs.map Item.enc) → faultD [as, bs] ≠ .none → Ev F M δ ta d → Ev F M δ tb e → Ev F M δ (tCall (PureSp (R_law_told cS cR)) [] E0 (tCons (tC (.str "same")) (tCons ta (tCons tb tNil)))) (faultD [as, bs]) := fun h1 h2 h3 h4 hd he hne ha hb =>
    ev_call (ea_cons ev_str (ea_cons ha (ea_cons hb ea_nil))) ⟨"same", _, _, _, rfl, fault2_told hne, .inr ⟨rfl, _, _, _, _, rfl, hd, he, fun x hx => (h1 x hx).1, fun x hx => (h3 x hx).1, h2, h4, rfl⟩⟩
  have tame2 : ∀ {as bs : List Item}, (∀ x ∈ as, x.tame) → (∀ x ∈ bs, x.tame) → ∀ ys ∈ [as, bs], ∀ x ∈ ys, x.tame := fun h1 h2 y hy => by
    simp only [List.mem_cons, List.not_mem_nil, or_false] at hy
    rcases hy with rfl | rfl
    · exact h1
    · exact h2
  refine sq_for (α := Unit) (fun _ _ => [(l, .lst pd)]) (fun _ _ => [.any, .raw (.ref l), .dat (.int many), .dat (.list (xs.map Item.enc)), .dat hd1, .dat (.list (os.map Item.enc)), .dat hd2, .dat (.list [.list (xs.map Item.enc), .list (os.map Item.enc)]), .any, .any]) (fun _ _ => True) () (ei_seq (ds := [(xs, hd1), (os, hd2)].map pairD) (ev_lst (ea_cons (ev_tup (ea_cons (ev_var rfl) (ea_cons (ev_var rfl) ea_nil))) (ea_cons (ev_tup (ea_cons (ev_var rfl) (ea_cons (ev_var rfl) ea_nil))) ea_nil))) (.inl rfl)) s9 trivial rfl (Le.refl _) ?_ ?_
  · rintro B i ⟨⟩ d σ H v hd _ s r
    rw [List.getElem?_map] at hd
    cases hx : ([(xs, hd1), (os, hd2)] : List (List Item × PyData))[i]? with
    | none => rw [hx] at hd; cases hd
    | some p =>
      rw [hx] at hd
      cases hd
      obtain ⟨p1, p2, p3⟩ := hpairs p (List.mem_of_getElem? hx)
      refine tg_use tg_name s r fun σ1 s1 => ?_
      refine sq_asg (d := faultD [p.1]) (ev_call (ea_cons (ev_lst (ea_cons (ev_ixT (ds := [histD p.1, p.2]) (ev_var rfl) ev_int rfl) ea_nil)) ea_nil) ⟨[p.1], rfl, fun y hy => by rw [List.mem_singleton.mp hy]; exact ⟨fun x hx => (p1 x hx).1, by omega⟩, rfl⟩) s1 fun σ2 H2 s2 => ?_
      refine sq_ifN (b := false) (et_is (et_and (a := !isNon (faultD [p.1])) (b := false) (et_test (ev_notN (ev_var rfl))) fun hne => ?_) (by simp)) s2 (fun h => by cases h) fun _ H3 s3 => ?_
      · have hne' : faultD [p.1] ≠ .none := fun e => by rw [isNon_iff.mpr e] at hne; cases hne
        exact et_not (et_test (same_true (ev_call (ea_cons ev_str (ea_cons (ev_ixT (ds := [histD p.1, p.2]) (ev_var rfl) ev_int rfl) (ea_cons ev_non ea_nil))) ⟨"normal", p.2, .none, _, rfl, fault1_told (cS := cS) (cR := cR) hne', .inl ⟨rfl, p.2, p.1, rfl, p3, fun x hx => (p1 x hx).1, p2, rfl⟩⟩) (ev_var rfl) (fault_small (fun y hy => by rw [List.mem_singleton.mp hy]; exact p1) hne')))
      refine st_if (b := false) (et_is (et_and (a := isNon (faultD [p.1])) (b := false) (et_test (ev_isN (ev_var rfl))) fun hn => ?_) (by simp)) s3 (fun h => by cases h) fun _ H4 s4 => ⟨(), trivial, s4.le (.eq (.eq (.eq (.eq (.eq (.eq (.eq (.eq (.any (.any .nil))))))))))⟩
      obtain ⟨ys, u, e, hy⟩ := fault1_none p2 (isNon_iff.mp hn)
      exact et_not (et_test (ev_call (d := .bool true) (ea_cons (ev_ixT (ds := [histD p.1, p.2]) (ev_var rfl) ev_int rfl) (ea_cons (ev_ixT (ds := [histD p.1, p.2]) (ev_var rfl) ev_int rfl) ea_nil)) ⟨ys, u, p.2, by unfold histD; rw [e, hy.items.2.2.2], by rw [← hy.items.2.2.2, ← e]; exact p3, hy, rfl⟩))
  rintro ⟨⟩ σ9 H9 _ s
  have fin : ∀ (σ' : L2.St) (H' : Hp) (δ' : SD) (δ2 : SD), S (FP (isL l) l H1) [(l, .lst pd)] [.any, .raw (.ref l), .dat (.int many), .dat (.list (xs.map Item.enc)), .dat hd1, .dat (.list (os.map Item.enc)), .dat hd2, .dat (.list [.list (xs.map Item.enc), .list (os.map Item.enc)]), δ', δ2] σ' H' →
      tRet (tAndV (tOp (rEqD K) (tCB (rListX K) (tCons (tVar 4) tNil)) (tOp (rIx K) (tVar 7) (tC (.int 0)))) (tOp (rEqD K) (tCB (rListX K) (tCons (tVar 6) tNil)) (tOp (rIx K) (tVar 7) (tC (.int 1))))) { nx := fun _ H' => Q .non H', rt := Q } σ' H' := fun σ' H' δ' δ2 s' => by
    have hs1 := items_shaped hxt (by omega)
    have hs2 := items_shaped hot (by omega)
    refine st_ret (ev_is (ev_andV (ev_eq (ev_list (ev_var rfl) hq1) (ev_ixL (ds := [.list (xs.map Item.enc), .list (os.map Item.enc)]) (ev_var rfl) ev_int rfl) hs1 hs1) fun _ => ev_eq (ev_list (ev_var rfl) hq2) (ev_ixL (ds := [.list (xs.map Item.enc), .list (os.map Item.enc)]) (ev_var rfl) ev_int rfl) hs2 hs2) (show _ = PyData.bool true by rw [eqv_self _ (SeqAt.canLay_of_shaped hs1), eqv_self _ (SeqAt.canLay_of_shaped hs2)]; rfl)) s' fun v H' _ r => ?_
    rw [r.bl_inv]
    exact q H'
  refine sq_asg (d := faultD [xs, os]) (fault2 hxt hxl hot hol (ev_var rfl) (ev_var rfl)) s fun σ1 H1 s1 => ?_
  refine sq_if (b := !isNon (faultD [xs, os])) (et_test (ev_notN (ev_var rfl))) s1 (fun hb H2 s2 => ?_) fun hb H2 s2 => ?_
  · have hne : faultD [xs, os] ≠ .none := fun e => by rw [isNon_iff.mpr e] at hb; cases hb
    have hne2 : faultD [os, xs] ≠ .none := fun e => by
      obtain ⟨⟨zs, v, rfl, hz⟩, ys, u, rfl, hy⟩ := fault2_none hol hxl e
      exact hne (runs_fault hy hz)
    refine sq_ifN (b := false) (et_not (et_test (same_true (told2 hxt hxl hot hol hq1 hq2 hne (ev_var rfl) (ev_var rfl)) (ev_var rfl) (fault_small (tame2 hxt hot) hne)))) s2 (fun h => by cases h) fun _ H3 s3 => ?_
    exact st_if (b := false) (et_not (et_test (same_true (told2 hot hol hxt hxl hq2 hq1 hne2 (ev_var rfl) (ev_var rfl)) (fault2 hot hol hxt hxl (ev_var rfl) (ev_var rfl)) (fault_small (tame2 hot hxt) hne2)))) s3 (fun h => by cases h) fun _ H4 s4 => fin _ _ _ _ s4
  · have hn : faultD [xs, os] = .none := isNon_iff.mp (by simpa using hb)
    obtain ⟨⟨ys, u, rfl, hy⟩, zs, v, rfl, hz⟩ := fault2_none hxl hol hn
    have e1 := hy.items.2.2.2
    have e2 := hz.items.2.2.2
    refine st_if (b := false) (et_not (et_test (ev_call (d := .bool true) (ea_cons (ev_var rfl) (ea_cons (ev_var rfl) (ea_cons (ev_is (ev_in (d := rowD zs) (ds := lawForms ys) (ev_is (ev_tuple (ev_var rfl) (.inl rfl)) (by rw [e2]; rfl)) (ev_call (ea_cons (ev_var rfl) ea_nil) ⟨ys, ⟨by rw [e1], hy.1, hy.2.1, u, hy.2.2⟩, rfl⟩) (row_nb hz.1).2 (lawForms_shaped hy)) (by rw [forms_any hy hz])) ea_nil))) ⟨ys, zs, u, v, hd1, hd2, rfl, by rw [← e1]; exact hq1, by rw [← e2]; exact hq2, hy, hz, rfl⟩))) s2 (fun h => by cases h) fun _ H4 s4 => fin _ _ _ _ s4
end
end G
set_option Elab.async false
set_option linter.all false
set_option maxRecDepth 100000
set_option maxHeartbeats 4000000
/-! Head 1: what is decided of an own error class. -/
namespace G
open PySem PySem.Spec PyProof.Rows L2
theorem and2 {a b : Bool} (h : (a && b) = true) : a = true ∧ b = true := Bool.and_eq_true_iff.mp h
def oexcB (K : PySem.W.Frag) (C : Addr) : Bool := match K.lookup C with
  | some ⟨.type "type", _, .cls cd, sl⟩ => (match cd.mro, sl.toList with
    | .ref C' :: bm, [_, _, _, _, some (.builtin n), _] => decide (C' = C) && (decide (n = "ValueError.__new__") && (!cd.hasDel && (cd.hasDict && HandSPX.refsVE bm)))
    | _, _ => false)
  | _ => false
theorem oexcB_ok {K : PySem.W.Frag} {C : Addr} (q : oexcB K C = true) : ∃ nm qn N bs bm sn sub ab col dd k0 k1 k2 k3 k5, K.lookup C = some (excClassObj nm qn C N bs bm true sn sub ab col dd k0 k1 k2 k3 k5 "ValueError.__new__") ∧ HandSPX.refsVE bm = true := by
  unfold oexcB at q
  split at q
  · rename_i dd cd sl ho
    split at q
    · rename_i C' bm k0 k1 k2 k3 n k5 hm hs
      obtain ⟨a1, q⟩ := and2 q
      obtain ⟨a2, q⟩ := and2 q
      obtain ⟨a3, q⟩ := and2 q
      obtain ⟨a4, a5⟩ := and2 q
      have a1 := of_decide_eq_true a1
      have a2 := of_decide_eq_true a2
      subst a1 a2
      obtain ⟨nm, bs, mro, ns, qn, hd, sn, sub, ab, col, del⟩ := cd
      dsimp only at hm a3 a4
      subst hm a4
      have a3 : del = false := by simpa using a3
      subst a3
      have hsl : sl = #[k0, k1, k2, k3, some (.builtin "ValueError.__new__"), k5] := by
        obtain ⟨l⟩ := sl
        simp only at hs
        rw [hs]
      subst hsl
      exact ⟨nm, qn, ns, bs, bm, sn, sub, ab, col, dd, k0, k1, k2, k3, k5, ho, a5⟩
    · cases q
  · cases q
def oexB (K : PySem.W.Frag) (C : Addr) : Bool := oexcB K C && (decide (PySem.W.findIn K (.ref C) "__setattr__" = some (some (.builtin "object.__setattr__"))) && (decide (PySem.W.subIn K (.ref C) (.type "BaseException") = some true) && (decide (PySem.W.typeIn K (.ref C) = some (.type "type")) && PySem.W.keepIn K (.ref C))))
theorem oexB_ok {K : PySem.W.Frag} {C : Addr} (q : oexB K C = true) : OexC K C := by
  obtain ⟨a1, q⟩ := and2 q
  obtain ⟨a2, q⟩ := and2 q
  obtain ⟨a3, q⟩ := and2 q
  obtain ⟨a4, a5⟩ := and2 q
  exact ⟨oexcB_ok a1, of_decide_eq_true a2, of_decide_eq_true a3, of_decide_eq_true a4, a5⟩
end G
set_option Elab.async false
set_option linter.all false
set_option maxRecDepth 100000
set_option maxHeartbeats 4000000
/-! Head 2: an own error class and its __init__, decided. -/
namespace G
open PySem PySem.Spec PyProof.Rows L2 He
abbrev IniW : Type := Option (Str × Str × Arguments × FuncBody × Scope × Addr × List Str × Addr)
def iniW (K : PySem.W.Frag) (x : Str) : IniW := match K.lookup (fAd K (x, some "__init__")) with
  | some ⟨_, _, .func fd, _⟩ => some (fd.name, fd.qualname, fd.params, fd.body, fd.scope, fd.globals, fd.closure.map (·.1), fd.builtins)
  | _ => none
def iniVal (m : Stmt) (qual : Str) : IniW := some (("__init__" : Str), qual, defArgs m, FuncBody.stmts (defBody m), defScope m, mainGlobals, [("__class__" : Str)], builtinsNs)
def cellB (K : PySem.W.Frag) (cc C : Addr) : Bool := match K.lookup cc with
  | some ⟨_, _, .cell (some (.ref a)), _⟩ => decide (a = C)
  | _ => false
def fileB (K : PySem.W.Frag) (cda : Addr) (file : Str) : Bool := match K.lookup cda with
  | some ⟨_, _, .fields vs, _⟩ => (match (vs[2]? : Option Value) with
    | some (Value.str f _) => file == f
    | _ => false)
  | _ => false
def iniB (K : PySem.W.Frag) (x qual file : Str) : Bool := match K.lookup (fAd K (x, some "__init__")) with
  | some ⟨_, _, .func fd, _⟩ => (match fd.closure, fd.code with
    | [(_, cc)], .ref cda => cellB K cc (ga K x) && (fileB K cda file && (PySem.W.codeIn K (.ref cda) qual && decide (fd.defaults = .none)))
    | _, _ => false)
  | _ => false
def clsB (K : PySem.W.Frag) (x : Str) (fs : List Str) : Bool := eqO (PySem.W.nsIn K mainGlobals x) (some (some (.ref (ga K x)))) && (oexB K (ga K x) && (xfB K (ga K x) && (fs.all (fun y => decide (PySem.W.findIn K (.ref (ga K x)) y = some none)) &&
  (decide (PySem.W.findIn K (.ref (ga K x)) "__init__" = some (some (.ref (fAd K (x, some "__init__"))))) && (decide (PySem.W.typeIn K (.ref (fAd K (x, some "__init__"))) = some (.type "function")) &&
  ((PySem.W.clsIn K (ga K x)).isSome && (decide (PySem.W.mroIn K (ga K x) (.ref (ga K x)) = some true) && (decide (PySem.W.ks_superIn K (ga K x) (ga K x) "__init__" = some (some (.builtin "ValueError.__init__"))) &&
  (decide (PySem.W.subIn K (.ref (ga K x)) (.type "ValueError") = some true) && decide (PySem.W.nsIn K cStatics "thirdparty.any" = some none))))))))))
theorem errC_ok {P : Program} {K : PySem.W.Frag} {mg : Str → Option Value} {x : Str} {m : Stmt} {qual : Str} {fs : List Str} (hg : mg x = some (.ref (ga K x))) (hs : mg "super" = none) (htop : (P.main.scope.names.lookup ("super" : Str)).isSome = false)
    (c : clsB K x fs = true) (i : iniB K x qual P.main.file = true) (w : iniW K x = iniVal m qual) (hhead : ∃ ar : Arg, ((defArgs m).posonlyargs ++ (defArgs m).args).head? = some ar ∧ ar.arg = ("self" : Str))
    (hb : ∀ (kV doc pm : Value) (an : Option Addr) (cdv ct : Value) (cc : Addr) (us : List Value), us.length = (("self" : Str) :: fs).length → bindArgs (PySem.W.ksFn "__init__" qual (defArgs m) (defBody m) (defScope m) .none kV doc pm an cdv ct cc) ⟨us, []⟩ = pure ((("self" : Str) :: fs).zip us)) :
    ErrC P K mg x m qual fs (ga K x) := by
  obtain ⟨_, c⟩ := and2 c
  obtain ⟨c2, c⟩ := and2 c
  obtain ⟨c3, c⟩ := and2 c
  obtain ⟨c4, c⟩ := and2 c
  obtain ⟨c5, c⟩ := and2 c
  obtain ⟨c6, c⟩ := and2 c
  obtain ⟨c7, c⟩ := and2 c
  obtain ⟨c8, c⟩ := and2 c
  obtain ⟨c9, c⟩ := and2 c
  obtain ⟨c10, c11⟩ := and2 c
  unfold iniB at i
  unfold iniW at w
  cases q : K.lookup (fAd K (x, some "__init__")) with
  | none => rw [q] at i; cases i
  | some o =>
    obtain ⟨oc, od, dt, osl⟩ := o
    rw [q] at i w
    cases dt with
    | func fd =>
      obtain ⟨n1, n2, n3, n4, n5, n6, n7, n8, n9, n10, n11, n12, n13, n14, n15⟩ := fd
      have w2 : (some (n1, n2, n3, n4, n5, n6, n7.map (·.1), n15) : IniW) = some (("__init__" : Str), qual, defArgs m, FuncBody.stmts (defBody m), defScope m, mainGlobals, [("__class__" : Str)], builtinsNs) := w
      simp only [Option.some.injEq, Prod.mk.injEq] at w2
      obtain ⟨rfl, rfl, rfl, rfl, rfl, rfl, h7, rfl⟩ := w2
      dsimp only at i
      split at i
      · rename_i z1 z2 nm cc cda
        obtain ⟨i1, i⟩ := and2 i
        obtain ⟨i2, i⟩ := and2 i
        obtain ⟨i3, i4⟩ := and2 i
        have i4 := of_decide_eq_true i4
        subst i4
        have h7 : [nm] = [("__class__" : Str)] := h7
        cases h7
        have hcl : ∃ cl cld csl, K.lookup cc = some ⟨cl, cld, .cell (some (.ref (ga K x))), csl⟩ := by
          unfold cellB at i1
          split at i1
          · rename_i e
            rw [of_decide_eq_true i1] at e
            exact ⟨_, _, _, e⟩
          · cases i1
        have hcd : ∃ ccl cdd vs ccs file tf, K.lookup cda = some ⟨ccl, cdd, .fields vs, ccs⟩ ∧ vs[2]? = some (.str file tf) ∧ ((P.main.file : Str) == file) = true := by
          unfold fileB at i2
          split at i2
          · rename_i e
            split at i2
            · rename_i e2
              exact ⟨_, _, _, _, _, _, e, e2, i2⟩
            · cases i2
          · cases i2
        refine ⟨hg, oexB_ok c2, xfB_ok c3, fun y hy => of_decide_eq_true (List.all_eq_true.mp c4 y hy), fAd K (x, some "__init__"), cc, cda, .none, n9, n10, n11, n12, n14, of_decide_eq_true c5, of_decide_eq_true c6,
          ⟨⟨oc, od, osl, q⟩, hcl, hcd, hhead, ?_, of_decide_eq_true c8, of_decide_eq_true c9, of_decide_eq_true c10, of_decide_eq_true c11, hs, htop⟩, i3, .all (hb n9 n10 n11 n12 (.ref cda) n14 cc)⟩
        exact Option.isSome_iff_exists.mp c7
      · cases i
    | _ => cases i
end G
set_option Elab.async false
set_option linter.all false
set_option maxRecDepth 100000
set_option maxHeartbeats 4000000
/-! Head 3: the facts, and what stands behind the top. -/
namespace G
open PySem PySem.Spec PyProof.Rows L2 He
theorem df_of {K : PySem.W.Frag} {mg : Str → Option Value} {x : Str} {st : Stmt} {ps : List Str} (hg : mg x = some (.ref (ga K x))) (F : ∃ fd, FunD K x x (defArgs st) (defBody st) (defScope st) [] [] (ga K x) fd)
    (hb : ∀ (kV doc pm : Value) (an : Option Addr) (cdv ct : Value) (us : List Value), us.length = ps.length → bindArgs (PySem.W.fnOf x x (defArgs st) (defBody st) (defScope st) .none kV doc pm an cdv ct) ⟨us, []⟩ = pure (ps.zip us)) : Df K mg x st ps := by
  obtain ⟨fd, F⟩ := F
  have b := FunD.bindsN (ps := ps) F hb
  refine ⟨ga K x, fd, ?_, hg, b⟩
  obtain ⟨oc, od, dV, kV, doc, pm, an, cdv, ct, osl, e, lk, hcd, hD, hK⟩ := F.ex
  rcases hD with ⟨_, rfl⟩ | ⟨z, _⟩
  · exact ⟨⟨oc, od, kV, doc, pm, an, cdv, ct, osl, e, lk, hcd⟩, F.kp⟩
  · exact absurd rfl z
def dOf (x : Str) (st : Stmt) : DefD := ⟨(x, none), x, x, defArgs st, defBody st, defScope st, [], []⟩
def fnL : List DefD := [dOf "is_int" s_is_int, dOf "is_count" s_is_count, dOf "has_size" s_has_size, dOf "is_word" s_is_word, dOf "is_plot_value" s_is_plot_value, dOf "need_plot" s_need_plot, dOf "spots_of" s_spots_of, dOf "spots_below" s_spots_below, dOf "with_places" s_with_places, dOf "places_of" s_places_of, dOf "row_at" s_row_at, dOf "spot_with" s_spot_with, dOf "with_row" s_with_row, dOf "taken_out" s_taken_out, dOf "put_in" s_put_in, dOf "worded" s_worded, dOf "is_mark" s_is_mark, dOf "is_deed" s_is_deed, dOf "need_deed" s_need_deed, dOf "refusal_of" s_refusal_of, dOf "reason_at" s_reason_at, dOf "is_inside" s_is_inside, dOf "run_deed" s_run_deed, dOf "plot_behind_deed" s_plot_behind_deed, dOf "need_script" s_need_script, dOf "run" s_run, dOf "need_scripts" s_need_scripts, dOf "reached" s_reached, dOf "met" s_met, dOf "are_free" s_are_free, dOf "need_histories" s_need_histories, dOf "swapped_at" s_swapped_at, dOf "can_swap" s_can_swap, dOf "deeds_in" s_deeds_in, dOf "every_order" s_every_order, dOf "normal" s_normal, dOf "same_deeds" s_same_deeds, dOf "_law_mixed" s__law_mixed, dOf "_law_pool" s__law_pool, dOf "_law_draw" s__law_draw, dOf "_law_same" s__law_same, dOf "_law_index" s__law_index, dOf "_law_end" s__law_end, dOf "_law_reason" s__law_reason, dOf "_law_put" s__law_put, dOf "_law_done" s__law_done, dOf "_law_run" s__law_run, dOf "_law_free" s__law_free, dOf "_law_plot" s__law_plot, dOf "_law_word" s__law_word, dOf "_law_bad" s__law_bad, dOf "_law_raw" s__law_raw, dOf "_law_deed" s__law_deed, dOf "_law_is_deed" s__law_is_deed, dOf "_law_history" s__law_history, dOf "_law_fault" s__law_fault, dOf "_law_in_order" s__law_in_order, dOf "_law_swaps" s__law_swaps, dOf "_law_orders" s__law_orders, dOf "_law_forms" s__law_forms, dOf "_law_told" s__law_told, dOf "_law_other" s__law_other, dOf "_law_handed" s__law_handed, dOf "_law_both" s__law_both, dOf "_law_good" s__law_good, dOf "law" s_law]
def faL : List Fa := [.glo "is_int", .glo "is_count", .glo "has_size", .glo "is_word", .glo "is_plot_value", .glo "need_plot", .glo "spots_of", .glo "spots_below", .glo "with_places", .glo "places_of", .glo "row_at", .glo "spot_with", .glo "with_row", .glo "taken_out", .glo "put_in", .glo "worded", .glo "is_mark", .glo "is_deed", .glo "need_deed", .glo "refusal_of", .glo "reason_at", .glo "is_inside", .glo "run_deed", .glo "plot_behind_deed", .glo "need_script", .glo "run", .glo "need_scripts", .glo "reached", .glo "met", .glo "are_free", .glo "need_histories", .glo "swapped_at", .glo "can_swap", .glo "deeds_in", .glo "every_order", .glo "normal", .glo "same_deeds", .glo "_law_mixed", .glo "_law_pool", .glo "_law_draw", .glo "_law_same", .glo "_law_index", .glo "_law_end", .glo "_law_reason", .glo "_law_put", .glo "_law_done", .glo "_law_run", .glo "_law_free", .glo "_law_plot", .glo "_law_word", .glo "_law_bad", .glo "_law_raw", .glo "_law_deed", .glo "_law_is_deed", .glo "_law_history", .glo "_law_fault", .glo "_law_in_order", .glo "_law_swaps", .glo "_law_orders", .glo "_law_forms", .glo "_law_told", .glo "_law_other", .glo "_law_handed", .glo "_law_both", .glo "_law_good", .glo "law", .free "len", .free "isinstance", .free "int", .free "bool", .free "str", .free "tuple", .free "list", .free "all", .free "range", .free "enumerate", .free "sorted", .free "min", .free "super", .str "LETTERS" LETT, .int "MOST_LETTERS" 8, .glo "InvalidScript", .glo "Refusal", .exm "InvalidScript" "InvalidScript" true, .exm "Refusal" "InvalidScript" false, .exm "Refusal" "Refusal" true]
theorem txt_of {K : PySem.W.Frag} {h : Heap} {mg : Str → Option Value} (X : K.In h) (G : h.Ns mainGlobals mg) (c : SaysD faL fnL K) : Txt K mg where
  d_is_int := df_of (glo_ok X G (c.fact 0 (f := .glo "is_int") rfl)) (c.def_ 0 (d := dOf "is_int" s_is_int) rfl) (fun _ _ _ _ _ _ us hl => match us, hl with | [_], _ => rfl)
  d_is_count := df_of (glo_ok X G (c.fact 1 (f := .glo "is_count") rfl)) (c.def_ 1 (d := dOf "is_count" s_is_count) rfl) (fun _ _ _ _ _ _ us hl => match us, hl with | [_], _ => rfl)
  d_has_size := df_of (glo_ok X G (c.fact 2 (f := .glo "has_size") rfl)) (c.def_ 2 (d := dOf "has_size" s_has_size) rfl) (fun _ _ _ _ _ _ us hl => match us, hl with | [_, _], _ => rfl)
  d_is_word := df_of (glo_ok X G (c.fact 3 (f := .glo "is_word") rfl)) (c.def_ 3 (d := dOf "is_word" s_is_word) rfl) (fun _ _ _ _ _ _ us hl => match us, hl with | [_], _ => rfl)
  d_is_plot_value := df_of (glo_ok X G (c.fact 4 (f := .glo "is_plot_value") rfl)) (c.def_ 4 (d := dOf "is_plot_value" s_is_plot_value) rfl) (fun _ _ _ _ _ _ us hl => match us, hl with | [_], _ => rfl)
  d_need_plot := df_of (glo_ok X G (c.fact 5 (f := .glo "need_plot") rfl)) (c.def_ 5 (d := dOf "need_plot" s_need_plot) rfl) (fun _ _ _ _ _ _ us hl => match us, hl with | [_], _ => rfl)
  d_spots_of := df_of (glo_ok X G (c.fact 6 (f := .glo "spots_of") rfl)) (c.def_ 6 (d := dOf "spots_of" s_spots_of) rfl) (fun _ _ _ _ _ _ us hl => match us, hl with | [_], _ => rfl)
  d_spots_below := df_of (glo_ok X G (c.fact 7 (f := .glo "spots_below") rfl)) (c.def_ 7 (d := dOf "spots_below" s_spots_below) rfl) (fun _ _ _ _ _ _ us hl => match us, hl with | [_, _], _ => rfl)
  d_with_places := df_of (glo_ok X G (c.fact 8 (f := .glo "with_places") rfl)) (c.def_ 8 (d := dOf "with_places" s_with_places) rfl) (fun _ _ _ _ _ _ us hl => match us, hl with | [_, _], _ => rfl)
  d_places_of := df_of (glo_ok X G (c.fact 9 (f := .glo "places_of") rfl)) (c.def_ 9 (d := dOf "places_of" s_places_of) rfl) (fun _ _ _ _ _ _ us hl => match us, hl with | [_], _ => rfl)
  d_row_at := df_of (glo_ok X G (c.fact 10 (f := .glo "row_at") rfl)) (c.def_ 10 (d := dOf "row_at" s_row_at) rfl) (fun _ _ _ _ _ _ us hl => match us, hl with | [_, _], _ => rfl)
  d_spot_with := df_of (glo_ok X G (c.fact 11 (f := .glo "spot_with") rfl)) (c.def_ 11 (d := dOf "spot_with" s_spot_with) rfl) (fun _ _ _ _ _ _ us hl => match us, hl with | [_, _], _ => rfl)
  d_with_row := df_of (glo_ok X G (c.fact 12 (f := .glo "with_row") rfl)) (c.def_ 12 (d := dOf "with_row" s_with_row) rfl) (fun _ _ _ _ _ _ us hl => match us, hl with | [_, _, _], _ => rfl)
  d_taken_out := df_of (glo_ok X G (c.fact 13 (f := .glo "taken_out") rfl)) (c.def_ 13 (d := dOf "taken_out" s_taken_out) rfl) (fun _ _ _ _ _ _ us hl => match us, hl with | [_, _], _ => rfl)
  d_put_in := df_of (glo_ok X G (c.fact 14 (f := .glo "put_in") rfl)) (c.def_ 14 (d := dOf "put_in" s_put_in) rfl) (fun _ _ _ _ _ _ us hl => match us, hl with | [_, _, _, _], _ => rfl)
  d_worded := df_of (glo_ok X G (c.fact 15 (f := .glo "worded") rfl)) (c.def_ 15 (d := dOf "worded" s_worded) rfl) (fun _ _ _ _ _ _ us hl => match us, hl with | [_, _, _], _ => rfl)
  d_is_mark := df_of (glo_ok X G (c.fact 16 (f := .glo "is_mark") rfl)) (c.def_ 16 (d := dOf "is_mark" s_is_mark) rfl) (fun _ _ _ _ _ _ us hl => match us, hl with | [_], _ => rfl)
  d_is_deed := df_of (glo_ok X G (c.fact 17 (f := .glo "is_deed") rfl)) (c.def_ 17 (d := dOf "is_deed" s_is_deed) rfl) (fun _ _ _ _ _ _ us hl => match us, hl with | [_], _ => rfl)
  d_need_deed := df_of (glo_ok X G (c.fact 18 (f := .glo "need_deed") rfl)) (c.def_ 18 (d := dOf "need_deed" s_need_deed) rfl) (fun _ _ _ _ _ _ us hl => match us, hl with | [_], _ => rfl)
  d_refusal_of := df_of (glo_ok X G (c.fact 19 (f := .glo "refusal_of") rfl)) (c.def_ 19 (d := dOf "refusal_of" s_refusal_of) rfl) (fun _ _ _ _ _ _ us hl => match us, hl with | [_, _], _ => rfl)
  d_reason_at := df_of (glo_ok X G (c.fact 20 (f := .glo "reason_at") rfl)) (c.def_ 20 (d := dOf "reason_at" s_reason_at) rfl) (fun _ _ _ _ _ _ us hl => match us, hl with | [_, _], _ => rfl)
  d_is_inside := df_of (glo_ok X G (c.fact 21 (f := .glo "is_inside") rfl)) (c.def_ 21 (d := dOf "is_inside" s_is_inside) rfl) (fun _ _ _ _ _ _ us hl => match us, hl with | [_, _, _], _ => rfl)
  d_run_deed := df_of (glo_ok X G (c.fact 22 (f := .glo "run_deed") rfl)) (c.def_ 22 (d := dOf "run_deed" s_run_deed) rfl) (fun _ _ _ _ _ _ us hl => match us, hl with | [_, _], _ => rfl)
  d_plot_behind_deed := df_of (glo_ok X G (c.fact 23 (f := .glo "plot_behind_deed") rfl)) (c.def_ 23 (d := dOf "plot_behind_deed" s_plot_behind_deed) rfl) (fun _ _ _ _ _ _ us hl => match us, hl with | [_, _], _ => rfl)
  d_need_script := df_of (glo_ok X G (c.fact 24 (f := .glo "need_script") rfl)) (c.def_ 24 (d := dOf "need_script" s_need_script) rfl) (fun _ _ _ _ _ _ us hl => match us, hl with | [_], _ => rfl)
  d_run := df_of (glo_ok X G (c.fact 25 (f := .glo "run") rfl)) (c.def_ 25 (d := dOf "run" s_run) rfl) (fun _ _ _ _ _ _ us hl => match us, hl with | [_, _], _ => rfl)
  d_need_scripts := df_of (glo_ok X G (c.fact 26 (f := .glo "need_scripts") rfl)) (c.def_ 26 (d := dOf "need_scripts" s_need_scripts) rfl) (fun _ _ _ _ _ _ us hl => match us, hl with | [_, _, _], _ => rfl)
  d_reached := df_of (glo_ok X G (c.fact 27 (f := .glo "reached") rfl)) (c.def_ 27 (d := dOf "reached" s_reached) rfl) (fun _ _ _ _ _ _ us hl => match us, hl with | [_, _], _ => rfl)
  d_met := df_of (glo_ok X G (c.fact 28 (f := .glo "met") rfl)) (c.def_ 28 (d := dOf "met" s_met) rfl) (fun _ _ _ _ _ _ us hl => match us, hl with | [_, _, _], _ => rfl)
  d_are_free := df_of (glo_ok X G (c.fact 29 (f := .glo "are_free") rfl)) (c.def_ 29 (d := dOf "are_free" s_are_free) rfl) (fun _ _ _ _ _ _ us hl => match us, hl with | [_, _, _], _ => rfl)
  d_need_histories := df_of (glo_ok X G (c.fact 30 (f := .glo "need_histories") rfl)) (c.def_ 30 (d := dOf "need_histories" s_need_histories) rfl) (fun _ _ _ _ _ _ us hl => match us, hl with | [_, _], _ => rfl)
  d_swapped_at := df_of (glo_ok X G (c.fact 31 (f := .glo "swapped_at") rfl)) (c.def_ 31 (d := dOf "swapped_at" s_swapped_at) rfl) (fun _ _ _ _ _ _ us hl => match us, hl with | [_, _], _ => rfl)
  d_can_swap := df_of (glo_ok X G (c.fact 32 (f := .glo "can_swap") rfl)) (c.def_ 32 (d := dOf "can_swap" s_can_swap) rfl) (fun _ _ _ _ _ _ us hl => match us, hl with | [_, _], _ => rfl)
  d_deeds_in := df_of (glo_ok X G (c.fact 33 (f := .glo "deeds_in") rfl)) (c.def_ 33 (d := dOf "deeds_in" s_deeds_in) rfl) (fun _ _ _ _ _ _ us hl => match us, hl with | [_, _], _ => rfl)
  d_every_order := df_of (glo_ok X G (c.fact 34 (f := .glo "every_order") rfl)) (c.def_ 34 (d := dOf "every_order" s_every_order) rfl) (fun _ _ _ _ _ _ us hl => match us, hl with | [_], _ => rfl)
  d_normal := df_of (glo_ok X G (c.fact 35 (f := .glo "normal") rfl)) (c.def_ 35 (d := dOf "normal" s_normal) rfl) (fun _ _ _ _ _ _ us hl => match us, hl with | [_], _ => rfl)
  d_same_deeds := df_of (glo_ok X G (c.fact 36 (f := .glo "same_deeds") rfl)) (c.def_ 36 (d := dOf "same_deeds" s_same_deeds) rfl) (fun _ _ _ _ _ _ us hl => match us, hl with | [_, _], _ => rfl)
  d__law_mixed := df_of (glo_ok X G (c.fact 37 (f := .glo "_law_mixed") rfl)) (c.def_ 37 (d := dOf "_law_mixed" s__law_mixed) rfl) (fun _ _ _ _ _ _ us hl => match us, hl with | [_, _], _ => rfl)
  d__law_pool := df_of (glo_ok X G (c.fact 38 (f := .glo "_law_pool") rfl)) (c.def_ 38 (d := dOf "_law_pool" s__law_pool) rfl) (fun _ _ _ _ _ _ us hl => match us, hl with | [_], _ => rfl)
  d__law_draw := df_of (glo_ok X G (c.fact 39 (f := .glo "_law_draw") rfl)) (c.def_ 39 (d := dOf "_law_draw" s__law_draw) rfl) (fun _ _ _ _ _ _ us hl => match us, hl with | [_, _], _ => rfl)
  d__law_same := df_of (glo_ok X G (c.fact 40 (f := .glo "_law_same") rfl)) (c.def_ 40 (d := dOf "_law_same" s__law_same) rfl) (fun _ _ _ _ _ _ us hl => match us, hl with | [_, _], _ => rfl)
  d__law_index := df_of (glo_ok X G (c.fact 41 (f := .glo "_law_index") rfl)) (c.def_ 41 (d := dOf "_law_index" s__law_index) rfl) (fun _ _ _ _ _ _ us hl => match us, hl with | [_, _], _ => rfl)
  d__law_end := df_of (glo_ok X G (c.fact 42 (f := .glo "_law_end") rfl)) (c.def_ 42 (d := dOf "_law_end" s__law_end) rfl) (fun _ _ _ _ _ _ us hl => match us, hl with | [_, _], _ => rfl)
  d__law_reason := df_of (glo_ok X G (c.fact 43 (f := .glo "_law_reason") rfl)) (c.def_ 43 (d := dOf "_law_reason" s__law_reason) rfl) (fun _ _ _ _ _ _ us hl => match us, hl with | [_, _], _ => rfl)
  d__law_put := df_of (glo_ok X G (c.fact 44 (f := .glo "_law_put") rfl)) (c.def_ 44 (d := dOf "_law_put" s__law_put) rfl) (fun _ _ _ _ _ _ us hl => match us, hl with | [_, _, _, _], _ => rfl)
  d__law_done := df_of (glo_ok X G (c.fact 45 (f := .glo "_law_done") rfl)) (c.def_ 45 (d := dOf "_law_done" s__law_done) rfl) (fun _ _ _ _ _ _ us hl => match us, hl with | [_, _], _ => rfl)
  d__law_run := df_of (glo_ok X G (c.fact 46 (f := .glo "_law_run") rfl)) (c.def_ 46 (d := dOf "_law_run" s__law_run) rfl) (fun _ _ _ _ _ _ us hl => match us, hl with | [_, _], _ => rfl)
  d__law_free := df_of (glo_ok X G (c.fact 47 (f := .glo "_law_free") rfl)) (c.def_ 47 (d := dOf "_law_free" s__law_free) rfl) (fun _ _ _ _ _ _ us hl => match us, hl with | [_, _, _], _ => rfl)
  d__law_plot := df_of (glo_ok X G (c.fact 48 (f := .glo "_law_plot") rfl)) (c.def_ 48 (d := dOf "_law_plot" s__law_plot) rfl) (fun _ _ _ _ _ _ us hl => match us, hl with | [_, _], _ => rfl)
  d__law_word := df_of (glo_ok X G (c.fact 49 (f := .glo "_law_word") rfl)) (c.def_ 49 (d := dOf "_law_word" s__law_word) rfl) (fun _ _ _ _ _ _ us hl => match us, hl with | [_], _ => rfl)
  d__law_bad := df_of (glo_ok X G (c.fact 50 (f := .glo "_law_bad") rfl)) (c.def_ 50 (d := dOf "_law_bad" s__law_bad) rfl) (fun _ _ _ _ _ _ us hl => match us, hl with | [_], _ => rfl)
  d__law_raw := df_of (glo_ok X G (c.fact 51 (f := .glo "_law_raw") rfl)) (c.def_ 51 (d := dOf "_law_raw" s__law_raw) rfl) (fun _ _ _ _ _ _ us hl => match us, hl with | [_], _ => rfl)
  d__law_deed := df_of (glo_ok X G (c.fact 52 (f := .glo "_law_deed") rfl)) (c.def_ 52 (d := dOf "_law_deed" s__law_deed) rfl) (fun _ _ _ _ _ _ us hl => match us, hl with | [_, _], _ => rfl)
  d__law_is_deed := df_of (glo_ok X G (c.fact 53 (f := .glo "_law_is_deed") rfl)) (c.def_ 53 (d := dOf "_law_is_deed" s__law_is_deed) rfl) (fun _ _ _ _ _ _ us hl => match us, hl with | [_], _ => rfl)
  d__law_history := df_of (glo_ok X G (c.fact 54 (f := .glo "_law_history") rfl)) (c.def_ 54 (d := dOf "_law_history" s__law_history) rfl) (fun _ _ _ _ _ _ us hl => match us, hl with | [_, _, _], _ => rfl)
  d__law_fault := df_of (glo_ok X G (c.fact 55 (f := .glo "_law_fault") rfl)) (c.def_ 55 (d := dOf "_law_fault" s__law_fault) rfl) (fun _ _ _ _ _ _ us hl => match us, hl with | [_], _ => rfl)
  d__law_in_order := df_of (glo_ok X G (c.fact 56 (f := .glo "_law_in_order") rfl)) (c.def_ 56 (d := dOf "_law_in_order" s__law_in_order) rfl) (fun _ _ _ _ _ _ us hl => match us, hl with | [_], _ => rfl)
  d__law_swaps := df_of (glo_ok X G (c.fact 57 (f := .glo "_law_swaps") rfl)) (c.def_ 57 (d := dOf "_law_swaps" s__law_swaps) rfl) (fun _ _ _ _ _ _ us hl => match us, hl with | [_, _], _ => rfl)
  d__law_orders := df_of (glo_ok X G (c.fact 58 (f := .glo "_law_orders") rfl)) (c.def_ 58 (d := dOf "_law_orders" s__law_orders) rfl) (fun _ _ _ _ _ _ us hl => match us, hl with | [_], _ => rfl)
  d__law_forms := df_of (glo_ok X G (c.fact 59 (f := .glo "_law_forms") rfl)) (c.def_ 59 (d := dOf "_law_forms" s__law_forms) rfl) (fun _ _ _ _ _ _ us hl => match us, hl with | [_], _ => rfl)
  d__law_told := df_of (glo_ok X G (c.fact 60 (f := .glo "_law_told") rfl)) (c.def_ 60 (d := dOf "_law_told" s__law_told) rfl) (fun _ _ _ _ _ _ us hl => match us, hl with | [_, _, _], _ => rfl)
  d__law_other := df_of (glo_ok X G (c.fact 61 (f := .glo "_law_other") rfl)) (c.def_ 61 (d := dOf "_law_other" s__law_other) rfl) (fun _ _ _ _ _ _ us hl => match us, hl with | [_, _], _ => rfl)
  d__law_handed := df_of (glo_ok X G (c.fact 62 (f := .glo "_law_handed") rfl)) (c.def_ 62 (d := dOf "_law_handed" s__law_handed) rfl) (fun _ _ _ _ _ _ us hl => match us, hl with | [_, _], _ => rfl)
  d__law_both := df_of (glo_ok X G (c.fact 63 (f := .glo "_law_both") rfl)) (c.def_ 63 (d := dOf "_law_both" s__law_both) rfl) (fun _ _ _ _ _ _ us hl => match us, hl with | [_, _, _], _ => rfl)
  d__law_good := df_of (glo_ok X G (c.fact 64 (f := .glo "_law_good") rfl)) (c.def_ 64 (d := dOf "_law_good" s__law_good) rfl) (fun _ _ _ _ _ _ us hl => match us, hl with | [_, _], _ => rfl)
  d_law := df_of (glo_ok X G (c.fact 65 (f := .glo "law") rfl)) (c.def_ 65 (d := dOf "law" s_law) rfl) (fun _ _ _ _ _ _ us hl => match us, hl with | [_], _ => rfl)
  z_len := free_ok X G (c.fact 66 (f := .free "len") rfl)
  z_isinstance := free_ok X G (c.fact 67 (f := .free "isinstance") rfl)
  z_int := free_ok X G (c.fact 68 (f := .free "int") rfl)
  z_bool := free_ok X G (c.fact 69 (f := .free "bool") rfl)
  z_str := free_ok X G (c.fact 70 (f := .free "str") rfl)
  z_tuple := free_ok X G (c.fact 71 (f := .free "tuple") rfl)
  z_list := free_ok X G (c.fact 72 (f := .free "list") rfl)
  z_all := free_ok X G (c.fact 73 (f := .free "all") rfl)
  z_range := free_ok X G (c.fact 74 (f := .free "range") rfl)
  z_enumerate := free_ok X G (c.fact 75 (f := .free "enumerate") rfl)
  z_sorted := free_ok X G (c.fact 76 (f := .free "sorted") rfl)
  z_min := free_ok X G (c.fact 77 (f := .free "min") rfl)
  LETTERS := by obtain ⟨t, e⟩ := str_ok X G (c.fact 79 (f := .str "LETTERS" LETT) rfl); exact ⟨_, e, t, rfl⟩
  MOST_LETTERS := by obtain ⟨t, e⟩ := int_ok X G (c.fact 80 (f := .int "MOST_LETTERS" 8) rfl); exact ⟨_, e, t, rfl⟩
end G
set_option Elab.async false
set_option linter.all false
set_option maxRecDepth 100000
set_option maxHeartbeats 0
/-! Head 4: the hook. -/
namespace G
open PySem PySem.Spec PyProof.Rows L2 He
abbrev Rw : PySem.W.OpenRow := PySem.W.OpenLaw.row PySem.Challenge.rw_graftbook_k56_whole_normal_forms
abbrev AlE : Type := AlD × Bool × IniW × IniW
def obsE (K : PySem.W.Frag) : AlE := (obsD faL fnL K, clsB K "InvalidScript" ["value"] && (clsB K "Refusal" ["deed", "reason"] && (iniB K "InvalidScript" "InvalidScript.__init__" Rw.prog.main.file && iniB K "Refusal" "Refusal.__init__" Rw.prog.main.file)), iniW K "InvalidScript", iniW K "Refusal")
def valE : AlE := (valD fnL, true, iniVal m_InvalidScript "InvalidScript.__init__", iniVal m_Refusal "Refusal.__init__")
def SaysE (K : PySem.W.Frag) : Prop := obsE K = valE
def asE (g : Addr → Option Obj) : Nat → List Addr
  | 0 => [mainGlobals, cStatics]
  | n + 1 => growD g (asE g n)
def obsEG (n : Nat) (g : Addr → Option Obj) : AlE := obsE (frG g (asE g n))
def hookE (n : Nat) : PySem.W.Hook where
  α := AlE
  obs := fun s => obsEG n s.heap.get?
  val := fun _ => valE
  says := fun _ h => ∃ K : PySem.W.Frag, K.In h ∧ SaysE K
  of := fun _ _ e => ⟨_, frG_in, e⟩
  keeps := fun _ _ _ ⟨K, hK, c⟩ k => ⟨K, PySem.W.Frag.In.keeps hK k, c⟩
theorem obsEG_eq {n : Nat} {g : Addr → Option Obj} {s : Shared} (h : ∀ a, g a = s.heap.get? a) : obsEG n g = (hookE n).obs s := by
  have e : g = s.heap.get? := funext h
  rw [e] <;> rfl
abbrev hkE : PySem.W.Hook := hookE 5
def obE (s : PySem.W.SharedT) : AlE := obsEG 5 (HandSHeadRun.getT s)
theorem obE_eq (s : PySem.W.SharedT) : obE s = hkE.obs s.abs := obsEG_eq (HandSHeadRun.getT_eq s)
end G
set_option Elab.async false
set_option linter.all false
set_option maxRecDepth 100000
set_option maxHeartbeats 0
/-! Head 5: the run of the top. -/
namespace G
open PySem PySem.Spec PyProof.Rows L2 He
def loose0 : List Str := ["GraftError", "InvalidPlot", "InvalidScript", "Refusal", "LETTERS", "MOST_LETTERS", "is_int", "is_count", "has_size", "is_word", "is_plot_value", "need_plot"]
def loose1 : List Str := ["spots_of", "spots_below", "with_places", "places_of", "row_at", "spot_with", "with_row", "taken_out", "put_in", "worded", "is_mark", "is_deed"]
def loose2 : List Str := ["need_deed", "refusal_of", "reason_at", "is_inside", "run_deed", "plot_behind_deed", "need_script", "run", "need_scripts", "reached", "met", "are_free"]
def loose3 : List Str := ["need_histories", "swapped_at", "can_swap", "deeds_in", "every_order", "normal", "same_deeds", "_law_mixed", "_law_pool", "_law_draw", "_law_same", "_law_index"]
def loose4 : List Str := ["_law_end", "_law_reason", "_law_put", "_law_done", "_law_run", "_law_free", "_law_plot", "_law_word", "_law_bad", "_law_raw", "_law_deed", "_law_is_deed"]
def loose5 : List Str := ["_law_history", "_law_fault", "_law_in_order", "_law_swaps", "_law_orders", "_law_forms", "_law_told", "_law_other", "_law_handed", "_law_both", "_law_good"]
def looseL : List Str := loose0 ++ (loose1 ++ (loose2 ++ (loose3 ++ (loose4 ++ (loose5)))))
theorem runE (w : World) : HandSHeadRun.RunEq Rw (PySem.W.view Rw.prog [79]) hkE obE 4000 looseL w := by
  intro os
  kernel_rfl
end G
set_option Elab.async false
set_option linter.all false
set_option maxRecDepth 100000
set_option maxHeartbeats 0
/-! Head 6: the end. -/
namespace G
open PySem PySem.Spec PyProof.Rows L2 He
section
variable {K : PySem.W.Frag} {h : Heap} {mg : Str → Option Value}
theorem saysE_d (c : SaysE K) : SaysD faL fnL K := congrArg (fun z : AlE => z.1) c
theorem saysE_b (c : SaysE K) : (clsB K "InvalidScript" ["value"] && (clsB K "Refusal" ["deed", "reason"] && (iniB K "InvalidScript" "InvalidScript.__init__" Rw.prog.main.file && iniB K "Refusal" "Refusal.__init__" Rw.prog.main.file))) = true := congrArg (fun z : AlE => z.2.1) c
theorem saysE_s (c : SaysE K) : iniW K "InvalidScript" = iniVal m_InvalidScript "InvalidScript.__init__" := congrArg (fun z : AlE => z.2.2.1) c
theorem saysE_r (c : SaysE K) : iniW K "Refusal" = iniVal m_Refusal "Refusal.__init__" := congrArg (fun z : AlE => z.2.2.2) c
theorem law_fun {f : Addr} (X : K.In h) (G : h.Ns mainGlobals mg) (hf : mg "law" = some (.ref f)) (c : SaysD faL fnL K) :
    ∃ fd : FuncData, True ∧ (∀ (s : Shared) (u : Value), BindsTo s fd ⟨[u], []⟩ [("_law_script", u)]) ∧ Fun K "law" "law" s_law f fd := by
  obtain ⟨fd, F⟩ := c.def_ 65 (d := dOf "law" s_law) rfl
  have e := hf.symm.trans (glo_ok X G (c.fact 65 (f := .glo "law") rfl))
  cases e
  have b := FunD.bindsA (ps := ["_law_script"]) F fun _ _ _ _ _ _ us hl => match us, hl with | [_], _ => rfl
  obtain ⟨oc, od, dV, kV, doc, pm, an, cdv, ct, osl, e, lk, hcd, hD, hK⟩ := F.ex
  rcases hD with ⟨_, rfl⟩ | ⟨z, _⟩
  · exact ⟨fd, trivial, fun s u => b s [u] rfl, ⟨⟨oc, od, kV, doc, pm, an, cdv, ct, osl, e, lk, hcd⟩, F.kp⟩⟩
  · exact absurd rfl z
theorem errs_of (X : K.In h) (G : h.Ns mainGlobals mg) (c : SaysE K) : Errs Rw.prog K mg (ga K "InvalidScript") (ga K "Refusal") := by
  have d := saysE_d c
  obtain ⟨b1, b⟩ := and2 (saysE_b c)
  obtain ⟨b2, b⟩ := and2 b
  obtain ⟨b3, b4⟩ := and2 b
  have hs : mg "super" = none := free_ok X G (d.fact 78 (f := .free "super") rfl)
  exact ⟨errC_ok (glo_ok X G (d.fact 81 (f := .glo "InvalidScript") rfl)) hs (by decide +kernel) b1 b3 (saysE_s c) ⟨_, rfl, rfl⟩ (fun _ _ _ _ _ _ _ us hl => match us, hl with | [_, _], _ => rfl),
    errC_ok (glo_ok X G (d.fact 82 (f := .glo "Refusal") rfl)) hs (by decide +kernel) b2 b4 (saysE_r c) ⟨_, rfl, rfl⟩ (fun _ _ _ _ _ _ _ us hl => match us, hl with | [_, _, _], _ => rfl),
    exm_ok (d.fact 83 (f := .exm "InvalidScript" "InvalidScript" true) rfl), exm_ok (d.fact 84 (f := .exm "Refusal" "InvalidScript" false) rfl), exm_ok (d.fact 85 (f := .exm "Refusal" "Refusal" true) rfl)⟩
end
end G
open PySem PySem.W PySem.Calls PyProof.Rows
theorem PySem.Challenge.cw_graftbook_k56_whole_normal_forms_holds : PySem.Challenge.rw_graftbook_k56_whole_normal_forms.Holds := by
  w_on; o_law
  refine HandSHeadRun.head_any (r := G.Rw) (q := view G.Rw.prog [79]) (H := G.hkE) (ob := G.obE) (M := 4000) (loose := G.looseL) (d := HandSHeadRun.topDef G.Rw.prog 79) (kwd := []) G.obE_eq
    (by kernel_rfl) (fun s => by kernel_rfl) G.runE (by kernel_rfl) (by kernel_rfl) (by kernel_rfl) (by rfl) (by first | assumption | decide +kernel) (by decide +kernel) ⟨rfl, rfl, rfl, rfl, rfl, by decide +kernel⟩ ?hw ?hc
  case hw => w_witness2
  case hc =>
    refine L2.walk_ofE (l := PySem.Challenge.rw_graftbook_k56_whole_normal_forms) (n := 63) (k := 35) (x := "_law_script") (CX := L2.CX0) rfl (by decide) (by kernel_rfl) ⟨rfl, by decide, by decide⟩ ?F (fun _ _ _ _ z => z)
    intro w mg fa h Y G0 hmg0
    obtain ⟨K, KX, c⟩ := Y
    have hmg : mg ("law" : PySem.Str) = some (.ref fa) := by
      have e : (HandSHeadRun.topDef G.Rw.prog 79).name = ("law" : PySem.Str) := by kernel_rfl
      rw [← e]
      exact hmg0
    have T := G.txt_of KX G0 (G.saysE_d c)
    have XE := G.errs_of KX G0 c
    obtain ⟨fd, FD, hb, he⟩ := G.law_fun KX G0 hmg (G.saysE_d c)
    exact ⟨K, fd, G.LawSp K, KX, hb, fun H a ns hl _ hS => ⟨a, ns, rfl, hS, fun _ => rfl⟩, fun base _ _ => G.law_ok T XE he⟩
