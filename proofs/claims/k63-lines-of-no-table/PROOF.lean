import PyProof.Rows.All
import Wide.All
import OpenK.AllK
import Wide.FinOn
import PySem.Challenge.RW_classtab_k63_lines_of_no_table
import HandS.ForMost
import HandS.Exc
import HandS.ExcOwn
import HandS.TryOnly
import HandS.WordsExc
import HandS.Walk
import HandS.TupAny
import HandS.IsInst
import HandS.Conv
import HandS.RaiseMore
import HandS.Zip
import HandS.TupMul
import HandS.Wide
import PyProof.Draws
import PyProof.EnumMake
import PyProof.ReprRoads
import HandS.ReplaceList
import HandS.ReplaceLit
import HandS.ReplaceDef
import PyProof.StrLawsRepr
import HandS.Ends
import HandS.HeadEnd
import HandS.HeadHook1
import HandS.HeadHook2
import HandS.Head0
import HandS.Head1
import HandS.Head2
import KE.KStateDown
import HandS.ExcIs
import HandS.ExcInit
import HandS.Deep
import KE.KExcIs
import Lean
set_option Elab.async false
set_option linter.all false
set_option maxRecDepth 100000
namespace DL
open PySem PySem.Spec PyProof.Rows L2

/-! ### hidden addresses -/
open Classical in
noncomputable def mask (M : Addr → Prop) (H : Hp) : Hp := fun a => if M a then none else H a
def hid (B : Addr → Prop) (A : List (Option Addr)) : Addr → Prop := fun a => B a ∨ some a ∈ A
theorem mask_no {M : Addr → Prop} {H : Hp} {a : Addr} (h : ¬ M a) : mask M H a = H a := by
  unfold mask; rw [if_neg h]
theorem mask_yes {M : Addr → Prop} {H : Hp} {a : Addr} (h : M a) : mask M H a = none := by
  unfold mask; rw [if_pos h]
theorem mask_some {M : Addr → Prop} {H : Hp} {a : Addr} {o : HO} (h : mask M H a = some o) : ¬ M a ∧ H a = some o := by
  by_cases m : M a
  · rw [mask_yes m] at h; cases h
  · rw [mask_no m] at h; exact ⟨m, h⟩
theorem mask_le {M : Addr → Prop} {H : Hp} : Same (mask M H) H := fun _ _ h => (mask_some h).2

mutual
/-- a value is a datum -/
inductive Dx (K : PySem.W.Frag) (H : Hp) : V → PyData → Prop
  | non : Dx K H .non .none
  | bl (b : Bool) : Dx K H (.bl b) (.bool b)
  | int (i : Int) : Dx K H (.int i) (.int i)
  | str (x : Str) : Dx K H (.str x) (.str x)
  | lst {a : Addr} {xs : List V} {ds : List PyData} : SqL K H a xs → DxAll K H xs ds → Dx K H (.ref a) (.list ds)
  | tup {a : Addr} {xs : List V} {ds : List PyData} : SqT K H a xs → DxAll K H xs ds → Dx K H (.ref a) (.tuple ds)
inductive DxAll (K : PySem.W.Frag) (H : Hp) : List V → List PyData → Prop
  | nil : DxAll K H [] []
  | cons {v : V} {vs : List V} {d : PyData} {ds : List PyData} : Dx K H v d → DxAll K H vs ds → DxAll K H (v :: vs) (d :: ds)
end
theorem same_l {K : PySem.W.Frag} {H H' : Hp} {a : Addr} {xs : List V} (e : Same H H') (h : SqL K H a xs) : SqL K H' a xs := by
  rcases h with (h | ⟨o, h⟩) | h
  · exact .inl (.inl (e _ _ h))
  · exact .inl (.inr ⟨o, e _ _ h⟩)
  · exact .inr h
theorem same_t {K : PySem.W.Frag} {H H' : Hp} {a : Addr} {xs : List V} (e : Same H H') (h : SqT K H a xs) : SqT K H' a xs := by
  rcases h with (h | ⟨o, h⟩) | h
  · exact .inl (.inl (e _ _ h))
  · exact .inl (.inr ⟨o, e _ _ h⟩)
  · exact .inr h
mutual
theorem dx_same {K : PySem.W.Frag} {H H' : Hp} (e : Same H H') : ∀ {v : V} {d : PyData}, Dx K H v d → Dx K H' v d
  | _, _, .non => .non
  | _, _, .bl b => .bl b
  | _, _, .int i => .int i
  | _, _, .str x => .str x
  | _, _, .lst h a => .lst (same_l e h) (dxAll_same e a)
  | _, _, .tup h a => .tup (same_t e h) (dxAll_same e a)
theorem dxAll_same {K : PySem.W.Frag} {H H' : Hp} (e : Same H H') : ∀ {vs : List V} {ds : List PyData}, DxAll K H vs ds → DxAll K H' vs ds
  | _, _, .nil => .nil
  | _, _, .cons h t => .cons (dx_same e h) (dxAll_same e t)
end
mutual
theorem Dx.dp {K : PySem.W.Frag} {H : Hp} : ∀ {v : V} {d : PyData}, Dx K H v d → Dp K H v d
  | _, _, .non => .non
  | _, _, .bl b => .bl b
  | _, _, .int i => .int i
  | _, _, .str x => .str x
  | _, _, .lst h a => .lst h (DxAll.dp a)
  | _, _, .tup h a => .tup h (DxAll.dp a)
theorem DxAll.dp {K : PySem.W.Frag} {H : Hp} : ∀ {vs : List V} {ds : List PyData}, DxAll K H vs ds → DpAll K H vs ds
  | _, _, .nil => .nil
  | _, _, .cons h t => .cons h.dp t.dp
end
section
variable {K : PySem.W.Frag} {H : Hp}
theorem dxAll_len : ∀ {vs : List V} {ds : List PyData}, DxAll K H vs ds → vs.length = ds.length
  | _, _, .nil => rfl
  | _, _, .cons _ t => by simp [dxAll_len t]
theorem dxAll_get : ∀ {vs : List V} {ds : List PyData} {i : Nat} {d : PyData}, DxAll K H vs ds → ds[i]? = some d → ∃ v, vs[i]? = some v ∧ Dx K H v d
  | _, _, _, _, .nil, e => by simp at e
  | _, _, 0, _, .cons h _, e => by simp at e; subst e; exact ⟨_, rfl, h⟩
  | _, _, i + 1, d, .cons _ t, e => by
    obtain ⟨v, h1, h2⟩ := dxAll_get (i := i) (d := d) t (by simpa using e)
    exact ⟨v, by simpa using h1, h2⟩
theorem dxAll_get' : ∀ {vs : List V} {ds : List PyData} {i : Nat} {v : V}, DxAll K H vs ds → vs[i]? = some v → ∃ d, ds[i]? = some d ∧ Dx K H v d
  | _, _, _, _, .nil, e => by simp at e
  | _, _, 0, _, .cons h _, e => by simp at e; subst e; exact ⟨_, rfl, h⟩
  | _, _, i + 1, d, .cons _ t, e => by
    obtain ⟨v, h1, h2⟩ := dxAll_get' (i := i) (v := d) t (by simpa using e)
    exact ⟨v, by simpa using h1, h2⟩
theorem dxAll_append : ∀ {vs ws : List V} {ds es : List PyData}, DxAll K H vs ds → DxAll K H ws es → DxAll K H (vs ++ ws) (ds ++ es)
  | _, _, _, _, .nil, h => h
  | _, _, _, _, .cons h t, h' => .cons h (dxAll_append t h')
theorem dxAll_take : ∀ {vs : List V} {ds : List PyData} (n : Nat), DxAll K H vs ds → DxAll K H (vs.take n) (ds.take n)
  | _, _, 0, _ => .nil
  | _, _, _ + 1, .nil => .nil
  | _, _, n + 1, .cons h t => .cons h (dxAll_take n t)
theorem dxAll_drop : ∀ {vs : List V} {ds : List PyData} (n : Nat), DxAll K H vs ds → DxAll K H (vs.drop n) (ds.drop n)
  | _, _, 0, h => h
  | _, _, _ + 1, .nil => .nil
  | _, _, n + 1, .cons h t => dxAll_drop n t
theorem dxAll_rev : ∀ {vs : List V} {ds : List PyData}, DxAll K H vs ds → DxAll K H vs.reverse ds.reverse
  | _, _, .nil => .nil
  | _, _, .cons h t => by
    rw [List.reverse_cons, List.reverse_cons]
    exact dxAll_append (dxAll_rev t) (.cons h .nil)
theorem dx_int {v : V} {i : Int} (h : Dx K H v (.int i)) : v = .int i := by cases h; rfl
theorem dx_str {v : V} {i : Str} (h : Dx K H v (.str i)) : v = .str i := by cases h; rfl
theorem dx_bl {v : V} {i : Bool} (h : Dx K H v (.bool i)) : v = .bl i := by cases h; rfl
theorem dx_non {v : V} (h : Dx K H v .none) : v = .non := by cases h; rfl
theorem dx_tup {v : V} {ds : List PyData} (h : Dx K H v (.tuple ds)) : ∃ a xs, v = .ref a ∧ SqT K H a xs ∧ DxAll K H xs ds := by
  cases h with | tup h a => exact ⟨_, _, rfl, h, a⟩
theorem dx_lst {v : V} {ds : List PyData} (h : Dx K H v (.list ds)) : ∃ a xs, v = .ref a ∧ SqL K H a xs ∧ DxAll K H xs ds := by
  cases h with | lst h a => exact ⟨_, _, rfl, h, a⟩
theorem dxAll_ints : ∀ {vs : List V} {ns : List Int}, DxAll K H vs (ns.map .int) → vs = ns.map V.int
  | _, [], h => by cases h; rfl
  | _, n :: ns, h => by
    rw [List.map_cons] at h
    cases h with | cons h t => rw [dx_int h, dxAll_ints t]; rfl
theorem dxAll_of_ints : ∀ (ns : List Int), DxAll K H (ns.map V.int) (ns.map .int)
  | [] => .nil
  | n :: ns => .cons (.int n) (dxAll_of_ints ns)
theorem dxAll_strs : ∀ {vs : List V} {ns : List Str}, DxAll K H vs (ns.map .str) → vs = ns.map V.str
  | _, [], h => by cases h; rfl
  | _, n :: ns, h => by
    rw [List.map_cons] at h
    cases h with | cons h t => rw [dx_str h, dxAll_strs t]; rfl
theorem dxAll_of_strs : ∀ (ns : List Str), DxAll K H (ns.map V.str) (ns.map .str)
  | [] => .nil
  | n :: ns => .cons (.str n) (dxAll_of_strs ns)
theorem dxAll_bools : ∀ {vs : List V} {ns : List Bool}, DxAll K H vs (ns.map .bool) → vs = ns.map V.bl
  | _, [], h => by cases h; rfl
  | _, n :: ns, h => by
    rw [List.map_cons] at h
    cases h with | cons h t => rw [dx_bl h, dxAll_bools t]; rfl
theorem dxAll_paired {vs : List V} {ds : List PyData} : DxAll K H vs ds → Paired (fun v d => Dx K H v d) vs ds
  | .nil => .nil
  | .cons h t => .cons h (dxAll_paired t)
end

/-- an exception's fields -/
def XM (K : PySem.W.Frag) (Hm : Hp) : Option Addr → Option (List (Str × PyData)) → Prop
  | none, none => True
  | some p, some fs => ∃ vs, Hm p = some (.xd vs) ∧ Paired (fun (a : Str × V) (b : Str × PyData) => a.1 = b.1 ∧ Dx K Hm a.2 b.2) vs fs
  | _, _ => False
theorem xm_same {K : PySem.W.Frag} {H H' : Hp} (e : Same H H') {d : Option Addr} {fs : Option (List (Str × PyData))} (h : XM K H d fs) : XM K H' d fs := by
  cases d with
  | none => cases fs <;> exact h
  | some p =>
    cases fs with
    | none => exact h
    | some fs =>
      obtain ⟨vs, h1, h2⟩ := h
      exact ⟨vs, e _ _ h1, Paired.mapP (G := fun (a : Str × V) (b : Str × PyData) => a.1 = b.1 ∧ Dx K H' a.2 b.2) h2 fun a b q => ⟨q.1, dx_same e q.2⟩⟩
/-! ### the data-level store -/
inductive El where
  | d (x : PyData)
  | at (k : Nat)
  | raw (u : V)
  | exc (a : Addr) (d : Option Addr) (fs : Option (List (Str × PyData)))
inductive OD where
  | gone
  | lst (xs : List El)
  | dK (kvs : List (Key × El))
  | dT (kvs : List (List Key × El))
abbrev Gm := List (Option El)
abbrev Th := List OD
section
variable (K : PySem.W.Frag) (B : Addr → Prop) (A : List (Option Addr)) (H : Hp)
def ElOk : V → El → Prop
  | v, .d x => Dx K (mask (hid B A) H) v x
  | v, .at k => ∃ p, A[k]? = some (some p) ∧ v = .ref p
  | v, .raw u => v = u
  | v, .exc a d fs => v = .ref a ∧ XM K (mask (hid B A) H) d fs
def OdOk : HO → OD → Prop
  | .lst vs, .lst es => Paired (ElOk K B A H) vs es
  | .dK vs, .dK es => Paired (fun (p : Key × V) (q : Key × El) => p.1 = q.1 ∧ ElOk K B A H p.2 q.2) vs es
  | .dT vs, .dT es => Paired (fun (p : List Key × V) (q : List Key × El) => p.1 = q.1 ∧ ElOk K B A H p.2 q.2) vs es
  | _, _ => False
/-- the owned objects stand -/
structure Own (Θ : Th) : Prop where
  la : A.length = Θ.length
  nd : ∀ (i j : Nat) p, A[i]? = some (some p) → A[j]? = some (some p) → i = j
  gn : ∀ k : Nat, A[k]? = some none → Θ[k]? = some .gone
  ow : ∀ (k : Nat) p, A[k]? = some (some p) → ∃ o od, H p = some o ∧ Θ[k]? = some od ∧ OdOk K B A H o od
  bh : ∀ a, B a → H a ≠ none
  bd : ∀ (k : Nat) p, A[k]? = some (some p) → ¬ B p
structure En (σ : L2.St) (Γ : Gm) (Θ : Th) : Prop where
  own : Own K B A H Θ
  ls : σ.length = Γ.length
  sl : ∀ (i : Nat) e, Γ[i]? = some (some e) → ∃ v, σ[i]? = some (some v) ∧ ElOk K B A H v e
end
/-- what may happen: all but the owned stays; owned ones stay or freeze; new ones may come -/
structure Tr (A : List (Option Addr)) (H : Hp) (A' : List (Option Addr)) (H' : Hp) : Prop where
  keep : ∀ a o, H a = some o → some a ∉ A → H' a = some o
  le : A.length ≤ A'.length
  kA : ∀ k : Nat, k < A.length → A'[k]? = A[k]? ∨ A'[k]? = some none
  new : ∀ a, some a ∈ A' → some a ∈ A ∨ H a = none
  al : ∀ a, H a ≠ none → H' a ≠ none
theorem Tr.refl {A : List (Option Addr)} {H : Hp} : Tr A H A H := ⟨fun _ _ h _ => h, Nat.le_refl _, fun _ _ => .inl rfl, fun _ h => .inl h, fun _ h => h⟩
theorem Tr.trans {A A1 A2 : List (Option Addr)} {H H1 H2 : Hp} (t : Tr A H A1 H1) (u : Tr A1 H1 A2 H2) : Tr A H A2 H2 where
  keep := fun a o h n => u.keep a o (t.keep a o h n) fun m => by
    rcases t.new a m with q | q
    · exact n q
    · rw [q] at h; cases h
  le := Nat.le_trans t.le u.le
  kA := fun k hk => by
    rcases u.kA k (Nat.lt_of_lt_of_le hk t.le) with q | q
    · rw [q]; exact t.kA k hk
    · exact .inr q
  new := fun a m => by
    rcases u.new a m with q | q
    · exact t.new a q
    · right
      cases e : H a with
      | none => rfl
      | some o => exact absurd q (t.al a (by rw [e]; simp))
  al := fun a h => u.al a (t.al a h)
section
variable {K : PySem.W.Frag} {B : Addr → Prop} {A A' : List (Option Addr)} {H H' : Hp} {Θ Θ' : Th} {σ σ' : L2.St} {Γ Γ' : Gm}
theorem Tr.same (t : Tr A H A' H') (hb : ∀ a, B a → H a ≠ none) : Same (mask (hid B A) H) (mask (hid B A') H') := fun a o h => by
  obtain ⟨h1, h2⟩ := mask_some h
  have hA : some a ∉ A := fun m => h1 (.inr m)
  have hB : ¬ B a := fun m => h1 (.inl m)
  rw [mask_no (M := hid B A')]
  · exact t.keep a o h2 hA
  · rintro (q | q)
    · exact hB q
    · rcases t.new a q with r | r
      · exact hA r
      · rw [h2] at r; cases r
theorem Tr.sameB (t : Tr A H A' H') (hb : ∀ a, B a → H a ≠ none) (hd : ∀ (k : Nat) p, A[k]? = some (some p) → ¬ B p) : ∀ a, B a → ∀ o, H a = some o → H' a = some o := fun a hB o e =>
  t.keep a o e fun m => by
    obtain ⟨k, hk⟩ := List.mem_iff_getElem?.mp m
    exact hd k a hk hB
/-- everything tracked stays: a pure step -/
theorem Tr.pure (e : Same H H') : Tr A H A H' := ⟨fun a o h _ => e a o h, Nat.le_refl _, fun _ _ => .inl rfl, fun _ h => .inl h, fun a h => by
  cases q : H a with
  | none => exact absurd q h
  | some o => rw [e a o q]; simp⟩
theorem ElOk.pure (hb : ∀ a, B a → H a ≠ none) (e : Same H H') {v : V} {x : El} (h : ElOk K B A H v x) : ElOk K B A H' v x := by
  cases x with
  | d x => exact dx_same ((Tr.pure e).same hb) h
  | «at» k => exact h
  | raw u => exact h
  | exc a d fs => exact ⟨h.1, xm_same ((Tr.pure e).same hb) h.2⟩
theorem ElOk.tr {x : PyData} {v : V} (t : Tr A H A' H') (hb : ∀ a, B a → H a ≠ none) (h : ElOk K B A H v (.d x)) : ElOk K B A' H' v (.d x) := dx_same (t.same hb) h
theorem OdOk.mono {B' : Addr → Prop} {A' : List (Option Addr)} {o : HO} {od : OD} (f : ∀ v e, ElOk K B A H v e → ElOk K B' A' H' v e) (h : OdOk K B A H o od) : OdOk K B' A' H' o od := by
  cases o with
  | lst vs =>
    cases od with
    | lst es => exact Paired.mapP (G := ElOk K B' A' H') h f
    | _ => exact h.elim
  | dK vs =>
    cases od with
    | dK es => exact Paired.mapP (G := fun (p : Key × V) (q : Key × El) => p.1 = q.1 ∧ ElOk K B' A' H' p.2 q.2) h fun _ _ z => ⟨z.1, f _ _ z.2⟩
    | _ => exact h.elim
  | dT vs =>
    cases od with
    | dT es => exact Paired.mapP (G := fun (p : List Key × V) (q : List Key × El) => p.1 = q.1 ∧ ElOk K B' A' H' p.2 q.2) h fun _ _ z => ⟨z.1, f _ _ z.2⟩
    | _ => exact h.elim
  | _ => cases od <;> exact h.elim
theorem Own.pure (e : Same H H') (o : Own K B A H Θ) : Own K B A H' Θ :=
  ⟨o.la, o.nd, o.gn, fun k p h => let ⟨u, od, h1, h2, h3⟩ := o.ow k p h; ⟨u, od, e _ _ h1, h2, h3.mono fun _ _ z => z.pure o.bh e⟩, fun a h => (Tr.pure (A := A) e).al a (o.bh a h), o.bd⟩
theorem En.pure (e : Same H H') (o : En K B A H σ Γ Θ) : En K B A H' σ Γ Θ :=
  ⟨o.own.pure e, o.ls, fun i x h => let ⟨v, h1, h2⟩ := o.sl i x h; ⟨v, h1, h2.pure o.own.bh e⟩⟩
end

/-! ### pure expressions -/
/-- evaluates to x, and all stays -/
def EV (K : PySem.W.Frag) (te : TE) (Γ : Gm) (Θ : Th) (x : El) : Prop := ∀ (B : Addr → Prop) A σ H (Q : VK), En K B A H σ Γ Θ →
  (∀ v H', Same H H' → ElOk K B A H' v x → Q v H') → te σ H Q
/-- what is wanted behind an expression, of its value and the store -/
def EG (K : PySem.W.Frag) (te : TE) (Γ : Gm) (Θ : Th) (P : El → Gm → Th → Prop) : Prop := ∀ (B : Addr → Prop) A σ H (Q : VK), En K B A H σ Γ Θ →
  (∀ v A' H' x Γ' Θ', Tr A H A' H' → En K B A' H' σ Γ' Θ' → ElOk K B A' H' v x → P x Γ' Θ' → Q v H') → te σ H Q
theorem EV.eg {K : PySem.W.Frag} {te : TE} {Γ : Gm} {Θ : Th} {x : El} {P : El → Gm → Th → Prop} (h : EV K te Γ Θ x) (p : P x Γ Θ) : EG K te Γ Θ P := fun B A σ H Q e k =>
  h B A σ H Q e fun v H' s o => k v A H' x Γ Θ (Tr.pure s) (e.pure s) o p
/-- arguments -/
def AV (K : PySem.W.Frag) (ta : TA) (Γ : Gm) (Θ : Th) (xs : List El) : Prop := ∀ (B : Addr → Prop) A σ H (Q : List V → Hp → Prop), En K B A H σ Γ Θ →
  (∀ vs H', Same H H' → Paired (ElOk K B A H') vs xs → Q vs H') → ta σ H Q
def TV (K : PySem.W.Frag) (tt : TT) (Γ : Gm) (Θ : Th) (b : Bool) : Prop := ∀ (B : Addr → Prop) A σ H (Q : Bool → Hp → Prop), En K B A H σ Γ Θ →
  (∀ H', Same H H' → Q b H') → tt σ H Q
end DL

namespace DL
open PySem PySem.Spec PyProof.Rows L2

section
variable {K : PySem.W.Frag} {B : Addr → Prop} {A A' : List (Option Addr)} {H H' : Hp} {Γ Γ' : Gm} {Θ Θ' : Th} {σ σ' : L2.St} {x y z : El}
theorem same_mask {M M' : Addr → Prop} (e : Same H H') (h : ∀ a, H a ≠ none → M' a → M a) : Same (mask M H) (mask M' H') := fun a o q => by
  obtain ⟨h1, h2⟩ := mask_some q
  rw [mask_no fun m => h1 (h a (by rw [h2]; simp) m)]
  exact e a o h2
/-- other hidden ones, not yet met -/
theorem ElOk.more {B' : Addr → Prop} {v : V} (hb : ∀ a, H a ≠ none → B' a → B a) (e : Same H H') (h : ElOk K B A H v x) : ElOk K B' A H' v x := by
  cases x with
  | d x => exact dx_same (same_mask e fun a n m => m.elim (fun q => .inl (hb a n q)) fun q => .inr q) h
  | «at» k => exact h
  | raw u => exact h
  | exc a d fs => exact ⟨h.1, xm_same (same_mask e fun a n m => m.elim (fun q => .inl (hb a n q)) fun q => .inr q) h.2⟩
theorem Own.more {B' : Addr → Prop} (o : Own K B A H Θ) (hb : ∀ a, H a ≠ none → B' a → B a) (ha : ∀ a, B' a → H' a ≠ none) (e : Same H H') : Own K B' A H' Θ :=
  ⟨o.la, o.nd, o.gn, fun k p h => let ⟨u, od, h1, h2, h3⟩ := o.ow k p h; ⟨u, od, e _ _ h1, h2, h3.mono fun _ _ z => ElOk.more (A := A) hb e z⟩, ha, fun k p h m => by
    obtain ⟨u, od, h1, h2, h3⟩ := o.ow k p h
    exact o.bd k p h (hb p (by rw [h1]; simp) m)⟩
theorem En.more {B' : Addr → Prop} (o : En K B A H σ Γ Θ) (hb : ∀ a, H a ≠ none → B' a → B a) (ha : ∀ a, B' a → H' a ≠ none) (e : Same H H') : En K B' A H' σ Γ Θ :=
  ⟨o.own.more hb ha e, o.ls, fun i x h => let ⟨v, h1, h2⟩ := o.sl i x h; ⟨v, h1, h2.more hb e⟩⟩
theorem Same.new {p : Addr} {o : HO} (h : H p = none) : Same H (upd H p o) := fun a u e => by
  rw [upd_ne (ne_of_none e h)]
  exact e
theorem paired_mono {α β : Type} {F G : α → β → Prop} {l₁ : List α} {l₂ : List β} (h : Paired F l₁ l₂) (f : ∀ a b, F a b → G a b) : Paired G l₁ l₂ := Paired.mapP h f

theorem Own.free (o : Own K B A H Θ) {p : Addr} (h : H p = none) : ¬ hid B A p := by
  rintro (q | q)
  · exact o.bh p q h
  · obtain ⟨k, hk⟩ := List.mem_iff_getElem?.mp q
    obtain ⟨u, od, h1, _, _⟩ := o.ow k p hk
    rw [h] at h1; cases h1
theorem Own.le (o : Own K B A H Θ) : Same (mask (hid B A) H) H := mask_le

/-! ### leaves -/
theorem ev_var {i : Nat} (h : Γ[i]? = some (some x)) : EV K (tVar i) Γ Θ x := fun B A σ H Q e k => by
  obtain ⟨v, h1, h2⟩ := e.sl i x h
  exact ⟨v, h1, k v H (Same.refl H) h2⟩
theorem ev_int {i : Int} : EV K (tC (.int i)) Γ Θ (.d (.int i)) := fun B A σ H Q e k => k _ H (Same.refl H) (.int i)
theorem ev_bl {i : Bool} : EV K (tC (.bl i)) Γ Θ (.d (.bool i)) := fun B A σ H Q e k => k _ H (Same.refl H) (.bl i)
theorem ev_str {i : Str} : EV K (tC (.str i)) Γ Θ (.d (.str i)) := fun B A σ H Q e k => k _ H (Same.refl H) (.str i)
theorem ev_non : EV K (tC .non) Γ Θ (.d .none) := fun B A σ H Q e k => k _ H (Same.refl H) .non
theorem EV.is {te : TE} (h : EV K te Γ Θ x) (e : x = y) : EV K te Γ Θ y := e ▸ h

/-! ### operators by data -/
/-- two values give a third -/
def RD (K : PySem.W.Frag) (Θ : Th) (r : R2) (x y z : El) : Prop := ∀ (B : Addr → Prop) A H v w (Q : VK), Own K B A H Θ → ElOk K B A H v x → ElOk K B A H w y →
  (∀ u H', Same H H' → ElOk K B A H' u z → Q u H') → r v w H Q
theorem ev_op {r : R2} {ta tb : TE} (ha : EV K ta Γ Θ x) (hb : EV K tb Γ Θ y) (hr : RD K Θ r x y z) : EV K (tOp r ta tb) Γ Θ z := fun B A σ H Q e k =>
  ha B A σ H _ e fun v H1 s1 o1 => hb B A σ H1 _ (e.pure s1) fun w H2 s2 o2 =>
    hr B A H2 v w Q ((e.pure s1).pure s2).own (o1.pure (e.pure s1).own.bh s2) o2 fun u H3 s3 o3 => k u H3 ((s1.trans s2).trans s3) o3
theorem rd_l {r r' : R2} (h : RD K Θ r x y z) : RD K Θ (fun x y H Q => r x y H Q ∨ r' x y H Q) x y z := fun B A H v w Q o h1 h2 k => .inl (h B A H v w Q o h1 h2 k)
theorem rd_r {r r' : R2} (h : RD K Θ r' x y z) : RD K Θ (fun x y H Q => r x y H Q ∨ r' x y H Q) x y z := fun B A H v w Q o h1 h2 k => .inr (h B A H v w Q o h1 h2 k)
theorem rd_I0i {g : Int → Int → Int} {i j : Int} : RD K Θ (rI0 fun i j => .int (g i j)) (.d (.int i)) (.d (.int j)) (.d (.int (g i j))) := fun B A H v w Q o h1 h2 k =>
  ⟨i, j, dx_int h1, dx_int h2, k _ H (Same.refl H) (.int _)⟩
theorem rd_I0b {g : Int → Int → Bool} {i j : Int} : RD K Θ (rI0 fun i j => .bl (g i j)) (.d (.int i)) (.d (.int j)) (.d (.bool (g i j))) := fun B A H v w Q o h1 h2 k =>
  ⟨i, j, dx_int h1, dx_int h2, k _ H (Same.refl H) (.bl _)⟩
theorem rd_Ii {C : Int → Int → Prop} {g : Int → Int → Int} {i j : Int} (hc : C i j) : RD K Θ (rI C fun i j => .int (g i j)) (.d (.int i)) (.d (.int j)) (.d (.int (g i j))) := fun B A H v w Q o h1 h2 k =>
  ⟨i, j, dx_int h1, dx_int h2, hc, k _ H (Same.refl H) (.int _)⟩
theorem rd_strs {a b : Str} (hz : a.length + b.length ≤ sizeLine) : RD K Θ (fun x y H Q => ∃ i j, x = .str i ∧ y = .str j ∧ i.length + j.length ≤ sizeLine ∧ Q (.str (i ++ j)) H) (.d (.str a)) (.d (.str b)) (.d (.str (a ++ b))) := fun B A H v w Q o h1 h2 k =>
  ⟨a, b, dx_str h1, dx_str h2, hz, k _ H (Same.refl H) (.str _)⟩
theorem rd_eq {a b : PyData} (h1 : SeqAt.shaped a = true) (h2 : SeqAt.shaped b = true) : RD K Θ (rEqD K) (.d a) (.d b) (.d (.bool (PyData.eqv a b))) := fun B A H v w Q o q1 q2 k =>
  ⟨a, b, (dx_same o.le q1).dp, (dx_same o.le q2).dp, h1, h2, k _ H (Same.refl H) (.bl _)⟩
theorem rd_ne {a b : PyData} (h1 : SeqAt.shaped a = true) (h2 : SeqAt.shaped b = true) : RD K Θ (rNeD K) (.d a) (.d b) (.d (.bool (!PyData.eqv a b))) := fun B A H v w Q o q1 q2 k =>
  ⟨a, b, (dx_same o.le q1).dp, (dx_same o.le q2).dp, h1, h2, k _ H (Same.refl H) (.bl _)⟩
theorem atI_dx {xs : List V} {ds : List PyData} {i : Int} {d : PyData} (ha : DxAll K H xs ds) (h : atI ds i = some d) : ∃ u, atI xs i = some u ∧ Dx K H u d := by
  unfold atI at h ⊢
  rw [dxAll_len ha]
  cases q : ixN ds.length i with
  | none => rw [q] at h; cases h
  | some m =>
    rw [q] at h
    obtain ⟨u, e3, e4⟩ := dxAll_get ha (show ds[m]? = some d from h)
    exact ⟨u, e3, e4⟩
theorem rd_ixT {ds : List PyData} {i : Int} {d : PyData} (h : atI ds i = some d) : RD K Θ (rIxT K) (.d (.tuple ds)) (.d (.int i)) (.d d) := fun B A H v w Q o q1 q2 k => by
  obtain ⟨a, xs, rfl, hs, ha⟩ := dx_tup q1
  obtain ⟨u, e1, e2⟩ := atI_dx ha h
  exact ⟨a, xs, i, u, rfl, dx_int q2, same_t o.le hs, e1, k u H (Same.refl H) e2⟩
theorem rd_ixL {ds : List PyData} {i : Int} {d : PyData} (h : atI ds i = some d) : RD K Θ (rIxL K) (.d (.list ds)) (.d (.int i)) (.d d) := fun B A H v w Q o q1 q2 k => by
  obtain ⟨a, xs, rfl, hs, ha⟩ := dx_lst q1
  obtain ⟨u, e1, e2⟩ := atI_dx ha h
  exact ⟨a, xs, i, u, rfl, dx_int q2, same_l o.le hs, e1, k u H (Same.refl H) e2⟩
theorem rd_ixS {s : Str} {i : Int} {c : Nat} (h : atI s.cps.toList i = some c) (hz : s.length ≤ sizeLine) : RD K Θ rIxS (.d (.str s)) (.d (.int i)) (.d (.str ⟨#[c]⟩)) := fun B A H v w Q o q1 q2 k =>
  ⟨s, i, c, dx_str q1, dx_int q2, hz, h, k _ H (Same.refl H) (.str _)⟩
/-- the owned list at k -/
theorem paired_get {α β : Type} {F : α → β → Prop} : ∀ {xs : List α} {ys : List β} {i : Nat} {y : β}, Paired F xs ys → ys[i]? = some y → ∃ x, xs[i]? = some x ∧ F x y
  | _, _, _, _, .nil, e => by simp at e
  | _, _, 0, _, .cons h _, e => by simp at e; subst e; exact ⟨_, rfl, h⟩
  | _, _, i + 1, d, .cons _ t, e => by
    obtain ⟨v, h1, h2⟩ := paired_get (i := i) (y := d) t (by simpa using e)
    exact ⟨v, by simpa using h1, h2⟩
theorem paired_get' {α β : Type} {F : α → β → Prop} : ∀ {xs : List α} {ys : List β} {i : Nat} {x : α}, Paired F xs ys → xs[i]? = some x → ∃ y, ys[i]? = some y ∧ F x y
  | _, _, _, _, .nil, e => by simp at e
  | _, _, 0, _, .cons h _, e => by simp at e; subst e; exact ⟨_, rfl, h⟩
  | _, _, i + 1, d, .cons _ t, e => by
    obtain ⟨v, h1, h2⟩ := paired_get' (i := i) (x := d) t (by simpa using e)
    exact ⟨v, by simpa using h1, h2⟩
theorem paired_len {α β : Type} {F : α → β → Prop} {xs : List α} {ys : List β} (h : Paired F xs ys) : xs.length = ys.length := Paired.length h
theorem Own.lst (o : Own K B A H Θ) {k : Nat} {es : List El} {v : V} (hk : Θ[k]? = some (.lst es)) (h : ElOk K B A H v (.at k)) : ∃ p vs, v = .ref p ∧ A[k]? = some (some p) ∧ H p = some (.lst vs) ∧ Paired (ElOk K B A H) vs es := by
  obtain ⟨p, h1, rfl⟩ := h
  obtain ⟨u, od, h2, h3, h4⟩ := o.ow k p h1
  rw [hk] at h3
  cases h3
  cases u with
  | lst vs => exact ⟨p, vs, rfl, h1, h2, h4⟩
  | _ => exact h4.elim
theorem Own.dK (o : Own K B A H Θ) {k : Nat} {es : List (Key × El)} {v : V} (hk : Θ[k]? = some (.dK es)) (h : ElOk K B A H v (.at k)) : ∃ p vs, v = .ref p ∧ A[k]? = some (some p) ∧ H p = some (.dK vs) ∧ Paired (fun (p : Key × V) (q : Key × El) => p.1 = q.1 ∧ ElOk K B A H p.2 q.2) vs es := by
  obtain ⟨p, h1, rfl⟩ := h
  obtain ⟨u, od, h2, h3, h4⟩ := o.ow k p h1
  rw [hk] at h3
  cases h3
  cases u with
  | dK vs => exact ⟨p, vs, rfl, h1, h2, h4⟩
  | _ => exact h4.elim
theorem Own.dT (o : Own K B A H Θ) {k : Nat} {es : List (List Key × El)} {v : V} (hk : Θ[k]? = some (.dT es)) (h : ElOk K B A H v (.at k)) : ∃ p vs, v = .ref p ∧ A[k]? = some (some p) ∧ H p = some (.dT vs) ∧ Paired (fun (p : List Key × V) (q : List Key × El) => p.1 = q.1 ∧ ElOk K B A H p.2 q.2) vs es := by
  obtain ⟨p, h1, rfl⟩ := h
  obtain ⟨u, od, h2, h3, h4⟩ := o.ow k p h1
  rw [hk] at h3
  cases h3
  cases u with
  | dT vs => exact ⟨p, vs, rfl, h1, h2, h4⟩
  | _ => exact h4.elim
theorem atI_el {vs : List V} {es : List El} {i : Int} (ha : Paired (ElOk K B A H) vs es) (h : atI es i = some x) : ∃ u, atI vs i = some u ∧ ElOk K B A H u x := by
  unfold atI at h ⊢
  rw [paired_len ha]
  cases q : ixN es.length i with
  | none => rw [q] at h; cases h
  | some m =>
    rw [q] at h
    obtain ⟨u, e3, e4⟩ := paired_get ha (show es[m]? = some x from h)
    exact ⟨u, e3, e4⟩
theorem rd_ixO {k : Nat} {es : List El} {i : Int} (hk : Θ[k]? = some (.lst es)) (h : atI es i = some x) : RD K Θ (rIxL K) (.at k) (.d (.int i)) x := fun B A H v w Q o q1 q2 k => by
  obtain ⟨p, vs, rfl, _, hp, hv⟩ := o.lst hk q1
  obtain ⟨u, e1, e2⟩ := atI_el hv h
  exact ⟨p, vs, i, u, rfl, dx_int q2, SqL.of hp, e1, k u H (Same.refl H) e2⟩
end
end DL

namespace DL
open PySem PySem.Spec PyProof.Rows L2

section
variable {K : PySem.W.Frag} {B : Addr → Prop} {A A' : List (Option Addr)} {H H' : Hp} {Γ Γ' : Gm} {Θ Θ' : Th} {σ σ' : L2.St} {x y z : El} {ta tb te : TE} {t u : TT}

/-! ### tests -/
theorem tv_test {b : Bool} (h : EV K te Γ Θ (.d (.bool b))) : TV K (tTest te) Γ Θ b := fun B A σ H Q e k => h B A σ H _ e fun v H1 s1 o1 => ⟨b, dx_bl o1, k H1 s1⟩
theorem tv_B {b : Bool} (h : EV K te Γ Θ (.d (.bool b))) : TV K (tB te) Γ Θ b := fun B A σ H Q e k => h B A σ H _ e fun v H1 s1 o1 => ⟨b, dx_bl o1, k H1 s1⟩
theorem tv_yes : TV K tYes Γ Θ true := fun B A σ H Q e k => k H (Same.refl H)
theorem TV.is {a b : Bool} (h : TV K t Γ Θ a) (e : a = b) : TV K t Γ Θ b := e ▸ h
theorem tv_and {a b : Bool} (h1 : TV K t Γ Θ a) (h2 : a = true → TV K u Γ Θ b) : TV K (tAnd t u) Γ Θ (a && b) := fun B A σ H Q e k => h1 B A σ H _ e fun H1 s1 => by
  cases a with
  | true =>
    show u σ H1 Q
    exact h2 rfl B A σ H1 Q (e.pure s1) fun H2 s2 => k H2 (s1.trans s2)
  | false =>
    show Q false H1
    exact k H1 s1
theorem tv_or {a b : Bool} (h1 : TV K t Γ Θ a) (h2 : a = false → TV K u Γ Θ b) : TV K (tOr t u) Γ Θ (a || b) := fun B A σ H Q e k => h1 B A σ H _ e fun H1 s1 => by
  cases a with
  | true =>
    show Q true H1
    exact k H1 s1
  | false =>
    show u σ H1 Q
    exact h2 rfl B A σ H1 Q (e.pure s1) fun H2 s2 => k H2 (s1.trans s2)
theorem tv_not {a : Bool} (h1 : TV K t Γ Θ a) : TV K (tNot t) Γ Θ (!a) := fun B A σ H Q e k => h1 B A σ H _ e fun H1 s1 => k H1 s1
theorem ev_andV {a b : Bool} (h1 : EV K ta Γ Θ (.d (.bool a))) (h2 : a = true → EV K tb Γ Θ (.d (.bool b))) : EV K (tAndV ta tb) Γ Θ (.d (.bool (a && b))) := fun B A σ H Q e k => h1 B A σ H _ e fun v H1 s1 o1 => ⟨a, dx_bl o1, by
  cases a with
  | true =>
    show tb σ H1 Q
    exact h2 rfl B A σ H1 Q (e.pure s1) fun v H2 s2 o2 => k v H2 (s1.trans s2) o2
  | false =>
    show Q (.bl false) H1
    exact k _ H1 s1 (.bl _)⟩
theorem ev_orV {a b : Bool} (h1 : EV K ta Γ Θ (.d (.bool a))) (h2 : a = false → EV K tb Γ Θ (.d (.bool b))) : EV K (tOrV ta tb) Γ Θ (.d (.bool (a || b))) := fun B A σ H Q e k => h1 B A σ H _ e fun v H1 s1 o1 => ⟨a, dx_bl o1, by
  cases a with
  | false =>
    show tb σ H1 Q
    exact h2 rfl B A σ H1 Q (e.pure s1) fun v H2 s2 o2 => k v H2 (s1.trans s2) o2
  | true =>
    show Q (.bl true) H1
    exact k _ H1 s1 (.bl _)⟩
theorem ev_notV {a : Bool} (h1 : EV K ta Γ Θ (.d (.bool a))) : EV K (tNotV ta) Γ Θ (.d (.bool (!a))) := fun B A σ H Q e k => h1 B A σ H _ e fun v H1 s1 o1 => ⟨a, dx_bl o1, k _ H1 s1 (.bl _)⟩
theorem ev_if {b : Bool} (h : TV K t Γ Θ b) (h1 : b = true → EV K ta Γ Θ x) (h2 : b = false → EV K tb Γ Θ y) : EV K (tIf t ta tb) Γ Θ (if b = true then x else y) := fun B A σ H Q e k => h B A σ H _ e fun H1 s1 => by
  cases b with
  | true =>
    show ta σ H1 Q
    exact h1 rfl B A σ H1 Q (e.pure s1) fun v H2 s2 o2 => k v H2 (s1.trans s2) o2
  | false =>
    show tb σ H1 Q
    exact h2 rfl B A σ H1 Q (e.pure s1) fun v H2 s2 o2 => k v H2 (s1.trans s2) o2
theorem ev_ifD {b : Bool} {x y : PyData} (h : TV K t Γ Θ b) (h1 : b = true → EV K ta Γ Θ (.d x)) (h2 : b = false → EV K tb Γ Θ (.d y)) : EV K (tIf t ta tb) Γ Θ (.d (if b = true then x else y)) :=
  (ev_if h h1 h2).is (by cases b <;> rfl)
def isNone : PyData → Bool
  | .none => true
  | _ => false
theorem dx_isN {v : V} {d : PyData} (h : Dx K H v d) : decide (v = .non) = isNone d := by
  cases h <;> rfl
theorem ev_isN {d : PyData} (h : EV K ta Γ Θ (.d d)) : EV K (tIsN ta) Γ Θ (.d (.bool (isNone d))) := fun B A σ H Q e k => h B A σ H _ e fun v H1 s1 o1 => by
  have q := k (.bl (isNone d)) H1 s1 (.bl _)
  rw [← dx_isN o1] at q
  exact q
theorem ev_notN {d : PyData} (h : EV K ta Γ Θ (.d d)) : EV K (tNotN ta) Γ Θ (.d (.bool (!isNone d))) := fun B A σ H Q e k => h B A σ H _ e fun v H1 s1 o1 => by
  have q := k (.bl (!isNone d)) H1 s1 (.bl _)
  rw [← dx_isN o1] at q
  exact q
theorem ev_un {r : V → Hp → VK → Prop} {z : El} (ha : EV K ta Γ Θ x) (hr : ∀ (B : Addr → Prop) A H v (Q : VK), Own K B A H Θ → ElOk K B A H v x → (∀ u H', Same H H' → ElOk K B A H' u z → Q u H') → r v H Q) : EV K (tUn r ta) Γ Θ z := fun B A σ H Q e k =>
  ha B A σ H _ e fun v H1 s1 o1 => hr B A H1 v Q (e.pure s1).own o1 fun u H2 s2 o2 => k u H2 (s1.trans s2) o2
theorem ev_neg {i : Int} (h : EV K ta Γ Θ (.d (.int i))) : EV K (tUn (rU fun i => .int (-i)) ta) Γ Θ (.d (.int (-i))) := ev_un h fun B A H v Q o h1 k => ⟨i, dx_int h1, k _ H (Same.refl H) (.int _)⟩
/-- a < b < c -/
theorem ev_chain {r r' : R2} {tc : TE} {a b : Bool} {z : El} (ha : EV K ta Γ Θ x) (hb : EV K tb Γ Θ y) (hr : RD K Θ r x y (.d (.bool a))) (hc : a = true → EV K tc Γ Θ z) (hr' : a = true → RD K Θ r' y z (.d (.bool b))) : EV K (tChain r r' ta tb tc) Γ Θ (.d (.bool (a && b))) := fun B A σ H Q e k =>
  ha B A σ H _ e fun v H1 s1 o1 => hb B A σ H1 _ (e.pure s1) fun w H2 s2 o2 =>
    hr B A H2 v w _ ((e.pure s1).pure s2).own (o1.pure (e.pure s1).own.bh s2) o2 fun u H3 s3 o3 => ⟨a, dx_bl o3, by
      cases a with
      | true =>
        show tc σ H3 _
        exact hc rfl B A σ H3 _ (((e.pure s1).pure s2).pure s3) fun w' H4 s4 o4 => hr' rfl B A H4 w w' Q ((((e.pure s1).pure s2).pure s3).pure s4).own ((o2.pure ((e.pure s1).pure s2).own.bh s3).pure (((e.pure s1).pure s2).pure s3).own.bh s4) o4
          fun u H5 s5 o5 => k u H5 ((((s1.trans s2).trans s3).trans s4).trans s5) o5
      | false =>
        show Q (.bl false) H3
        exact k _ H3 ((s1.trans s2).trans s3) (.bl _)⟩

/-! ### argument lists -/
theorem av_nil : AV K tNil Γ Θ [] := fun B A σ H Q e k => k [] H (Same.refl H) .nil
theorem av_cons {tr : TA} {xs : List El} (h : EV K te Γ Θ x) (hr : AV K tr Γ Θ xs) : AV K (tCons te tr) Γ Θ (x :: xs) := fun B A σ H Q e k =>
  h B A σ H _ e fun v H1 s1 o1 => hr B A σ H1 _ (e.pure s1) fun vs H2 s2 o2 => k (v :: vs) H2 (s1.trans s2) (.cons (o1.pure (e.pure s1).own.bh s2) o2)
theorem paired_dx : ∀ {vs : List V} {ds : List PyData}, Paired (ElOk K B A H) vs (ds.map .d) → DxAll K (mask (hid B A) H) vs ds
  | _, [], h => by cases h; exact .nil
  | _, d :: ds, h => by
    rw [List.map_cons] at h
    cases h with | cons h t => exact .cons h (paired_dx t)
theorem dx_paired : ∀ {vs : List V} {ds : List PyData}, DxAll K (mask (hid B A) H) vs ds → Paired (ElOk K B A H) vs (ds.map .d)
  | _, _, .nil => .nil
  | _, _, .cons h t => .cons h (dx_paired t)

/-! ### new objects -/
def EN (K : PySem.W.Frag) (te : TE) (Γ : Gm) (Θ : Th) (od : OD) : Prop := ∀ (B : Addr → Prop) A σ H (Q : VK), En K B A H σ Γ Θ →
  (∀ p o H', H p = none → Same H H' → H' p = some o → OdOk K (fun a => B a ∨ a = p) A H' o od → Q (.ref p) H') → te σ H Q
theorem EN.is {od od' : OD} (h : EN K te Γ Θ od) (e : od = od') : EN K te Γ Θ od' := e ▸ h
theorem hid_more {p : Addr} : ∀ a, hid B A a → hid (fun a => B a ∨ a = p) A a := fun a h => h.elim (fun q => .inl (.inl q)) fun q => .inr q
theorem mask_less {M M' : Addr → Prop} (h : ∀ a, M' a → M a) : Same (mask M H) (mask M' H) := same_mask (Same.refl H) fun a _ m => h a m
theorem EN.ev {ds : List PyData} (h : EN K te Γ Θ (.lst (ds.map .d))) : EV K te Γ Θ (.d (.list ds)) := fun B A σ H Q e k => h B A σ H Q e fun p o H1 np s1 hp od => by
  cases o with
  | lst vs =>
    have a := paired_dx (show Paired (ElOk K (fun a => B a ∨ a = p) A H1) vs (ds.map .d) from od)
    refine k (.ref p) H1 s1 (Dx.lst (xs := vs) (SqL.of ?_) (dxAll_same (mask_less hid_more) a))
    rw [mask_no]
    · exact hp
    · exact e.own.free np
  | _ => exact od.elim
theorem Own.snoc {p : Addr} {o : HO} {od : OD} (w : Own K B A H Θ) (np : H p = none) (s : Same H H') (hp : H' p = some o) (ok : OdOk K (fun a => B a ∨ a = p) A H' o od) : Own K B (A ++ [some p]) H' (Θ ++ [od]) := by
  have nh := w.free np
  have up : ∀ v e, ElOk K (fun a => B a ∨ a = p) A H' v e → ElOk K B (A ++ [some p]) H' v e := fun v e h => by
    cases e with
    | d x => exact dx_same (mask_less fun a m => m.elim (fun q => .inl (.inl q)) fun q => by
        rcases List.mem_append.mp q with q | q
        · exact .inr q
        · exact .inl (.inr (by simpa using q))) h
    | «at» k =>
      obtain ⟨p', h1, h2⟩ := h
      exact ⟨p', by rw [List.getElem?_append_left (List.getElem?_eq_some_iff.mp h1).1]; exact h1, h2⟩
    | raw u => exact h
    | exc a d fs => exact ⟨h.1, xm_same (mask_less fun a m => m.elim (fun q => .inl (.inl q)) fun q => by
        rcases List.mem_append.mp q with q | q
        · exact .inr q
        · exact .inl (.inr (by simpa using q))) h.2⟩
  have up0 : ∀ v e, ElOk K B A H v e → ElOk K B (A ++ [some p]) H' v e := fun v e h => up v e (h.more (fun a n m => m.elim id fun q => by rw [q] at n; exact absurd np n) s)
  refine ⟨by simp [w.la], fun i j q h1 h2 => ?_, fun k h => ?_, fun k q h => ?_, fun a h => ?_, fun k q h => ?_⟩
  · have mem : ∀ i : Nat, A[i]? = some (some p) → False := fun i h => nh (.inr (List.mem_iff_getElem?.mpr ⟨i, h⟩))
    rw [List.getElem?_append] at h1 h2
    by_cases hi : i < A.length
    · rw [if_pos hi] at h1
      by_cases hj : j < A.length
      · rw [if_pos hj] at h2
        exact w.nd i j q h1 h2
      · rw [if_neg hj] at h2
        have hj0 : j - A.length = 0 := by
          have := (List.getElem?_eq_some_iff.mp h2).1
          simp at this
          omega
        rw [hj0] at h2
        simp at h2
        subst h2
        exact (mem i h1).elim
    · rw [if_neg hi] at h1
      have hi0 : i - A.length = 0 := by
        have := (List.getElem?_eq_some_iff.mp h1).1
        simp at this
        omega
      rw [hi0] at h1
      simp at h1
      subst h1
      by_cases hj : j < A.length
      · rw [if_pos hj] at h2
        exact (mem j h2).elim
      · rw [if_neg hj] at h2
        have := (List.getElem?_eq_some_iff.mp h2).1
        simp at this
        omega
  · rw [List.getElem?_append] at h
    by_cases hi : k < A.length
    · rw [if_pos hi] at h
      rw [List.getElem?_append_left (by rw [← w.la]; exact hi)]
      exact w.gn k h
    · rw [if_neg hi] at h
      have := (List.getElem?_eq_some_iff.mp h).1
      have e0 : k - A.length = 0 := by simp at this; omega
      rw [e0] at h
      simp at h
  · rw [List.getElem?_append] at h
    by_cases hi : k < A.length
    · rw [if_pos hi] at h
      obtain ⟨o', od', h1, h2, h3⟩ := w.ow k q h
      exact ⟨o', od', s _ _ h1, by rw [List.getElem?_append_left (by rw [← w.la]; exact hi)]; exact h2, h3.mono up0⟩
    · rw [if_neg hi] at h
      have := (List.getElem?_eq_some_iff.mp h).1
      have e0 : k - A.length = 0 := by simp at this; omega
      rw [e0] at h
      simp at h
      subst h
      have ek : k = A.length := by omega
      exact ⟨o, od, hp, by rw [ek, w.la, List.getElem?_append_right (Nat.le_refl _)]; simp, ok.mono up⟩
  · cases q : H a with
    | none => exact absurd q (w.bh a h)
    | some o => rw [s a o q]; simp
  · rw [List.getElem?_append] at h
    by_cases hi : k < A.length
    · rw [if_pos hi] at h
      exact w.bd k q h
    · rw [if_neg hi] at h
      have := (List.getElem?_eq_some_iff.mp h).1
      have e0 : k - A.length = 0 := by simp at this; omega
      rw [e0] at h
      simp at h
      subst h
      exact fun z => nh (.inl z)
theorem Tr.snoc {p : Addr} (np : H p = none) (s : Same H H') : Tr A H (A ++ [some p]) H' := ⟨fun a o h _ => s a o h, by simp, fun k hk => .inl (List.getElem?_append_left hk), fun a h => by
  rcases List.mem_append.mp h with q | q
  · exact .inl q
  · right
    have : a = p := by simpa using q
    rw [this]; exact np, (Tr.pure (A := A) s).al⟩
theorem ElOk.snoc {p : Addr} {v : V} (w : Own K B A H Θ) (np : H p = none) (s : Same H H') (h : ElOk K B A H v x) : ElOk K B (A ++ [some p]) H' v x := by
  cases x with
  | d x => exact h.tr (Tr.snoc np s) w.bh
  | «at» k =>
    obtain ⟨p', h1, h2⟩ := h
    exact ⟨p', by rw [List.getElem?_append_left (List.getElem?_eq_some_iff.mp h1).1]; exact h1, h2⟩
  | raw u => exact h
  | exc a d fs => exact ⟨h.1, xm_same ((Tr.snoc np s).same w.bh) h.2⟩
theorem En.snoc {p : Addr} {o : HO} {od : OD} (w : En K B A H σ Γ Θ) (np : H p = none) (s : Same H H') (hp : H' p = some o) (ok : OdOk K (fun a => B a ∨ a = p) A H' o od) : En K B (A ++ [some p]) H' σ Γ (Θ ++ [od]) :=
  ⟨w.own.snoc np s hp ok, w.ls, fun i e h => let ⟨v, h1, h2⟩ := w.sl i e h; ⟨v, h1, h2.snoc w.own np s⟩⟩
theorem EN.eg {od : OD} {P : El → Gm → Th → Prop} (h : EN K te Γ Θ od) (p : P (.at Θ.length) Γ (Θ ++ [od])) : EG K te Γ Θ P := fun B A σ H Q e k => h B A σ H Q e fun q o H1 np s1 hp ok =>
  k (.ref q) (A ++ [some q]) H1 (.at Θ.length) Γ (Θ ++ [od]) (Tr.snoc np s1) (e.snoc np s1 hp ok) ⟨q, by rw [← e.own.la, List.getElem?_append_right (Nat.le_refl _)]; simp, rfl⟩ p
/-- displays -/
theorem en_lst {ta : TA} {es : List El} (h : AV K ta Γ Θ es) (hz : es.length ≤ sizeLine) : EN K (tLst ta) Γ Θ (.lst es) := fun B A σ H Q e k => h B A σ H _ e fun vs H1 s1 o1 =>
  ⟨by rw [paired_len o1]; exact hz, fun p np => k p (.lst vs) _ (Same.free s1 np) (s1.trans (Same.new np)) upd_same
    (paired_mono o1 fun v e h => h.more (fun a n m => m.elim id fun q => by rw [q] at n; exact absurd np n) (Same.new np))⟩
theorem ev_tup {ta : TA} {ds : List PyData} (h : AV K ta Γ Θ (ds.map .d)) (hz : ds.length ≤ sizeLine) : EV K (tTup ta) Γ Θ (.d (.tuple ds)) := fun B A σ H Q e k => h B A σ H _ e fun vs H1 s1 o1 => by
  have a := paired_dx o1
  refine ⟨by rw [dxAll_len a]; exact hz, fun p np => k (.ref p) _ (s1.trans (Same.new np)) (Dx.tup (xs := vs) (SqT.of ?_) (dxAll_same (same_mask (Same.new np) fun _ _ m => m) a))⟩
  rw [mask_no]
  · exact upd_same
  · exact (e.pure s1).own.free np
end
end DL

namespace DL
open PySem PySem.Spec PyProof.Rows L2

section
variable {K : PySem.W.Frag} {B : Addr → Prop} {A A' : List (Option Addr)} {H H' : Hp} {Γ Γ' : Gm} {Θ Θ' : Th} {σ σ' : L2.St} {x y z : El} {te : TE} {tt : TT}

/-! ### what is walked, by data -/
/-- may be hidden, from a heap H1 with M0 hidden on, at H' -/
def Lets (M0 : Addr → Prop) (H1 H' : Hp) (M : Addr → Prop) : Prop := (∀ a, M a → M0 a ∨ H1 a = none) ∧ ∀ a, M a → H' a ≠ none
structure WD (K : PySem.W.Frag) (J : It) (C : Hp → Prop) (M0 : Addr → Prop) (H1 : Hp) (xs : List PyData) : Prop where
  goes : ∀ (i : Nat) H', i < xs.length → C H' → J.go i H'
  stops : ∀ H', C H' → J.stop xs.length H'
  yields : ∀ (i : Nat) H' v H'', i < xs.length → C H' → J.yld i H' v H'' → Same H' H'' ∧ ∀ M, Lets M0 H1 H' M → ∃ x, xs[i]? = some x ∧ Dx K (mask M H'') v x
/-- what is not hidden stays -/
def Weak (M : Addr → Prop) (H1 : Hp) : Hp → Prop := fun H' => ∀ a o, H1 a = some o → ¬ M a → H' a = some o
def IV (K : PySem.W.Frag) (wi : TI) (Γ : Gm) (Θ : Th) (xs : List PyData) : Prop := ∀ (B : Addr → Prop) A σ H (R : It → Hp → Prop), En K B A H σ Γ Θ →
  (∀ J H1, Same H H1 → WD K J (Weak (hid B A) H1) (hid B A) H1 xs → R J H1) → wi σ H R
def IS (K : PySem.W.Frag) (wi : TI) (Γ : Gm) (Θ : Th) (xs : List PyData) : Prop := ∀ (B : Addr → Prop) A σ H (R : It → Hp → Prop), En K B A H σ Γ Θ →
  (∀ J H1, Same H H1 → WD K J (Same H1) (hid B A) H1 xs → R J H1) → wi σ H R
theorem WD.imp {J : It} {C C' : Hp → Prop} {M0 : Addr → Prop} {H1 : Hp} {xs : List PyData} (w : WD K J C M0 H1 xs) (h : ∀ H', C' H' → C H') : WD K J C' M0 H1 xs :=
  ⟨fun i H' hi c => w.goes i H' hi (h H' c), fun H' c => w.stops H' (h H' c), fun i H' v H'' hi c => w.yields i H' v H'' hi (h H' c)⟩
theorem IV.is {wi : TI} {xs : List PyData} (h : IV K wi Γ Θ xs) : IS K wi Γ Θ xs := fun B A σ H R e k => h B A σ H R e fun J H1 s w => k J H1 s (w.imp fun H' c a o q _ => c a o q)
/-- H1's data at a later heap, with others hidden -/
theorem lets_same {M0 M : Addr → Prop} {H1 H' : Hp} (l : ∀ a, M a → M0 a ∨ H1 a = none) (c : Weak M0 H1 H') : Same (mask M0 H1) (mask M H') := fun a o h => by
  obtain ⟨h1, h2⟩ := mask_some h
  rw [mask_no]
  · exact c a o h2 h1
  · intro m
    rcases l a m with q | q
    · exact h1 q
    · rw [h2] at q; cases q
theorem iv_rng1 {ta : TA} {n : Int} (h : AV K ta Γ Θ [.d (.int n)]) (hn : n < 2 ^ 62) (hm : -(2 ^ 62) ≤ n := by omega) : IV K (iRng1 ta) Γ Θ ((List.range n.toNat).map fun i : Nat => PyData.int (i : Int)) := fun B A σ H R e k => h B A σ H _ e fun vs H1 s1 o1 => by
  cases o1 with | cons o t =>
  cases t
  refine ⟨n, by rw [dx_int o], hm, hn, k _ H1 s1 ⟨fun i H' hi _ => ?_, fun H' _ => ?_, fun i H' v H'' hi _ y => ?_⟩⟩
  · rw [List.length_map, List.length_range] at hi; exact hi
  · rw [List.length_map, List.length_range]; exact Nat.le_refl _
  · obtain ⟨rfl, rfl⟩ := y
    rw [List.length_map, List.length_range] at hi
    exact ⟨Same.refl _, fun M _ => ⟨.int (i : Int), by simp only [List.getElem?_map, List.getElem?_range hi, Option.map_some], by rw [Int.zero_add]; exact .int _⟩⟩
theorem iv_rng2 {ta : TA} {m n : Int} (h : AV K ta Γ Θ [.d (.int m), .d (.int n)]) (hm : -(2 ^ 62) ≤ m := by omega) (hm' : m < 2 ^ 62 := by omega) (hn : -(2 ^ 62) ≤ n := by omega) (hn' : n < 2 ^ 62 := by omega) : IV K (iRng2 ta) Γ Θ ((List.range (n - m).toNat).map fun i : Nat => PyData.int (m + (i : Int))) := fun B A σ H R e k => h B A σ H _ e fun vs H1 s1 o1 => by
  cases o1 with | cons o t =>
  cases t with | cons o' t =>
  cases t
  refine ⟨m, n, by rw [dx_int o, dx_int o'], ⟨hm, hm', hn, hn'⟩, k _ H1 s1 ⟨fun i H' hi _ => ?_, fun H' _ => ?_, fun i H' v H'' hi _ y => ?_⟩⟩
  · rw [List.length_map, List.length_range] at hi; exact hi
  · rw [List.length_map, List.length_range]; exact Nat.le_refl _
  · obtain ⟨rfl, rfl⟩ := y
    rw [List.length_map, List.length_range] at hi
    exact ⟨Same.refl _, fun M _ => ⟨.int (m + (i : Int)), by simp only [List.getElem?_map, List.getElem?_range hi, Option.map_some], .int _⟩⟩
theorem wd_list {H1 : Hp} {a : Addr} {vs : List V} {ds : List PyData} {M0 : Addr → Prop} (ha : SqL K (mask M0 H1) a vs) (hd : DxAll K (mask M0 H1) vs ds) : WD K (Itl K a) (Weak M0 H1) M0 H1 ds := by
  have hl := dxAll_len hd
  have sq : ∀ H', Weak M0 H1 H' → SqL K H' a vs := fun H' c => same_l (fun b o h => by
    obtain ⟨n, q⟩ := mask_some h
    exact c b o q n) ha
  refine ⟨fun i H' hi c => ?_, fun H' c => ⟨vs, sq H' c, by omega⟩, fun i H' v H'' hi c y => ?_⟩
  · exact ⟨vs, vs[i]'(by omega), sq H' c, by simp [show i < vs.length by omega]⟩
  · obtain ⟨rfl, f⟩ := y
    refine ⟨Same.refl _, fun M l => ?_⟩
    have e := f vs (sq _ c)
    obtain ⟨d, h1, h2⟩ := dxAll_get' hd e
    exact ⟨d, h1, dx_same (lets_same l.1 c) h2⟩
theorem wd_tup {H1 : Hp} {a : Addr} {vs : List V} {ds : List PyData} {M0 : Addr → Prop} (ha : SqT K (mask M0 H1) a vs) (hd : DxAll K (mask M0 H1) vs ds) : WD K (Itt K a) (Weak M0 H1) M0 H1 ds := by
  have hl := dxAll_len hd
  have sq : ∀ H', Weak M0 H1 H' → SqT K H' a vs := fun H' c => same_t (fun b o h => by
    obtain ⟨n, q⟩ := mask_some h
    exact c b o q n) ha
  refine ⟨fun i H' hi c => ?_, fun H' c => ⟨vs, sq H' c, by omega⟩, fun i H' v H'' hi c y => ?_⟩
  · exact ⟨vs, vs[i]'(by omega), sq H' c, by simp [show i < vs.length by omega]⟩
  · obtain ⟨rfl, f⟩ := y
    refine ⟨Same.refl _, fun M l => ?_⟩
    have e := f vs (sq _ c)
    obtain ⟨d, h1, h2⟩ := dxAll_get' hd e
    exact ⟨d, h1, dx_same (lets_same l.1 c) h2⟩
theorem iv_list {ds : List PyData} (h : EV K te Γ Θ (.d (.list ds))) : IV K (iList K te) Γ Θ ds := fun B A σ H R e k => h B A σ H _ e fun v H1 s1 o1 => by
  obtain ⟨a, xs, rfl, hs, ha⟩ := dx_lst o1
  exact ⟨a, rfl, ⟨xs, same_l mask_le hs⟩, k _ H1 s1 (wd_list hs ha)⟩
theorem iv_tup {ds : List PyData} (h : EV K te Γ Θ (.d (.tuple ds))) : IV K (iTup K te) Γ Θ ds := fun B A σ H R e k => h B A σ H _ e fun v H1 s1 o1 => by
  obtain ⟨a, xs, rfl, hs, ha⟩ := dx_tup o1
  exact ⟨a, rfl, ⟨xs, same_t mask_le hs⟩, k _ H1 s1 (wd_tup hs ha)⟩
theorem iv_str {s : Str} (h : EV K te Γ Θ (.d (.str s))) : IV K (iStr te) Γ Θ (s.cps.toList.map fun c => .str ⟨#[c]⟩) := fun B A σ H R e k => h B A σ H _ e fun v H1 s1 o1 => by
  refine ⟨s, dx_str o1, k _ H1 s1 ⟨fun i H' hi _ => ?_, fun H' _ => ?_, fun i H' v H'' hi _ y => ?_⟩⟩
  · simp at hi; exact (walk_str (z := s)).goes i H' hi trivial
  · simpa using (walk_str (z := s)).stops H' trivial
  · simp at hi
    obtain ⟨rfl, c, h1, rfl⟩ := (walk_str (z := s)).yields i H' v H'' hi trivial y
    exact ⟨Same.refl _, fun M _ => ⟨.str ⟨#[c]⟩, by simp [h1], .str _⟩⟩
/-- one of two ways of walking -/
def iOr (w w' : TI) : TI := fun σ H R => w σ H R ∨ w' σ H R
theorem pi_or {X : Cx} {tg iter : Expr} {w w' : TI} (h : PI X tg iter w) (h' : PI X tg iter w') : PI X tg iter (iOr w w') := ⟨fun pins s σ H R I q => q.elim (h.run pins s σ H R I) (h'.run pins s σ H R I)⟩
theorem iv_l {w w' : TI} {xs : List PyData} (h : IV K w Γ Θ xs) : IV K (iOr w w') Γ Θ xs := fun B A σ H R e k => .inl (h B A σ H R e k)
theorem iv_r {w w' : TI} {xs : List PyData} (h : IV K w' Γ Θ xs) : IV K (iOr w w') Γ Θ xs := fun B A σ H R e k => .inr (h B A σ H R e k)
theorem is_l {w w' : TI} {xs : List PyData} (h : IS K w Γ Θ xs) : IS K (iOr w w') Γ Θ xs := fun B A σ H R e k => .inl (h B A σ H R e k)
theorem is_r {w w' : TI} {xs : List PyData} (h : IS K w' Γ Θ xs) : IS K (iOr w w') Γ Θ xs := fun B A σ H R e k => .inr (h B A σ H R e k)
/-- an owned list of data, while it stands -/
theorem is_own {k : Nat} {ds : List PyData} (h : EV K te Γ Θ (.at k)) (hk : Θ[k]? = some (.lst (ds.map .d))) : IS K (iList K te) Γ Θ ds := fun B A σ H R e kk => h B A σ H _ e fun v H1 s1 o1 => by
  obtain ⟨p, vs, rfl, _, hp, hv⟩ := (e.pure s1).own.lst hk o1
  have hd := paired_dx hv
  have hl := dxAll_len hd
  refine ⟨p, rfl, ⟨vs, SqL.of hp⟩, kk _ H1 s1 ⟨fun i H' hi c => ?_, fun H' c => ⟨vs, SqL.of (c p _ hp), by omega⟩, fun i H' v H'' hi c y => ?_⟩⟩
  · exact ⟨vs, vs[i]'(by omega), SqL.of (c p _ hp), by simp [show i < vs.length by omega]⟩
  · obtain ⟨rfl, f⟩ := y
    refine ⟨Same.refl _, fun M l => ?_⟩
    obtain ⟨d, h1, h2⟩ := dxAll_get' hd (f vs (SqL.of (c p _ hp)))
    exact ⟨d, h1, dx_same (lets_same l.1 fun a o q _ => c a o q) h2⟩

/-! ### targets -/
/-- a datum goes to g's names (slots among js) -/
def GV (K : PySem.W.Frag) (g : TG) (x : PyData) (Γ : Gm) (Θ : Th) (Γ' : Gm) (js : List Nat) : Prop := ∀ (B : Addr → Prop) A σ H v (Q : L2.St → Hp → Prop), En K B A H σ Γ Θ → Dx K (mask (hid B A) H) v x →
  (∀ σ' H', Same H H' → En K B A H' σ' Γ' Θ → σ'.length = σ.length → (∀ i, i ∉ js → σ'[i]? = σ[i]?) → Q σ' H') → g v σ H Q
theorem En.set {i : Nat} {v : V} (e : En K B A H σ Γ Θ) (h : ElOk K B A H v x) : En K B A H (σ.set i (some v)) (Γ.set i (some x)) Θ :=
  ⟨e.own, by simp [e.ls], fun j y hj => by
    by_cases q : i = j
    · subst q
      have hi : i < Γ.length := by simpa using (List.getElem?_eq_some_iff.mp hj).1
      rw [List.getElem?_set_self hi] at hj
      cases hj
      exact ⟨v, by rw [List.getElem?_set_self (by rw [e.ls]; exact hi)], h⟩
    · rw [List.getElem?_set_ne q] at hj ⊢
      exact e.sl j y hj⟩
theorem En.drop {i : Nat} {v : Option V} (e : En K B A H σ Γ Θ) : En K B A H (σ.set i v) (Γ.set i none) Θ :=
  ⟨e.own, by simp [e.ls], fun j y hj => by
    by_cases q : i = j
    · subst q
      have hi : i < Γ.length := by simpa using (List.getElem?_eq_some_iff.mp hj).1
      rw [List.getElem?_set_self hi] at hj
      cases hj
    · rw [List.getElem?_set_ne q] at hj ⊢
      exact e.sl j y hj⟩
theorem gv_name {i : Nat} {x : PyData} : GV K (gName i) x Γ Θ (Γ.set i (some (.d x))) [i] := fun B A σ H v Q e h k =>
  k _ H (Same.refl H) (e.set h) (by simp) fun j hj => List.getElem?_set_ne (fun q => hj (by simp [q]))
/-- several -/
def GVs (K : PySem.W.Frag) (g : TGs) (xs : List PyData) (Γ : Gm) (Θ : Th) (Γ' : Gm) (js : List Nat) : Prop := ∀ (B : Addr → Prop) A σ H vs (Q : L2.St → Hp → Prop), En K B A H σ Γ Θ → DxAll K (mask (hid B A) H) vs xs →
  (∀ σ' H', Same H H' → En K B A H' σ' Γ' Θ → σ'.length = σ.length → (∀ i, i ∉ js → σ'[i]? = σ[i]?) → Q σ' H') → g vs σ H Q
theorem gvs_nil : GVs K gNil [] Γ Θ Γ [] := fun B A σ H vs Q e h k => by
  cases h
  exact ⟨rfl, k σ H (Same.refl H) e rfl fun _ _ => rfl⟩
theorem gvs_cons {g : TG} {gs : TGs} {x : PyData} {xs : List PyData} {Γ1 Γ2 : Gm} {js ks : List Nat} (h1 : GV K g x Γ Θ Γ1 js) (h2 : GVs K gs xs Γ1 Θ Γ2 ks) : GVs K (gCons g gs) (x :: xs) Γ Θ Γ2 (js ++ ks) := fun B A σ H vs Q e h k => by
  cases h with | cons h t =>
  refine ⟨_, _, rfl, h1 B A σ H _ _ e h fun σ1 H1 s1 e1 l1 a1 => h2 B A σ1 H1 _ _ e1 (dxAll_same (same_mask s1 fun _ _ m => m) t) fun σ2 H2 s2 e2 l2 a2 => ?_⟩
  exact k σ2 H2 (s1.trans s2) e2 (l2.trans l1) fun i hi => (a2 i fun m => hi (List.mem_append_right _ m)).trans (a1 i fun m => hi (List.mem_append_left _ m))
theorem gv_tup {gs : TGs} {xs : List PyData} {n : Nat} {js : List Nat} (hn : xs.length = n) (h : GVs K gs xs Γ Θ Γ' js) : GV K (gTup K n gs) (.tuple xs) Γ Θ Γ' js := fun B A σ H v Q e hv k => by
  obtain ⟨a, vs, rfl, hs, ha⟩ := dx_tup hv
  exact ⟨a, vs, rfl, same_t mask_le hs, by rw [dxAll_len ha]; exact hn, h B A σ H vs Q e ha k⟩
def wipeG (Γ : Gm) : List Nat → Gm
  | [] => Γ
  | v :: vs => (wipeG Γ vs).set v none
theorem En.wipe (e : En K B A H σ Γ Θ) : ∀ vs, En K B A H (wipe σ vs) (wipeG Γ vs) Θ
  | [] => e
  | v :: vs => (e.wipe vs).drop
theorem wipe_get : ∀ (σ : L2.St) (vs : List Nat) (i : Nat), (L2.wipe σ vs)[i]? = if i ∈ vs ∧ i < σ.length then some none else σ[i]?
  | σ, [], i => by simp [L2.wipe]
  | σ, v :: vs, i => by
    show ((L2.wipe σ vs).set v none)[i]? = _
    rw [List.getElem?_set]
    by_cases q : v = i
    · subst q
      rw [if_pos rfl, wipe_length]
      by_cases hl : v < σ.length
      · rw [if_pos hl, if_pos ⟨List.mem_cons_self, hl⟩]
      · rw [if_neg hl, if_neg (fun z => hl z.2)]
        rw [List.getElem?_eq_none (by omega)]
    · rw [if_neg q, wipe_get σ vs i]
      simp [Ne.symm q]
theorem wipe_eq {σ σ' : L2.St} {vs js : List Nat} (hl : σ'.length = σ.length) (h : ∀ i, i ∉ js → σ'[i]? = σ[i]?) (hj : ∀ j ∈ js, j ∈ vs) : L2.wipe σ' vs = L2.wipe σ vs := by
  refine List.ext_getElem? fun i => ?_
  rw [wipe_get, wipe_get, hl]
  by_cases q : i ∈ vs ∧ i < σ.length
  · rw [if_pos q, if_pos q]
  · rw [if_neg q, if_neg q]
    by_cases m : i ∈ vs
    · have : ¬ i < σ.length := fun z => q ⟨m, z⟩
      rw [List.getElem?_eq_none (by omega), List.getElem?_eq_none (by omega)]
    · exact h i fun z => m (hj i z)
theorem wipe_wipe (σ : L2.St) (vs : List Nat) : L2.wipe (L2.wipe σ vs) vs = L2.wipe σ vs := by
  refine List.ext_getElem? fun i => ?_
  rw [wipe_get, wipe_get, wipe_length]
  by_cases q : i ∈ vs ∧ i < σ.length
  · rw [if_pos q, if_pos q]
  · rw [if_neg q, if_neg q]

/-! ### comprehensions -/
/-- what has come when so many of l are done -/
def made {α : Type} (l : List α) (p : α → Bool) (f : α → PyData) : List PyData := (l.filter p).map f
theorem made_take {α : Type} {l : List α} {p : α → Bool} {f : α → PyData} {i : Nat} {a : α} (h : l[i]? = some a) : made (l.take (i + 1)) p f = made (l.take i) p f ++ (if p a = true then [f a] else []) := by
  unfold made
  rw [List.take_add_one, h]
  by_cases q : p a = true
  · simp [q]
  · simp [q]
theorem made_len {α : Type} (l : List α) (p : α → Bool) (f : α → PyData) : (made l p f).length ≤ l.length := by
  unfold made
  rw [List.length_map]
  exact List.length_filter_le _ _
theorem en_lc {α : Type} {wi : TI} {g : TG} {vs js : List Nat} {l : List α} {en : α → PyData} {p : α → Bool} {f : α → PyData} {Γx : α → Gm} (hi : IS K wi Γ Θ (l.map en)) (hz : l.length < sizeLine)
    (hg : ∀ a ∈ l, GV K g (en a) (wipeG Γ vs) Θ (Γx a) js) (hj : ∀ j ∈ js, j ∈ vs) (ht : ∀ a ∈ l, TV K tt (Γx a) Θ (p a)) (he : ∀ a ∈ l, p a = true → EV K te (Γx a) Θ (.d (f a))) :
    EN K (tLc wi g tt te vs) Γ Θ (.lst ((made l p f).map .d)) := fun B A σ H Q e k => hi B A σ H _ e fun J H1 s1 w D nD => by
  have e1 := e.pure s1
  have nh := e1.own.free nD
  have hB : ∀ a, H1 a ≠ none → (B a ∨ a = D) → B a := fun a n m => m.elim id fun q => by rw [q] at n; exact absurd nD n
  let Pv : Nat → Hp → Prop := fun i H' => Same H1 H' ∧ ∃ acc, H' D = some (.lst acc) ∧ DxAll K (mask (hid (fun a => B a ∨ a = D) A) H') acc (made (l.take i) p f)
  have hw : Walk J l.length (Same H1) (fun i H' v H'' => i < l.length ∧ J.yld i H' v H'') := ⟨fun i H' hi c => w.goes i H' (by simpa using hi) c, fun H' c => by simpa using w.stops H' c, fun i H' v H'' hi _ y => ⟨hi, y⟩⟩
  refine lc_it hw Pv ⟨Same.new nD, [], upd_same, by simp [made]; exact .nil⟩ (fun i H' _ q => q.1) (fun i v H' H'' hi q y => ?_) (fun H' q => ?_)
  · obtain ⟨c, acc, hD, ha⟩ := q
    obtain ⟨_, y⟩ := y
    obtain ⟨sy, hy⟩ := w.yields i H' v H'' (by simpa using hi) c y
    have hal : ∀ a, (B a ∨ a = D) → H' a ≠ none := fun a m => m.elim (fun q => (Tr.pure (A := A) c).al a (e1.own.bh a q)) fun q => by rw [q, hD]; simp
    have E2 : En K (fun a => B a ∨ a = D) A H'' (L2.wipe σ vs) (wipeG Γ vs) Θ := (e1.more hB (fun a m => (Tr.pure (A := A) sy).al a (hal a m)) (c.trans sy)).wipe vs
    obtain ⟨d, hd1, hd2⟩ := hy (hid (fun a => B a ∨ a = D) A) ⟨fun a m => by
      rcases m with (m | m) | m
      · exact .inl (.inl m)
      · rw [m]; exact .inr nD
      · exact .inl (.inr m), fun a m => by
      rcases m with m | m
      · exact hal a m
      · obtain ⟨k, hk⟩ := List.mem_iff_getElem?.mp m
        obtain ⟨o, od, h1, _⟩ := e1.own.ow k a hk
        rw [c a o h1]; simp⟩
    obtain ⟨a, ha1, ha2⟩ : ∃ a, l[i]? = some a ∧ d = en a := by
      rw [List.getElem?_map] at hd1
      cases q : l[i]? with
      | none => rw [q] at hd1; cases hd1
      | some a => rw [q] at hd1; cases hd1; exact ⟨a, rfl, rfl⟩
    subst ha2
    have ml : a ∈ l := List.mem_of_getElem? ha1
    refine hg a ml _ A _ H'' v _ E2 hd2 fun σ3 H3 s3 e3 l3 a3 => ⟨?_, ht a ml _ A σ3 H3 _ e3 fun H4 s4 => ?_⟩
    · rw [wipe_eq (σ := L2.wipe σ vs) l3 a3 hj, wipe_wipe]
    · have e4 := e3.pure s4
      have all4 : Same H' H4 := (sy.trans s3).trans s4
      by_cases hp : p a = true
      · rw [hp, if_pos rfl]
        refine he a ml hp _ A σ3 H4 _ e4 fun u H5 s5 o5 => ⟨acc, s5 _ _ (all4 _ _ hD), ?_, ?_, acc ++ [u], upd_same, ?_⟩
        · have h1 := dxAll_len ha
          have h2 := made_len (l.take i) p f
          rw [List.length_take] at h2
          omega
        · exact fun b o q => by
            rw [upd_ne (ne_of_none q nD)]
            exact s5 _ _ (all4 _ _ (c _ _ q))
        · rw [made_take ha1, if_pos hp]
          have up : Same (mask (hid (fun a => B a ∨ a = D) A) H5) (mask (hid (fun a => B a ∨ a = D) A) (upd H5 D (.lst (acc ++ [u])))) := fun b o q => by
            obtain ⟨h1, h2⟩ := mask_some q
            rw [mask_no h1, upd_ne (fun z => h1 (.inl (.inr z)))]
            exact h2
          exact dxAll_append (dxAll_same ((same_mask (all4.trans s5) fun _ _ m => m).trans up) ha) (.cons (dx_same up o5) .nil)
      · have hp' : p a = false := by simpa using hp
        rw [hp', if_neg (by decide)]
        refine ⟨c.trans all4, acc, all4 _ _ hD, ?_⟩
        rw [made_take ha1, if_neg hp, List.append_nil]
        exact dxAll_same (same_mask all4 fun _ _ m => m) ha
  · obtain ⟨c, acc, hD, ha⟩ := q
    rw [List.take_length] at ha
    exact k D (.lst acc) H' (Same.free s1 nD) (s1.trans c) hD (dx_paired ha)
end
end DL

namespace DL
open PySem PySem.Spec PyProof.Rows L2

/-- what is wanted behind a statement, by data: falling through, returned, break, continue, raised (its class, its fields) -/
structure Post where
  nx : Gm → Th → Prop
  rt : El → Gm → Th → Prop
  bk : Gm → Th → Prop := fun _ _ => False
  ct : Gm → Th → Prop := fun _ _ => False
  ex : Value → Option (List (Str × PyData)) → Gm → Th → Prop := fun _ _ _ _ => False
/-- an exception's fields -/
def XOk (K : PySem.W.Frag) (M : Addr → Prop) (H : Hp) (d : Option Addr) (fs : Option (List (Str × PyData))) : Prop := XM K (mask M H) d fs
structure DOk (K : PySem.W.Frag) (E : WX) (B : Addr → Prop) (A : List (Option Addr)) (H : Hp) (D : Ends) (P : Post) : Prop where
  nx : ∀ A' H' σ' Γ' Θ', Tr A H A' H' → En K B A' H' σ' Γ' Θ' → P.nx Γ' Θ' → D.nx σ' H'
  rt : ∀ v A' H' σ' e Γ' Θ', Tr A H A' H' → En K B A' H' σ' Γ' Θ' → ElOk K B A' H' v e → P.rt e Γ' Θ' → D.rt v H'
  bk : ∀ A' H' σ' Γ' Θ', Tr A H A' H' → En K B A' H' σ' Γ' Θ' → P.bk Γ' Θ' → D.bk σ' H'
  ct : ∀ A' H' σ' Γ' Θ', Tr A H A' H' → En K B A' H' σ' Γ' Θ' → P.ct Γ' Θ' → D.ct σ' H'
  ex : ∀ c d fs A' H' σ' Γ' Θ', Tr A H A' H' → En K B A' H' σ' Γ' Θ' → XOk K (hid B A') H' d fs → P.ex c fs Γ' Θ' → E c d σ' H'
abbrev W0 : WX := fun _ _ _ _ => False
def SG (K : PySem.W.Frag) (E : WX) (ts : TS) (Γ : Gm) (Θ : Th) (P : Post) : Prop := ∀ (B : Addr → Prop) A σ H (D : Ends), En K B A H σ Γ Θ → DOk K E B A H D P → ts D σ H

section
variable {K : PySem.W.Frag} {E : WX} {B : Addr → Prop} {A A' : List (Option Addr)} {H H' : Hp} {Γ Γ' : Gm} {Θ Θ' : Th} {σ σ' : L2.St} {x y z : El} {ta tb te : TE} {t : TT} {ts tu : TS} {P : Post} {D : Ends}
theorem DOk.tr (d : DOk K E B A H D P) (s : Tr A H A' H') : DOk K E B A' H' D P :=
  ⟨fun a b c f g h => d.nx a b c f g (s.trans h), fun v a b c e f g h => d.rt v a b c e f g (s.trans h), fun a b c f g h => d.bk a b c f g (s.trans h), fun a b c f g h => d.ct a b c f g (s.trans h), fun a b c f g h i j t => d.ex a b c f g h i j (s.trans t)⟩
theorem SG.imp {P' : Post} (h : SG K E ts Γ Θ P) (n : ∀ Γ Θ, P.nx Γ Θ → P'.nx Γ Θ) (r : ∀ e Γ Θ, P.rt e Γ Θ → P'.rt e Γ Θ) (b : ∀ Γ Θ, P.bk Γ Θ → P'.bk Γ Θ) (c : ∀ Γ Θ, P.ct Γ Θ → P'.ct Γ Θ) (x : ∀ c f Γ Θ, P.ex c f Γ Θ → P'.ex c f Γ Θ) : SG K E ts Γ Θ P' := fun B A σ H D e d =>
  h B A σ H D e ⟨fun a b c f g h i q => d.nx a b c f g h i (n _ _ q), fun v a b c e f g h i j q => d.rt v a b c e f g h i j (r _ _ _ q), fun a b' c f g h i q => d.bk a b' c f g h i (b _ _ q), fun a b c' f g h i q => d.ct a b c' f g h i (c _ _ q), fun a b c f g h u v t o i q => d.ex a b c f g h u v t o i (x _ _ _ _ q)⟩
theorem sg_seq (h : SG K E ts Γ Θ { P with nx := fun Γ' Θ' => SG K E tu Γ' Θ' P }) : SG K E (tSeq ts tu) Γ Θ P := fun B A σ H D e d =>
  h B A σ H { D with nx := tu D } e ⟨fun A' H' σ' Γ' Θ' t e' q => q B A' σ' H' D e' (d.tr t), d.rt, d.bk, d.ct, d.ex⟩
theorem sg_next (h : P.nx Γ Θ) : SG K E tNext Γ Θ P := fun B A σ H D e d => d.nx A H σ Γ Θ Tr.refl e h
theorem sg_break (h : P.bk Γ Θ) : SG K E tBreak Γ Θ P := fun B A σ H D e d => d.bk A H σ Γ Θ Tr.refl e h
theorem sg_cont (h : P.ct Γ Θ) : SG K E tCont Γ Θ P := fun B A σ H D e d => d.ct A H σ Γ Θ Tr.refl e h
theorem sg_asgG {i : Nat} (h : EG K te Γ Θ fun e Γ' Θ' => P.nx (Γ'.set i (some e)) Θ') : SG K E (tAsg te (gName i)) Γ Θ P := fun B A σ H D e d =>
  h B A σ H _ e fun v A' H' x Γ' Θ' t e' o q => d.nx A' H' (σ.set i (some v)) _ Θ' t (e'.set o) q
theorem sg_asg {i : Nat} (h : EV K te Γ Θ x) (k : P.nx (Γ.set i (some x)) Θ) : SG K E (tAsg te (gName i)) Γ Θ P := sg_asgG (h.eg k)
theorem sg_asgN {i : Nat} {od : OD} (h : EN K te Γ Θ od) (k : P.nx (Γ.set i (some (.at Θ.length))) (Θ ++ [od])) : SG K E (tAsg te (gName i)) Γ Θ P := sg_asgG (h.eg k)
theorem sg_asgT {g : TG} {d : PyData} {js : List Nat} (h : EV K te Γ Θ (.d d)) (hg : GV K g d Γ Θ Γ' js) (k : P.nx Γ' Θ) : SG K E (tAsg te g) Γ Θ P := fun B A σ H D e dd =>
  h B A σ H _ e fun v H1 s1 o1 => hg B A σ H1 v _ (e.pure s1) o1 fun σ' H' s e' _ _ => dd.nx A H' σ' Γ' Θ ((Tr.pure s1).trans (Tr.pure s)) e' k
theorem sg_par {i j : Nat} {ta : TA} {x y : El} (h : AV K ta Γ Θ [x, y]) (k : P.nx ((Γ.set i (some x)).set j (some y)) Θ) : SG K E (tPar i j ta) Γ Θ P := fun B A σ H D e d =>
  h B A σ H _ e fun vs H1 s1 o1 => by
    cases o1 with | cons o t =>
    cases t with | cons o' t =>
    cases t
    exact ⟨_, _, rfl, d.nx A H1 _ _ Θ (Tr.pure s1) (((e.pure s1).set o).set o') k⟩
theorem sg_ret (h : EG K te Γ Θ P.rt) : SG K E (tRet te) Γ Θ P := fun B A σ H D e d =>
  h B A σ H _ e fun v A' H' x Γ' Θ' t e' o q => d.rt v A' H' σ x Γ' Θ' t e' o q
theorem sg_retV (h : EV K te Γ Θ x) (k : P.rt x Γ Θ) : SG K E (tRet te) Γ Θ P := sg_ret (h.eg k)
theorem sg_retN (k : P.rt (.d .none) Γ Θ) : SG K E tRetN Γ Θ P := fun B A σ H D e d => d.rt .non A H σ (.d .none) Γ Θ Tr.refl e Dx.non k
theorem sg_drop (h : EG K te Γ Θ fun _ Γ' Θ' => P.nx Γ' Θ') : SG K E (tDrop te) Γ Θ P := fun B A σ H D e d =>
  h B A σ H _ e fun v A' H' x Γ' Θ' t e' o q => d.nx A' H' σ Γ' Θ' t e' q
theorem sg_if {b : Bool} (h : TV K t Γ Θ b) (h1 : b = true → SG K E ts Γ Θ P) (h2 : b = false → SG K E tu Γ Θ P) : SG K E (tIfS t ts tu) Γ Θ P := fun B A σ H D e d =>
  h B A σ H _ e fun H1 s1 => by
    cases b with
    | true =>
      show ts D σ H1
      exact h1 rfl B A σ H1 D (e.pure s1) (d.tr (Tr.pure s1))
    | false =>
      show tu D σ H1
      exact h2 rfl B A σ H1 D (e.pure s1) (d.tr (Tr.pure s1))
/-- a loop's body -/
abbrev Post.turn (P : Post) (N : Gm → Th → Prop) : Post := { P with nx := N, ct := N, bk := P.nx }
theorem sg_while (I : Nat → Gm → Th → Prop) (m0 : Nat) (h0 : I m0 Γ Θ)
    (hs : ∀ m Γ' Θ', I m Γ' Θ' → ∃ b, TV K t Γ' Θ' b ∧ (b = true → SG K E ts Γ' Θ' (P.turn fun Γ Θ => ∃ m', m' < m ∧ I m' Γ Θ)) ∧ (b = false → P.nx Γ' Θ')) : SG K E (tWhile t ts) Γ Θ P := fun B A σ H D e d =>
  ⟨fun m σ' H' => ∃ A' Γ' Θ', Tr A H A' H' ∧ En K B A' H' σ' Γ' Θ' ∧ I m Γ' Θ', ⟨m0, A, Γ, Θ, Tr.refl, e, h0⟩, fun m σ' H' ⟨A', Γ', Θ', tr, e', i⟩ => by
    obtain ⟨b, hb, h1, h2⟩ := hs m Γ' Θ' i
    refine hb B A' σ' H' _ e' fun H1 s1 => ?_
    have e1 := e'.pure s1
    have t1 := tr.trans (Tr.pure s1)
    cases b with
    | true =>
      refine ⟨fun σ2 H2 => ∃ m', m' < m ∧ ∃ A' Γ' Θ', Tr A H A' H2 ∧ En K B A' H2 σ2 Γ' Θ' ∧ I m' Γ' Θ', fun σ2 H2 h => h, ?_⟩
      exact h1 rfl B A' σ' H1 _ e1 ⟨fun A2 H2 σ2 Γ2 Θ2 t2 e2 ⟨m', hm, i'⟩ => ⟨m', hm, A2, Γ2, Θ2, t1.trans t2, e2, i'⟩, (d.tr t1).rt, fun A2 H2 σ2 Γ2 Θ2 t2 e2 q => (d.tr t1).nx A2 H2 σ2 Γ2 Θ2 t2 e2 q,
        fun A2 H2 σ2 Γ2 Θ2 t2 e2 ⟨m', hm, i'⟩ => ⟨m', hm, A2, Γ2, Θ2, t1.trans t2, e2, i'⟩, (d.tr t1).ex⟩
    | false => exact d.nx A' H1 σ' Γ' Θ' t1 e1 (h2 rfl)⟩
theorem wh_step {b : Bool} {R1 R2 : Prop} (h : TV K t Γ Θ b) (h1 : b = true → R1) (h2 : b = false → R2) : ∃ b, TV K t Γ Θ b ∧ (b = true → R1) ∧ (b = false → R2) := ⟨b, h, h1, h2⟩
theorem lets_of (tr : Tr A H A' H') (o : Own K B A' H' Θ') : Lets (hid B A) H H' (hid B A') := ⟨fun a m => by
  rcases m with m | m
  · exact .inl (.inl m)
  · rcases tr.new a m with q | q
    · exact .inl (.inr q)
    · exact .inr q, fun a m => by
  rcases m with m | m
  · exact o.bh a m
  · obtain ⟨k, hk⟩ := List.mem_iff_getElem?.mp m
    obtain ⟨u, od, h1, _⟩ := o.ow k a hk
    rw [h1]; simp⟩
theorem Tr.weak (tr : Tr A H A' H') : Weak (hid B A) H H' := fun a o h n => tr.keep a o h fun m => n (.inr m)
theorem sg_for {α : Type} {wi : TI} {g : TG} {l : List α} {en : α → PyData} (hi : IV K wi Γ Θ (l.map en)) (I : Nat → Gm → Th → Prop) (h0 : I 0 Γ Θ)
    (hs : ∀ (i : Nat) a Γ' Θ', l[i]? = some a → I i Γ' Θ' → ∃ Γx js, GV K g (en a) Γ' Θ' Γx js ∧ SG K E ts Γx Θ' (P.turn (I (i + 1)))) (hd : ∀ Γ' Θ', I l.length Γ' Θ' → P.nx Γ' Θ') : SG K E (tFor wi g ts) Γ Θ P := fun B A σ H D e d =>
  hi B A σ H _ e fun J H1 s1 w => by
    have e1 := e.pure s1
    have d1 := d.tr (Tr.pure s1)
    let Pv : Nat → L2.St → Hp → Prop := fun i σ' H' => ∃ A' Γ' Θ', Tr A H1 A' H' ∧ En K B A' H' σ' Γ' Θ' ∧ I i Γ' Θ'
    have hw : Walk J l.length (Weak (hid B A) H1) (fun i H' v H'' => i < l.length ∧ Weak (hid B A) H1 H' ∧ J.yld i H' v H'') :=
      ⟨fun i H' hi c => w.goes i H' (by simpa using hi) c, fun H' c => by simpa using w.stops H' c, fun i H' v H'' hi c y => ⟨hi, c, y⟩⟩
    refine for_it hw Pv ⟨A, Γ, Θ, Tr.refl, e1, h0⟩ (fun i σ' H' _ q => by obtain ⟨_, _, _, t, _⟩ := q; exact t.weak) (fun i v σ' H' H'' hi q y => ?_) (fun σ' H' q => ?_)
    · obtain ⟨A', Γ', Θ', tr, e', hI⟩ := q
      obtain ⟨_, c, y⟩ := y
      obtain ⟨sy, hy⟩ := w.yields i H' v H'' (by simpa using hi) c y
      obtain ⟨dd, hd1, hd2⟩ := hy (hid B A') (lets_of tr e'.own)
      obtain ⟨a, ha1, ha2⟩ : ∃ a, l[i]? = some a ∧ dd = en a := by
        rw [List.getElem?_map] at hd1
        cases q : l[i]? with
        | none => rw [q] at hd1; cases hd1
        | some a => rw [q] at hd1; cases hd1; exact ⟨a, rfl, rfl⟩
      subst ha2
      obtain ⟨Γx, js, hg, hb⟩ := hs i a Γ' Θ' ha1 hI
      refine hg B A' σ' H'' v _ (e'.pure sy) hd2 fun σ2 H2 s2 e2 _ _ => ?_
      have t2 : Tr A H1 A' H2 := (tr.trans (Tr.pure sy)).trans (Tr.pure s2)
      exact hb B A' σ2 H2 _ e2 ⟨fun A3 H3 σ3 Γ3 Θ3 t3 e3 i' => ⟨A3, Γ3, Θ3, t2.trans t3, e3, i'⟩, (d1.tr t2).rt, fun A3 H3 σ3 Γ3 Θ3 t3 e3 q => (d1.tr t2).nx A3 H3 σ3 Γ3 Θ3 t3 e3 q, fun A3 H3 σ3 Γ3 Θ3 t3 e3 i' => ⟨A3, Γ3, Θ3, t2.trans t3, e3, i'⟩, (d1.tr t2).ex⟩
    · obtain ⟨A', Γ', Θ', tr, e', hI⟩ := q
      exact d1.nx A' H' σ' Γ' Θ' tr e' (hd Γ' Θ' hI)

/-! ### owned objects are written -/
theorem Own.put {k : Nat} {p : Addr} {o : HO} {od : OD} (w : Own K B A H Θ) (hk : A[k]? = some (some p)) (ok : OdOk K B A H o od) : Own K B A (upd H p o) (Θ.set k od) := by
  have hp : hid B A p := .inr (List.mem_iff_getElem?.mpr ⟨k, hk⟩)
  have sm : Same (mask (hid B A) H) (mask (hid B A) (upd H p o)) := fun a u h => by
    obtain ⟨h1, h2⟩ := mask_some h
    rw [mask_no h1, upd_ne (fun z => h1 (by rw [z]; exact hp))]
    exact h2
  have up : ∀ v e, ElOk K B A H v e → ElOk K B A (upd H p o) v e := fun v e h => by
    cases e with
    | d x => exact dx_same sm h
    | «at» j => exact h
    | raw u => exact h
    | exc a d fs => exact ⟨h.1, xm_same sm h.2⟩
  have hkl : k < Θ.length := by rw [← w.la]; exact (List.getElem?_eq_some_iff.mp hk).1
  refine ⟨by simp [w.la], w.nd, fun j h => ?_, fun j q h => ?_, fun a h => ?_, w.bd⟩
  · have : k ≠ j := fun z => by rw [z, h] at hk; cases hk
    rw [List.getElem?_set_ne this]
    exact w.gn j h
  · by_cases z : k = j
    · subst z
      rw [hk] at h; cases h
      exact ⟨o, od, upd_same, by rw [List.getElem?_set_self hkl], ok.mono up⟩
    · obtain ⟨u, od', h1, h2, h3⟩ := w.ow j q h
      refine ⟨u, od', ?_, by rw [List.getElem?_set_ne z]; exact h2, h3.mono up⟩
      rw [upd_ne (fun zz => z (w.nd k j p hk (by rw [h, zz])))]
      exact h1
  · by_cases z : a = p
    · rw [z, upd_same]; simp
    · rw [upd_ne z]; exact w.bh a h
theorem En.put {k : Nat} {p : Addr} {o : HO} {od : OD} (w : En K B A H σ Γ Θ) (hk : A[k]? = some (some p)) (ok : OdOk K B A H o od) : En K B A (upd H p o) σ Γ (Θ.set k od) := by
  refine ⟨w.own.put hk ok, w.ls, fun i e h => ?_⟩
  obtain ⟨v, h1, h2⟩ := w.sl i e h
  refine ⟨v, h1, ?_⟩
  cases e with
  | d x =>
    have hp : hid B A p := .inr (List.mem_iff_getElem?.mpr ⟨k, hk⟩)
    exact dx_same (fun a u h => by
      obtain ⟨h1, h2⟩ := mask_some h
      rw [mask_no h1, upd_ne (fun z => h1 (by rw [z]; exact hp))]
      exact h2) h2
  | «at» j => exact h2
  | raw u => exact h2
  | exc a d fs =>
    have hp : hid B A p := .inr (List.mem_iff_getElem?.mpr ⟨k, hk⟩)
    exact ⟨h2.1, xm_same (fun a u h => by
      obtain ⟨h1, h2⟩ := mask_some h
      rw [mask_no h1, upd_ne (fun z => h1 (by rw [z]; exact hp))]
      exact h2) h2.2⟩
theorem Tr.put {k : Nat} {p : Addr} {o : HO} (hk : A[k]? = some (some p)) : Tr A H A (upd H p o) := ⟨fun a u h n => by
  rw [upd_ne (fun z => n (by rw [z]; exact List.mem_iff_getElem?.mpr ⟨k, hk⟩))]; exact h, Nat.le_refl _, fun _ _ => .inl rfl, fun a h => .inl h, fun a h => by
  by_cases z : a = p
  · rw [z, upd_same]; simp
  · rw [upd_ne z]; exact h⟩
theorem Paired.snoc {α β : Type} {F : α → β → Prop} {a : α} {b : β} (h : F a b) : ∀ {xs : List α} {ys : List β}, Paired F xs ys → Paired F (xs ++ [a]) (ys ++ [b])
  | _, _, .nil => .cons h .nil
  | _, _, .cons r t => .cons r (Paired.snoc h t)
theorem Paired.set {α β : Type} {F : α → β → Prop} {a : α} {b : β} (h : F a b) : ∀ {xs : List α} {ys : List β} (i : Nat), Paired F xs ys → Paired F (xs.set i a) (ys.set i b)
  | _, _, _, .nil => .nil
  | _, _, 0, .cons _ t => .cons h t
  | _, _, i + 1, .cons r t => .cons r (Paired.set h i t)
theorem Paired.dropLast {α β : Type} {F : α → β → Prop} : ∀ {xs : List α} {ys : List β}, Paired F xs ys → Paired F xs.dropLast ys.dropLast
  | _, _, .nil => .nil
  | _, _, .cons r .nil => .nil
  | _, _, .cons r (.cons r' t) => .cons r (Paired.dropLast (.cons r' t))
/-- xs.append(e), xs an owned list -/
theorem eg_append {k : Nat} {es : List El} {Pp : El → Gm → Th → Prop} (hx : EV K ta Γ Θ (.at k)) (he : EV K te Γ Θ x) (hk : Θ[k]? = some (.lst es)) (hz : es.length < sizeLine) (p : Pp (.d .none) Γ (Θ.set k (.lst (es ++ [x])))) :
    EG K (tBM K "list" rAppend ta (tCons te tNil)) Γ Θ Pp := fun B A σ H Q e kk => hx B A σ H _ e fun v H1 s1 o1 => by
  have e1 := e.pure s1
  obtain ⟨pa, vs, rfl, hA, hp, hv⟩ := e1.own.lst hk o1
  refine ⟨.inl ⟨rfl, _, SqL.of hp⟩, he B A σ H1 _ e1 fun u H2 s2 o2 => ⟨pa, vs, u, rfl, rfl, s2 _ _ hp, by rw [paired_len hv]; exact hz, ?_⟩⟩
  have e2 := e1.pure s2
  have hv2 : Paired (ElOk K B A H2) vs es := paired_mono hv fun v e h => h.pure e1.own.bh s2
  exact kk .non A _ (.d .none) Γ _ (((Tr.pure s1).trans (Tr.pure s2)).trans (Tr.put hA)) (e2.put hA (od := .lst (es ++ [x])) (Paired.snoc o2 hv2)) Dx.non p
/-- xs.append([..]) of a new list: it is frozen -/
theorem ixN_of {n : Nat} {i : Int} {j : Nat} (h : ixN n i = some j) : j < n := by
  unfold ixN at h
  split at h
  · split at h
    · cases h; omega
    · cases h
  · split at h
    · cases h; omega
    · cases h
/-- xs[i] = e, xs an owned list -/
theorem sg_setL {k j : Nat} {i : Int} {es : List El} {ti : TE} (he : EV K te Γ Θ x) (hx : EV K ta Γ Θ (.at k)) (hi : EV K ti Γ Θ (.d (.int i))) (hk : Θ[k]? = some (.lst es)) (hj : ixN es.length i = some j) (p : P.nx Γ (Θ.set k (.lst (es.set j x)))) :
    SG K E (tAsg te (gSub ta ti rSetL)) Γ Θ P := fun B A σ H D e d => he B A σ H _ e fun v H1 s1 o1 => by
  have e1 := e.pure s1
  refine hx B A σ H1 _ e1 fun w H2 s2 o2 => ?_
  have e2 := e1.pure s2
  refine hi B A σ H2 _ e2 fun u H3 s3 o3 => ?_
  have e3 := e2.pure s3
  obtain ⟨pa, vs, rfl, hA, hp, hv⟩ := e3.own.lst hk (o2.pure e2.own.bh s3)
  refine ⟨pa, vs, i, j, rfl, dx_int o3, hp, by rw [paired_len hv]; exact hj, ?_⟩
  exact d.nx A _ σ Γ _ ((((Tr.pure s1).trans (Tr.pure s2)).trans (Tr.pure s3)).trans (Tr.put hA)) (e3.put hA (od := .lst (es.set j x)) (Paired.set ((o1.pure e1.own.bh s2).pure e2.own.bh s3) j hv)) p

/-! ### calls of pure defs -/
def spP (K : PySem.W.Frag) (n : Nat) (pf : List PyData → PyData → Prop) : Sp := fun vs H Q _ => ∃ (M : Addr → Prop) (ds : List PyData) (r : PyData), ds.length = n ∧ (∀ a, M a → H a ≠ none) ∧ DxAll K (mask M H) vs ds ∧ pf ds r ∧
  ∀ v H', Same H H' → Dx K (mask M H') v r → Q v H'
theorem spP_len {n : Nat} {pf : List PyData → PyData → Prop} {vs : List V} {H : Hp} {Q : VK} {E : XK} (h : spP K n pf vs H Q E) : vs.length = n := by
  obtain ⟨M, ds, r, h1, _, h2, _⟩ := h
  rw [dxAll_len h2, h1]
theorem ev_call {n : Nat} {pf : List PyData → PyData → Prop} {ta : TA} {ds : List PyData} {r : PyData} {E' : XK} (ha : AV K ta Γ Θ (ds.map .d)) (hp : pf ds r) (hn : ds.length = n := by rfl) : EV K (tCall (spP K n pf) [] E' ta) Γ Θ (.d r) := fun B A σ H Q e k =>
  ha B A σ H _ e fun vs H1 s1 o1 => by
    have e1 := e.pure s1
    have a := paired_dx o1
    refine ⟨hid B A, ds, r, hn, fun b m => ?_, by rw [List.append_nil]; exact a, hp, fun v H' s o => k v H' (s1.trans s) o⟩
    rcases m with m | m
    · exact e1.own.bh b m
    · obtain ⟨j, hj⟩ := List.mem_iff_getElem?.mp m
      obtain ⟨u, od, h1, _⟩ := e1.own.ow j b hj
      rw [h1]; simp
/-- the body of a pure def -/
theorem en_start {M : Addr → Prop} {N : List Str} {vs : List V} {ds : List PyData} (hM : ∀ a, M a → H a ≠ none) (h : DxAll K (mask M H) vs ds) : En K M [] H (L2.start N vs) (ds.map (fun d => some (.d d)) ++ List.replicate (N.length - ds.length) none) [] := by
  have hh : ∀ a, hid M [] a ↔ M a := fun a => ⟨fun q => q.elim id fun z => by simp at z, .inl⟩
  have sm : Same (mask M H) (mask (hid M []) H) := same_mask (Same.refl H) fun a _ q => (hh a).mp q
  refine ⟨⟨rfl, fun i j p h => by simp at h, fun k h => by simp at h, fun k p h => by simp at h, hM, fun k p h => by simp at h⟩, ?_, fun i e he => ?_⟩
  · unfold L2.start
    simp [dxAll_len h]
  · rw [List.getElem?_append] at he
    by_cases hi : i < ds.length
    · rw [if_pos (by simpa using hi), List.getElem?_map] at he
      obtain ⟨v, h1, h2⟩ := dxAll_get h (List.getElem?_eq_getElem hi)
      rw [List.getElem?_eq_getElem hi] at he
      cases he
      refine ⟨v, ?_, dx_same sm h2⟩
      unfold L2.start
      rw [List.getElem?_append_left (by rw [List.length_map, dxAll_len h]; exact hi), List.getElem?_map, h1]
      rfl
    · rw [if_neg (by simpa using hi)] at he
      rw [List.getElem?_replicate] at he
      split at he <;> cases he
theorem body_pure {pf : List PyData → PyData → Prop} {n : Nat} {N : List Str} {vs : List V} {Q : VK} {E' : XK} {ts : TS} (h : spP K n pf vs H Q E')
    (hb : ∀ ds r, ds.length = n → pf ds r → SG K W0 ts (ds.map (fun d => some (.d d)) ++ List.replicate (N.length - ds.length) none) [] ⟨fun _ _ => r = .none, fun e _ _ => e = .d r, fun _ _ => False, fun _ _ => False, fun _ _ _ _ => False⟩) :
    ts { nx := fun _ H' => Q .non H', rt := Q } (L2.start N vs) H := by
  obtain ⟨M, ds, r, hn, hM, hd, hp, k⟩ := h
  have hh : ∀ A : List (Option Addr), ∀ a, M a → hid M A a := fun A a => .inl
  have tr0 : ∀ {A' : List (Option Addr)} {H' : Hp}, Tr [] H A' H' → Same H H' := fun t a o h => t.keep a o h (by simp)
  refine hb ds r hn hp M [] (L2.start N vs) H _ (en_start hM hd) ⟨fun A' H' σ' Γ' Θ' t e q => ?_, fun v A' H' σ' e Γ' Θ' t en o q => ?_, fun _ _ _ _ _ _ _ q => q.elim, fun _ _ _ _ _ _ _ q => q.elim, fun _ _ _ _ _ _ _ _ _ _ _ q => q.elim⟩
  · subst q
    exact k .non H' (tr0 t) .non
  · subst q
    exact k v H' (tr0 t) (dx_same (mask_less (hh A')) o)
end
end DL

/-! enumerate of a tuple -/
namespace DL
open PySem PySem.Spec PyProof.Rows L2
open AutoSeq1 (wpAny_loadPart')
theorem meets_enumerate_newT (l : Addr) (items : Array Value) (n : Nat) (dct : Option Addr) (sl : Array (Option Value)) :
    Meets (Builtin.«enumerate.__new__» ⟨[.type "enumerate", .ref l], []⟩) (fun _ R s => s.heap.get? l = some { cls := .type "tuple", dict := dct, data := .seq items n, slots := sl } ∧
      R (.ok (.ret (.ref (s.heap.push { cls := .type "tuple_iterator", data := .fields #[.ref l, .int 0 0] }).objs.size)))
        { s with heap := (s.heap.push { cls := .type "tuple_iterator", data := .fields #[.ref l, .int 0 0] }).push { cls := .type "enumerate", data := .fields #[.none, .bool false, .ref s.heap.objs.size, rawInt 0, .none, .none] } }) :=
  .of_wp fun prog w A R s h => by
    obtain ⟨hp, g, d, tk, os⟩ := s; obtain ⟨hl, h⟩ := h
    have hsub := sub_enumerate
    have hL : Heap.IsTuple (Shared.heap ⟨hp, g, d, tk, os⟩) l items := ⟨_, hl, rfl, n, rfl⟩
    wp_walk using wpAny_loadPart' hl
    refine wpAny_stack_any fun st => wpAny_pure ?_
    split
    · rename_i c _ _ _ _ _
      cases (c == Value.type "enumerate")
      · wp_walk using wpAny_loadPart' hl, wpAny_pyIter_tuple hL
        exact ⟨_, rfl, h⟩
      · wp_walk using wpAny_loadPart' hl, wpAny_pyIter_tuple hL
        exact ⟨_, rfl, h⟩
    · wp_walk using wpAny_loadPart' hl, wpAny_pyIter_tuple hL
      exact ⟨_, rfl, h⟩
section
variable {prog : Program} {w : World} {A : Around} {E : Value → Shared → Prop} {s : Shared}
theorem call_enumerate_tuple {l : Addr} {items : Array Value} {Q : Value → Shared → Prop} (hL : s.heap.IsTuple l items)
    (h : ∀ h', IsEnum h' (s.heap.objs.size + 1) s.heap.objs.size 0 .none → h'.IsTupleIter s.heap.objs.size l 0 → h'.objs.size = s.heap.objs.size + 2 →
      (∀ b o, s.heap.get? b = some o → h'.get? b = some o) → Q (.ref (s.heap.objs.size + 1)) { s with heap := h' }) :
    wpAny (model prog w) A (call (.type "enumerate") [.ref l]) Q E s := by
  obtain ⟨⟨c, dct, dt, sl⟩, hl, hc, n, hd⟩ := hL
  replace hc : c = .type "tuple" := hc
  replace hd : dt = .seq items n := hd
  subst hc hd
  refine callType_new F.called_enumerate (by decide) (F.typeCall_enumerate_1 _) (F.newCall_enumerate_1 _) (fun obj => F.args_object_init_2 obj _) F.entry_enumerate_new
    (meets_enumerate_newT l items n dct sl) ⟨hl, ?_⟩
  have hz : (s.heap.push { cls := .type "tuple_iterator", data := .fields #[.ref l, .int 0 0] }).objs.size = s.heap.objs.size + 1 := Heap.size_push ..
  show _ ∧ _
  rw [hz]
  have he : IsEnum ((s.heap.push { cls := .type "tuple_iterator", data := .fields #[.ref l, .int 0 0] }).push
      { cls := .type "enumerate", data := .fields #[.none, .bool false, .ref s.heap.objs.size, rawInt 0, .none, .none] }) (s.heap.objs.size + 1) s.heap.objs.size 0 .none := by
    have := Heap.get?_push_size (s.heap.push { cls := .type "tuple_iterator", data := .fields #[.ref l, .int 0 0] })
      (o := { cls := .type "enumerate", data := .fields #[.none, .bool false, .ref s.heap.objs.size, rawInt 0, .none, .none] }) rfl
    rw [hz] at this; exact this
  refine ⟨⟨_, he, rfl⟩, h _ he ⟨_, Heap.get?_push_of_some _ (Heap.get?_push_size _ rfl), rfl, rfl⟩ (by rw [Heap.size_push, hz]) fun b o x => Heap.get?_push_of_some _ (Heap.get?_push_of_some _ x)⟩
theorem draws_tuple (hh : A.handled = none) (it l : Addr) (hne : l ≠ it) (items : Array Value) :
    Draws prog w A it [it, l] items.size (fun i v => items[i]? = some v) (fun i h => h.IsTupleIter it l i ∧ h.IsTuple l items) where
  live := fun _ _ st => let ⟨o, ho, _⟩ := st.1; ⟨o, ho⟩
  frame := fun _ _ _ st hk => ⟨st.1.at fun o e => hk it (by simp) o e, st.2.at fun o e => hk l (by simp) o e⟩
  item := fun i s Q E hi st hQ => by
    refine RZ.nextOf_tuple_item st.1 st.2 (x := items[i]) (by simp [hi]) fun h' hit' hs' => ?_
    exact hQ _ h' s.toks (by simp [hi]) ⟨hit', st.2.extBut hs'.extBut hne⟩ hs'
  done := fun s Q E st hE => RZ.nextOf_tuple_end hh st.1 st.2 (by simp) hE
end
theorem isTuple_of {h : Heap} {a : Addr} {items : Array Value} (p : IsTup h a items) : h.IsTuple a items := by
  obtain ⟨o, e, c, d⟩ := p
  exact ⟨o, e, c, d⟩
/-- the tuple at a, each item in a new pair -/
def IteT (K : PySem.W.Frag) (a : Addr) : It :=
  ⟨fun i H => ∃ (xs : List V) (x : V), SqT K H a xs ∧ xs[i]? = some x, fun i H v H' => ∃ T x, v = .ref T ∧ H T = none ∧ H' = upd H T (.tup [.int (i : Nat), x]) ∧ ∀ xs, SqT K H a xs → xs[i]? = some x, fun i H => ∃ xs : List V, SqT K H a xs ∧ xs.length = i⟩
theorem turn_enumT {P : Program} {w : World} {K : PySem.W.Frag} {elts : List Expr} {kk : Nat} {tpos : Pos} (a e it : Addr) (hae : a ≠ it) (hea : e ≠ a) :
    Turn P w K (.Tuple elts kk tpos) (IteT K a) [e, it] e (fun i h => (∃ old, IsEnum h e it ((i : Nat) : Int) old) ∧ h.IsTupleIter it a i ∧ e ≠ it) where
  mem := by simp
  obj := fun i h st b hb => by
    obtain ⟨⟨old, he⟩, ⟨o, ho, hc, hd⟩, _⟩ := st
    have e' : b = e ∨ b = it := by simpa using hb
    rcases e' with z | z
    · rw [z]; exact ⟨_, he, fun v q => nomatch q⟩
    · rw [z]; exact ⟨o, ho, fun v q => by rw [hd] at q; cases q⟩
  keep := fun i h h' st k => let ⟨⟨old, he⟩, hi, hne⟩ := st; ⟨⟨old, k e (by simp) _ he⟩, hi.at fun o q => k it (by simp) o q, hne⟩
  item := by
    intro X hP hw hK hc i pins s σ H E I hf st hg
    subst hP hw hK
    obtain ⟨⟨old, he⟩, hit, hne⟩ := st
    obtain ⟨xs, x, hq, hx⟩ := hg
    obtain ⟨its, rv, p, hz⟩ := I.tuple hq
    obtain ⟨u, hu, ru⟩ := rv.get hx
    have hel : e < s.heap.objs.size := Heap.lt_size he
    have hil : it < s.heap.objs.size := by obtain ⟨_, q, _⟩ := hit; exact Heap.lt_size q
    have hlt : i < its.toArray.size := by simpa using (List.getElem?_eq_some_iff.mp hu).1
    refine wpAny_pyNext_enum_itemD (draws_tuple (A := X.A.in1) (I.ok.hd hc) it a hae its.toArray) he ⟨hit, isTuple_of p⟩ hlt hne (by simp [hne, hea]) fun x' h' tk hx' ho st' hT hsz hk => ?_
    obtain ⟨hit', _⟩ := st'
    have ex : x' = u := by
      have h1 : its.toArray[i]? = some u := by simpa using hu
      rw [h1] at hx'
      exact (Option.some.inj hx').symm
    subst ex
    refine ⟨_, rfl, wpAny_letOwnedTupleGo_enum (s := { s with heap := h', toks := tk + 1 }) ho fun h'' he' sb => ?_⟩
    have hT2 : h''.get? s.heap.objs.size = some { cls := .type "tuple", data := .seq #[.int i tk, x'] } := (sb.2 _ (Nat.ne_of_gt hel)).trans hT
    have new : ObjOk X.prog X.w (upd H s.heap.objs.size (.tup [.int (i : Nat), x])) h'' s.heap.objs.size (.tup [.int (i : Nat), x]) :=
      ⟨by show 2 ≤ sizeLine; decide, [.int i tk, x'], .cons ⟨_, rfl⟩ (.cons ru .nil), ⟨_, hT2, rfl, _, rfl⟩⟩
    have I1 : Inv X pins σ (upd H s.heap.objs.size (.tup [.int (i : Nat), x])) { s with heap := h'', toks := tk + 1 } :=
      I.turnedNew (ch := [e, it]) (fun b ob hb q => (sb.2 b (fun z => hb (by simp [z]))).trans (hk b ob (fun z => hb (by simp [z])) (fun z => hb (by simp [z])) q)) hf (Nat.le_refl _) new
    refine ⟨.ref s.heap.objs.size, _, I1, rfl, ⟨_, x, rfl, I.hok.fresh (Nat.le_refl _), rfl, fun ys hy => by rw [I.tuple_inj hy hq]; exact hx⟩, ⟨⟨x', ?_⟩, hit'.at fun o q => (sb.2 it (Ne.symm hne)).trans q, hne⟩, fun b hb => ?_⟩
    · have e1 : ((i + 1 : Nat) : Int) = (i : Int) + 1 := by omega
      rw [e1]; exact he'
    · have hb' : b < s.heap.objs.size := by
        have e' : b = e ∨ b = it := by simpa using hb
        rcases e' with z | z
        · rw [z]; exact hel
        · rw [z]; exact hil
      rw [upd_ne (Nat.ne_of_lt hb')]
      exact (hf b hb).1
  done := by
    intro X hP hw hK hc i pins s σ H E I hf st hg
    subst hP hw hK
    obtain ⟨⟨old, he⟩, hit, hne⟩ := st
    obtain ⟨xs, hq, hx⟩ := hg
    obtain ⟨its, rv, p, hz⟩ := I.tuple hq
    obtain ⟨f0, f1, f2, f3, f4, f5⟩ := hf it (by simp)
    have hl := rv.length
    have hi : its.toArray.size = i := by simp; omega
    subst hi
    have D := draws_tuple (prog := X.prog) (w := X.w) (A := X.A.in1) (I.ok.hd hc) it a hae its.toArray
    exact wpAny_pyNext_enum_endD D he ⟨hit, isTuple_of p⟩ fun h' eb => ⟨rfl, I.turned (t' := s.toks) (fun b o hb q => eb b o hb q) f0 f1 f3 f4 f5⟩
  self := fun A i s Q E st h => let ⟨⟨_, he⟩, _⟩ := st; wpAny_pyIter_enum he h

theorem pi_enumT {X : Cx} {e : Expr} {ta : TA} {p pos tpos : Pos} {elts : List Expr} {kk : Nat} (hg : Gl X "enumerate") (hm : X.mg "enumerate" = none) (ha : PA X [e] ta) (hs : starEach [e] X.env = [(false, eval e X.env)] := by rfl) :
    PI X (.Tuple elts kk tpos) (.Call (.Name "enumerate" p) [e] [] pos) (fun σ H R => ta σ H fun vs H1 => ∃ a xs, vs = [.ref a] ∧ SqT X.K H1 a xs ∧ R (IteT X.K a) H1) := by
  refine ⟨fun pins s σ H R I h => ?_⟩
  refine Call_ (ld_blt I hg hm boot_enumerate (PyProof.Rows.callWith_type1 (thn (ha.run pos pins s σ H _ I h) fun us s1 ⟨vs, H1, I1, r1, q1⟩ => ?_) hs rfl))
  obtain ⟨a, xs, ex, hq, q⟩ := q1
  subst ex
  cases r1 with
  | cons r rr =>
    cases rr
    cases r
    obtain ⟨its, rv, p', hz⟩ := I1.tuple hq
    have hlt : a < s1.heap.objs.size := by obtain ⟨o, e, _⟩ := p'; exact Heap.lt_size e
    refine call_enumerate_tuple (isTuple_of p') fun h' he hit hsz hk => wpAny_pyIter_enum he ?_
    have I2 : Inv X pins σ H1 { s1 with heap := h' } := I1.kept (t' := s1.toks) hk
    refine ⟨s1.heap.objs.size + 1, [s1.heap.objs.size + 1, s1.heap.objs.size], _, _, H1, rfl, I2, turn_enumT a (s1.heap.objs.size + 1) s1.heap.objs.size (Nat.ne_of_lt hlt) (Nat.ne_of_gt (Nat.lt_succ_of_lt hlt)), ⟨⟨.none, he⟩, hit, Nat.succ_ne_self _⟩, fun b hb => ?_, q⟩
    have e' : b = s1.heap.objs.size + 1 ∨ b = s1.heap.objs.size := by simpa using hb
    have hle : s1.heap.objs.size ≤ b := by
      rcases e' with z | z
      · rw [z]; exact Nat.le_add_right _ _
      · rw [z]; exact Nat.le_refl _
    exact I1.fpOk hle (I1.hok.fresh hle)
end DL

namespace DL
open PySem PySem.Spec PyProof.Rows L2

/-! ### a def's promise where no guard runs around it -/
structure FnG (P : Program) (w : World) (K : PySem.W.Frag) (mg : Str → Option Value) (base : Heap) (CX : CXT) (k : Nat) (f : Addr) (fd : FuncData) (ps : List Str) (sp : Sp) : Prop where
  len : ∀ vs H Q E, sp vs H Q E → vs.length = ps.length
  run : ∀ (A : Around) (outer : List PySem.Env) (s : Shared) (H : Hp) (args : Args) (us : List Value) (vs : List V) (Q : VK) (E : XK), A.guards = some [] → Room k A → Env0 P w K mg base A outer s H → BindsTo s fd args (ps.zip us) → Vals vs us → sp vs H Q E →
    codeAny (model P w) A (.call (.ref f) args) (CR CX outer P w H s Q E) s
section
variable {P : Program} {w : World} {K : PySem.W.Frag} {mg : Str → Option Value} {base : Heap} {CX : CXT} {k : Nat} {f : Addr} {fd : FuncData} {ps : List Str} {sp : Sp}
theorem FnG.of (F : FnOk P w K mg base CX k f fd ps sp) : FnG P w K mg base CX k f fd ps sp := ⟨F.len, fun A outer s H args us vs Q E _ hr he hb hv hs => F.run A outer s H args us vs Q E hr he hb hv hs⟩
theorem FnG.mono {j : Nat} (F : FnG P w K mg base CX j f fd ps sp) (h : j ≤ k) : FnG P w K mg base CX k f fd ps sp := ⟨F.len, fun A outer s H args us vs Q E g hr => F.run A outer s H args us vs Q E g (hr.mono h)⟩
theorem guards_deeper {A : Around} {e : PySem.Env} (h : A.guards = some []) : (A.deeper e).guards = some [] := h
/-- a def of the text, by its body; a token is out behind the binding of its parameters where there is one and none is a cell -/
theorem fun_okG {x qual : Str} {st : Stmt} {N : List Str} (F : Fun K x qual st f fd) (S : FnScope N ps (defScope st)) (len : ∀ vs H Q E, sp vs H Q E → vs.length = ps.length)
    (hbody : ∀ (cdv : Value) (A : Around) (outer : List PySem.Env) (s : Shared) (H : Hp) (vs : List V) (Q : VK) (E : XK), (A.deeper (envOfC qual (defScope st) s.heap.objs.size f cdv)).guards = some [] → Room k (A.deeper (envOfC qual (defScope st) s.heap.objs.size f cdv)) → sp vs H Q E →
      ∃ t, PSs (cxOf CX P w K mg base N qual (defScope st) f cdv A outer s H E) (defBody st) t ∧ t { nx := fun _ H' => Q .non H', rt := Q } (L2.start N vs) H) : FnG P w K mg base CX (k + 1) f fd ps sp := by
  obtain ⟨oc, od, kV, doc, pm, an, cdv, ct, osl, e, lk, hcd⟩ := F.ex
  subst e
  constructor
  · exact len
  intro A outer s H args us vs Q E hg hr e0 hb r hs
  have KX : K.In s.heap := e0.mod.kin.keeps fun b o q => (e0.bs b o q).1
  have hk : ∀ y ∈ ps.zip us, (defScope st).names.lookup y.1 = some .local ∨ ((defScope st).names.lookup y.1 = some .cell ∧ ((cellsFrom (s.heap.objs.size + 1) (defScope st).names []).lookup y.1).isSome = true) := by
    intro y hy
    have m := (List.of_mem_zip (show (y.1, y.2) ∈ ps.zip us from hy)).1
    exact (S.par y.1 m).imp id fun q => ⟨q, PySem.W.cellsFrom_some _ _ _ (.inl q)⟩
  refine codeAny_call_function hr.depth (KX _ _ lk) rfl S.co S.gen rfl (PySem.W.codeRec_of KX hcd) (hb _ _ _ _ (wpAny_newFunctionEnv_cells S.kind hk ?_))
  rintro env rfl s1 x
  obtain ⟨t, ht, hq⟩ := hbody cdv A outer s H vs Q E (guards_deeper hg) (hr.deeper _) hs
  have I := inv_start (CX := CX) (E := E) S hr.hd e0 (len _ _ _ _ hs) r x
  have lim : s.heap.NoLimit := e0.mod.nolimit.keeps fun b o q => (e0.bs b o q).1
  refine ⟨lim.keeps x.toInCall.keep, codeAny_func (wpAny_mono (ht.run [] s1 _ H _ I hq) ?_ fun e s' z => z)⟩
  intro fl s' z
  cases fl with
  | ret u =>
    obtain ⟨v, _, H', J, rv, q⟩ := z
    exact ⟨v, H', J.os, J.bare, J.base, J.hok, rv, q⟩
  | next =>
    obtain ⟨_, H', J, q⟩ := z
    exact ⟨V.non, H', J.os, J.bare, J.base, J.hok, rfl, q⟩
  | brk => exact (z.elim fun _ z => z.elim fun _ z => z.2).elim
  | cont => exact (z.elim fun _ z => z.elim fun _ z => z.2).elim
end

/-! ### a def as its callers see it -/
structure At (K : PySem.W.Frag) (mg : Str → Option Value) (x : Str) (st : Stmt) (ps : List Str) : Prop where
  ex : ∃ f fd, Fun K x x st f fd ∧ mg x = some (.ref f) ∧ Binds K fd ps []
structure Cal (P : Program) (w : World) (K : PySem.W.Frag) (mg : Str → Option Value) (base : Heap) (CX : CXT) (k : Nat) (x : Str) (ps : List Str) (sp : Sp) : Prop where
  ex : ∃ f fd, FnG P w K mg base CX k f fd ps sp ∧ mg x = some (.ref f) ∧ PySem.W.keepIn K (.ref f) = true ∧ Binds K fd ps []
theorem Cal.mono {P : Program} {w : World} {K : PySem.W.Frag} {mg : Str → Option Value} {base : Heap} {CX : CXT} {j k : Nat} {x : Str} {ps : List Str} {sp : Sp} (C : Cal P w K mg base CX j x ps sp) (h : j ≤ k) : Cal P w K mg base CX k x ps sp := by
  obtain ⟨f, fd, F, a, b, c⟩ := C.ex
  exact ⟨f, fd, F.mono h, a, b, c⟩
section
variable {X : Cx} {CX : CXT} {k : Nat} {ps : List Str} {sp : Sp} {x : Str} {p pos : Pos} {e : Expr} {es : List Expr} {t : TA} {E : XK}
theorem pe_callC (C : Cal X.prog X.w X.K X.mg X.base CX k x ps sp) (hg : X.A.guards = some []) (hr : Room k X.A) (hx : Passes CX X E) (gl : Gl X x) (ha : PA X (e :: es) t)
    (hdb : (x == ("__debug__" : Str)) = false := by decide) (he : starEach (e :: es) X.env = (false, eval e X.env) :: starEach es X.env := by rfl) (hpl : (backTo pos (starEach es X.env)).any (·.1) = false := by rfl) :
    PE X (.Call (.Name x p) (e :: es) [] pos) (tCall sp [] E t) := by
  obtain ⟨f, fd, F, hm, hk, hb⟩ := C.ex
  constructor
  intro pins s σ H Q I h
  refine wpAny_Call_Name_kw (ld_glob I gl hm ?_ hdb)
  refine PySem.W.callWith_K (h₀ := X.base) I.ok.mod.kin hk (thn (ha.run pos pins s σ H _ I h) ?_) he hpl
  rintro us s1 ⟨vs, H1, I1, r, q⟩
  refine ⟨I1.kIn, ?_⟩
  rw [List.append_nil] at q
  have hl : us.length = ps.length := by rw [← r.length]; exact F.len _ _ _ _ q
  have hbu := hb s1 us I1.kIn (by rw [List.append_nil]; exact hl)
  rw [List.append_nil] at hbu
  refine wpAny_call (codeAny_mono (F.run X.A X.stack s1 H1 ⟨us, []⟩ us vs Q E hg hr I1.env0 hbu r q) ?_)
  intro r s' hq
  cases r with
  | error e => exact hx pins σ H1 s1 e s' I1 hq
  | ok fl => cases fl with
    | ret u => exact I1.after hq
    | next => exact hq.elim
    | brk => exact hq.elim
    | cont => exact hq.elim
end
/-- a def's promise from its body -/
theorem cal_mk {P : Program} {w : World} {K : PySem.W.Frag} {mg : Str → Option Value} {base : Heap} {CX : CXT} {k : Nat} {x : Str} {st : Stmt} {N ps : List Str} {sp : Sp} (D : At K mg x st ps) (S : FnScope N ps (defScope st)) (len : ∀ vs H Q E, sp vs H Q E → vs.length = ps.length)
    (hbody : ∀ (f : Addr) (cdv : Value) (A : Around) (outer : List PySem.Env) (s : Shared) (H : Hp) (vs : List V) (Q : VK) (E : XK), (A.deeper (envOfC x (defScope st) s.heap.objs.size f cdv)).guards = some [] → Room k (A.deeper (envOfC x (defScope st) s.heap.objs.size f cdv)) → sp vs H Q E →
      ∃ t, PSs (cxOf CX P w K mg base N x (defScope st) f cdv A outer s H E) (defBody st) t ∧ t { nx := fun _ H' => Q .non H', rt := Q } (L2.start N vs) H) : Cal P w K mg base CX (k + 1) x ps sp := by
  obtain ⟨f, fd, F, hm, hb⟩ := D.ex
  exact ⟨f, fd, fun_okG F S len fun cdv A outer s H vs Q E hg hr h => hbody f cdv A outer s H vs Q E hg hr h, hm, F.kp, hb⟩
/-- .. of a def that lets nothing out -/
theorem cal_mk0 {P : Program} {w : World} {K : PySem.W.Frag} {mg : Str → Option Value} {base : Heap} {k : Nat} {x : Str} {st : Stmt} {N ps : List Str} {sp : Sp} (D : At K mg x st ps) (S : FnScope N ps (defScope st)) (len : ∀ vs H Q E, sp vs H Q E → vs.length = ps.length)
    (hbody : ∀ (f : Addr) (cdv : Value) (A : Around) (outer : List PySem.Env) (s : Shared) (H : Hp) (vs : List V) (Q : VK) (E : XK), (A.deeper (envOfC x (defScope st) s.heap.objs.size f cdv)).guards = some [] → Room k (A.deeper (envOfC x (defScope st) s.heap.objs.size f cdv)) → sp vs H Q E →
      ∃ t, PSs (cxOf CX0 P w K mg base N x (defScope st) f cdv A outer s H E).nox (defBody st) t ∧ t { nx := fun _ H' => Q .non H', rt := Q } (L2.start N vs) H) : Cal P w K mg base CX0 (k + 1) x ps sp :=
  cal_mk D S len fun f cdv A outer s H vs Q E hg hr h => let ⟨t, h1, h2⟩ := hbody f cdv A outer s H vs Q E hg hr h; ⟨t, h1.nox, h2⟩
end DL

namespace DL
open PySem PySem.Spec PyProof.Rows L2
open AutoSeq1 (wpAny_loadPart')

/-! ### a tuple times an int of any size up to a thousand -/
theorem tuple_mul1 (l : Addr) (items : Array Value) (n : Nat) (dd : Option Addr) (sl : Array (Option Value)) (x : Int) (u : Tok) (c0 : (decide (x < -(2 ^ 63)) || decide (x ≥ 2 ^ 63)) = false) (c1 : (items.isEmpty || x == 1) = true) :
    Meets (Builtin.«tuple.__mul__» ⟨[.ref l, .int x u], []⟩) (fun _ R s => s.heap.get? l = some { cls := .type "tuple", dict := dd, data := .seq items n, slots := sl } ∧ R (.ok (.ret (Value.ref l))) s) :=
  .of_wp fun prog w A R s h => by
    obtain ⟨hp, g, d, tk, os⟩ := s
    obtain ⟨hl, h⟩ := h
    have f1 := AutoSeq1.idx_int
    wp_walk using wpAny_loadPart' hl
    repeat (first
      | (refine wpAny_ite_false (decide_eq_false (by rw [c0]; exact Bool.false_ne_true)) ?_; wp_walk using wpAny_loadPart' hl)
      | (refine wpAny_ite_true (decide_eq_true (by rw [c1])) ?_; wp_walk using wpAny_loadPart' hl))
    exact ⟨_, rfl, h⟩
theorem tuple_mul0 (l : Addr) (items : Array Value) (n : Nat) (dd : Option Addr) (sl : Array (Option Value)) (x : Int) (u : Tok) (c0 : (decide (x < -(2 ^ 63)) || decide (x ≥ 2 ^ 63)) = false) (c1 : (items.isEmpty || x == 1) = false) (c2 : (decide (x ≤ 0) || items.isEmpty) = true) :
    Meets (Builtin.«tuple.__mul__» ⟨[.ref l, .int x u], []⟩) (fun _ R s => s.heap.get? l = some { cls := .type "tuple", dict := dd, data := .seq items n, slots := sl } ∧
      R (.ok (.ret (Value.ref s.heap.objs.size))) { s with heap := s.heap.push { cls := Value.type "tuple", data := Data.seq #[] }, toks := s.toks }) :=
  .of_wp fun prog w A R s h => by
    obtain ⟨hp, g, d, tk, os⟩ := s
    obtain ⟨hl, h⟩ := h
    have f1 := AutoSeq1.idx_int
    wp_walk using wpAny_loadPart' hl
    repeat (first
      | (refine wpAny_ite_false (decide_eq_false (by rw [c0]; exact Bool.false_ne_true)) ?_; wp_walk using wpAny_loadPart' hl)
      | (refine wpAny_ite_false (decide_eq_false (by rw [c1]; exact Bool.false_ne_true)) ?_; wp_walk using wpAny_loadPart' hl)
      | (refine wpAny_ite_true (decide_eq_true (by rw [c2])) ?_; wp_walk using wpAny_loadPart' hl))
    exact ⟨_, rfl, h⟩
def rRepA (K : PySem.W.Frag) : R2 := fun x y H Q => ∃ l k xs, x = .ref l ∧ y = .int k ∧ SqT K H l xs ∧ -1000 ≤ k ∧ k ≤ 1000 ∧ xs.length ≤ 1000 ∧
  (xs = [] ∨ k = 1 → Q (.ref l) H) ∧ (¬ (xs = [] ∨ k = 1) → ∀ p, H p = none → Q (.ref p) (upd H p (.tup (List.replicate k.toNat xs).flatten)))
theorem op_repA {X : Cx} : OpR X (binaryOp .Mult) (rRepA X.K) := by
  intro pins s σ H x y v u Q I rx ry h
  obtain ⟨l, k, xs, rfl, rfl, hT, h1, h2, hz, q1, q2⟩ := h
  by_cases c : xs ≠ [] ∧ 2 ≤ k
  · exact op_repT pins s σ H _ _ v u Q I rx ry ⟨l, k, xs, rfl, rfl, hT, c.1, c.2, h2, hz, q2 (by rintro (z | z); exact c.1 z; omega)⟩
  cases rx
  obtain ⟨t, rfl⟩ := ry
  obtain ⟨its, r, ⟨⟨cls, dd, data, sl⟩, ho, hc, n, hd⟩, hs⟩ := I.tuple hT
  simp only at hc hd
  subst hc hd
  have hle : its.length = xs.length := r.length.symm
  have em : its.toArray.isEmpty = xs.isEmpty := by
    cases its with
    | nil => cases xs with
      | nil => rfl
      | cons a b => simp at hle
    | cons a b => cases xs with
      | nil => simp at hle
      | cons a b => rfl
  have c0 : (decide (k < -(2 ^ 63)) || decide (k ≥ 2 ^ 63)) = false := by
    rw [decide_eq_false (by omega), decide_eq_false (by omega)] <;> rfl
  by_cases d : xs = [] ∨ k = 1
  · have c1 : (its.toArray.isEmpty || k == 1) = true := by
      rw [em]
      rcases d with d | d
      · subst d; rfl
      · subst d; simp
    refine wpAny_binaryOp_repeat_ref (T := "tuple") (U := "int") (by decide) ⟨_, ho, rfl⟩ (fun s' => typeIs_int s' k t) noFill_tuple_mul F.fills_int_mul F.slot_int_rmul repeat_tuple F.slot_int_index.lookup
      (call_meets F.slot_int_rmul (typeIs_int s k t) F.entry_int_rmul (F.args_int_rmul_2 _ _) (int_rmul_tuple k t l its.toArray n dd sl) ⟨ho, rfl, ⟨_, ho, rfl⟩,
        call_meets F.slot_tuple_mul ⟨_, ho, rfl⟩ F.entry_tuple_mul (F.args_tuple_mul_2 _ _) (tuple_mul1 l its.toArray n dd sl k t c0 c1) ⟨ho, ?_⟩⟩)
    exact ⟨.ref l, H, I, rfl, q1 d⟩
  · have hn : xs ≠ [] := fun z => d (.inl z)
    have k0 : k ≤ 0 := by
      have : ¬ (2 ≤ k) := fun z => c ⟨hn, z⟩
      have : k ≠ 1 := fun z => d (.inr z)
      omega
    have ie : xs.isEmpty = false := by simpa using hn
    have c1 : (its.toArray.isEmpty || k == 1) = false := by
      rw [em, ie]
      exact beq_eq_false_iff_ne.mpr (by omega)
    have c2 : (decide (k ≤ 0) || its.toArray.isEmpty) = true := by rw [decide_eq_true k0]; rfl
    refine wpAny_binaryOp_repeat_ref (T := "tuple") (U := "int") (by decide) ⟨_, ho, rfl⟩ (fun s' => typeIs_int s' k t) noFill_tuple_mul F.fills_int_mul F.slot_int_rmul repeat_tuple F.slot_int_index.lookup
      (call_meets F.slot_int_rmul (typeIs_int s k t) F.entry_int_rmul (F.args_int_rmul_2 _ _) (int_rmul_tuple k t l its.toArray n dd sl) ⟨ho, rfl, ⟨_, ho, rfl⟩,
        call_meets F.slot_tuple_mul ⟨_, ho, rfl⟩ F.entry_tuple_mul (F.args_tuple_mul_2 _ _) (tuple_mul0 l its.toArray n dd sl k t c0 c1 c2) ⟨ho, ?_⟩⟩)
    have z : k.toNat = 0 := by omega
    have q := q2 d s.heap.objs.size (I.hok.fresh (Nat.le_refl _))
    rw [z] at q
    refine ⟨.ref s.heap.objs.size, _, I.laid (t' := s.toks) (o := .tup []) (fun b ob q => Heap.get?_push_of_some _ q) (Nat.le_refl _) ?_, rfl, q⟩
    exact ⟨Nat.zero_le _, [], .nil, IsTup.new _ _⟩

/-! ### a text times an int -/
def repS (x : Str) (n : Int) : Str := ⟨((List.replicate n.toNat (TL.tl x)).flatten).toArray⟩
def rRepS : R2 := fun x y H Q => ∃ a n, x = .str a ∧ y = .int n ∧ -1000 ≤ n ∧ n ≤ 1000 ∧ a.length ≤ 1000 ∧ Q (.str (repS a n)) H
theorem foldl_cat (l : List (Array Nat)) : ∀ acc : Array Nat, (l.foldl (· ++ ·) acc).toList = acc.toList ++ (l.map Array.toList).flatten := by
  induction l with
  | nil => intro acc; simp
  | cons a r ih => intro acc; simp [ih]
theorem op_repS {X : Cx} : OpR X (binaryOp .Mult) rRepS := by
  intro pins s σ H x y v u Q I rx ry h
  obtain ⟨a, n, rfl, rfl, h1, h2, h3, q⟩ := h
  obtain ⟨t, rfl⟩ := rx
  obtain ⟨t2, rfl⟩ := ry
  have c0 : (decide (n < -(2 ^ 63)) || decide (n ≥ 2 ^ 63)) = false := by
    rw [decide_eq_false (by omega), decide_eq_false (by omega)] <;> rfl
  have hsz : a.length * n.toNat ≤ 1000000 := Nat.le_trans (Nat.mul_le_mul h3 (show n.toNat ≤ 1000 by omega)) (by decide)
  refine P.mul_str c0 (fun h4 _ => ?_) (fun _ _ => ?_) ?_
  · have hn : 1 ≤ n := by omega
    have : n ≤ 1000 := h2
    have h5 : (2 ^ 63 - 1 : Int) / n ≥ (2 ^ 63 - 1) / 1000 := by
      refine (Int.le_ediv_iff_mul_le (by omega)).mpr ?_
      have : ((2 ^ 63 - 1 : Int) / 1000) * n ≤ ((2 ^ 63 - 1 : Int) / 1000) * 1000 := Int.mul_le_mul_of_nonneg_left h2 (by decide)
      exact Int.le_trans this (by decide)
    have h6 : (1000 : Int) ≤ (2 ^ 63 - 1) / 1000 := by decide
    omega
  · unfold Builtin.Str.tooLong
    refine decide_eq_false ?_
    have : sizeLine = 16777216 := sizeLine_eq
    omega
  · by_cases c1 : n < 1
    · rw [if_pos c1]
      have z : n.toNat = 0 := by omega
      have e : repS a n = Str.empty := by
        unfold repS
        rw [z]
        rfl
      rw [e] at q
      exact ⟨by decide, .str Str.empty, H, I.tok _, ⟨_, rfl⟩, q⟩
    · rw [if_neg c1]
      by_cases c2 : (n == 1 || a.length == 0) = true
      · rw [if_pos c2]
        have e : repS a n = a := by
          apply TL.ext_tl
          show (List.replicate n.toNat (TL.tl a)).flatten = TL.tl a
          rw [Bool.or_eq_true] at c2
          rcases c2 with c2 | c2
          · have : n = 1 := by simpa using c2
            subst this
            simp
          · have z : TL.tl a = [] := List.eq_nil_of_length_eq_zero (by rw [← TL.len_tl]; simpa using c2)
            rw [z]
            simp
        rw [e] at q
        exact ⟨.str a, H, I, ⟨_, rfl⟩, q⟩
      · rw [if_neg c2]
        have e : repS a n = ⟨(List.replicate n.toNat a.cps).foldl (· ++ ·) #[]⟩ := by
          apply TL.ext_tl
          show (List.replicate n.toNat (TL.tl a)).flatten = ((List.replicate n.toNat a.cps).foldl (· ++ ·) #[]).toList
          rw [foldl_cat]
          simp [TL.tl]
        rw [← e]
        refine ⟨?_, .str _, H, I.tok _, ⟨_, rfl⟩, q⟩
        have hl : (repS a n).length = n.toNat * (TL.tl a).length := by
          rw [TL.len_tl]
          show ((List.replicate n.toNat (TL.tl a)).flatten).length = _
          simp [List.length_flatten, List.sum_replicate_nat]
        rw [hl, ← TL.len_tl, Nat.mul_comm]
        have : sizeLine = 16777216 := sizeLine_eq
        omega

/-! ### operators of several kinds -/
section
variable {X : Cx}
theorem ox_add : OpR X (binaryOp .Add) (fun x y H Q => (rI0 fun i j => .int (i + j)) x y H Q ∨ (fun x y H Q => (∃ i j, x = V.str i ∧ y = V.str j ∧ i.length + j.length ≤ sizeLine ∧ Q (.str (i ++ j)) H) ∨ (fun x y H Q => rCatA X.K x y H Q ∨ rCat x y H Q) x y H Q) x y H Q) :=
  OpR.or op_add (OpR.or op_add_str (OpR.or op_catA op_cat))
theorem ox_mul : OpR X (binaryOp .Mult) (fun x y H Q => (rI CMulW fun i j => .int (i * j)) x y H Q ∨ (fun x y H Q => rRepA X.K x y H Q ∨ (fun x y H Q => rRep x y H Q ∨ rRepS x y H Q) x y H Q) x y H Q) := OpR.or op_mulW (OpR.or op_repA (OpR.or op_rep op_repS))
theorem ox_div : OpR X (binaryOp .FloorDiv) (rI CDivN fun i j => .int (i.fdiv j)) := op_fdivN
theorem sx_any : SlR X (fun x lo hi H Q => rSlS x lo hi H Q ∨ (fun x lo hi H Q => rSlA X.K x lo hi H Q ∨ rSlL X.K x lo hi H Q) x lo hi H Q) := SlR.or sl_str (SlR.or sl_tupA sl_list)
theorem cx_len : CallR X (.builtin "len") (fun xs H Q => (∃ p ys, xs = [V.ref p] ∧ (SqL X.K H p ys ∨ SqT X.K H p ys) ∧ Q (.int ys.length) H) ∨ ∃ z, xs = [V.str z] ∧ z.length ≤ sizeLine ∧ Q (.int z.length) H) := CallR.or call_len_seq call_len_str
theorem cx_str : CallR X (.type "str") (fun xs H Q => (∃ i, xs = [V.int i] ∧ i.natAbs.log2 < 1920 ∧ Q (.str (toString i)) H) ∨ ∃ a, xs = [V.str a] ∧ Q (.str a) H) := CallR.or call_str_int SkE.call_str_str
theorem cx_int : CallR X (.type "int") (fun xs H Q => ((∃ i, xs = [V.int i] ∧ Q (.int i) H) ∨ ∃ k, xs = [V.bl k] ∧ Q (.int (if k then 1 else 0)) H) ∨ ∃ a n, xs = [V.str a] ∧ PySem.intText? a = some n ∧ a.length ≤ 640 ∧ Q (.int n) H) := CallR.or call_int1 call_int_str
theorem cx_list : CallR X (.type "list") (fun xs H Q => ∃ p ys, xs = [V.ref p] ∧ (SqL X.K H p ys ∨ SqT X.K H p ys) ∧ ∀ l, H l = none → Q (.ref l) (upd H l (.lst ys))) := call_list_of
/-- repr of a datum -/
def rRepr (K : PySem.W.Frag) : List V → Hp → VK → Prop := fun xs H Q => ∃ x d, xs = [x] ∧ Dp K H x d ∧ d.showable = true ∧ d.hasDict = false ∧ d.depth ≤ 8 ∧ d.shown.length ≤ sizeLine ∧ Q (.str d.shown) H
theorem cx_repr (hg : X.A.guards = some []) (hu : X.A.units + 64 < cLine) : CallR X (.builtin "repr") (rRepr X.K) := by
  intro pins s σ H xs us Q I r h
  obtain ⟨x, d, rfl, hd, hs, hnd, hdp, hz, q⟩ := h
  obtain ⟨u, rfl, rx⟩ : ∃ u, us = [u] ∧ RelV x u := by
    cases r with | cons a t => cases t; exact ⟨_, rfl, a⟩
  obtain ⟨as, rd⟩ := Dp.reads I d x u hd rx
  have fin : ∀ (h' : Heap) (t : Tok) (tk : Nat), (∀ b o, s.heap.get? b = some o → h'.get? b = some o) → EP X pins σ Q (.str d.shown t) { s with heap := h', toks := tk } := fun h' t tk hk =>
    ⟨.str d.shown, H, I.kept hk, ⟨t, rfl⟩, q⟩
  cases d with
  | none =>
    cases hd
    cases rx
    exact PySem.P.repr_of_none (fin s.heap _ _ fun _ _ e => e)
  | bool b =>
    cases hd
    cases rx
    exact PySem.P.repr_of_bool (fin s.heap _ _ fun _ _ e => e)
  | int i =>
    cases hd
    obtain ⟨t, rfl⟩ := rx
    have hs' : i.natAbs.log2 < 1920 := by simpa [PyData.showable] using hs
    exact PySem.P.repr_of_int hs' (fin s.heap _ _ fun _ _ e => e)
  | str z =>
    cases hd
    obtain ⟨t, rfl⟩ := rx
    exact PySem.P.repr_of_str (fin s.heap _ _ fun _ _ e => e) hz
  | list ds =>
    cases hd
    cases rx
    exact repr_of_reads' rd hs (fun z => by rw [hnd] at z; cases z) hg (by omega) (fun _ _ e => e) (fun h' t tk hk => fin h' t tk hk) hz
  | tuple ds =>
    cases hd
    cases rx
    exact repr_of_reads' rd hs (fun z => by rw [hnd] at z; cases z) hg (by omega) (fun _ _ e => e) (fun h' t tk hk => fin h' t tk hk) hz
  | dict kvs => cases hd
/-- enumerate of a list or a tuple -/
theorem px_enum {e : Expr} {ta : TA} {p pos tpos : Pos} {elts : List Expr} {kk : Nat} (hg : Gl X "enumerate") (hm : X.mg "enumerate" = none) (ha : PA X [e] ta) (hs : starEach [e] X.env = [(false, eval e X.env)] := by rfl) :
    PI X (.Tuple elts kk tpos) (.Call (.Name "enumerate" p) [e] [] pos) (iOr (iEnum X.K ta) (fun σ H R => ta σ H fun vs H1 => ∃ a xs, vs = [.ref a] ∧ SqT X.K H1 a xs ∧ R (IteT X.K a) H1)) := pi_or (pi_enum hg hm ha hs) (pi_enumT hg hm ha hs)
end
end DL

namespace DL
open PySem PySem.Spec PyProof.Rows L2
section
variable {K : PySem.W.Frag} {B : Addr → Prop} {A A' : List (Option Addr)} {H H' : Hp} {Γ Γ' : Gm} {Θ Θ' : Th} {σ σ' : L2.St} {x y z : El} {te ta tb : TE} {tt : TT}

/-! ### more operators by data -/
theorem rd_catT {as bs : List PyData} (hz : as.length + bs.length ≤ sizeLine) : RD K Θ (rCatA K) (.d (.tuple as)) (.d (.tuple bs)) (.d (.tuple (as ++ bs))) := fun B A H v w Q o q1 q2 k => by
  obtain ⟨a, xs, rfl, hs, ha⟩ := dx_tup q1
  obtain ⟨b, ys, rfl, ht, hb⟩ := dx_tup q2
  have la := dxAll_len ha
  have lb := dxAll_len hb
  refine ⟨a, b, xs, ys, rfl, rfl, same_t o.le hs, same_t o.le ht, by omega, fun e => ?_, fun _ e => ?_, fun _ _ p np => ?_⟩
  · have : as = [] := List.eq_nil_of_length_eq_zero (by rw [← la, e]; rfl)
    subst this
    exact k _ H (Same.refl H) (.tup ht hb)
  · have : bs = [] := List.eq_nil_of_length_eq_zero (by rw [← lb, e]; rfl)
    subst this
    rw [List.append_nil] at k
    exact k _ H (Same.refl H) (.tup hs ha)
  · refine k _ _ (Same.new np) (.tup (xs := xs ++ ys) (SqT.of ?_) (dxAll_same (same_mask (Same.new np) fun _ _ m => m) (dxAll_append ha hb)))
    rw [mask_no (o.free np)]
    exact upd_same
theorem rep_dx {xs : List V} {ds : List PyData} (h : DxAll K H xs ds) : ∀ n, DxAll K H (List.replicate n xs).flatten (List.replicate n ds).flatten
  | 0 => .nil
  | n + 1 => by
    rw [List.replicate_succ, List.replicate_succ, List.flatten_cons, List.flatten_cons]
    exact dxAll_append h (rep_dx h n)
theorem rd_repT {ds : List PyData} {n : Int} (h1 : -1000 ≤ n) (h2 : n ≤ 1000) (hz : ds.length ≤ 1000) : RD K Θ (rRepA K) (.d (.tuple ds)) (.d (.int n)) (.d (.tuple (List.replicate n.toNat ds).flatten)) := fun B A H v w Q o q1 q2 k => by
  obtain ⟨a, xs, rfl, hs, ha⟩ := dx_tup q1
  have la := dxAll_len ha
  refine ⟨a, n, xs, rfl, dx_int q2, same_t o.le hs, h1, h2, by omega, fun e => ?_, fun _ p np => ?_⟩
  · have e2 : (List.replicate n.toNat ds).flatten = ds := by
      rcases e with e | e
      · have : ds = [] := List.eq_nil_of_length_eq_zero (by rw [← la, e]; rfl)
        subst this
        simp
      · subst e
        simp
    rw [e2] at k
    exact k _ H (Same.refl H) (.tup hs ha)
  · refine k _ _ (Same.new np) (.tup (xs := (List.replicate n.toNat xs).flatten) (SqT.of ?_) (dxAll_same (same_mask (Same.new np) fun _ _ m => m) (rep_dx ha _)))
    rw [mask_no (o.free np)]
    exact upd_same

theorem rd_repS {a : Str} {n : Int} (h1 : -1000 ≤ n) (h2 : n ≤ 1000) (h3 : a.length ≤ 1000) : RD K Θ rRepS (.d (.str a)) (.d (.int n)) (.d (.str (repS a n))) := fun B A H v w Q o q1 q2 k =>
  ⟨a, n, dx_str q1, dx_int q2, h1, h2, h3, k _ H (Same.refl H) (.str _)⟩
/-! ### calls of built-ins -/
def CD (K : PySem.W.Frag) (Θ : Th) (r : List V → Hp → VK → Prop) (xs : List El) (z : El) : Prop := ∀ (B : Addr → Prop) A H vs (Q : VK), Own K B A H Θ → Paired (ElOk K B A H) vs xs →
  (∀ u H', Same H H' → ElOk K B A H' u z → Q u H') → r vs H Q
theorem ev_cb {r : List V → Hp → VK → Prop} {ta : TA} {xs : List El} (h : AV K ta Γ Θ xs) (hr : CD K Θ r xs z) : EV K (tCB r ta) Γ Θ z := fun B A σ H Q e k =>
  h B A σ H _ e fun vs H1 s1 o1 => hr B A H1 vs Q (e.pure s1).own o1 fun u H2 s2 o2 => k u H2 (s1.trans s2) o2
theorem cd_l {r r' : List V → Hp → VK → Prop} {xs : List El} (h : CD K Θ r xs z) : CD K Θ (fun xs H Q => r xs H Q ∨ r' xs H Q) xs z := fun B A H vs Q o p k => .inl (h B A H vs Q o p k)
theorem cd_r {r r' : List V → Hp → VK → Prop} {xs : List El} (h : CD K Θ r' xs z) : CD K Θ (fun xs H Q => r xs H Q ∨ r' xs H Q) xs z := fun B A H vs Q o p k => .inr (h B A H vs Q o p k)
theorem one_el {vs : List V} (h : Paired (ElOk K B A H) vs [x]) : ∃ v, vs = [v] ∧ ElOk K B A H v x := by
  cases h with | cons a t => cases t; exact ⟨_, rfl, a⟩
abbrev rLenSq (K : PySem.W.Frag) : List V → Hp → VK → Prop := fun xs H Q => ∃ p ys, xs = [V.ref p] ∧ (SqL K H p ys ∨ SqT K H p ys) ∧ Q (.int ys.length) H
theorem cd_lenT {ds : List PyData} : CD K Θ (rLenSq K) [.d (.tuple ds)] (.d (.int ds.length)) := fun B A H vs Q o p k => by
  obtain ⟨v, rfl, h⟩ := one_el p
  obtain ⟨a, xs, rfl, hs, ha⟩ := dx_tup h
  exact ⟨a, xs, rfl, .inr (same_t o.le hs), by rw [dxAll_len ha]; exact k _ H (Same.refl H) (.int _)⟩
theorem cd_lenL {ds : List PyData} : CD K Θ (rLenSq K) [.d (.list ds)] (.d (.int ds.length)) := fun B A H vs Q o p k => by
  obtain ⟨v, rfl, h⟩ := one_el p
  obtain ⟨a, xs, rfl, hs, ha⟩ := dx_lst h
  exact ⟨a, xs, rfl, .inl (same_l o.le hs), by rw [dxAll_len ha]; exact k _ H (Same.refl H) (.int _)⟩
theorem cd_lenO {k : Nat} {es : List El} (hk : Θ[k]? = some (.lst es)) : CD K Θ (rLenSq K) [.at k] (.d (.int es.length)) := fun B A H vs Q o p kk => by
  obtain ⟨v, rfl, h⟩ := one_el p
  obtain ⟨a, xs, rfl, _, hp, hv⟩ := o.lst hk h
  exact ⟨a, xs, rfl, .inl (SqL.of hp), by rw [paired_len hv]; exact kk _ H (Same.refl H) (.int _)⟩
theorem cd_lenS {s : Str} (hz : s.length ≤ sizeLine) : CD K Θ (fun xs H Q => ∃ z, xs = [V.str z] ∧ z.length ≤ sizeLine ∧ Q (.int z.length) H) [.d (.str s)] (.d (.int s.length)) := fun B A H vs Q o p k => by
  obtain ⟨v, rfl, h⟩ := one_el p
  exact ⟨s, by rw [dx_str h], hz, k _ H (Same.refl H) (.int _)⟩
theorem cd_strI {i : Int} (hz : i.natAbs.log2 < 1920) : CD K Θ (fun xs H Q => ∃ i, xs = [V.int i] ∧ i.natAbs.log2 < 1920 ∧ Q (.str (toString i)) H) [.d (.int i)] (.d (.str (toString i))) := fun B A H vs Q o p k => by
  obtain ⟨v, rfl, h⟩ := one_el p
  exact ⟨i, by rw [dx_int h], hz, k _ H (Same.refl H) (.str _)⟩
theorem cd_intS {s : Str} {n : Int} (hn : PySem.intText? s = some n) (hz : s.length ≤ 640) : CD K Θ (fun xs H Q => ∃ a n, xs = [V.str a] ∧ PySem.intText? a = some n ∧ a.length ≤ 640 ∧ Q (.int n) H) [.d (.str s)] (.d (.int n)) := fun B A H vs Q o p k => by
  obtain ⟨v, rfl, h⟩ := one_el p
  exact ⟨s, n, by rw [dx_str h], hn, hz, k _ H (Same.refl H) (.int _)⟩
theorem cd_intB {b : Bool} : CD K Θ (fun xs H Q => (∃ i, xs = [V.int i] ∧ Q (.int i) H) ∨ ∃ k, xs = [V.bl k] ∧ Q (.int (if k then 1 else 0)) H) [.d (.bool b)] (.d (.int (if b then 1 else 0))) := fun B A H vs Q o p k => by
  obtain ⟨v, rfl, h⟩ := one_el p
  exact .inr ⟨b, by rw [dx_bl h], k _ H (Same.refl H) (.int _)⟩
theorem cd_abs {i : Int} : CD K Θ (fun xs H Q => ∃ i, xs = [V.int i] ∧ Q (.int (if i < 0 then -i else i)) H) [.d (.int i)] (.d (.int (if i < 0 then -i else i))) := fun B A H vs Q o p k => by
  obtain ⟨v, rfl, h⟩ := one_el p
  exact ⟨i, by rw [dx_int h], k _ H (Same.refl H) (.int _)⟩
theorem two_el {vs : List V} (h : Paired (ElOk K B A H) vs [x, y]) : ∃ v w, vs = [v, w] ∧ ElOk K B A H v x ∧ ElOk K B A H w y := by
  cases h with | cons a t => cases t with | cons b t => cases t; exact ⟨_, _, rfl, a, b⟩
theorem cd_min {i j : Int} : CD K Θ (fun xs H Q => ∃ i j, xs = [V.int i, V.int j] ∧ Q (.int (if j < i then j else i)) H) [.d (.int i), .d (.int j)] (.d (.int (if j < i then j else i))) := fun B A H vs Q o p k => by
  obtain ⟨v, w, rfl, h, h'⟩ := two_el p
  exact ⟨i, j, by rw [dx_int h, dx_int h'], k _ H (Same.refl H) (.int _)⟩
theorem cd_max {i j : Int} : CD K Θ (fun xs H Q => ∃ i j, xs = [V.int i, V.int j] ∧ Q (.int (if j > i then j else i)) H) [.d (.int i), .d (.int j)] (.d (.int (if j > i then j else i))) := fun B A H vs Q o p k => by
  obtain ⟨v, w, rfl, h, h'⟩ := two_el p
  exact ⟨i, j, by rw [dx_int h, dx_int h'], k _ H (Same.refl H) (.int _)⟩
theorem cd_all {bs : List Bool} : CD K Θ (rAll K) [.d (.list (bs.map .bool))] (.d (.bool (bs.all id))) := fun B A H vs Q o p k => by
  obtain ⟨v, rfl, h⟩ := one_el p
  obtain ⟨a, xs, rfl, hs, ha⟩ := dx_lst h
  have := dxAll_bools ha
  subst this
  exact ⟨a, bs, rfl, same_l o.le hs, k _ H (Same.refl H) (.bl _)⟩
theorem cd_any {bs : List Bool} : CD K Θ (rAny K) [.d (.list (bs.map .bool))] (.d (.bool (bs.any id))) := fun B A H vs Q o p k => by
  obtain ⟨v, rfl, h⟩ := one_el p
  obtain ⟨a, xs, rfl, hs, ha⟩ := dx_lst h
  have := dxAll_bools ha
  subst this
  exact ⟨a, bs, rfl, same_l o.le hs, k _ H (Same.refl H) (.bl _)⟩
theorem cd_repr {d : PyData} (h1 : d.showable = true) (h2 : d.hasDict = false) (h3 : d.depth ≤ 8) (h4 : d.shown.length ≤ sizeLine) : CD K Θ (rRepr K) [.d d] (.d (.str d.shown)) := fun B A H vs Q o p k => by
  obtain ⟨v, rfl, h⟩ := one_el p
  exact ⟨v, d, rfl, (dx_same o.le h).dp, h1, h2, h3, h4, k _ H (Same.refl H) (.str _)⟩
abbrev rTupOf (K : PySem.W.Frag) : List V → Hp → VK → Prop := fun xs H Q => ∃ p ys, xs = [V.ref p] ∧ ((SqL K H p ys ∧ ∀ l, H l = none → Q (.ref l) (upd H l (.tup ys))) ∨ (SqT K H p ys ∧ Q (.ref p) H))
theorem cd_tupL {ds : List PyData} : CD K Θ (rTupOf K) [.d (.list ds)] (.d (.tuple ds)) := fun B A H vs Q o p k => by
  obtain ⟨v, rfl, h⟩ := one_el p
  obtain ⟨a, xs, rfl, hs, ha⟩ := dx_lst h
  refine ⟨a, xs, rfl, .inl ⟨same_l o.le hs, fun l nl => k _ _ (Same.new nl) (.tup (xs := xs) (SqT.of ?_) (dxAll_same (same_mask (Same.new nl) fun _ _ m => m) ha))⟩⟩
  rw [mask_no (o.free nl)]
  exact upd_same
theorem cd_tupT {ds : List PyData} : CD K Θ (rTupOf K) [.d (.tuple ds)] (.d (.tuple ds)) := fun B A H vs Q o p k => by
  obtain ⟨v, rfl, h⟩ := one_el p
  obtain ⟨a, xs, rfl, hs, ha⟩ := dx_tup h
  exact ⟨a, xs, rfl, .inr ⟨same_t o.le hs, k _ H (Same.refl H) h⟩⟩
theorem cd_tupO {k : Nat} {ds : List PyData} (hk : Θ[k]? = some (.lst (ds.map .d))) : CD K Θ (rTupOf K) [.at k] (.d (.tuple ds)) := fun B A H vs Q o p kk => by
  obtain ⟨v, rfl, h⟩ := one_el p
  obtain ⟨a, xs, rfl, _, hp, hv⟩ := o.lst hk h
  refine ⟨a, xs, rfl, .inl ⟨SqL.of hp, fun l nl => kk _ _ (Same.new nl) (.tup (xs := xs) (SqT.of ?_) (dxAll_same (same_mask (Same.new nl) fun _ _ m => m) (paired_dx hv)))⟩⟩
  rw [mask_no (o.free nl)]
  exact upd_same
/-- list(..): a new list -/
abbrev rLstOf (K : PySem.W.Frag) : List V → Hp → VK → Prop := fun xs H Q => ∃ p ys, xs = [V.ref p] ∧ (SqL K H p ys ∨ SqT K H p ys) ∧ ∀ l, H l = none → Q (.ref l) (upd H l (.lst ys))
theorem en_new {v : List V} {es : List El} {p : Addr} (o : Own K B A H Θ) (np : H p = none) (h : Paired (ElOk K B A H) v es) : OdOk K (fun a => B a ∨ a = p) A (upd H p (.lst v)) (.lst v) (.lst es) :=
  paired_mono h fun u e q => q.more (fun a n m => m.elim id fun z => by rw [z] at n; exact absurd np n) (Same.new np)
theorem en_listO {ta : TA} {k : Nat} {es : List El} (h : AV K ta Γ Θ [.at k]) (hk : Θ[k]? = some (.lst es)) : EN K (tCB (rLstOf K) ta) Γ Θ (.lst es) := fun B A σ H Q e kk => h B A σ H _ e fun vs H1 s1 o1 => by
  obtain ⟨v, rfl, h⟩ := one_el o1
  have o := (e.pure s1).own
  obtain ⟨a, xs, rfl, _, hp, hv⟩ := o.lst hk h
  exact ⟨a, xs, rfl, .inl (SqL.of hp), fun l nl => kk l (.lst xs) _ (Same.free s1 nl) (s1.trans (Same.new nl)) upd_same (en_new o nl hv)⟩
theorem en_listL {ta : TA} {ds : List PyData} (h : AV K ta Γ Θ [.d (.list ds)]) : EN K (tCB (rLstOf K) ta) Γ Θ (.lst (ds.map .d)) := fun B A σ H Q e kk => h B A σ H _ e fun vs H1 s1 o1 => by
  obtain ⟨v, rfl, h⟩ := one_el o1
  have o := (e.pure s1).own
  obtain ⟨a, xs, rfl, hs, ha⟩ := dx_lst h
  exact ⟨a, xs, rfl, .inl (same_l o.le hs), fun l nl => kk l (.lst xs) _ (Same.free s1 nl) (s1.trans (Same.new nl)) upd_same (en_new o nl (dx_paired ha))⟩
theorem en_listT {ta : TA} {ds : List PyData} (h : AV K ta Γ Θ [.d (.tuple ds)]) : EN K (tCB (rLstOf K) ta) Γ Θ (.lst (ds.map .d)) := fun B A σ H Q e kk => h B A σ H _ e fun vs H1 s1 o1 => by
  obtain ⟨v, rfl, h⟩ := one_el o1
  have o := (e.pure s1).own
  obtain ⟨a, xs, rfl, hs, ha⟩ := dx_tup h
  exact ⟨a, xs, rfl, .inr (same_t o.le hs), fun l nl => kk l (.lst xs) _ (Same.free s1 nl) (s1.trans (Same.new nl)) upd_same (en_new o nl (dx_paired ha))⟩

/-! ### enumerate, zip -/
/-- pairs of a new tuple each -/
theorem pair_dx {M0 M : Addr → Prop} {H1 H' : Hp} {T : Addr} {a b : V} {x y : PyData} (nT : H' T = none) (l : Lets M0 H1 H' M) (ha : Dx K (mask M H') a x) (hb : Dx K (mask M H') b y) : Dx K (mask M (upd H' T (.tup [a, b]))) (.ref T) (.tuple [x, y]) := by
  have nM : ¬ M T := fun m => l.2 T m nT
  have sm : Same (mask M H') (mask M (upd H' T (.tup [a, b]))) := same_mask (Same.new nT) fun _ _ m => m
  exact .tup (xs := [a, b]) (SqT.of (by rw [mask_no nM]; exact upd_same)) (.cons (dx_same sm ha) (.cons (dx_same sm hb) .nil))
theorem wd_enumL {H1 : Hp} {a : Addr} {vs : List V} {ds : List PyData} {M0 : Addr → Prop} (ha : SqL K (mask M0 H1) a vs) (hd : DxAll K (mask M0 H1) vs ds) : WD K (Ite K a) (Weak M0 H1) M0 H1 (ds.zipIdx.map fun p => .tuple [.int (p.2 : Nat), p.1]) := by
  have hl := dxAll_len hd
  have sq : ∀ H', Weak M0 H1 H' → SqL K H' a vs := fun H' c => same_l (fun b o h => by
    obtain ⟨n, q⟩ := mask_some h
    exact c b o q n) ha
  refine ⟨fun i H' hi c => ?_, fun H' c => ⟨vs, sq H' c, by simp; omega⟩, fun i H' v H'' hi c y => ?_⟩
  · simp at hi
    exact ⟨vs, vs[i]'(by omega), sq H' c, by simp [show i < vs.length by omega]⟩
  · obtain ⟨T, x, rfl, nT, rfl, f⟩ := y
    refine ⟨Same.new nT, fun M l => ?_⟩
    obtain ⟨d, h1, h2⟩ := dxAll_get' hd (f vs (sq _ c))
    exact ⟨.tuple [.int (i : Nat), d], by simp [h1], pair_dx nT l (.int _) (dx_same (lets_same l.1 c) h2)⟩
theorem wd_enumT {H1 : Hp} {a : Addr} {vs : List V} {ds : List PyData} {M0 : Addr → Prop} (ha : SqT K (mask M0 H1) a vs) (hd : DxAll K (mask M0 H1) vs ds) : WD K (IteT K a) (Weak M0 H1) M0 H1 (ds.zipIdx.map fun p => .tuple [.int (p.2 : Nat), p.1]) := by
  have hl := dxAll_len hd
  have sq : ∀ H', Weak M0 H1 H' → SqT K H' a vs := fun H' c => same_t (fun b o h => by
    obtain ⟨n, q⟩ := mask_some h
    exact c b o q n) ha
  refine ⟨fun i H' hi c => ?_, fun H' c => ⟨vs, sq H' c, by simp; omega⟩, fun i H' v H'' hi c y => ?_⟩
  · simp at hi
    exact ⟨vs, vs[i]'(by omega), sq H' c, by simp [show i < vs.length by omega]⟩
  · obtain ⟨T, x, rfl, nT, rfl, f⟩ := y
    refine ⟨Same.new nT, fun M l => ?_⟩
    obtain ⟨d, h1, h2⟩ := dxAll_get' hd (f vs (sq H' c))
    exact ⟨.tuple [.int (i : Nat), d], by simp [h1], pair_dx nT l (.int _) (dx_same (lets_same l.1 c) h2)⟩
theorem iv_enumL {ta : TA} {ds : List PyData} {w' : TI} (h : AV K ta Γ Θ [.d (.list ds)]) : IV K (iOr (iEnum K ta) w') Γ Θ (ds.zipIdx.map fun p => .tuple [.int (p.2 : Nat), p.1]) := iv_l fun B A σ H R e k => h B A σ H _ e fun vs H1 s1 o1 => by
  obtain ⟨v, rfl, h⟩ := one_el o1
  obtain ⟨a, xs, rfl, hs, ha⟩ := dx_lst h
  exact ⟨a, xs, rfl, same_l mask_le hs, k _ H1 s1 (wd_enumL hs ha)⟩
theorem iv_enumT {ta : TA} {ds : List PyData} {w : TI} (h : AV K ta Γ Θ [.d (.tuple ds)]) : IV K (iOr w (fun σ H R => ta σ H fun vs H1 => ∃ a xs, vs = [.ref a] ∧ SqT K H1 a xs ∧ R (IteT K a) H1)) Γ Θ (ds.zipIdx.map fun p => .tuple [.int (p.2 : Nat), p.1]) := iv_r fun B A σ H R e k => h B A σ H _ e fun vs H1 s1 o1 => by
  obtain ⟨v, rfl, h⟩ := one_el o1
  obtain ⟨a, xs, rfl, hs, ha⟩ := dx_tup h
  exact ⟨a, xs, rfl, same_t mask_le hs, k _ H1 s1 (wd_enumT hs ha)⟩

/-! ### texts -/
theorem ev_m1 {r : V → List V → Hp → VK → Prop} {a : Str} {y z : El} (ha : EV K ta Γ Θ (.d (.str a))) (hb : EV K tb Γ Θ y) (hr : ∀ (B : Addr → Prop) A H w (Q : VK), Own K B A H Θ → ElOk K B A H w y → (∀ u H', Same H H' → ElOk K B A H' u z → Q u H') → r (.str a) [w] H Q) : EV K (tM1 r ta tb) Γ Θ z := fun B A σ H Q e k =>
  ha B A σ H _ e fun v H1 s1 o1 => by
    have := dx_str o1
    subst this
    exact ⟨⟨a, rfl⟩, hb B A σ H1 _ (e.pure s1) fun w H2 s2 o2 => hr B A H2 w Q ((e.pure s1).pure s2).own o2 fun u H3 s3 o3 => k u H3 ((s1.trans s2).trans s3) o3⟩
theorem ev_partition {a b : Str} (ha : EV K ta Γ Θ (.d (.str a))) (hb : EV K tb Γ Θ (.d (.str b))) (h1 : (b.length == 0) = false) (h2 : a.length ≤ sizeLine) : EV K (tM1 (fun x xs H Q => ∃ a b, x = .str a ∧ xs = [.str b] ∧ (b.length == 0) = false ∧ a.length ≤ sizeLine ∧
      ∀ p, H p = none → Q (.ref p) (upd H p (.tup [.str (Txt.partition a b).1, .str (Txt.partition a b).2.1, .str (Txt.partition a b).2.2]))) ta tb) Γ Θ (.d (.tuple [.str (Txt.partition a b).1, .str (Txt.partition a b).2.1, .str (Txt.partition a b).2.2])) :=
  ev_m1 ha hb fun B A H w Q o q k => ⟨a, b, rfl, by rw [dx_str q], h1, h2, fun p np => k _ _ (Same.new np) (.tup (xs := [_, _, _]) (SqT.of (by rw [mask_no (o.free np)]; exact upd_same)) (.cons (.str _) (.cons (.str _) (.cons (.str _) .nil))))⟩
abbrev rSplit : V → List V → Hp → VK → Prop := fun x xs H Q => ∃ a b, x = .str a ∧ xs = [.str b] ∧ (b.length == 0) = false ∧ a.length + 2 ≤ sizeLine ∧ rNewStrs (Txt.split a b) H Q
theorem en_split {a b : Str} (ha : EV K ta Γ Θ (.d (.str a))) (hb : EV K tb Γ Θ (.d (.str b))) (h1 : (b.length == 0) = false) (h2 : a.length + 2 ≤ sizeLine) : EN K (tM1 rSplit ta tb) Γ Θ (.lst (((Txt.split a b).map PyData.str).map .d)) := fun B A σ H Q e k =>
  ha B A σ H _ e fun v H1 s1 o1 => by
    have := dx_str o1
    subst this
    refine ⟨⟨a, rfl⟩, hb B A σ H1 _ (e.pure s1) fun w H2 s2 o2 => ⟨a, b, rfl, by rw [dx_str o2], h1, h2, fun p np => ?_⟩⟩
    exact k p _ _ (Same.free (s1.trans s2) np) ((s1.trans s2).trans (Same.new np)) upd_same (en_new ((e.pure s1).pure s2).own np (dx_paired (dxAll_of_strs _)))
theorem ev_in_sign {c : Nat} {z : Str} : RD K Θ (fun x y H Q => ∃ (c : Nat) (z : Str), x = .str ⟨#[c]⟩ ∧ y = .str z ∧ Q (.bl (decide (c ∈ z.cps.toList))) H) (.d (.str ⟨#[c]⟩)) (.d (.str z)) (.d (.bool (decide (c ∈ z.cps.toList)))) := fun B A H v w Q o q1 q2 k =>
  ⟨c, z, dx_str q1, dx_str q2, k _ H (Same.refl H) (.bl _)⟩
/-- slices -/
def OV (K : PySem.W.Frag) (to : TO) (Γ : Gm) (Θ : Th) (o : Option Int) : Prop := ∀ (B : Addr → Prop) A σ H (Q : Option Int → Hp → Prop), En K B A H σ Γ Θ → (∀ H', Same H H' → Q o H') → to σ H Q
theorem ov_none : OV K tNoPart Γ Θ none := fun B A σ H Q e k => k H (Same.refl H)
theorem ov_some {i : Int} (h : EV K te Γ Θ (.d (.int i))) : OV K (tPart te) Γ Θ (some i) := fun B A σ H Q e k => h B A σ H _ e fun v H1 s1 o1 => ⟨i, dx_int o1, k H1 s1⟩
theorem ev_slS {tl th : TO} {z : Str} {lo hi : Option Int} {r : V → Option Int → Option Int → Hp → VK → Prop} (h : EV K te Γ Θ (.d (.str z))) (h1 : OV K tl Γ Θ lo) (h2 : OV K th Γ Θ hi) (hz : z.length ≤ sizeLine) : EV K (tSl (fun x lo hi H Q => rSlS x lo hi H Q ∨ r x lo hi H Q) te tl th) Γ Θ (.d (.str (cutS z lo hi))) := fun B A σ H Q e k =>
  h B A σ H _ e fun v H1 s1 o1 => h1 B A σ H1 _ (e.pure s1) fun H2 s2 => h2 B A σ H2 _ ((e.pure s1).pure s2) fun H3 s3 => .inl ⟨z, dx_str o1, hz, k _ H3 ((s1.trans s2).trans s3) (.str _)⟩
def cutD {α : Type} (xs : List α) (lo hi : Option Int) : List α := (xs.drop (HT.sIx xs.length 0 lo)).take (HT.sIx xs.length xs.length hi - HT.sIx xs.length 0 lo)
theorem cut_dx {xs : List V} {ds : List PyData} {lo hi : Option Int} (h : DxAll K H xs ds) : DxAll K H (cutV xs lo hi) (cutD ds lo hi) := by
  unfold cutV cutD
  rw [dxAll_len h]
  exact dxAll_take _ (dxAll_drop _ h)
theorem ev_slT {tl th : TO} {ds : List PyData} {lo hi : Option Int} {r r' : V → Option Int → Option Int → Hp → VK → Prop} (h : EV K te Γ Θ (.d (.tuple ds))) (h1 : OV K tl Γ Θ lo) (h2 : OV K th Γ Θ hi) : EV K (tSl (fun x lo hi H Q => r x lo hi H Q ∨ (fun x lo hi H Q => rSlA K x lo hi H Q ∨ r' x lo hi H Q) x lo hi H Q) te tl th) Γ Θ (.d (.tuple (cutD ds lo hi))) := fun B A σ H Q e k =>
  h B A σ H _ e fun v H1 s1 o1 => h1 B A σ H1 _ (e.pure s1) fun H2 s2 => h2 B A σ H2 _ ((e.pure s1).pure s2) fun H3 s3 => by
    obtain ⟨a, xs, rfl, hs, ha⟩ := dx_tup o1
    have e3 := ((e.pure s1).pure s2).pure s3
    have sm : Same (mask (hid B A) H1) (mask (hid B A) H3) := same_mask (s2.trans s3) fun _ _ m => m
    refine .inr (.inl ⟨a, xs, rfl, same_t mask_le (same_t sm hs), fun c => ?_, fun c p np => ?_⟩)
    · have e2 : cutD ds lo hi = ds := by
        unfold cutD
        rw [← dxAll_len ha, c.1, c.2, List.drop_zero, Nat.sub_zero, dxAll_len ha, List.take_length]
      rw [e2] at k
      exact k _ H3 ((s1.trans s2).trans s3) (.tup (same_t sm hs) (dxAll_same sm ha))
    · exact k _ _ (((s1.trans s2).trans s3).trans (Same.new np)) (.tup (xs := cutV xs lo hi) (SqT.of (by rw [mask_no (e3.own.free np)]; exact upd_same)) (dxAll_same (same_mask (Same.new np) fun _ _ m => m) (cut_dx (dxAll_same sm ha))))
theorem en_slL {tl th : TO} {ds : List PyData} {lo hi : Option Int} {r r' : V → Option Int → Option Int → Hp → VK → Prop} (h : EV K te Γ Θ (.d (.list ds))) (h1 : OV K tl Γ Θ lo) (h2 : OV K th Γ Θ hi) : EN K (tSl (fun x lo hi H Q => r x lo hi H Q ∨ (fun x lo hi H Q => r' x lo hi H Q ∨ rSlL K x lo hi H Q) x lo hi H Q) te tl th) Γ Θ (.lst ((cutD ds lo hi).map .d)) := fun B A σ H Q e k =>
  h B A σ H _ e fun v H1 s1 o1 => h1 B A σ H1 _ (e.pure s1) fun H2 s2 => h2 B A σ H2 _ ((e.pure s1).pure s2) fun H3 s3 => by
    obtain ⟨a, xs, rfl, hs, ha⟩ := dx_lst o1
    have e3 := ((e.pure s1).pure s2).pure s3
    have sm : Same (mask (hid B A) H1) (mask (hid B A) H3) := same_mask (s2.trans s3) fun _ _ m => m
    exact .inr (.inr ⟨a, xs, rfl, same_l mask_le (same_l sm hs), fun p np => k p _ _ (Same.free ((s1.trans s2).trans s3) np) (((s1.trans s2).trans s3).trans (Same.new np)) upd_same (en_new e3.own np (dx_paired (cut_dx (dxAll_same sm ha))))⟩)
end
end DL

namespace DL
open PySem PySem.Spec PyProof.Rows L2
section
variable {K : PySem.W.Frag} {B : Addr → Prop} {A A' : List (Option Addr)} {H H' : Hp} {Γ Γ' : Gm} {Θ Θ' : Th} {σ σ' : L2.St} {x y z : El} {te ta tb : TE} {tt : TT}
def unD : El → PyData
  | .d x => x
  | .at _ => .none
  | .raw _ => .none
  | .exc _ _ _ => .none
theorem ev_callX {n : Nat} {pf : List PyData → PyData → Prop} {ta : TA} {xs : List El} {r : PyData} {E' : XK} (ha : AV K ta Γ Θ xs) (hp : pf (xs.map unD) r) (hx : (xs.map unD).map .d = xs := by rfl) (hn : (xs.map unD).length = n := by rfl) : EV K (tCall (spP K n pf) [] E' ta) Γ Θ (.d r) :=
  ev_call (ds := xs.map unD) (by rw [hx]; exact ha) hp hn
theorem ev_tupX {ta : TA} {xs : List El} (h : AV K ta Γ Θ xs) (hz : xs.length ≤ sizeLine := by show _ ≤ sizeLine; decide) (hx : (xs.map unD).map .d = xs := by rfl) : EV K (tTup ta) Γ Θ (.d (.tuple (xs.map unD))) :=
  ev_tup (by rw [hx]; exact h) (by simpa using hz)
/-- a display, frozen -/
theorem ev_lstX {ta : TA} {xs : List El} (h : AV K ta Γ Θ xs) (hz : xs.length ≤ sizeLine := by show _ ≤ sizeLine; decide) (hx : (xs.map unD).map .d = xs := by rfl) : EV K (tLst ta) Γ Θ (.d (.list (xs.map unD))) :=
  EN.ev ((en_lst h hz).is (by rw [hx]))
/-- == of scalars, of data -/
theorem ox_eq {X : Cx} (hu : X.A.units + 64 < cLine) : OpR X (compareOp .Eq) (fun x y H Q => rEq x y H Q ∨ rEqD X.K x y H Q) := OpR.or op_eq (op_eqD hu)
theorem ox_ne {X : Cx} (hu : X.A.units + 64 < cLine) : OpR X (compareOp .NotEq) (fun x y H Q => rNe x y H Q ∨ rNeD X.K x y H Q) := OpR.or op_ne (op_neD hu)
theorem rd_eqI {i j : Int} : RD K Θ rEq (.d (.int i)) (.d (.int j)) (.d (.bool (decide (i = j)))) := fun B A H v w Q o q1 q2 k => by
  have e1 := dx_int q1
  have e2 := dx_int q2
  subst e1 e2
  refine ⟨rfl, ?_⟩
  have : decide (V.int i = V.int j) = decide (i = j) := by simp
  rw [this]
  exact k _ H (Same.refl H) (.bl _)
theorem rd_neI {i j : Int} : RD K Θ rNe (.d (.int i)) (.d (.int j)) (.d (.bool (!decide (i = j)))) := fun B A H v w Q o q1 q2 k => by
  have e1 := dx_int q1
  have e2 := dx_int q2
  subst e1 e2
  refine ⟨rfl, ?_⟩
  have : decide (V.int i = V.int j) = decide (i = j) := by simp
  rw [this]
  exact k _ H (Same.refl H) (.bl _)
theorem rd_eqS {i j : Str} : RD K Θ rEq (.d (.str i)) (.d (.str j)) (.d (.bool (decide (i = j)))) := fun B A H v w Q o q1 q2 k => by
  have e1 := dx_str q1
  have e2 := dx_str q2
  subst e1 e2
  refine ⟨rfl, ?_⟩
  have : decide (V.str i = V.str j) = decide (i = j) := by simp
  rw [this]
  exact k _ H (Same.refl H) (.bl _)
theorem rd_neS {i j : Str} : RD K Θ rNe (.d (.str i)) (.d (.str j)) (.d (.bool (!decide (i = j)))) := fun B A H v w Q o q1 q2 k => by
  have e1 := dx_str q1
  have e2 := dx_str q2
  subst e1 e2
  refine ⟨rfl, ?_⟩
  have : decide (V.str i = V.str j) = decide (i = j) := by simp
  rw [this]
  exact k _ H (Same.refl H) (.bl _)
theorem rd_eqB {i j : Bool} : RD K Θ rEq (.d (.bool i)) (.d (.bool j)) (.d (.bool (decide (i = j)))) := fun B A H v w Q o q1 q2 k => by
  have e1 := dx_bl q1
  have e2 := dx_bl q2
  subst e1 e2
  refine ⟨rfl, ?_⟩
  have : decide (V.bl i = V.bl j) = decide (i = j) := by simp
  rw [this]
  exact k _ H (Same.refl H) (.bl _)
/-- a comprehension without a test, the target a name -/
theorem made_all {α : Type} (l : List α) (f : α → PyData) : made l (fun _ => true) f = l.map f := by
  unfold made
  rw [List.filter_eq_self.mpr (fun _ _ => rfl)]
theorem en_map {α : Type} {wi : TI} {j : Nat} {l : List α} {en : α → PyData} {f : α → PyData} (hi : IS K wi Γ Θ (l.map en)) (he : ∀ a ∈ l, EV K te ((Γ.set j none).set j (some (.d (en a)))) Θ (.d (f a))) (hz : l.length < sizeLine) :
    EN K (tLc wi (gName j) tYes te [j]) Γ Θ (.lst ((l.map f).map .d)) :=
  (en_lc (p := fun _ => true) (Γx := fun a => (wipeG Γ [j]).set j (some (.d (en a)))) (js := [j]) hi hz (fun a _ => gv_name) (fun _ h => h) (fun _ _ => tv_yes) (fun a m _ => he a m)).is (by rw [made_all])
theorem en_filt {α : Type} {wi : TI} {j : Nat} {l : List α} {en : α → PyData} {f : α → PyData} {p : α → Bool} (hi : IS K wi Γ Θ (l.map en)) (ht : ∀ a ∈ l, TV K tt ((Γ.set j none).set j (some (.d (en a)))) Θ (p a))
    (he : ∀ a ∈ l, p a = true → EV K te ((Γ.set j none).set j (some (.d (en a)))) Θ (.d (f a))) (hz : l.length < sizeLine) : EN K (tLc wi (gName j) tt te [j]) Γ Θ (.lst ((made l p f).map .d)) :=
  en_lc (Γx := fun a => (wipeG Γ [j]).set j (some (.d (en a)))) (js := [j]) hi hz (fun a _ => gv_name) (fun _ h => h) ht he
end
/-- sizes -/
theorem lt_sizeLine {n : Nat} (h : n < 100000) : n < sizeLine := Nat.lt_of_lt_of_le h (by decide)
theorem le_sizeLine {n : Nat} (h : n ≤ 100000) : n ≤ sizeLine := Nat.le_trans h (by decide)
/-- flat data -/
theorem canLay_ints : ∀ ns : List Int, PyData.canLayAll0 (ns.map .int) = true
  | [] => by simp [PyData.canLayAll0]
  | n :: ns => by simp [PyData.canLayAll0, PyData.canLay0, canLay_ints ns]
theorem depth_ints : ∀ ns : List Int, PyData.depthAll (ns.map .int) = 0
  | [] => by simp [PyData.depthAll]
  | n :: ns => by simp [PyData.depthAll, PyData.depth, depth_ints ns]
theorem shaped_ints (ns : List Int) : SeqAt.shaped (.list (ns.map .int)) = true ∧ SeqAt.shaped (.tuple (ns.map .int)) = true := by
  constructor <;> simp [SeqAt.shaped, PyData.canLay0, PyData.depth, canLay_ints, depth_ints]
end DL

/-! the rules with the written part named (within a comprehension's block) -/
namespace DL
open PySem PySem.Spec PyProof.Rows L2
section
variable {X : Cx} {K : PySem.W.Frag} (hK : X.K = K)
include hK
theorem kx_add : OpR X (binaryOp .Add) (fun x y H Q => (rI0 fun i j => .int (i + j)) x y H Q ∨ (fun x y H Q => (∃ i j, x = V.str i ∧ y = V.str j ∧ i.length + j.length ≤ sizeLine ∧ Q (.str (i ++ j)) H) ∨ (fun x y H Q => rCatA K x y H Q ∨ rCat x y H Q) x y H Q) x y H Q) := by subst hK; exact ox_add
theorem kx_mul : OpR X (binaryOp .Mult) (fun x y H Q => (rI CMulW fun i j => .int (i * j)) x y H Q ∨ (fun x y H Q => rRepA K x y H Q ∨ (fun x y H Q => rRep x y H Q ∨ rRepS x y H Q) x y H Q) x y H Q) := by subst hK; exact ox_mul
theorem kx_sl : SlR X (fun x lo hi H Q => rSlS x lo hi H Q ∨ (fun x lo hi H Q => rSlA K x lo hi H Q ∨ rSlL K x lo hi H Q) x lo hi H Q) := by subst hK; exact sx_any
theorem kx_len : CallR X (.builtin "len") (fun xs H Q => (∃ p ys, xs = [V.ref p] ∧ (SqL K H p ys ∨ SqT K H p ys) ∧ Q (.int ys.length) H) ∨ ∃ z, xs = [V.str z] ∧ z.length ≤ sizeLine ∧ Q (.int z.length) H) := by subst hK; exact cx_len
theorem kx_list : CallR X (.type "list") (fun xs H Q => ∃ p ys, xs = [V.ref p] ∧ (SqL K H p ys ∨ SqT K H p ys) ∧ ∀ l, H l = none → Q (.ref l) (upd H l (.lst ys))) := by subst hK; exact cx_list
theorem kx_tuple : CallR X (.type "tuple") (fun xs H Q => ∃ p ys, xs = [V.ref p] ∧ ((SqL K H p ys ∧ ∀ l, H l = none → Q (.ref l) (upd H l (.tup ys))) ∨ (SqT K H p ys ∧ Q (.ref p) H))) := by subst hK; exact call_tuple_of
theorem kx_ix : IxR X (rIx K) := by subst hK; exact ix_seq
theorem kx_eq (hu : X.A.units + 64 < cLine) : OpR X (compareOp .Eq) (fun x y H Q => rEq x y H Q ∨ rEqD K x y H Q) := by subst hK; exact ox_eq hu
theorem kx_ne (hu : X.A.units + 64 < cLine) : OpR X (compareOp .NotEq) (fun x y H Q => rNe x y H Q ∨ rNeD K x y H Q) := by subst hK; exact ox_ne hu
theorem kx_all (hc : X.calm = true) : CallR X (.builtin "all") (rAll K) := by subst hK; exact cr_all hc
theorem kx_any (hc : X.calm = true) : CallR X (.builtin "any") (rAny K) := by subst hK; exact cr_any hc
theorem kx_sum (hc : X.calm = true) : CallR X (.builtin "sum") (rSum K) := by subst hK; exact cr_sum hc
theorem kx_repr (hg : X.A.guards = some []) (hu : X.A.units + 64 < cLine) : CallR X (.builtin "repr") (rRepr K) := by subst hK; exact cx_repr hg hu
theorem kx_ilist {tg l : Expr} {tl : TE} (h : PE X l tl) : PI X tg l (iList K tl) := by subst hK; exact pi_list h
theorem kx_itup {tg l : Expr} {tl : TE} (h : PE X l tl) : PI X tg l (iTup K tl) := by subst hK; exact pi_tup h
theorem kx_enum {e : Expr} {ta : TA} {p pos tpos : Pos} {elts : List Expr} {kk : Nat} (hg : Gl X "enumerate") (hm : X.mg "enumerate" = none) (ha : PA X [e] ta) (hs : starEach [e] X.env = [(false, eval e X.env)] := by rfl) :
    PI X (.Tuple elts kk tpos) (.Call (.Name "enumerate" p) [e] [] pos) (iOr (iEnum K ta) (fun σ H R => ta σ H fun vs H1 => ∃ a xs, vs = [.ref a] ∧ SqT K H1 a xs ∧ R (IteT K a) H1)) := by subst hK; exact px_enum hg hm ha hs
theorem kx_zip {e e2 : Expr} {ta : TA} {p pos tpos : Pos} {elts : List Expr} {kk : Nat} (hg : Gl X "zip") (hm : X.mg "zip" = none) (ha : PA X [e, e2] ta)
    (hs : starEach [e, e2] X.env = (false, eval e X.env) :: starEach [e2] X.env := by rfl) (hpl : (backTo pos (starEach [e2] X.env)).any (·.1) = false := by rfl) :
    PI X (.Tuple elts kk tpos) (.Call (.Name "zip" p) [e, e2] [] pos) (RZ.iZipA K ta) := by subst hK; exact RZ.pi_zipA hg hm ha hs hpl
theorem kx_gtup {es : List Expr} {k : Nat} {t : TGs} {n : Nat} {pos : Pos} (hc : X.calm = true) (h : PGs X es t) (hn : (assignEach es X.env).length = n := by rfl) (hst : (assignEach es X.env).findIdx? (·.1) = none := by rfl) : PG X (.Tuple es k pos) (gTup K n t) := by subst hK; exact pg_tup hc h hn hst
end
end DL

namespace DL
open PySem PySem.Spec PyProof.Rows L2
section
variable {K : PySem.W.Frag} {E : WX} {B : Addr → Prop} {A A' : List (Option Addr)} {H H' : Hp} {Γ Γ' : Gm} {Θ Θ' : Th} {σ σ' : L2.St} {x y z : El} {te ta tb td ty tx : TE} {tt : TT} {P : Post}
theorem IV.cast {wi : TI} {xs ys : List PyData} (h : IV K wi Γ Θ xs) (e : xs = ys) : IV K wi Γ Θ ys := e ▸ h
theorem IS.cast {wi : TI} {xs ys : List PyData} (h : IS K wi Γ Θ xs) (e : xs = ys) : IS K wi Γ Θ ys := e ▸ h

/-! ### dicts whose keys are ints and texts -/
def kD : Key → PyData
  | .inl i => .int i
  | .inr s => .str s
theorem dx_kD {v : V} {k : Key} (h : Dx K H v (kD k)) : v = kV k := by
  cases k with
  | inl i => exact dx_int h
  | inr s => exact dx_str h
def lookE {κ : Type} [DecidableEq κ] : List (κ × El) → κ → Option El
  | [], _ => none
  | (j, x) :: r, k => if j = k then some x else lookE r k
def putE {κ : Type} [DecidableEq κ] : List (κ × El) → κ → El → List (κ × El)
  | [], k, v => [(k, v)]
  | (j, x) :: r, k, v => if j = k then (j, v) :: r else (j, x) :: putE r k v
section
variable {κ : Type} [DecidableEq κ]
abbrev KvOk (K : PySem.W.Frag) (B : Addr → Prop) (A : List (Option Addr)) (H : Hp) (p : κ × V) (q : κ × El) : Prop := p.1 = q.1 ∧ ElOk K B A H p.2 q.2
theorem look_none {k : κ} : ∀ {vs : List (κ × V)} {es : List (κ × El)}, Paired (KvOk K B A H) vs es → lookE es k = none → valV vs k = none
  | _, _, .nil, _ => rfl
  | (a, v) :: r, (b, x) :: t, .cons h q, e => by
    have hb : a = b := h.1
    subst hb
    unfold lookE at e
    by_cases c : a = k
    · rw [if_pos c] at e; cases e
    · rw [if_neg c] at e
      rw [valV_neg (p := (a, v)) c]
      exact look_none q e
theorem look_some {k : κ} : ∀ {vs : List (κ × V)} {es : List (κ × El)}, Paired (KvOk K B A H) vs es → lookE es k = some x → ∃ v, valV vs k = some v ∧ ElOk K B A H v x
  | _, _, .nil, e => by cases e
  | (a, v) :: r, (b, y) :: t, .cons h q, e => by
    have hb : a = b := h.1
    subst hb
    unfold lookE at e
    by_cases c : a = k
    · rw [if_pos c] at e
      cases e
      exact ⟨v, valV_pos (p := (a, v)) c, h.2⟩
    · rw [if_neg c] at e
      rw [valV_neg (p := (a, v)) c]
      exact look_some q e
theorem any_key {k : κ} : ∀ {vs : List (κ × V)} {es : List (κ × El)}, Paired (KvOk K B A H) vs es → (vs.any fun kv => decide (kv.1 = k)) = (lookE es k).isSome
  | _, _, .nil => rfl
  | (a, v) :: r, (b, y) :: t, .cons h q => by
    have hb : a = b := h.1
    subst hb
    rw [List.any_cons]
    unfold lookE
    by_cases c : a = k
    · rw [if_pos c, decide_eq_true c]; rfl
    · rw [if_neg c, decide_eq_false c, Bool.false_or]
      exact any_key q
theorem put_new {k : κ} {e : El} : ∀ {es : List (κ × El)}, lookE es k = none → putE es k e = es ++ [(k, e)]
  | [], _ => rfl
  | (j, x) :: r, h => by
    unfold lookE at h
    by_cases c : j = k
    · rw [if_pos c] at h; cases h
    · rw [if_neg c] at h
      unfold putE
      rw [if_neg c, put_new h]; rfl
theorem nodup_map_put {k : κ} {v : V} : ∀ {vs : List (κ × V)} {es : List (κ × El)} {e : El}, Paired (KvOk K B A H) vs es → (es.map (·.1)).Nodup → ElOk K B A H v e → (lookE es k).isSome = true →
    Paired (KvOk K B A H) (vs.map fun kv => if kv.1 = k then (kv.1, v) else kv) (putE es k e)
  | _, _, _, .nil, _, _, e => by cases e
  | (a, w) :: r, (b, y) :: t, e, .cons h q, nd, hv, hs => by
    have hb : a = b := h.1
    subst hb
    rw [List.map_cons]
    unfold putE
    rw [List.map_cons, List.nodup_cons] at nd
    by_cases c : a = k
    · subst c
      rw [if_pos rfl, if_pos rfl]
      refine .cons ⟨rfl, hv⟩ ?_
      have same : ∀ {vs : List (κ × V)} {es : List (κ × El)}, Paired (KvOk K B A H) vs es → a ∉ es.map (·.1) → (vs.map fun kv => if kv.1 = a then (kv.1, v) else kv) = vs := by
        intro vs es p
        induction p with
        | nil => intro _; rfl
        | cons h q ih =>
          rename_i p1 q1 _ _
          intro hn
          rw [List.map_cons, List.mem_cons, not_or] at hn
          rw [List.map_cons, ih hn.2]
          rw [if_neg]
          rw [h.1]
          exact fun z => hn.1 z.symm
      rw [same q nd.1]
      exact q
    · rw [if_neg c, if_neg c]
      refine .cons h (nodup_map_put q nd.2 hv ?_)
      unfold lookE at hs
      rw [if_neg c] at hs
      exact hs
theorem put_ok {k : κ} {v : V} {e : El} {vs : List (κ × V)} {es : List (κ × El)} (p : Paired (KvOk K B A H) vs es) (nd : (es.map (·.1)).Nodup) (hv : ElOk K B A H v e) : Paired (KvOk K B A H) (putK vs k v) (putE es k e) := by
  unfold putK
  rw [any_key p]
  cases c : lookE es k with
  | none =>
    simp only [Option.isSome_none, Bool.false_eq_true, if_false]
    rw [put_new c]
    exact Paired.snoc ⟨rfl, hv⟩ p
  | some u =>
    simp only [Option.isSome_some, if_true]
    exact nodup_map_put p nd hv (by rw [c]; rfl)
end
/-- a dict read by a key -/
theorem ev_dget {k : Nat} {es : List (Key × El)} {key : Key} (hd : EV K td Γ Θ (.at k)) (hy : EV K ty Γ Θ (.d (kD key))) (hk : Θ[k]? = some (.dK es)) (hx : lookE es key = some x) : EV K (tDGet td ty) Γ Θ x := fun B A σ H Q e kk =>
  hd B A σ H _ e fun v H1 s1 o1 => hy B A σ H1 _ (e.pure s1) fun w H2 s2 o2 => by
    have e2 := (e.pure s1).pure s2
    obtain ⟨p, vs, rfl, _, hp, hv⟩ := e2.own.dK hk (o1.pure (e.pure s1).own.bh s2)
    obtain ⟨u, h1, h2⟩ := look_some hv hx
    have hw := dx_kD o2
    subst hw
    exact ⟨p, u, rfl, h1 ▸ DGet.k hp, kk u H2 (s1.trans s2) h2⟩
theorem ev_din {k : Nat} {es : List (Key × El)} {key : Key} (hy : EV K ty Γ Θ (.d (kD key))) (hd : EV K td Γ Θ (.at k)) (hk : Θ[k]? = some (.dK es)) : EV K (tDIn ty td) Γ Θ (.d (.bool (lookE es key).isSome)) := fun B A σ H Q e kk =>
  hy B A σ H _ e fun w H1 s1 o1 => hd B A σ H1 _ (e.pure s1) fun v H2 s2 o2 => by
    have e2 := (e.pure s1).pure s2
    obtain ⟨p, vs, rfl, _, hp, hv⟩ := e2.own.dK hk o2
    have hw := dx_kD o1
    subst hw
    refine ⟨p, valV vs key, rfl, DGet.k hp, ?_⟩
    have : (valV vs key).isSome = (lookE es key).isSome := by
      cases c : lookE es key with
      | none => rw [look_none hv c]; rfl
      | some u => obtain ⟨u', h1, _⟩ := look_some hv c; rw [h1]; rfl
    rw [this]
    exact kk _ H2 (s1.trans s2) (.bl _)
theorem ev_dnotin {k : Nat} {es : List (Key × El)} {key : Key} (hy : EV K ty Γ Θ (.d (kD key))) (hd : EV K td Γ Θ (.at k)) (hk : Θ[k]? = some (.dK es)) : EV K (tDNotIn ty td) Γ Θ (.d (.bool (!(lookE es key).isSome))) := fun B A σ H Q e kk =>
  hy B A σ H _ e fun w H1 s1 o1 => hd B A σ H1 _ (e.pure s1) fun v H2 s2 o2 => by
    have e2 := (e.pure s1).pure s2
    obtain ⟨p, vs, rfl, _, hp, hv⟩ := e2.own.dK hk o2
    have hw := dx_kD o1
    subst hw
    refine ⟨p, valV vs key, rfl, DGet.k hp, ?_⟩
    have : (valV vs key).isSome = (lookE es key).isSome := by
      cases c : lookE es key with
      | none => rw [look_none hv c]; rfl
      | some u => obtain ⟨u', h1, _⟩ := look_some hv c; rw [h1]; rfl
    rw [this]
    exact kk _ H2 (s1.trans s2) (.bl _)
/-- d[k] = v -/
theorem sg_dput {k : Nat} {es : List (Key × El)} {key : Key} {tv : TE} (hv : EV K tv Γ Θ x) (hd : EV K td Γ Θ (.at k)) (hy : EV K ty Γ Θ (.d (kD key))) (hk : Θ[k]? = some (.dK es)) (nd : (es.map (·.1)).Nodup) (hz : es.length < sizeLine) (p : P.nx Γ (Θ.set k (.dK (putE es key x)))) :
    SG K E (sDPut td ty tv) Γ Θ P := fun B A σ H D e d => hv B A σ H _ e fun v H1 s1 o1 => hd B A σ H1 _ (e.pure s1) fun w H2 s2 o2 => hy B A σ H2 _ ((e.pure s1).pure s2) fun u H3 s3 o3 => by
  have e2 := (e.pure s1).pure s2
  have e3 := e2.pure s3
  obtain ⟨pa, vs, rfl, hA, hp, hvs⟩ := e3.own.dK hk (o2.pure e2.own.bh s3)
  have hu := dx_kD o3
  subst hu
  refine ⟨pa, _, rfl, DPut.k hp (by rw [paired_len hvs]; exact hz), ?_⟩
  exact d.nx A _ σ Γ _ ((((Tr.pure s1).trans (Tr.pure s2)).trans (Tr.pure s3)).trans (Tr.put hA)) (e3.put hA (od := .dK (putE es key x)) (put_ok hvs nd ((o1.pure (e.pure s1).own.bh s2).pure e2.own.bh s3))) p
/-- a new dict -/
theorem en_newK : EN K tDNewK Γ Θ (.dK []) := fun B A σ H Q e k p np => k p (.dK []) _ np (Same.new np) upd_same .nil
theorem en_newT : EN K tDNewT Γ Θ (.dT []) := fun B A σ H Q e k p np => k p (.dT []) _ np (Same.new np) upd_same .nil
/-- a displayed dict: its entries -/
def PV (K : PySem.W.Frag) (trs : List (TE × TE)) (Γ : Gm) (Θ : Th) (kvs : List (Key × El)) : Prop := ∀ (B : Addr → Prop) A σ H (Q : List (V × V) → Hp → Prop), En K B A H σ Γ Θ →
  (∀ kv H', Same H H' → Paired (KvOk K B A H') kv kvs → Q (kv.map fun p => (kV p.1, p.2)) H') → tPairs trs σ H Q
theorem pv_nil : PV K [] Γ Θ [] := fun B A σ H Q e k => k [] H (Same.refl H) .nil
theorem pv_cons {tk tv : TE} {r : List (TE × TE)} {key : Key} {kvs : List (Key × El)} (hk : EV K tk Γ Θ (.d (kD key))) (hv : EV K tv Γ Θ x) (hr : PV K r Γ Θ kvs) : PV K ((tk, tv) :: r) Γ Θ ((key, x) :: kvs) := fun B A σ H Q e k =>
  hk B A σ H _ e fun v H1 s1 o1 => hv B A σ H1 _ (e.pure s1) fun w H2 s2 o2 => hr B A σ H2 _ ((e.pure s1).pure s2) fun kv H3 s3 o3 => by
    have hu := dx_kD o1
    subst hu
    exact k ((key, w) :: kv) H3 ((s1.trans s2).trans s3) (.cons ⟨rfl, o2.pure ((e.pure s1).pure s2).own.bh s3⟩ o3)
def mergeE (kvs more : List (Key × El)) : List (Key × El) := more.foldl (fun acc kv => putE acc kv.1 kv.2) kvs
theorem mem_putE {k : Key} {e : El} : ∀ {es : List (Key × El)} {j : Key}, j ∈ (putE es k e).map (·.1) → j ∈ es.map (·.1) ∨ j = k
  | [], j, h => by
    simp [putE] at h
    exact .inr h
  | (i, y) :: r, j, h => by
    unfold putE at h
    by_cases c : i = k
    · rw [if_pos c] at h
      exact .inl h
    · rw [if_neg c, List.map_cons, List.mem_cons] at h
      rcases h with h | h
      · exact .inl (by rw [List.map_cons, List.mem_cons]; exact .inl h)
      · rcases mem_putE h with q | q
        · exact .inl (by rw [List.map_cons, List.mem_cons]; exact .inr q)
        · exact .inr q
theorem nodup_put {k : Key} {e : El} : ∀ {es : List (Key × El)}, (es.map (·.1)).Nodup → ((putE es k e).map (·.1)).Nodup
  | [], _ => by simp [putE]
  | (j, y) :: r, h => by
    rw [List.map_cons, List.nodup_cons] at h
    unfold putE
    by_cases c : j = k
    · rw [if_pos c, List.map_cons, List.nodup_cons]
      exact h
    · rw [if_neg c, List.map_cons, List.nodup_cons]
      refine ⟨fun m => ?_, nodup_put h.2⟩
      rcases mem_putE m with q | q
      · exact h.1 q
      · exact c q
theorem merge_ok : ∀ {more : List (Key × V)} {me : List (Key × El)} {vs : List (Key × V)} {es : List (Key × El)}, Paired (KvOk K B A H) more me → Paired (KvOk K B A H) vs es → (es.map (·.1)).Nodup → Paired (KvOk K B A H) (mergeK vs more) (mergeE es me)
  | _, _, _, _, .nil, p, _ => p
  | (a, v) :: r, (b, y) :: t, vs, es, .cons h q, p, nd => by
    have hb : a = b := h.1
    subst hb
    show Paired _ (mergeK (putK vs a v) r) (mergeE (putE es a y) t)
    exact merge_ok q (put_ok p nd h.2) (nodup_put nd)
theorem en_disp {trs : List (TE × TE)} {kvs : List (Key × El)} (h : PV K trs Γ Θ kvs) (hz : kvs.length ≤ 15) : EN K (tDisp trs) Γ Θ (.dK (mergeE [] kvs)) := fun B A σ H Q e k p np => by
  have nB : ∀ a, H a ≠ none → (B a ∨ a = p) → B a := fun a n m => m.elim id fun q => by rw [q] at n; exact absurd np n
  have e1 : En K (fun a => B a ∨ a = p) A (upd H p (.dK [])) σ Γ Θ := e.more nB (fun a m => by
    by_cases z : a = p
    · rw [z, upd_same]; simp
    · rw [upd_ne z]
      exact m.elim (e.own.bh a) fun q => absurd q z) (Same.new np)
  refine h _ A σ _ _ e1 fun kv H2 s2 o2 => ⟨s2 _ _ upd_same, kv, rfl, by rw [paired_len o2]; exact hz, ?_⟩
  have sH : Same H H2 := (Same.new np).trans s2
  have su : Same (mask (hid (fun a => B a ∨ a = p) A) H2) (mask (hid (fun a => B a ∨ a = p) A) (upd H2 p (.dK (mergeK [] kv)))) := fun b o q => by
    obtain ⟨h1, h2⟩ := mask_some q
    rw [mask_no h1, upd_ne (fun z => h1 (.inl (.inr z)))]
    exact h2
  refine k p (.dK (mergeK [] kv)) _ np (fun b o q => ?_) upd_same ?_
  · rw [upd_ne (ne_of_none q np)]
    exact sH b o q
  · have m := merge_ok o2 (.nil : Paired (KvOk K (fun a => B a ∨ a = p) A H2) [] []) .nil
    refine paired_mono m fun a b h => ⟨h.1, ?_⟩
    cases c : b.2 with
    | d x =>
      have h2 := h.2
      rw [c] at h2
      exact dx_same su h2
    | «at» j =>
      have h2 := h.2
      rw [c] at h2
      exact h2
    | raw u =>
      have h2 := h.2
      rw [c] at h2
      exact h2
    | exc a d fs =>
      have h2 := h.2
      rw [c] at h2
      exact ⟨h2.1, xm_same su h2.2⟩
/-- {..}.get(k, d) -/
theorem ev_getFresh {kvs : List (Key × El)} {key : Key} {z u : PyData} (hd : EN K td Γ Θ (.dK kvs)) (hy : EV K ty Γ Θ (.d (kD key))) (hx : EV K tx Γ Θ (.d z)) (hu : (match lookE kvs key with | some (.d x) => some x | some _ => none | none => some z) = some u) : EV K (tDGet2 td ty tx) Γ Θ (.d u) := fun B A σ H Q e k =>
  hd B A σ H _ e fun p o H1 np s1 hp ok => by
    cases o with
    | dK vs =>
      have ok' : Paired (KvOk K (fun a => B a ∨ a = p) A H1) vs kvs := ok
      refine ⟨p, rfl, .inl ⟨vs, .inl hp⟩, hy B A σ H1 _ (e.pure s1) fun w H2 s2 o2 => hx B A σ H2 _ ((e.pure s1).pure s2) fun v H3 s3 o3 => ?_⟩
      have e2 := (e.pure s1).pure s2
      have hw := dx_kD o2
      subst hw
      have hp3 : H3 p = some (.dK vs) := s3 _ _ (s2 _ _ hp)
      refine ⟨valV vs key, DGet.k hp3, ?_⟩
      cases c : lookE kvs key with
      | none =>
        rw [look_none ok' c]
        rw [c] at hu
        cases hu
        exact k v H3 ((s1.trans s2).trans s3) o3
      | some y =>
        obtain ⟨v', h1, h2⟩ := look_some ok' c
        rw [h1]
        rw [c] at hu
        cases y with
        | d x =>
          cases hu
          refine k v' H3 ((s1.trans s2).trans s3) ?_
          have h3 : Dx K (mask (hid (fun a => B a ∨ a = p) A) H1) v' u := h2
          exact dx_same (same_mask (s2.trans s3) fun _ _ m => m) (dx_same (mask_less hid_more) h3)
        | «at» j => cases hu
        | raw w => cases hu
        | exc _ _ _ => cases hu
    | _ => exact ok.elim

/-! ### defs that change what they are handed -/
def spM (K : PySem.W.Frag) (n : Nat) (fs : List El → Th → (El → Th → Prop) → Prop) : Sp := fun vs H Q _ => ∃ (B : Addr → Prop) (A : List (Option Addr)) (Θ : Th) (es : List El) (R : El → Th → Prop), es.length = n ∧ Own K B A H Θ ∧ Paired (ElOk K B A H) vs es ∧ fs es Θ R ∧
  ∀ v A' H' e Θ', Tr A H A' H' → Own K B A' H' Θ' → ElOk K B A' H' v e → R e Θ' → Q v H'
theorem spM_len {n : Nat} {fs : List El → Th → (El → Th → Prop) → Prop} {vs : List V} {H : Hp} {Q : VK} {E' : XK} (h : spM K n fs vs H Q E') : vs.length = n := by
  obtain ⟨B, A, Θ, es, R, h1, _, h2, _⟩ := h
  rw [paired_len h2, h1]
theorem en_startM {N : List Str} {vs : List V} {es : List El} (o : Own K B A H Θ) (h : Paired (ElOk K B A H) vs es) : En K B A H (L2.start N vs) (es.map some ++ List.replicate (N.length - es.length) none) Θ := by
  have hl := paired_len h
  refine ⟨o, ?_, fun i e he => ?_⟩
  · unfold L2.start
    simp [hl]
  · rw [List.getElem?_append] at he
    by_cases hi : i < es.length
    · rw [if_pos (by simpa using hi), List.getElem?_map, List.getElem?_eq_getElem hi] at he
      cases he
      obtain ⟨v, h1, h2⟩ := paired_get h (List.getElem?_eq_getElem hi)
      refine ⟨v, ?_, h2⟩
      unfold L2.start
      rw [List.getElem?_append_left (by rw [List.length_map, hl]; exact hi), List.getElem?_map, h1]
      rfl
    · rw [if_neg (by simpa using hi), List.getElem?_replicate] at he
      split at he <;> cases he
theorem body_M {fs : List El → Th → (El → Th → Prop) → Prop} {n : Nat} {N : List Str} {vs : List V} {Q : VK} {E' : XK} {ts : TS} (h : spM K n fs vs H Q E')
    (hb : ∀ es Θ R, es.length = n → fs es Θ R → SG K W0 ts (es.map some ++ List.replicate (N.length - es.length) none) Θ ⟨fun _ Θ' => R (.d .none) Θ', fun e _ Θ' => R e Θ', fun _ _ => False, fun _ _ => False, fun _ _ _ _ => False⟩) :
    ts { nx := fun _ H' => Q .non H', rt := Q } (L2.start N vs) H := by
  obtain ⟨B, A, Θ, es, R, hn, o, p, hf, k⟩ := h
  refine hb es Θ R hn hf B A (L2.start N vs) H _ (en_startM o p) ⟨fun A' H' σ' Γ' Θ' t e q => k .non A' H' (.d .none) Θ' t e.own .non q, fun v A' H' σ' e Γ' Θ' t en o q => k v A' H' e Θ' t en.own o q,
    fun _ _ _ _ _ _ _ q => q.elim, fun _ _ _ _ _ _ _ q => q.elim, fun _ _ _ _ _ _ _ _ _ _ _ q => q.elim⟩
/-- of data alone -/
def El.flat : El → Prop
  | .d _ => True
  | .at _ => False
  | .raw _ => False
  | .exc _ _ _ => False
def OD.flat : OD → Prop
  | .gone => False
  | .lst es => ∀ e ∈ es, e.flat
  | .dK kvs => ∀ p ∈ kvs, p.2.flat
  | .dT kvs => ∀ p ∈ kvs, p.2.flat
end
end DL

namespace DL
open PySem PySem.Spec PyProof.Rows L2
section
variable {K : PySem.W.Frag} {E : WX} {B : Addr → Prop} {A A' : List (Option Addr)} {H H' : Hp} {Γ Γ' : Gm} {Θ Θ' : Th} {σ σ' : L2.St} {x y z : El} {te ta tb td ty tx : TE} {tt : TT} {P : Post}
theorem flat_el {B' : Addr → Prop} {A' : List (Option Addr)} {H' : Hp} {v : V} {e : El} (f : e.flat) (s : Same (mask (hid B A) H) (mask (hid B' A') H')) (h : ElOk K B A H v e) : ElOk K B' A' H' v e := by
  cases e with
  | d x => exact dx_same s h
  | «at» k => exact f.elim
  | raw u => exact f.elim
  | exc _ _ _ => exact f.elim
theorem paired_memR {α β : Type} {F G : α → β → Prop} : ∀ {xs : List α} {ys : List β}, Paired F xs ys → (∀ a b, b ∈ ys → F a b → G a b) → Paired G xs ys
  | _, _, .nil, _ => .nil
  | _, _, .cons h t, f => .cons (f _ _ List.mem_cons_self h) (paired_memR t fun a b m => f a b (List.mem_cons_of_mem _ m))
theorem flat_od {B' : Addr → Prop} {A' : List (Option Addr)} {H' : Hp} {o : HO} {od : OD} (f : od.flat) (s : Same (mask (hid B A) H) (mask (hid B' A') H')) (h : OdOk K B A H o od) : OdOk K B' A' H' o od := by
  cases o with
  | lst vs =>
    cases od with
    | lst es => exact paired_memR (G := ElOk K B' A' H') h fun a b m q => flat_el (f b m) s q
    | _ => exact h.elim
  | dK vs =>
    cases od with
    | dK es => exact paired_memR (G := fun (p : Key × V) (q : Key × El) => p.1 = q.1 ∧ ElOk K B' A' H' p.2 q.2) h fun a b m q => ⟨q.1, flat_el (f b m) s q.2⟩
    | _ => exact h.elim
  | dT vs =>
    cases od with
    | dT es => exact paired_memR (G := fun (p : List Key × V) (q : List Key × El) => p.1 = q.1 ∧ ElOk K B' A' H' p.2 q.2) h fun a b m q => ⟨q.1, flat_el (f b m) s q.2⟩
    | _ => exact h.elim
  | _ => cases od <;> exact h.elim
theorem same_mask2 {M M' : Addr → Prop} (e : Weak M H H') (h : ∀ a, H a ≠ none → M' a → M a) : Same (mask M H) (mask M' H') := fun a o q => by
  obtain ⟨h1, h2⟩ := mask_some q
  rw [mask_no fun m => h1 (h a (by rw [h2]; simp) m)]
  exact e a o h2 h1
/-- one owned object is lent to a call, with some data; it hands back a datum -/
theorem own_lend {k : Nat} {p : Addr} {od : OD} (w : Own K B A H Θ) (hA : A[k]? = some (some p)) (hk : Θ[k]? = some od) (f : od.flat) :
    Own K (fun a => B a ∨ (some a ∈ A ∧ a ≠ p)) [some p] H [od] ∧ ∀ a, hid (fun a => B a ∨ (some a ∈ A ∧ a ≠ p)) [some p] a ↔ hid B A a := by
  have hh : ∀ a, hid (fun a => B a ∨ (some a ∈ A ∧ a ≠ p)) [some p] a ↔ hid B A a := fun a => by
    constructor
    · rintro ((q | q) | q)
      · exact .inl q
      · exact .inr q.1
      · have : a = p := by simpa using q
        subst this
        exact .inr (List.mem_iff_getElem?.mpr ⟨k, hA⟩)
    · rintro (q | q)
      · exact .inl (.inl q)
      · by_cases z : a = p
        · subst z; exact .inr (by simp)
        · exact .inl (.inr ⟨q, z⟩)
  obtain ⟨o, od', h1, h2, h3⟩ := w.ow k p hA
  rw [hk] at h2
  cases h2
  refine ⟨⟨rfl, fun i j q h h' => ?_, fun j h => ?_, fun j q h => ?_, fun a h => ?_, fun j q h => ?_⟩, hh⟩
  · cases i <;> cases j <;> simp at h h' ⊢
  · cases j <;> simp at h
  · cases j with
    | zero =>
      simp at h
      subst h
      exact ⟨o, od, h1, rfl, flat_od f (same_mask2 (fun a o e _ => e) fun a _ m => (hh a).mp m) h3⟩
    | succ j => simp at h
  · rcases h with h | h
    · exact w.bh a h
    · obtain ⟨j, hj⟩ := List.mem_iff_getElem?.mp h.1
      obtain ⟨u, _, q, _⟩ := w.ow j a hj
      rw [q]; simp
  · cases j with
    | zero =>
      simp at h
      subst h
      rintro (z | z)
      · exact w.bd k p hA z
      · exact z.2 rfl
    | succ j => simp at h
/-- the arguments of such a call: the lent object is k; the others data -/
inductive LendA (k : Nat) : List El → List El → Prop
  | nil : LendA k [] []
  | d {x : PyData} {xs ys : List El} : LendA k xs ys → LendA k (.d x :: xs) (.d x :: ys)
  | own {xs ys : List El} : LendA k xs ys → LendA k (.at k :: xs) (.at 0 :: ys)
theorem lend_args {k : Nat} {p : Addr} {B' : Addr → Prop} (hA : A[k]? = some (some p)) (hh : ∀ a, hid B' [some p] a ↔ hid B A a) : ∀ {xs ys : List El} {vs : List V}, LendA k xs ys → Paired (ElOk K B A H) vs xs → Paired (ElOk K B' [some p] H) vs ys
  | _, _, _, .nil, h => by cases h; exact .nil
  | _, _, _, .d l, h => by
    cases h with | cons h t => exact .cons (dx_same (same_mask (Same.refl H) fun a _ m => (hh a).mp m) h) (lend_args hA hh l t)
  | _, _, _, .own l, h => by
    cases h with | cons h t =>
    obtain ⟨q, h1, h2⟩ := h
    rw [hA] at h1
    cases h1
    exact .cons ⟨p, rfl, h2⟩ (lend_args hA hh l t)
/-- a def is lent the owned object k -/
theorem lend_core {n k : Nat} {fs : List El → Th → (El → Th → Prop) → Prop} {xs ys : List El} {od : OD} {E' : XK} {Pp : El → Gm → Th → Prop} {vs : List V} {Q : VK} (e1 : En K B A H σ Γ Θ) (o1 : Paired (ElOk K B A H) vs xs) (hl : LendA k xs ys) (hk : Θ[k]? = some od) (f : od.flat) (hm : .at k ∈ xs)
    (hs : fs ys [od] fun e Θ' => e.flat ∧ ∃ od' r, Θ' = od' :: r ∧ od'.flat ∧ Pp e Γ (Θ.set k od')) (hn : ys.length = n) (kk : ∀ v A' H' x Γ' Θ', Tr A H A' H' → En K B A' H' σ Γ' Θ' → ElOk K B A' H' v x → Pp x Γ' Θ' → Q v H') : spM K n fs vs H Q E' := by
    obtain ⟨p, hA⟩ : ∃ p, A[k]? = some (some p) := by
      obtain ⟨i, hi⟩ := List.mem_iff_getElem?.mp hm
      obtain ⟨v, _, p, h, _⟩ := paired_get o1 hi
      exact ⟨p, h⟩
    obtain ⟨w, hh⟩ := own_lend e1.own hA hk f
    refine ⟨_, [some p], [od], ys, _, hn, w, lend_args hA hh hl o1, hs, fun v A' H' x Θ' tr w' o hr => ?_⟩
    obtain ⟨fx, od', r, rfl, f', pp⟩ := hr
    have hkl : k < Θ.length := (List.getElem?_eq_some_iff.mp hk).1
    have hA0 : A'[0]? = some (some p) := by
      rcases tr.kA 0 (by simp) with q | q
      · rw [q]; rfl
      · have := w'.gn 0 q
        simp at this
        rw [this] at f'
        exact f'.elim
    have keepU : ∀ a o, H a = some o → a ≠ p → H' a = some o := fun a o h n => tr.keep a o h (by simpa using n)
    have memA : some p ∈ A := List.mem_iff_getElem?.mpr ⟨k, hA⟩
    have hp1 : H p ≠ none := by
      obtain ⟨u, _, q, _⟩ := e1.own.ow k p hA
      rw [q]; simp
    have tr1 : Tr A H A H' := ⟨fun a o h n => keepU a o h (fun z => n (by rw [z]; exact memA)), Nat.le_refl _, fun _ _ => .inl rfl, fun _ h => .inl h, tr.al⟩
    have sub : ∀ a, hid B A a → hid (fun a => B a ∨ (some a ∈ A ∧ a ≠ p)) A' a := fun a m => by
      rcases m with m | m
      · exact .inl (.inl m)
      · by_cases z : a = p
        · subst z; exact .inr (List.mem_iff_getElem?.mpr ⟨0, hA0⟩)
        · exact .inl (.inr ⟨m, z⟩)
    have sb : Same (mask (hid (fun a => B a ∨ (some a ∈ A ∧ a ≠ p)) A') H') (mask (hid B A) H') := mask_less sub
    have bh' : ∀ a, B a → H' a ≠ none := fun a m => tr.al a (e1.own.bh a m)
    obtain ⟨o', od'', q1, q2, q3⟩ := w'.ow 0 p hA0
    cases q2
    have w2 : Own K B A H' (Θ.set k od') := by
      refine ⟨by simp [e1.own.la], e1.own.nd, fun j h => ?_, fun j q h => ?_, bh', e1.own.bd⟩
      · have : k ≠ j := fun z => by rw [z, h] at hA; cases hA
        rw [List.getElem?_set_ne this]
        exact e1.own.gn j h
      · by_cases z : k = j
        · subst z
          rw [hA] at h; cases h
          exact ⟨o', od', q1, by rw [List.getElem?_set_self hkl], flat_od f' sb q3⟩
        · obtain ⟨u, odj, h1, h2, h3⟩ := e1.own.ow j q h
          have hq : q ≠ p := fun zz => z (e1.own.nd k j p hA (by rw [h, zz]))
          refine ⟨u, odj, keepU q u h1 hq, by rw [List.getElem?_set_ne z]; exact h2, h3.mono fun v e h => ?_⟩
          cases e with
          | d x => exact ElOk.tr tr1 e1.own.bh h
          | «at» i => exact h
          | raw u => exact h
          | exc a d fs => exact ⟨h.1, xm_same (tr1.same e1.own.bh) h.2⟩
    have e2 : En K B A H' σ Γ (Θ.set k od') := ⟨w2, e1.ls, fun i e h => by
      obtain ⟨v, h1, h2⟩ := e1.sl i e h
      refine ⟨v, h1, ?_⟩
      cases e with
      | d x => exact ElOk.tr tr1 e1.own.bh h2
      | «at» i => exact h2
      | raw u => exact h2
      | exc a d fs => exact ⟨h2.1, xm_same (tr1.same e1.own.bh) h2.2⟩⟩
    exact kk v A H' x Γ _ tr1 e2 (flat_el fx sb o) pp

/-- a call that is lent the owned object k -/
theorem eg_lend {n k : Nat} {fs : List El → Th → (El → Th → Prop) → Prop} {ta : TA} {xs ys : List El} {od : OD} {E' : XK} {Pp : El → Gm → Th → Prop} (ha : AV K ta Γ Θ xs) (hl : LendA k xs ys) (hk : Θ[k]? = some od) (f : od.flat) (hm : .at k ∈ xs)
    (hs : fs ys [od] fun e Θ' => e.flat ∧ ∃ od' r, Θ' = od' :: r ∧ od'.flat ∧ Pp e Γ (Θ.set k od')) (hn : ys.length = n := by rfl) : EG K (tCall (spM K n fs) [] E' ta) Γ Θ Pp := fun B A σ H Q e kk =>
  ha B A σ H _ e fun vs H1 s1 o1 => by
    show spM K n fs (vs ++ []) H1 Q E'
    rw [List.append_nil]
    exact lend_core (e.pure s1) o1 hl hk f hm hs hn fun v A' H' x Γ' Θ' t => kk v A' H' x Γ' Θ' ((Tr.pure s1).trans t)

/-! ### expressions that change what is owned -/
/-- arguments with a change: the wish behind them -/
def AG (K : PySem.W.Frag) (ta : TA) (Γ : Gm) (Θ : Th) (P : List PyData → Gm → Th → Prop) : Prop := ∀ (B : Addr → Prop) A σ H (Q : List V → Hp → Prop), En K B A H σ Γ Θ →
  (∀ vs A' H' xs Γ' Θ', Tr A H A' H' → En K B A' H' σ Γ' Θ' → DxAll K (mask (hid B A') H') vs xs → P xs Γ' Θ' → Q vs H') → ta σ H Q
theorem ag_nil {Pp : List PyData → Gm → Th → Prop} (p : Pp [] Γ Θ) : AG K tNil Γ Θ Pp := fun B A σ H Q e k => k [] A H [] Γ Θ Tr.refl e .nil p
theorem ag_cons {tr : TA} {Pp : List PyData → Gm → Th → Prop} (h : EG K te Γ Θ fun x Γ1 Θ1 => ∃ d, x = .d d ∧ AG K tr Γ1 Θ1 fun xs Γ2 Θ2 => Pp (d :: xs) Γ2 Θ2) : AG K (tCons te tr) Γ Θ Pp := fun B A σ H Q e k =>
  h B A σ H _ e fun v A1 H1 x Γ1 Θ1 t1 e1 o1 p1 => by
    obtain ⟨d, rfl, p1⟩ := p1
    exact p1 B A1 σ H1 _ e1 fun vs A2 H2 xs Γ2 Θ2 t2 e2 o2 p2 => k (v :: vs) A2 H2 (d :: xs) Γ2 Θ2 (t1.trans t2) e2 (.cons (ElOk.tr t2 e1.own.bh o1) o2) p2
/-- an operator whose operands may change what is owned -/
theorem eg_op {r : R2} {Pp : El → Gm → Th → Prop} (h : EG K ta Γ Θ fun x Γ1 Θ1 => ∃ a, x = .d a ∧ EG K tb Γ1 Θ1 fun y Γ2 Θ2 => ∃ b z, y = .d b ∧ RD K Θ2 r (.d a) (.d b) z ∧ Pp z Γ2 Θ2) : EG K (tOp r ta tb) Γ Θ Pp := fun B A σ H Q e k =>
  h B A σ H _ e fun v A1 H1 x Γ1 Θ1 t1 e1 o1 p1 => by
    obtain ⟨a, rfl, p1⟩ := p1
    refine p1 B A1 σ H1 _ e1 fun w A2 H2 y Γ2 Θ2 t2 e2 o2 p2 => ?_
    obtain ⟨b, z, rfl, hr, pp⟩ := p2
    exact hr B A2 H2 v w Q e2.own (ElOk.tr t2 e1.own.bh o1) o2 fun u H3 s3 o3 => k u A2 H3 z Γ2 Θ2 ((t1.trans t2).trans (Tr.pure s3)) (e2.pure s3) o3 pp
theorem eg_cb {r : List V → Hp → VK → Prop} {ta : TA} {Pp : El → Gm → Th → Prop} (h : AG K ta Γ Θ fun xs Γ1 Θ1 => ∃ z, CD K Θ1 r (xs.map .d) z ∧ Pp z Γ1 Θ1) : EG K (tCB r ta) Γ Θ Pp := fun B A σ H Q e k =>
  h B A σ H _ e fun vs A1 H1 xs Γ1 Θ1 t1 e1 o1 p1 => by
    obtain ⟨z, hr, pp⟩ := p1
    exact hr B A1 H1 vs Q e1.own (dx_paired o1) fun u H2 s2 o2 => k u A1 H2 z Γ1 Θ1 (t1.trans (Tr.pure s2)) (e1.pure s2) o2 pp
theorem eg_tup {ta : TA} {Pp : El → Gm → Th → Prop} (h : AG K ta Γ Θ fun xs Γ1 Θ1 => xs.length ≤ sizeLine ∧ Pp (.d (.tuple xs)) Γ1 Θ1) : EG K (tTup ta) Γ Θ Pp := fun B A σ H Q e k =>
  h B A σ H _ e fun vs A1 H1 xs Γ1 Θ1 t1 e1 o1 p1 => by
    refine ⟨by rw [dxAll_len o1]; exact p1.1, fun p np => k (.ref p) A1 _ (.d (.tuple xs)) Γ1 Θ1 (t1.trans (Tr.pure (Same.new np))) (e1.pure (Same.new np)) (Dx.tup (xs := vs) (SqT.of ?_) (dxAll_same (same_mask (Same.new np) fun _ _ m => m) o1)) p1.2⟩
    rw [mask_no (e1.own.free np)]
    exact upd_same
/-- a pure call whose arguments may change what is owned -/
theorem eg_callP {n : Nat} {pf : List PyData → PyData → Prop} {ta : TA} {E' : XK} {Pp : El → Gm → Th → Prop} (h : AG K ta Γ Θ fun xs Γ1 Θ1 => xs.length = n ∧ ∃ r, pf xs r ∧ Pp (.d r) Γ1 Θ1) : EG K (tCall (spP K n pf) [] E' ta) Γ Θ Pp := fun B A σ H Q e k =>
  h B A σ H _ e fun vs A1 H1 xs Γ1 Θ1 t1 e1 o1 p1 => by
    obtain ⟨hn, r, hp, pp⟩ := p1
    refine ⟨hid B A1, xs, r, hn, fun b m => ?_, by rw [List.append_nil]; exact o1, hp, fun v H' s o => k v A1 H' (.d r) Γ1 Θ1 (t1.trans (Tr.pure s)) (e1.pure s) o pp⟩
    rcases m with m | m
    · exact e1.own.bh b m
    · obtain ⟨j, hj⟩ := List.mem_iff_getElem?.mp m
      obtain ⟨u, od, h1, _⟩ := e1.own.ow j b hj
      rw [h1]; simp
theorem eg_if {b : Bool} {ta tb : TE} {Pp : El → Gm → Th → Prop} (h : TV K tt Γ Θ b) (h1 : b = true → EG K ta Γ Θ Pp) (h2 : b = false → EG K tb Γ Θ Pp) : EG K (tIf tt ta tb) Γ Θ Pp := fun B A σ H Q e k => h B A σ H _ e fun H1 s1 => by
  cases b with
  | true =>
    show ta σ H1 Q
    exact h1 rfl B A σ H1 Q (e.pure s1) fun v A' H' x Γ' Θ' t => k v A' H' x Γ' Θ' ((Tr.pure s1).trans t)
  | false =>
    show tb σ H1 Q
    exact h2 rfl B A σ H1 Q (e.pure s1) fun v A' H' x Γ' Θ' t => k v A' H' x Γ' Θ' ((Tr.pure s1).trans t)
theorem EG.imp {Pp Pq : El → Gm → Th → Prop} (h : EG K te Γ Θ Pp) (f : ∀ x Γ Θ, Pp x Γ Θ → Pq x Γ Θ) : EG K te Γ Θ Pq := fun B A σ H Q e k => h B A σ H Q e fun v A' H' x Γ' Θ' t e' o p => k v A' H' x Γ' Θ' t e' o (f _ _ _ p)
end
end DL

namespace DL
open PySem PySem.Spec PyProof.Rows L2
/-- both ends of a branch join at I -/
theorem sg_mid {K : PySem.W.Frag} {E : WX} {ts : TS} {Γ : Gm} {Θ : Th} {P : Post} (I : Gm → Th → Prop) (h : SG K E ts Γ Θ { P with nx := I }) (k : ∀ Γ Θ, I Γ Θ → P.nx Γ Θ) : SG K E ts Γ Θ P :=
  h.imp k (fun _ _ _ q => q) (fun _ _ q => q) (fun _ _ q => q) (fun _ _ _ _ q => q)
/-- one value either way -/
theorem ev_ite {K : PySem.W.Frag} {Γ : Gm} {Θ : Th} {t : TT} {ta tb : TE} {x : El} {b : Bool} (h : TV K t Γ Θ b) (h1 : b = true → EV K ta Γ Θ x) (h2 : b = false → EV K tb Γ Θ x) : EV K (tIf t ta tb) Γ Θ x :=
  (ev_if h h1 h2).is (by cases b <;> rfl)
theorem is_list {K : PySem.W.Frag} {Γ : Gm} {Θ : Th} {te : TE} {w : TI} {ds : List PyData} (h : EV K te Γ Θ (.d (.list ds))) : IV K (iOr (iList K te) w) Γ Θ ds := iv_l (iv_list h)
theorem is_tuple {K : PySem.W.Frag} {Γ : Gm} {Θ : Th} {te : TE} {w : TI} {ds : List PyData} (h : EV K te Γ Θ (.d (.tuple ds))) : IV K (iOr w (iTup K te)) Γ Θ ds := iv_r (iv_tup h)
theorem ev_tupY {K : PySem.W.Frag} {Γ : Gm} {Θ : Th} {ta : TA} {xs : List El} {ds : List PyData} (h : AV K ta Γ Θ xs) (hx : xs = ds.map .d) (hz : ds.length ≤ sizeLine) : EV K (tTup ta) Γ Θ (.d (.tuple ds)) :=
  ev_tup (hx ▸ h) hz
theorem ev_lstY {K : PySem.W.Frag} {Γ : Gm} {Θ : Th} {ta : TA} {xs : List El} {ds : List PyData} (h : AV K ta Γ Θ xs) (hx : xs = ds.map .d) (hz : ds.length ≤ sizeLine) : EV K (tLst ta) Γ Θ (.d (.list ds)) :=
  EN.ev (en_lst (hx ▸ h) (by simpa using hz))
end DL

namespace DL
open PySem PySem.Spec PyProof.Rows L2
section
variable {K : PySem.W.Frag} {B : Addr → Prop} {A A' : List (Option Addr)} {H H' : Hp} {Γ Γ' : Gm} {Θ Θ' : Th} {σ σ' : L2.St} {x y z : El} {te ta tb to : TE} {tt : TT}
/-! ### an owned list handed to a pure def -/
inductive Asd (Θ : Th) : List El → List PyData → Prop
  | nil : Asd Θ [] []
  | d {x : PyData} {xs : List El} {ds : List PyData} : Asd Θ xs ds → Asd Θ (.d x :: xs) (x :: ds)
  | own {k : Nat} {l : List PyData} {xs : List El} {ds : List PyData} : Θ[k]? = some (.lst (l.map .d)) → Asd Θ xs ds → Asd Θ (.at k :: xs) (.list l :: ds)
theorem asd_dx (o : Own K B A H Θ) : ∀ {vs : List V} {xs : List El} {ds : List PyData}, Asd Θ xs ds → Paired (ElOk K B A H) vs xs → DxAll K (mask B H) vs ds
  | _, _, _, .nil, .nil => .nil
  | _, _, _, .d t, .cons h q => .cons (dx_same (mask_less fun a m => .inl m) h) (asd_dx o t q)
  | _, _, _, .own hk t, .cons h q => by
    refine .cons ?_ (asd_dx o t q)
    obtain ⟨p, vs, rfl, hA, hp, hv⟩ := o.lst hk h
    refine Dx.lst (xs := vs) (SqL.of ?_) (dxAll_same (mask_less fun a m => .inl m) (paired_dx hv))
    rw [mask_no (o.bd _ p hA)]
    exact hp
def scal : PyData → Prop
  | .none => True
  | .bool _ => True
  | .int _ => True
  | .str _ => True
  | _ => False
theorem ev_callL {n : Nat} {pf : List PyData → PyData → Prop} {ta : TA} {xs : List El} {ds : List PyData} {r : PyData} {E' : XK} (ha : AV K ta Γ Θ xs) (hl : Asd Θ xs ds) (hp : pf ds r) (hf : scal r) (hn : ds.length = n := by rfl) : EV K (tCall (spP K n pf) [] E' ta) Γ Θ (.d r) := fun B A σ H Q e k =>
  ha B A σ H _ e fun vs H1 s1 o1 => by
    have e1 := e.pure s1
    refine ⟨B, ds, r, hn, e1.own.bh, by rw [List.append_nil]; exact asd_dx e1.own hl o1, hp, fun v H' s o => k v H' (s1.trans s) ?_⟩
    cases r with
    | none => cases o; exact .non
    | bool b => cases o; exact .bl _
    | int i => cases o; exact .int _
    | str x => cases o; exact .str _
    | _ => exact hf.elim

/-! ### a token is out -/
section
variable {X : Cx} {o e : Expr}
theorem PAT.of {es : List Expr} {ta : TA} (h : PA X es ta) : PAT X es ta := fun pos pins s σ H Q _ I q => h.run pos pins s σ H Q I q
theorem pet_split {apos pos : Pos} (ho : PET X o to) (he : PE X e te) (hs : starEach [e] X.env = [(false, eval e X.env)] := by rfl) (hbase : attributeBase o "split" X.env (eval o X.env) = eval o X.env := by rfl) (hline : (apos.endLine == pos.line) = true := by rfl) :
    PET X (.Call (.Attribute o "split" apos) [e] [] pos) (tM1 rSplit to te) := by
  intro pins s σ H Q h0 I h
  refine PySem.Call_method1 hbase hs hline (thn (ho pins s σ H _ h0 I h) fun v s1 ⟨x, H1, I1, r1, q1⟩ => ?_)
  obtain ⟨⟨a, rfl⟩, q1⟩ := q1
  obtain ⟨t, rfl⟩ := _root_.id r1
  refine ⟨"str", _, F.plainAttrs_str, F.slot_str_split, F.type_str_split, typeIs_str _ _ _, (fun _ e => nomatch e), Calls.callWith_builtin rfl (Calls.evalArgs_plain (Calls.spliced_cons ?_))⟩
  exact thn (he.run pins s1 σ H1 _ I1 q1) fun u s2 ⟨y, H2, I2, r2, q2⟩ => Calls.spliced_nil (mt_split pins s2 σ H2 _ [y] _ [u] Q I2 r1 (.cons r2 .nil) q2)
theorem pst_set {i : Nat} {x : Str} {pos' pos : Pos} (hN : X.N.Nodup) (hi : X.N[i]? = some x) (hx : Loc X.env.scope x) (he : PET X e te) (hs : swapsWith e (some (.Name x pos')) pos.line X.env = pure false := by rfl) (hf : X.fn x = true ∨ X.env.scope.names.lookup x = some .local := by first | exact .inl rfl | exact .inr rfl | assumption) :
    PST X (.Assign [.Name x pos'] e pos) (tAsg te (gName i)) := by
  intro pins s σ H D h0 I h
  refine wpAny_Assign_Name (thn (he pins s σ H _ h0 I h) fun v s1 ⟨y, H1, I1, r1, q1⟩ => ?_) hs
  exact store_ok I1 hN hi hx r1 (fun s2 I2 => ⟨_, H1, I2, q1⟩) hf
theorem PSsT.nox {st : List Stmt} {t : TS} (h : PSsT X.nox st t) : PSsT X st t := fun pins s σ H D h0 I hw =>
  wpAny_mono (h pins s σ H D h0 (I.wish _) hw) (fun _ _ q => q.unwish) fun _ _ z => False.elim z
end
/-- a def's promise from its body, a token out when it begins -/
theorem cal_mkTC {CX : CXT} {P : Program} {w : World} {K : PySem.W.Frag} {mg : Str → Option Value} {base : Heap} {k : Nat} {x : Str} {st : Stmt} {N ps : List Str} {sp : Sp} (D : At K mg x st ps) (S : FnScope N ps (defScope st)) (len : ∀ vs H Q E, sp vs H Q E → vs.length = ps.length)
    (hnc : ∀ y ∈ (defScope st).names, y.2 ≠ .cell) (hps : 1 ≤ ps.length)
    (hbody : ∀ (f : Addr) (cdv : Value) (A : Around) (outer : List PySem.Env) (s : Shared) (H : Hp) (vs : List V) (Q : VK) (E : XK), (A.deeper (envOfC x (defScope st) s.heap.objs.size f cdv)).guards = some [] → Room k (A.deeper (envOfC x (defScope st) s.heap.objs.size f cdv)) → sp vs H Q E →
      ∃ t, PSsT (cxOf CX P w K mg base N x (defScope st) f cdv A outer s H E) (defBody st) t ∧ t { nx := fun _ H' => Q .non H', rt := Q } (L2.start N vs) H) : Cal P w K mg base CX (k + 1) x ps sp := by
  obtain ⟨f, fd, F, hm, hb⟩ := D.ex
  refine ⟨f, fd, ?_, hm, F.kp, hb⟩
  obtain ⟨oc, od, kV, doc, pm, an, cdv, ct, osl, e, lk, hcd⟩ := F.ex
  subst e
  refine ⟨len, fun A outer s H args us vs Q E hg hr e0 hb r hsp => ?_⟩
  have hl := len _ _ _ _ hsp
  have hul : us.length = ps.length := by rw [← r.length, hl]
  have KX : K.In s.heap := e0.mod.kin.keeps fun b o e => (e0.bs b o e).1
  have lim : s.heap.NoLimit := e0.mod.nolimit.keeps fun b o e => (e0.bs b o e).1
  have hloc : ∀ y ∈ ps.zip us, (defScope st).names.lookup y.1 = some .local := fun ⟨n, v⟩ hy => by
    rcases S.par n (List.of_mem_zip hy).1 with q | q
    · exact q
    · exact absurd rfl (hnc _ (PySem.mem_of_lookup q))
  refine codeAny_call_function hr.depth (KX _ _ lk) rfl S.co S.gen rfl (PySem.W.codeRec_of KX hcd) (hb _ _ _ _ ?_)
  refine wpAny_newFunctionEnv hnc hloc (fun h1 hns hsb => ?_) S.kind
  have hz : (ps.zip us).length = ps.length := by rw [List.length_zip, hul, Nat.min_self]
  have keep : ∀ b o, s.heap.get? b = some o → h1.get? b = some o := fun b o e => hsb.extBut b o (Nat.ne_of_lt (Heap.lt_size e)) (Heap.get?_push_of_some _ e)
  have hcl : cellsFrom (s.heap.objs.size + 1) (defScope st).names [] = [] := cells_none _ _ _ hnc
  have hkl : ∀ y ∈ ps.zip us, (envOfC x (defScope st) s.heap.objs.size f cdv).kindOf y.1 = some .local := fun y hy => by
    first
    | exact hloc y hy
    | (simp only [Env.kindOf]; exact hloc y hy)
    | (unfold Env.kindOf; rw [if_pos S.kind]; exact hloc y hy)
  have hm' : (bindL (envOfC x (defScope st) s.heap.objs.size f cdv).kindOf (ps.zip us) fun _ => none) = fun x => (ps.zip us).reverse.lookup x := by
    funext y
    rw [bindL_loc _ _ hkl y]
    cases (ps.zip us).reverse.lookup y <;> rfl
  have xx : InCallC s s.heap.objs.size (bindL (envOfC x (defScope st) s.heap.objs.size f cdv).kindOf (ps.zip us) fun _ => none) (cellsFrom (s.heap.objs.size + 1) (defScope st).names [])
      (bindC (envOfC x (defScope st) s.heap.objs.size f cdv).kindOf (ps.zip us) fun _ => none) ({ s with heap := h1, toks := s.toks + (ps.zip us).length } : Shared) := by
    rw [hm', hcl]
    exact ⟨⟨⟨_, _, rfl⟩, hns, keep, Nat.le_refl _⟩, fun n c hc => absurd hc (by simp), .nil, fun n c hc => absurd hc (by simp)⟩
  have henv : newEnv (defScope st) s.heap.objs.size mainGlobals [] (x ++ ".<locals>.") (some f) cdv none builtinsNs = envOfC x (defScope st) s.heap.objs.size f cdv := by
    unfold envOfC
    rw [hcl] <;> rfl
  have hto : 1 ≤ ({ s with heap := h1, toks := s.toks + (ps.zip us).length } : Shared).toks := by
    show 1 ≤ s.toks + (ps.zip us).length
    omega
  show ({ s with heap := h1, toks := s.toks + (ps.zip us).length } : Shared).heap.NoLimit ∧ codeAny (model P w) A (.func (defBody st) (newEnv (defScope st) s.heap.objs.size mainGlobals [] (x ++ ".<locals>.") (some f) cdv none builtinsNs)) _ ({ s with heap := h1, toks := s.toks + (ps.zip us).length } : Shared)
  rw [henv]
  generalize ({ s with heap := h1, toks := s.toks + (ps.zip us).length } : Shared) = s1 at xx hto ⊢
  refine ⟨lim.keeps xx.toInCall.keep, codeAny_func ?_⟩
  obtain ⟨t, ht, hq⟩ := hbody f cdv A outer s H vs Q E (guards_deeper hg) (hr.deeper _) hsp
  have I : Inv (cxOf CX P w K mg base N x (defScope st) f cdv A outer s H E) [] (L2.start N vs) H s1 := inv_start S hr.hd e0 hl r xx
  refine wpAny_mono (ht [] s1 (L2.start N vs) H _ hto I hq) (fun fl s' hs => ?_) fun e s' hs => hs
  have fin : ∀ {σ' : L2.St} {H' : Hp} {v : V} {u : Value}, Inv (cxOf CX P w K mg base N x (defScope st) f cdv A outer s H E) [] σ' H' s' → RelV v u → Q v H' → CE outer P w H s Q u s' :=
    fun {σ' H' v u} J rv q => ⟨v, H', J.os, J.bare, J.base, J.hok, rv, q⟩
  cases fl with
  | ret u =>
    obtain ⟨v, σ', H', J, rv, q⟩ := hs
    exact fin J rv q
  | next =>
    obtain ⟨σ', H', J, q⟩ := hs
    exact fin (v := V.non) (u := Value.none) J rfl q
  | brk =>
    obtain ⟨_, _, _, q⟩ := hs
    exact False.elim q
  | cont =>
    obtain ⟨_, _, _, q⟩ := hs
    exact False.elim q
theorem cal_mkT {P : Program} {w : World} {K : PySem.W.Frag} {mg : Str → Option Value} {base : Heap} {k : Nat} {x : Str} {st : Stmt} {N ps : List Str} {sp : Sp} (D : At K mg x st ps) (S : FnScope N ps (defScope st)) (len : ∀ vs H Q E, sp vs H Q E → vs.length = ps.length)
    (hnc : ∀ y ∈ (defScope st).names, y.2 ≠ .cell) (hps : 1 ≤ ps.length)
    (hbody : ∀ (f : Addr) (cdv : Value) (A : Around) (outer : List PySem.Env) (s : Shared) (H : Hp) (vs : List V) (Q : VK) (E : XK), (A.deeper (envOfC x (defScope st) s.heap.objs.size f cdv)).guards = some [] → Room k (A.deeper (envOfC x (defScope st) s.heap.objs.size f cdv)) → sp vs H Q E →
      ∃ t, PSsT (cxOf CX0 P w K mg base N x (defScope st) f cdv A outer s H E).nox (defBody st) t ∧ t { nx := fun _ H' => Q .non H', rt := Q } (L2.start N vs) H) : Cal P w K mg base CX0 (k + 1) x ps sp :=
  cal_mkTC D S len hnc hps fun f cdv A outer s H vs Q E hg hr h => let ⟨t, h1, h2⟩ := hbody f cdv A outer s H vs Q E hg hr h; ⟨t, PSsT.nox h1, h2⟩
/-- e.replace of written texts -/
theorem ev_replC {x y z : Str} (h : EV K to Γ Θ (.d (.str x))) (hz : x.length + (x.length + 1) * z.length ≤ 16777216) : EV K (CwR.tReplC to y z) Γ Θ (.d (.str (Txt.replace x y z))) := fun B A σ H Q e k =>
  h B A σ H _ e fun v H1 s1 o1 => ⟨x, dx_str o1, hz, k _ H1 s1 (.str _)⟩
end
end DL

namespace DL
open PySem PySem.Spec PyProof.Rows L2
section
variable {K : PySem.W.Frag} {E : WX} {B : Addr → Prop} {A A' : List (Option Addr)} {H H' : Hp} {Γ Γ' : Gm} {Θ Θ' : Th} {σ σ' : L2.St} {x y z : El} {te ta tb td ty tx : TE} {tt : TT} {P : Post}
/-! ### defs of data that give a new object -/
def spN (K : PySem.W.Frag) (n : Nat) (pf : List PyData → OD → Prop) : Sp := fun vs H Q _ => ∃ (M : Addr → Prop) (ds : List PyData) (od : OD), ds.length = n ∧ (∀ a, M a → H a ≠ none) ∧ DxAll K (mask M H) vs ds ∧ pf ds od ∧ od.flat ∧
  ∀ p o H', H p = none → Same H H' → H' p = some o → OdOk K (fun a => M a ∨ a = p) [] H' o od → Q (.ref p) H'
theorem spN_len {n : Nat} {pf : List PyData → OD → Prop} {vs : List V} {H : Hp} {Q : VK} {E : XK} (h : spN K n pf vs H Q E) : vs.length = n := by
  obtain ⟨M, ds, r, h1, _, h2, _⟩ := h
  rw [dxAll_len h2, h1]
theorem en_callF {n : Nat} {pf : List PyData → OD → Prop} {ta : TA} {xs : List El} {od : OD} {E' : XK} (ha : AV K ta Γ Θ xs) (hp : pf (xs.map unD) od) (hf : od.flat) (hx : (xs.map unD).map .d = xs := by rfl) (hn : (xs.map unD).length = n := by rfl) : EN K (tCall (spN K n pf) [] E' ta) Γ Θ od := fun B A σ H Q e k =>
  ha B A σ H _ e fun vs H1 s1 o1 => by
    have e1 := e.pure s1
    rw [← hx] at o1
    have a := paired_dx o1
    refine ⟨hid B A, xs.map unD, od, hn, fun b m => ?_, by rw [List.append_nil]; exact a, hp, hf, fun p o H' np s hpo ok => k p o H' (Same.free s1 np) (s1.trans s) hpo (flat_od hf ?_ ok)⟩
    · rcases m with m | m
      · exact e1.own.bh b m
      · obtain ⟨j, hj⟩ := List.mem_iff_getElem?.mp m
        obtain ⟨u, od, h1, _⟩ := e1.own.ow j b hj
        rw [h1]; simp
    · refine mask_less fun a m => ?_
      rcases m with (m | m) | m
      · exact .inl (.inl (.inl m))
      · exact .inl (.inr m)
      · exact .inl (.inl (.inr m))
theorem body_N {pf : List PyData → OD → Prop} {n : Nat} {N : List Str} {vs : List V} {Q : VK} {E' : XK} {ts : TS} (h : spN K n pf vs H Q E')
    (hb : ∀ ds od, ds.length = n → pf ds od → SG K W0 ts (ds.map (fun d => some (.d d)) ++ List.replicate (N.length - ds.length) none) [] ⟨fun _ _ => False, fun e _ Θ => e = .at 0 ∧ Θ = [od], fun _ _ => False, fun _ _ => False, fun _ _ _ _ => False⟩) :
    ts { nx := fun _ H' => Q .non H', rt := Q } (L2.start N vs) H := by
  obtain ⟨M, ds, od, hn, hM, hd, hp, hf, k⟩ := h
  have tr0 : ∀ {A' : List (Option Addr)} {H' : Hp}, Tr [] H A' H' → Same H H' := fun t a o h => t.keep a o h (by simp)
  refine hb ds od hn hp M [] (L2.start N vs) H _ (en_start hM hd) ⟨fun _ _ _ _ _ _ _ q => q.elim, fun v A' H' σ' e Γ' Θ' t en o q => ?_, fun _ _ _ _ _ _ _ q => q.elim, fun _ _ _ _ _ _ _ q => q.elim, fun _ _ _ _ _ _ _ _ _ _ _ q => q.elim⟩
  obtain ⟨rfl, rfl⟩ := q
  obtain ⟨p, h0, rfl⟩ := o
  obtain ⟨o', od', h1, h2, h3⟩ := en.own.ow 0 p h0
  cases h2
  have hA : A' = [some p] := by
    have hl : A'.length = 1 := en.own.la
    cases A' with
    | nil => cases hl
    | cons a r =>
      cases r with
      | nil => simp at h0; rw [h0]
      | cons b c => simp at hl
  have np : H p = none := by
    rcases t.new p (by rw [hA]; simp) with q | q
    · simp at q
    · exact q
  refine k p o' H' np (tr0 t) h1 (flat_od hf ?_ h3)
  refine mask_less fun a m => ?_
  rcases m with (m | m) | m
  · exact .inl m
  · exact .inr (by rw [hA, m]; simp)
  · simp at m
end
end DL

namespace DL
open PySem PySem.Spec PyProof.Rows L2
/-! ### how long a shown datum may be -/
mutual
def wd : PyData → Nat
  | .none => 5
  | .bool _ => 5
  | .int i => (TL.numL i.natAbs).length + 1
  | .str x => 10 * x.length + 2
  | .list xs => wdAll xs + 3
  | .tuple xs => wdAll xs + 3
  | .dict _ => 0
def wdAll : List PyData → Nat
  | [] => 0
  | x :: xs => wd x + 2 + wdAll xs
end
mutual
def low : PyData → Bool
  | .none => true
  | .bool _ => true
  | .int _ => true
  | .str x => x.cps.toList.all fun c => decide (c < 1114112)
  | .list xs => lowAll xs
  | .tuple xs => lowAll xs
  | .dict _ => false
def lowAll : List PyData → Bool
  | [] => true
  | x :: xs => low x && lowAll xs
end
theorem tl_int' (o : Int) : TL.tl (Str.ofString (toString o)) = (if o < 0 then [45] else []) ++ TL.numL o.natAbs := by
  cases o with
  | ofNat n => 
    have : ¬ ((Int.ofNat n) < 0) := by simp
    rw [if_neg this]
    exact TL.tl_num n
  | negSucc n =>
    have h : (Int.negSucc n) < 0 := Int.negSucc_lt_zero n
    rw [if_pos h]
    have e : toString (Int.negSucc n) = "-" ++ toString (n + 1) := rfl
    rw [e, TL.tl_ofString, String.toList_append, List.map_append]
    have e2 : (toString (n + 1)).toList.map Char.toNat = TL.numL (n + 1) := by
      have := TL.tl_num (n + 1)
      rw [TL.tl_ofString] at this
      exact this
    rw [e2]
    rfl
mutual
theorem shown_le : ∀ d : PyData, low d = true → d.shown.length ≤ wd d
  | .none, _ => by simp only [PyData.shown, wd]; decide
  | .bool b, _ => by simp only [PyData.shown, wd]; cases b <;> decide
  | .int i, _ => by
    simp only [PyData.shown, wd]
    rw [TL.len_tl, tl_int', List.length_append]
    split <;> simp <;> omega
  | .str x, h => by
    simp only [PyData.shown, wd]
    refine StrLaws.reprText_len x fun c hc => ?_
    simp only [low] at h
    have := of_decide_eq_true (List.all_eq_true.mp h c hc)
    omega
  | .list xs, h => by
    simp only [PyData.shown, wd]
    have ih := shownAll_le xs (by simpa [low] using h)
    cases hq : PyData.shownAll xs with
    | nil => show (listText []).length ≤ _; rw [listText_nil]; show 2 ≤ _; omega
    | cons t r =>
      rw [hq] at ih
      have h := textFrom_length_pos r 1 (("[" : Str) ++ (if (0 : Nat) > 0 then ", " else "" : String) ++ t) (Nat.succ_pos 0)
      have e : ((("[" : Str) ++ (if (0 : Nat) > 0 then ", " else "" : String) ++ t)).length = 1 + t.length := by
        rw [strLen_append, strLen_append]; rfl
      have hX : (listText (t :: r)).length = (textFrom 0 "[" (t :: r)).length + 1 := by
        show (textFrom 0 "[" (t :: r) ++ "]").length = _
        rw [strLen_append]; rfl
      have hY : (textFrom 0 "[" (t :: r)).length = (textFrom 1 (("[" : Str) ++ (if (0 : Nat) > 0 then ", " else "" : String) ++ t) r).length := rfl
      rw [hX, hY, h, e]
      rw [piled_cons] at ih
      omega
  | .tuple xs, h => by
    simp only [PyData.shown, wd]
    have ih := shownAll_le xs (by simpa [low] using h)
    unfold tupleText
    rw [strLen_append, strLen_append]
    have e1 : ((("(" : String) : Str)).length = 1 := rfl
    have e3 : (((if (PyData.shownAll xs).length == 1 then ",)" else ")" : String) : Str)).length ≤ 2 := by split <;> decide
    rw [e1]
    by_cases hn : PyData.shownAll xs = []
    · rw [hn] at e3 ⊢
      have : (Str.join ", " ([] : List Str)).length = 0 := rfl
      rw [this]
      omega
    · have := join_length_add (PyData.shownAll xs) hn
      omega
  | .dict _, h => by simp [low] at h
theorem shownAll_le : ∀ xs : List PyData, lowAll xs = true → piled (PyData.shownAll xs) ≤ wdAll xs
  | [], _ => by simp only [PyData.shownAll, wdAll]; exact Nat.le_refl _
  | x :: xs, h => by
    have h' : low x = true ∧ lowAll xs = true := by simpa [lowAll] using h
    simp only [PyData.shownAll, wdAll]
    rw [piled_cons]
    have := shown_le x h'.1
    have := shownAll_le xs h'.2
    omega
end
/-- tuples of ints -/
theorem low_ints : ∀ l : List Int, lowAll (l.map .int) = true
  | [] => by simp [lowAll]
  | x :: xs => by simp [lowAll, low, low_ints xs]
theorem showable_ints : ∀ l : List Int, (∀ o ∈ l, o.natAbs.log2 < 1920) → PyData.showableAll (l.map .int) = true
  | [], _ => by simp [PyData.showableAll]
  | x :: xs, h => by
    have h1 := h x List.mem_cons_self
    have h2 := showable_ints xs fun o m => h o (List.mem_cons_of_mem _ m)
    simp [PyData.showableAll, PyData.showable, h1, h2]
theorem noDict_ints : ∀ l : List Int, PyData.hasDictAll (l.map .int) = false
  | [] => by simp [PyData.hasDictAll]
  | x :: xs => by simp [PyData.hasDictAll, PyData.hasDict, noDict_ints xs]
theorem wd_ints {k : Nat} : ∀ l : List Int, (∀ o ∈ l, (TL.numL o.natAbs).length ≤ k) → wdAll (l.map .int) ≤ (k + 3) * l.length
  | [], _ => by simp [wdAll]
  | x :: xs, h => by
    have h1 := h x List.mem_cons_self
    have h2 := wd_ints xs fun o m => h o (List.mem_cons_of_mem _ m)
    simp only [List.map_cons, wdAll, wd, List.length_cons]
    rw [Nat.mul_add]
    omega
end DL

namespace DL
open PySem PySem.Spec PyProof.Rows L2
theorem caller_guards : callerA.guards = some [] := rfl
/-- a def by its facts -/
theorem fun_ofD {K : PySem.W.Frag} {x : Str} {st : Stmt} {f : Addr} {fd : FuncData} (F : FunD K x x (defArgs st) (defBody st) (defScope st) [] [] f fd) : Fun K x x st f fd := by
  obtain ⟨oc, od, dV, kV, doc, pm, an, cdv, ct, osl, e, lk, hcd, hD, _⟩ := F.ex
  rcases hD with ⟨_, rfl⟩ | ⟨z, _⟩
  · exact ⟨⟨oc, od, kV, doc, pm, an, cdv, ct, osl, e, lk, hcd⟩, F.kp⟩
  · exact absurd rfl z
def dD (x : Str) (st : Stmt) : He.DefD := ⟨(x, none), x, x, defArgs st, defBody st, defScope st, [], []⟩
theorem at_of {K : PySem.W.Frag} {h : Heap} {mg : Str → Option Value} {fa : List He.Fa} {fn : List He.DefD} (X : K.In h) (G : h.Ns mainGlobals mg) (c : He.SaysD fa fn K) {x : Str} {st : Stmt} {ps : List Str} (i j : Nat) (hi : fn[i]? = some (dD x st)) (hj : fa[j]? = some (.glo x))
    (hb : ∀ (kV doc pm : Value) (an : Option Addr) (cdv ct : Value) (us : List Value), us.length = ps.length → bindArgs (PySem.W.fnOf x x (defArgs st) (defBody st) (defScope st) .none kV doc pm an cdv ct) ⟨us, []⟩ = pure (ps.zip us)) : At K mg x st ps := by
  obtain ⟨fd, F⟩ := c.def_ i hi
  have F : FunD K x x (defArgs st) (defBody st) (defScope st) [] [] (He.fAd K (x, none)) fd := F
  exact ⟨_, fd, fun_ofD F, He.glo_ok X G (c.fact j hj), FunD.bindsN F hb⟩
/-- the law's call from a promise that asks for no guards -/
theorem law_callG {P : Program} {w : World} {K : PySem.W.Frag} {mg mb : Str → Option Value} {k : Nat} {fa a : Addr} {x0 x : Str} {pf : List PyData → PyData → Prop} {s₁ : Shared} {vs : List Value} {ns : List Int}
    (KX : K.In s₁.heap) (hns : s₁.heap.Ns mainGlobals mg) (hb : s₁.heap.Ns builtinsNs mb) (hbb : ∀ x : Str, x ≠ "__name__" → mb x = bootBuiltins x) (hlim : s₁.heap.NoLimit) (hg : s₁.gens = #[])
    (ha : s₁.heap.get? a = some { cls := .type "list", data := .seq vs.toArray }) (hi : IntsAre vs ns) (hl : ns.length ≤ sizeLine) (hr : Room k callerA)
    (F : ∀ base : Heap, K.In base → base.Ns mainGlobals mg → Cal P w K mg base CX0 k x0 [x] (spP K 1 pf)) (hfa : mg x0 = some (.ref fa))
    (hpf : pf [.list (ns.map .int)] (.bool true)) :
    codeAny (model P w) callerA (.call (.ref fa) ⟨[.ref a], []⟩) (fun r s' => r = .ok (.ret (.bool true)) ∧ OldK s₁.heap s'.heap ∧ s'.os = s₁.os ∧ AllBare s'.gens) s₁ := by
  have rv := vals_ints hi
  have lenV := hi.length
  -- what may be tracked: the script alone, kept as it stands
  let ob : Obj := { cls := .type "list", data := .seq vs.toArray }
  obtain ⟨H, hO, hS, hok, hA, hK⟩ : ∃ H : Hp, Only H ∧ SqL K H a (ns.map V.int) ∧ HOk P w H s₁.heap ∧ (∀ b, H b ≠ none → b = a) ∧ (H a ≠ none → K.lookup a = none) := by
    cases hk : K.lookup a with
    | some o =>
      have e := KX a o hk
      rw [ha] at e
      cases e
      refine ⟨fun _ => none, fun _ => .inl rfl, .inr ⟨_, vs.toArray, _, hk, rfl, rfl, rfl, by rw [List.size_toArray, lenV]; exact hl, by simpa using rv⟩, ?_, fun b z => absurd rfl z, fun z => absurd rfl z⟩
      intro b u z
      cases z
    | none =>
      refine ⟨upd (fun _ => none) a (.frz ob (.lst (ns.map V.int))), fun b => ?_, .inl (.inr ⟨ob, upd_same⟩), fun b u z => ?_, fun b z => ?_, fun _ => rfl⟩
      · by_cases q : b = a
        · subst q; exact .inr ⟨_, _, upd_same⟩
        · exact .inl (upd_ne q)
      · by_cases q : b = a
        · subst q
          rw [upd_same] at z
          cases z
          exact ⟨ha, by rw [List.length_map]; exact hl, vs, _, rv, ha⟩
        · rw [upd_ne q] at z; cases z
      · exact Classical.byContradiction fun q => z (upd_ne q)
  have only : ∀ {b : Addr} {o : Obj}, s₁.heap.get? b = some o → (∀ es ep, o.data = .dict es ep → H b = none) := fun {b o} e es ep d => by
    refine Classical.byContradiction fun q => ?_
    have e' := hA b q
    subst e'
    rw [ha] at e
    cases e
    cases d
  have nsK : ∀ {b : Addr} {m : Str → Option Value}, s₁.heap.Ns b m → (hidT s₁.heap H).Ns b m := fun {b m} ⟨o, es, ep, e, d, r⟩ => ⟨o, es, ep, hidT_get e (only e es ep d), d, r⟩
  have hKb : K.In (hidT s₁.heap H) := fun b o e => hidT_get (KX b o e) (Classical.byContradiction fun q => by
    have e' := hA b q
    subst e'
    rw [hK q] at e; cases e)
  obtain ⟨mc, l1, l2⟩ := hlim
  have e0 : Env0 P w K mg (hidT s₁.heap H) callerA [] s₁ H := ⟨rfl, ⟨hKb, nsK hns, ⟨mb, nsK hb, hbb⟩, mc, nsK l1, l2⟩, fun b o e => of_hidT e, Nat.le_of_eq (hidT_size _ _), trivial, fun b hb => absurd (show b ∈ ([] : List Addr) from hb) (by simp), hok, .of_eq hg⟩
  have hsp : spP K 1 pf [.ref a] H (fun v _ => v = .bl true) (fun _ _ _ => False) :=
    ⟨fun _ => False, [.list (ns.map .int)], .bool true, rfl, fun _ z => z.elim, .cons (.lst (xs := ns.map V.int) (same_l (fun b o z => by rw [mask_no (fun q => q)]; exact z) hS) (dxAll_of_ints ns)) .nil, hpf, fun v H' _ d => dx_bl d⟩
  obtain ⟨f, fd, F1, hm, _, hbi⟩ := (F _ hKb (nsK hns)).ex
  rw [hfa] at hm
  cases hm
  have hb1 := hbi s₁ [.ref a] KX rfl
  rw [List.append_nil] at hb1
  refine codeAny_mono (F1.run callerA [] s₁ H ⟨[.ref a], []⟩ [.ref a] [.ref a] _ _ caller_guards hr e0 hb1 (.cons rfl .nil) hsp) fun r s' h => ?_
  cases r with
  | error e => exact False.elim h
  | ok fl =>
    cases fl with
    | next => exact False.elim h
    | brk => exact False.elim h
    | cont => exact False.elim h
    | ret u =>
      obtain ⟨v, H', os, bare, un, hok', r', q⟩ := h
      have q' : v = .bl true := q
      subst q'
      obtain rfl : u = Value.bool true := r'
      refine ⟨rfl, OldK.of_keep fun b o e => ?_, os, bare⟩
      cases q : H b with
      | none => exact un.keep b o e q (by intro z; exact absurd (show b ∈ ([] : List Addr) from z) (by simp)) (by simp)
      | some u =>
        rcases hO b with z | ⟨ob, xs, z⟩
        · rw [q] at z; cases z
        · obtain ⟨e1, _⟩ := hok b _ z
          obtain ⟨e2, _⟩ := hok' b _ (un.frzs b ob _ z)
          rw [e] at e1; cases e1
          exact e2
theorem walk_ofG {l : PySem.W.OpenLaw} {n k : Nat} {q : Program} {loose : List Str} {XP : (Str → Option Value) → Heap → Prop} {YP : World → Heap → Prop} {d : DefRec} {x0 x : Str} {pf : List PyData → PyData → Prop}
    (hn : l.most = some n) (hn2 : n ≤ sizeLine) (hdf : d.params.defaults = []) (hdn : d.name = x0) (hr : Room k callerA) (hpf : ∀ ns : List Int, ns.length ≤ n → pf [.list (ns.map .int)] (.bool true))
    (F : ∀ (w : World) (mg : Str → Option Value) (h : Heap), YP w h → h.Ns mainGlobals mg →
      ∃ K : PySem.W.Frag, K.In h ∧ ∀ base : Heap, K.In base → base.Ns mainGlobals mg → Cal l.prog w K mg base CX0 k x0 [x] (spP K 1 pf)) :
    PySem.W.WalkO q loose XP YP l.row.toRowW d [] (fun f vs => PySem.call f vs) := by
  refine Att.attach_call hn hdf fun w s₀ s₁ mg mb fa o pm cd doc a vs ns G Y ho hd hcd hmg hobj hints hlen hg => ?_
  obtain ⟨K, KX, hF⟩ := F w mg _ Y G.T.g
  rw [hdn] at hmg
  exact law_callG KX G.T.g G.T.b G.T.builtins G.T.nolimit hg hobj hints (Nat.le_trans hlen hn2) hr hF hmg (hpf ns hlen)
end DL

namespace DL
open PySem PySem.Spec PyProof.Rows L2
/-! ### defs that raise -/
inductive Out where
  | ret (x : PyData)
  | exc (c : Str) (fs : Option (List (Str × PyData)))
section
variable {K : PySem.W.Frag} {E : WX} {B : Addr → Prop} {A A' : List (Option Addr)} {H H' : Hp} {Γ Γ' : Gm} {Θ Θ' : Th} {σ σ' : L2.St} {x y z : El} {te ta tb td ty tx : TE} {tt : TT} {P : Post} {mg : Str → Option Value}
def spX (K : PySem.W.Frag) (mg : Str → Option Value) (n : Nat) (pf : List PyData → Out → Prop) : Sp := fun vs H Q E => ∃ (M : Addr → Prop) (ds : List PyData) (o : Out), ds.length = n ∧ (∀ a, M a → H a ≠ none) ∧ DxAll K (mask M H) vs ds ∧ pf ds o ∧
  (∀ r, o = .ret r → ∀ v H', Same H H' → Dx K (mask M H') v r → Q v H') ∧ ∀ c fs, o = .exc c fs → ∀ C d H', mg c = some (.ref C) → Same H H' → XOk K M H' d fs → E (.ref C) d H'
theorem spX_len {n : Nat} {pf : List PyData → Out → Prop} {vs : List V} {H : Hp} {Q : VK} {E : XK} (h : spX K mg n pf vs H Q E) : vs.length = n := by
  obtain ⟨M, ds, r, h1, _, h2, _⟩ := h
  rw [dxAll_len h2, h1]
theorem xok_mono {M M' : Addr → Prop} {d : Option Addr} {fs : Option (List (Str × PyData))} (s : Same (mask M H) (mask M' H')) (e : Same H H') (h : XOk K M H d fs) : XOk K M' H' d fs := xm_same s h
theorem body_X {pf : List PyData → Out → Prop} {n : Nat} {N : List Str} {vs : List V} {Q : VK} {E : XK} {ts : TS} (h : spX K mg n pf vs H Q E)
    (hb : ∀ ds o, ds.length = n → pf ds o → SG K (fun c d _ H => E c d H) ts (ds.map (fun d => some (.d d)) ++ List.replicate (N.length - ds.length) none) [] ⟨fun _ _ => o = .ret .none, fun e _ _ => ∃ r, e = .d r ∧ o = .ret r, fun _ _ => False, fun _ _ => False, fun c fs _ _ => ∃ x C, c = .ref C ∧ mg x = some (.ref C) ∧ o = .exc x fs⟩) :
    ts { nx := fun _ H' => Q .non H', rt := Q } (L2.start N vs) H := by
  obtain ⟨M, ds, o, hn, hM, hd, hp, k1, k2⟩ := h
  have hh : ∀ A : List (Option Addr), ∀ a, M a → hid M A a := fun A a => .inl
  have tr0 : ∀ {A' : List (Option Addr)} {H' : Hp}, Tr [] H A' H' → Same H H' := fun t a o h => t.keep a o h (by simp)
  refine hb ds o hn hp M [] (L2.start N vs) H _ (en_start hM hd) ⟨fun A' H' σ' Γ' Θ' t e q => ?_, fun v A' H' σ' e Γ' Θ' t en o q => ?_, fun _ _ _ _ _ _ _ q => q.elim, fun _ _ _ _ _ _ _ q => q.elim, fun c d fs A' H' σ' Γ' Θ' t w xo q => ?_⟩
  · exact k1 _ q .non H' (tr0 t) .non
  · obtain ⟨r, rfl, q⟩ := q
    exact k1 r q v H' (tr0 t) (dx_same (mask_less (hh A')) o)
  · obtain ⟨x, C, rfl, hm, q⟩ := q
    exact k2 x fs q C d H' hm (tr0 t) (xok_mono (mask_less (hh A')) (Same.refl H') xo)
theorem sg_raise0 {C : Addr} (h : P.ex (.ref C) none Γ Θ) : SG K E (fun _ σ H => (fun (_ : L2.St) (H : Hp) (Q : XK) => Q (.ref C) none H) σ H fun cls d H' => E cls d σ H') Γ Θ P := fun B A σ H D e d =>
  d.ex (.ref C) none none A H σ Γ Θ Tr.refl e trivial h
/-- a call within try -/
theorem pe_callCS {X : Cx} {CX : CXT} {k : Nat} {ps : List Str} {sp : Sp} {x : Str} {p pos : Pos} {e : Expr} {es : List Expr} {t : TA} {E : L2.St → XK} (C : Cal X.prog X.w X.K X.mg X.base CX k x ps sp) (hg : X.A.guards = some []) (hr : Room k X.A) (hx : ∀ σ, PassesAt CX X σ (E σ)) (gl : Gl X x) (ha : PA X (e :: es) t)
    (hdb : (x == ("__debug__" : Str)) = false := by decide) (he : starEach (e :: es) X.env = (false, eval e X.env) :: starEach es X.env := by rfl) (hpl : (backTo pos (starEach es X.env)).any (·.1) = false := by rfl) :
    PE X (.Call (.Name x p) (e :: es) [] pos) (tCallS sp E t) := by
  obtain ⟨f, fd, F, hm, hk, hb⟩ := C.ex
  constructor
  intro pins s σ H Q I h
  refine wpAny_Call_Name_kw (ld_glob I gl hm ?_ hdb)
  refine PySem.W.callWith_K (h₀ := X.base) I.ok.mod.kin hk (thn (ha.run pos pins s σ H _ I h) ?_) he hpl
  rintro us s1 ⟨vs, H1, I1, r, q⟩
  refine ⟨I1.kIn, ?_⟩
  have hl : us.length = ps.length := by rw [← r.length]; exact F.len _ _ _ _ q
  have hbu := hb s1 us I1.kIn (by rw [List.append_nil]; exact hl)
  rw [List.append_nil] at hbu
  refine wpAny_call (codeAny_mono (F.run X.A X.stack s1 H1 ⟨us, []⟩ us vs Q (E σ) hg hr I1.env0 hbu r q) ?_)
  intro r s' hq
  cases r with
  | error e => exact hx σ pins H1 s1 e s' I1 hq
  | ok fl => cases fl with
    | ret u => exact I1.after hq
    | next => exact hq.elim
    | brk => exact hq.elim
    | cont => exact hq.elim
/-- an expression that gives a value or raises -/
def EX (K : PySem.W.Frag) (W : WX) (te : TE) (Γ : Gm) (Θ : Th) (Pv : El → Prop) (Px : Value → Option (List (Str × PyData)) → Prop) : Prop := ∀ (B : Addr → Prop) A σ H (Q : VK), En K B A H σ Γ Θ →
  (∀ v H' x, Same H H' → ElOk K B A H' v x → Pv x → Q v H') → (∀ c d fs H', Same H H' → XOk K (hid B A) H' d fs → Px c fs → W c d σ H') → te σ H Q
theorem ex_call {n : Nat} {pf : List PyData → Out → Prop} {W : WX} {ta : TA} {ds : List PyData} {o : Out} {Pv : El → Prop} {Px : Value → Option (List (Str × PyData)) → Prop} (ha : AV K ta Γ Θ (ds.map .d)) (hp : pf ds o) (hn : ds.length = n)
    (hret : ∀ r, o = .ret r → Pv (.d r)) (hexc : ∀ x fs, o = .exc x fs → ∀ C, mg x = some (.ref C) → Px (.ref C) fs) : EX K W (tCallS (spX K mg n pf) (WE W) ta) Γ Θ Pv Px := fun B A σ H Q e kv kx =>
  ha B A σ H _ e fun vs H1 s1 o1 => by
    have e1 := e.pure s1
    have a := paired_dx o1
    refine ⟨hid B A, ds, o, hn, fun b m => ?_, a, hp, fun r er v H' s o => kv v H' (.d r) (s1.trans s) o (hret r er), fun x fs ex C d H' hm s xo => kx _ d fs H' (s1.trans s) xo (hexc x fs ex C hm)⟩
    rcases m with m | m
    · exact e1.own.bh b m
    · obtain ⟨j, hj⟩ := List.mem_iff_getElem?.mp m
      obtain ⟨u, od, h1, _⟩ := e1.own.ow j b hj
      rw [h1]; simp
theorem sg_asgX {j : Nat} (h : EX K E te Γ Θ (fun x => P.nx (Γ.set j (some x)) Θ) fun c fs => P.ex c fs Γ Θ) : SG K E (tAsg te (gName j)) Γ Θ P := fun B A σ H D e d =>
  h B A σ H _ e (fun v H' x s o p => d.nx A H' (σ.set j (some v)) _ Θ (Tr.pure s) ((e.pure s).set o) p) fun c dd fs H' s xo p => d.ex c dd fs A H' σ Γ Θ (Tr.pure s) (e.pure s) xo p
theorem sg_retX (h : EX K E te Γ Θ (fun x => P.rt x Γ Θ) fun c fs => P.ex c fs Γ Θ) : SG K E (tRet te) Γ Θ P := fun B A σ H D e d =>
  h B A σ H _ e (fun v H' x s o p => d.rt v A H' σ x Γ Θ (Tr.pure s) (e.pure s) o p) fun c dd fs H' s xo p => d.ex c dd fs A H' σ Γ Θ (Tr.pure s) (e.pure s) xo p
/-- xs.append(e), e may raise -/
theorem sg_appendX {k : Nat} {es : List El} (hx : EV K ta Γ Θ (.at k)) (he : EX K E te Γ Θ (fun x => P.nx Γ (Θ.set k (.lst (es ++ [x])))) fun c fs => P.ex c fs Γ Θ) (hk : Θ[k]? = some (.lst es)) (hz : es.length < sizeLine) :
    SG K E (tDrop (tBM K "list" rAppend ta (tCons te tNil))) Γ Θ P := fun B A σ H D e d => hx B A σ H _ e fun v H1 s1 o1 => by
  have e1 := e.pure s1
  obtain ⟨pa, vs, rfl, hA, hp, hv⟩ := e1.own.lst hk o1
  refine ⟨.inl ⟨rfl, _, SqL.of hp⟩, he B A σ H1 _ e1 (fun u H2 x s2 o2 p => ⟨pa, vs, u, rfl, rfl, s2 _ _ hp, by rw [paired_len hv]; exact hz, ?_⟩) fun c dd fs H' s xo p => d.ex c dd fs A H' σ Γ Θ (Tr.pure (s1.trans s)) (e1.pure s) xo p⟩
  have e2 := e1.pure s2
  have hv2 : Paired (ElOk K B A H2) vs es := paired_mono hv fun a b z => z.pure e1.own.bh s2
  exact d.nx A _ σ Γ _ ((Tr.pure (s1.trans s2)).trans (Tr.put hA)) (e2.put hA (od := .lst (es ++ [x])) (Paired.snoc o2 hv2)) p
/-- try: .. except c as n: .. -/
theorem sg_tryAs {i : Nat} {c : Value} {ts : Addr → Value → Option Addr → TS} {Wout : WX} {tb : WX → TS}
    (hb : ∀ W : WX, SG K W (tb W) Γ Θ { P with ex := fun cls fs Γ' Θ' => PySem.W.exmOne K cls c = some true ∧ ∀ a d, (fs = none → d = none) → SG K E (ts a cls d) (Γ'.set i (some (.exc a d fs))) Θ' { nx := fun Γ2 Θ2 => P.nx (Γ2.set i none) Θ2, rt := P.rt, bk := fun Γ2 Θ2 => P.bk (Γ2.set i none) Θ2, ct := fun Γ2 Θ2 => P.ct (Γ2.set i none) Θ2, ex := P.ex } }) :
    SG K E (fun D σ H => tb (wAs K c i ts Wout D) D σ H) Γ Θ P := fun B A σ H D e dd => by
  refine hb (wAs K c i ts Wout D) B A σ H D e ⟨dd.nx, dd.rt, dd.bk, dd.ct, fun cls d fs A1 H1 σ1 Γ1 Θ1 t1 e1 xo p => ?_⟩
  obtain ⟨hex, hs⟩ := p
  have dd1 := dd.tr t1
  refine ⟨true, hex, fun _ a na => ?_, fun z => by cases z⟩
  refine hs a d (fun z => by subst z; cases d with | none => rfl | some q => exact xo.elim) B A1 (σ1.set i (some (.ref a))) H1 _ (e1.set (x := .exc a d fs) ⟨rfl, xo⟩) ⟨fun A3 H3 σ3 Γ3 Θ3 t3 e3 q3 => ?_, dd1.rt, fun A3 H3 σ3 Γ3 Θ3 t3 e3 q3 => ?_, fun A3 H3 σ3 Γ3 Θ3 t3 e3 q3 => ?_, dd1.ex⟩
  · exact dd1.nx A3 H3 (σ3.set i none) _ Θ3 t3 e3.drop q3
  · exact dd1.bk A3 H3 (σ3.set i none) _ Θ3 t3 e3.drop q3
  · exact dd1.ct A3 H3 (σ3.set i none) _ Θ3 t3 e3.drop q3
/-- try: .. except c: .. -/
theorem sg_tryOnly {c : Value} {ts : Addr → Value → Option Addr → TS} {Wout : WX} {tb : WX → TS}
    (hb : ∀ W : WX, SG K W (tb W) Γ Θ { P with ex := fun cls fs Γ' Θ' => PySem.W.exmOne K cls c = some true ∧ ∀ a d, (fs = none → d = none) → SG K E (ts a cls d) Γ' Θ' P }) :
    SG K E (fun D σ H => tb (wOnly K c ts Wout D) D σ H) Γ Θ P := fun B A σ H D e dd => by
  refine hb (wOnly K c ts Wout D) B A σ H D e ⟨dd.nx, dd.rt, dd.bk, dd.ct, fun cls d fs A1 H1 σ1 Γ1 Θ1 t1 e1 xo p => ?_⟩
  obtain ⟨hex, hs⟩ := p
  refine ⟨true, hex, fun _ a na => ?_, fun z => by cases z⟩
  exact hs a d (fun z => by subst z; cases d with | none => rfl | some q => exact xo.elim) B A1 σ1 H1 _ e1 (dd.tr t1)
/-! ### isinstance of the caught -/
theorem ev_raw {v : V} : EV K (tC v) Γ Θ (.raw v) := fun B A σ H Q e k => k v H (Same.refl H) rfl
/-- the caught one, as a value -/
theorem ev_exc {i : Nat} {a : Addr} {d : Option Addr} {fs : Option (List (Str × PyData))} (h : Γ[i]? = some (some (.exc a d fs))) : EV K (tVar i) Γ Θ (.raw (.ref a)) := fun B A σ H Q e k =>
  (ev_var h) B A σ H Q e fun v H' s o => k v H' s o.1
theorem ev_isE {D a : Addr} {c : V} {cv : Value} {b : Bool} {ta : TA} (ha : AV K ta Γ Θ [.raw (.ref a), .raw c]) (hc : ∀ u, RelV c u → u = cv) (hk : PySem.W.kitOne K (.ref D) cv = some b) : EV K (tCB (rIsE K D a) ta) Γ Θ (.d (.bool b)) := fun B A σ H Q e k =>
  ha B A σ H _ e fun vs H1 s1 o1 => by
    cases o1 with | cons h1 t =>
    cases t with | cons h2 t =>
    cases t
    have h1 : _ = _ := h1
    have h2 : _ = _ := h2
    subst h1 h2
    exact ⟨_, cv, b, rfl, hc, hk, k _ H1 s1 (.bl b)⟩
def rIsET (K : PySem.W.Frag) (D a : Addr) : List V → Hp → VK → Prop := fun xs H Q => ∃ (tp : Addr) (cs : List V) (us : List Value) (b : Bool), xs = [.ref a, .ref tp] ∧ H tp = some (.tup cs) ∧ Paired ClsV cs us ∧ PySem.W.kitAny K (.ref D) us = some b ∧ Q (.bl b) H
theorem call_isET {X : Cx} {a D : Addr} {oe : Obj} {pn : List (Addr × Obj)} (C : ExcC X.K D) (hz : Zc (.ref D) none oe) (hf : ∃ vs, oe.data = .fields vs) : CallR (X.suite a ((a, oe) :: pn)) (.builtin "isinstance") (rIsET X.K D a) := by
  intro pins s σ H xs us Q I r h
  obtain ⟨tp, cs, ws, b, rfl, hT, k, e, q⟩ := h
  cases r with
  | cons rx rr =>
    cases rr with
    | cons rt rr =>
      cases rr
      cases rx
      cases rt
      obtain ⟨hget, _⟩ := I.pin (a, oe) (List.mem_append.mpr (.inl List.mem_cons_self))
      obtain ⟨vs, hv⟩ := hf
      have J : PySem.W.InstAt s.heap a oe D none := by
        obtain ⟨oc, od, oda, osl⟩ := oe
        obtain ⟨h1, h2⟩ := hz
        dsimp only at h1 h2 hv
        subst h1 h2 hv
        exact ⟨hget, rfl, rfl, trivial⟩
      obtain ⟨_, its, rv, o, h1, h2, n, h3⟩ := (show ObjOk X.prog X.w H s.heap tp (.tup cs) from I.hok tp _ hT)
      have e3 := ClsV.all k rv
      subst e3
      obtain ⟨oc, od, dt, sl⟩ := o
      simp only at h2 h3
      subst h2 h3
      exact PySem.W.kia_tup (PySem.W.handS_kitx_exc C.hg C.hk C.hs C.hd C.ha C.hn C.ht C.hm) I.kIn J h1 e (fun z => nomatch z) fun tk => ⟨.bl b, H, I.tok tk, rfl, q⟩
theorem raw_vals : ∀ {cs vs : List V}, Paired (ElOk K B A H) vs (cs.map .raw) → vs = cs
  | [], _, h => by cases h; rfl
  | c :: r, vs, h => by
    rw [List.map_cons] at h
    cases h with
    | cons h t =>
      have e : _ = _ := h
      rw [raw_vals t, e]
theorem ev_isET {D a : Addr} {cs : List V} {us : List Value} {b : Bool} {ta : TE} {tas : TA} (ha : EV K ta Γ Θ (.raw (.ref a))) (hs : AV K tas Γ Θ (cs.map .raw)) (hz : cs.length ≤ 100) (hc : Paired ClsV cs us) (hk : PySem.W.kitAny K (.ref D) us = some b) :
    EV K (tCB (rIsET K D a) (tCons ta (tCons (tTup tas) tNil))) Γ Θ (.d (.bool b)) := fun B A σ H Q e k =>
  ha B A σ H _ e fun v H1 s1 o1 => hs B A σ H1 _ (e.pure s1) fun vs H2 s2 o2 => by
    have o1 : v = .ref a := o1
    subst o1
    have ev : vs = cs := raw_vals o2
    subst ev
    refine ⟨Nat.le_trans hz (by decide), fun p np => ?_⟩
    exact ⟨p, vs, us, b, rfl, upd_same, hc, hk, k _ _ ((s1.trans s2).trans (Same.new np)) (.bl b)⟩
end
/-- a suite that is walked where the class is known -/
theorem pss_whenZ {X : Cx} {sts : List Stmt} {t : TS} {D : Addr} {cls : Value} {d : Option Addr} {oe : Obj} (h : Zc (.ref D) none oe → PSs X sts t) (hz : Zc cls d oe) : PSs X sts (fun Dn σ H => (cls = .ref D ∧ d = none) ∧ t Dn σ H) := ⟨fun pins s σ H Dn I q => by
  obtain ⟨⟨e1, e2⟩, q⟩ := q
  subst e1 e2
  exact (h hz).run pins s σ H Dn I q⟩
theorem sg_when {K : PySem.W.Frag} {E : WX} {Γ : Gm} {Θ : Th} {P : Post} {t : TS} {p : Prop} (hp : p) (h : SG K E t Γ Θ P) : SG K E (fun Dn σ H => p ∧ t Dn σ H) Γ Θ P := fun B A σ H D e d => ⟨hp, h B A σ H D e d⟩
/-- what is known of an own class without own __init__ -/
structure ExF (K : PySem.W.Frag) (mg : Str → Option Value) (x : Str) (C : Addr) : Prop where
  gC : mg x = some (.ref C)
  xP : PySem.W.excIn K C He.veBase "ValueError.__new__" = true
  kP : PySem.W.keepIn K (.ref C) = true
  bP : PySem.W.subIn K (.ref C) (.type "BaseException") = some true
  tP : PySem.W.typeIn K (.ref C) = some (.type "type")
theorem exF_of {K : PySem.W.Frag} {h : Heap} {mg : Str → Option Value} (X : K.In h) (G : h.Ns mainGlobals mg) {x : Str} (c1 : (He.Fa.glo x).ok K = true) (c2 : (He.Fa.exc x).ok K = true) : ExF K mg x (He.ga K x) := by
  obtain ⟨a, b, c, d⟩ := He.exc_ok c2
  exact ⟨He.glo_ok X G c1, a, b, c, d⟩
/-- what isinstance asks of the caught one's class, as a test -/
def excCB (K : PySem.W.Frag) (D : Addr) : Bool :=
  decide (PySem.W.findIn K (.ref D) "__getattribute__" = some (some (.builtin "BaseException.__getattribute__"))) && (decide (PySem.W.findIn K (.ref D) "__getattr__" = some none) && (decide (PySem.W.subIn K (.ref D) (.type "BaseException") = some true) && (PySem.W.hasDictIn K D &&
  (decide (PySem.W.findIn K (.ref D) "__class__" = some (some (.builtin "object.__class__"))) && (decide (PySem.W.specialIn K (.builtin "object.__class__") "__get__" = some (some (.builtin "getset_descriptor.__get__"))) && (decide (PySem.W.takesIn K (.builtin "object.__class__") = some true) && decide (PySem.W.mroIn K D (.type "object") = some true)))))))
theorem excC_of {K : PySem.W.Frag} {D : Addr} (h : excCB K D = true) : ExcC K D := by
  obtain ⟨h1, h⟩ := Bool.and_eq_true_iff.mp h
  obtain ⟨h2, h⟩ := Bool.and_eq_true_iff.mp h
  obtain ⟨h3, h⟩ := Bool.and_eq_true_iff.mp h
  obtain ⟨h4, h⟩ := Bool.and_eq_true_iff.mp h
  obtain ⟨h5, h⟩ := Bool.and_eq_true_iff.mp h
  obtain ⟨h6, h⟩ := Bool.and_eq_true_iff.mp h
  obtain ⟨h7, h8⟩ := Bool.and_eq_true_iff.mp h
  exact ⟨of_decide_eq_true h1, of_decide_eq_true h2, of_decide_eq_true h3, h4, of_decide_eq_true h5, of_decide_eq_true h6, of_decide_eq_true h7, of_decide_eq_true h8⟩
/-! ### a head with more facts -/
def hookX (n : Nat) (fa : List He.Fa) (fn : List He.DefD) (ex : PySem.W.Frag → Bool) : PySem.W.Hook where
  α := Bool × He.AlD
  obs := fun s => (ex (He.frG s.heap.get? (He.asD s.heap.get? n)), He.obsDG n fa fn s.heap.get?)
  val := fun _ => (true, He.valD fn)
  says := fun _ h => ∃ K : PySem.W.Frag, K.In h ∧ He.SaysD fa fn K ∧ ex K = true
  of := fun _ _ e => ⟨_, He.frG_in, congrArg Prod.snd e, congrArg Prod.fst e⟩
  keeps := fun _ _ _ ⟨K, hK, c⟩ k => ⟨K, PySem.W.Frag.In.keeps hK k, c⟩
def obX (n : Nat) (fa : List He.Fa) (fn : List He.DefD) (ex : PySem.W.Frag → Bool) (g : Addr → Option Obj) : Bool × He.AlD := (ex (He.frG g (He.asD g n)), He.obsDG n fa fn g)
theorem obX_eq {n : Nat} {fa : List He.Fa} {fn : List He.DefD} {ex : PySem.W.Frag → Bool} {g : Addr → Option Obj} {s : Shared} (h : ∀ a, g a = s.heap.get? a) : obX n fa fn ex g = (hookX n fa fn ex).obs s := by
  have e : g = s.heap.get? := funext h
  rw [e] <;> rfl
end DL

namespace DL
open PySem PySem.Spec PyProof.Rows L2
section
variable {K : PySem.W.Frag} {E : WX} {B : Addr → Prop} {A A' : List (Option Addr)} {H H' : Hp} {Γ Γ' : Gm} {Θ Θ' : Th} {σ σ' : L2.St} {x y z : El} {te ta tb td ty tx : TE} {tt : TT} {P : Post}
theorem paired_app {α β : Type} {F : α → β → Prop} : ∀ {xs xs' : List α} {ys ys' : List β}, Paired F xs ys → Paired F xs' ys' → Paired F (xs ++ xs') (ys ++ ys')
  | _, _, _, _, .nil, h => h
  | _, _, _, _, .cons a t, h => .cons a (paired_app t h)
/-! ### list + list, list * int -/
abbrev rAddX (K : PySem.W.Frag) : R2 := fun x y H Q => (rI0 fun i j => .int (i + j)) x y H Q ∨ (fun x y H Q => (∃ i j, x = V.str i ∧ y = V.str j ∧ i.length + j.length ≤ sizeLine ∧ Q (.str (i ++ j)) H) ∨ (fun x y H Q => rCatA K x y H Q ∨ rCat x y H Q) x y H Q) x y H Q
abbrev rMulX (K : PySem.W.Frag) : R2 := fun x y H Q => (rI CMulW fun i j => .int (i * j)) x y H Q ∨ (fun x y H Q => rRepA K x y H Q ∨ (fun x y H Q => rRep x y H Q ∨ rRepS x y H Q) x y H Q) x y H Q
/-- an object is new and hidden: the rest goes on -/
theorem En.fresh {p : Addr} {o : HO} (e : En K B A H σ Γ Θ) (np : H p = none) (s : Same H H') (hp : H' p = some o) : En K (fun a => B a ∨ a = p) A H' σ Γ Θ :=
  e.more (fun a n m => m.elim id fun q => by rw [q] at n; exact absurd np n) (fun a m => by
    rcases m with m | m
    · exact (Tr.pure (A := A) s).al a (e.own.bh a m)
    · rw [m, hp]; simp) s
theorem od_less {p : Addr} {o : HO} {od : OD} (h : OdOk K (fun a => B a ∨ a = p) A H o od) : OdOk K B A H o od := h.mono fun v e q => by
  cases e with
  | d x => exact dx_same (mask_less hid_more) q
  | «at» k => exact q
  | raw u => exact q
  | exc a d fs => exact ⟨q.1, xm_same (mask_less hid_more) q.2⟩
theorem en_catOF {k : Nat} {es fs : List El} (ha : EV K ta Γ Θ (.at k)) (hk : Θ[k]? = some (.lst es)) (hb : EN K tb Γ Θ (.lst fs)) (hz : es.length + fs.length ≤ sizeLine) : EN K (tOp (rAddX K) ta tb) Γ Θ (.lst (es ++ fs)) := fun B A σ H Q e kk =>
  ha B A σ H _ e fun v H1 s1 o1 => hb B A σ H1 _ (e.pure s1) fun p o H2 np s2 hp ok => by
    have e2 := (e.pure s1).pure s2
    obtain ⟨a, xs, rfl, _, ha2, hv⟩ := e2.own.lst hk (o1.pure (e.pure s1).own.bh s2)
    cases o with
    | lst ys =>
      refine .inr (.inr (.inr ⟨a, p, xs, ys, rfl, rfl, ha2, hp, ?_, fun q nq => ?_⟩))
      · have h1 := paired_len hv
        have h2 := paired_len (show Paired (ElOk K (fun a => B a ∨ a = p) A H2) ys fs from ok)
        omega
      · have sq := (s1.trans s2).trans (Same.new (o := .lst (xs ++ ys)) nq)
        refine kk q (.lst (xs ++ ys)) _ (Same.free (s1.trans s2) nq) sq upd_same ?_
        have w := en_new e2.own nq (paired_app hv (show Paired (ElOk K B A H2) ys fs from od_less ok))
        exact w
    | _ => exact ok.elim
theorem paired_rep {α β : Type} {F : α → β → Prop} {xs : List α} {ys : List β} (h : Paired F xs ys) : ∀ n, Paired F (List.replicate n xs).flatten (List.replicate n ys).flatten
  | 0 => .nil
  | n + 1 => by
    rw [List.replicate_succ, List.replicate_succ, List.flatten_cons, List.flatten_cons]
    exact paired_app h (paired_rep h n)
theorem en_repF {es : List El} {n : Int} (ha : EN K ta Γ Θ (.lst es)) (hb : EV K tb Γ Θ (.d (.int n))) (h1 : -1000 ≤ n) (h2 : n ≤ 1000) (hz : es.length ≤ 1000) : EN K (tOp (rMulX K) ta tb) Γ Θ (.lst (List.replicate n.toNat es).flatten) := fun B A σ H Q e kk =>
  ha B A σ H _ e fun p o H1 np s1 hp ok => hb _ A σ H1 _ (e.fresh np s1 hp) fun v H2 s2 o2 => by
    have e2 := (e.fresh np s1 hp).pure s2
    cases o with
    | lst ys =>
      have hl := paired_len (show Paired (ElOk K (fun a => B a ∨ a = p) A H1) ys es from ok)
      refine .inr (.inr (.inl ⟨p, n, ys, rfl, dx_int o2, s2 _ _ hp, by omega, by omega, ?_, fun q nq => ?_⟩))
      · have : ys.length * n.toNat ≤ 1000 * 1000 := Nat.mul_le_mul (by omega) (by omega)
        exact Nat.le_trans this (by decide)
      · have sq := (s1.trans s2).trans (Same.new (o := .lst (List.replicate n.toNat ys).flatten) nq)
        refine kk q _ _ (Same.free (s1.trans s2) nq) sq upd_same ?_
        have ok2 : Paired (ElOk K B A H2) ys es := paired_mono (show Paired (ElOk K B A H1) ys es from od_less ok) fun u f z => z.pure (e.pure s1).own.bh s2
        exact en_new ((e.pure s1).pure s2).own nq (paired_rep ok2 _)
    | _ => exact ok.elim
/-! ### an owned list is let go: it is a datum from here on -/
def frz (k : Nat) (ds : List PyData) : El → El
  | .at j => if j = k then .d (.list ds) else .at j
  | x => x
def frzO (k : Nat) (ds : List PyData) : OD → OD
  | .gone => .gone
  | .lst es => .lst (es.map (frz k ds))
  | .dK kvs => .dK (kvs.map fun p => (p.1, frz k ds p.2))
  | .dT kvs => .dT (kvs.map fun p => (p.1, frz k ds p.2))
theorem paired_map2 {α β : Type} {F G : α → β → Prop} {f : β → β} (h : ∀ a b, F a b → G a (f b)) : ∀ {xs : List α} {ys : List β}, Paired F xs ys → Paired G xs (ys.map f)
  | _, _, .nil => .nil
  | _, _, .cons a t => .cons (h _ _ a) (paired_map2 h t)
theorem En.freeze {k : Nat} {ds : List PyData} (e : En K B A H σ Γ Θ) (hk : Θ[k]? = some (.lst (ds.map .d))) : ∃ A', Tr A H A' H ∧ En K B A' H σ (Γ.map (Option.map (frz k ds))) ((Θ.map (frzO k ds)).set k .gone) := by
  have hkl : k < Θ.length := (List.getElem?_eq_some_iff.mp hk).1
  have hkA : k < A.length := by rw [e.own.la]; exact hkl
  cases hA : A[k]? with
  | none => rw [List.getElem?_eq_none_iff] at hA; omega
  | some a0 =>
    cases a0 with
    | none =>
      have := e.own.gn k hA
      rw [hk] at this
      cases this
    | some p =>
      have sub : ∀ a, some a ∈ A.set k none → some a ∈ A := fun a m => by
        rcases List.mem_or_eq_of_mem_set m with h | h
        · exact h
        · cases h
      have ml : ∀ a, hid B (A.set k none) a → hid B A a := fun a m => m.elim .inl fun q => .inr (sub a q)
      have sm : Same (mask (hid B A) H) (mask (hid B (A.set k none)) H) := mask_less ml
      have hp : ¬ hid B (A.set k none) p := by
        rintro (q | q)
        · exact e.own.bd k p hA q
        · obtain ⟨j, hj⟩ := List.mem_iff_getElem?.mp q
          by_cases z : k = j
          · subst z
            rw [List.getElem?_set_self hkA] at hj
            cases hj
          · rw [List.getElem?_set_ne z] at hj
            exact z (e.own.nd k j p hA hj)
      obtain ⟨o, od, h1, h2, h3⟩ := e.own.ow k p hA
      rw [hk] at h2
      cases h2
      have base : Dx K (mask (hid B (A.set k none)) H) (.ref p) (.list ds) := by
        cases o with
        | lst vs => exact Dx.lst (xs := vs) (SqL.of (by rw [mask_no hp]; exact h1)) (dxAll_same sm (paired_dx h3))
        | _ => exact h3.elim
      have el : ∀ v x, ElOk K B A H v x → ElOk K B (A.set k none) H v (frz k ds x) := fun v x h => by
        cases x with
        | d x => exact dx_same sm h
        | raw u => exact h
        | exc a d fs => exact ⟨h.1, xm_same sm h.2⟩
        | «at» j =>
          obtain ⟨q, g1, g2⟩ := h
          show ElOk K B (A.set k none) H v (if j = k then .d (.list ds) else .at j)
          by_cases z : j = k
          · subst z
            rw [if_pos rfl]
            rw [hA] at g1
            cases g1
            rw [g2]
            exact base
          · rw [if_neg z]
            exact ⟨q, by rw [List.getElem?_set_ne (Ne.symm z)]; exact g1, g2⟩
      have ode : ∀ o od, OdOk K B A H o od → OdOk K B (A.set k none) H o (frzO k ds od) := fun o od h => by
        cases o with
        | lst vs =>
          cases od with
          | lst es => exact paired_map2 (F := ElOk K B A H) (G := ElOk K B (A.set k none) H) (fun a b q => el a b q) h
          | _ => exact h.elim
        | dK vs =>
          cases od with
          | dK es => exact paired_map2 (F := fun (p : Key × V) (q : Key × El) => p.1 = q.1 ∧ ElOk K B A H p.2 q.2) (G := fun (p : Key × V) (q : Key × El) => p.1 = q.1 ∧ ElOk K B (A.set k none) H p.2 q.2) (f := fun p => (p.1, frz k ds p.2)) (fun a b q => ⟨q.1, el _ _ q.2⟩) h
          | _ => exact h.elim
        | dT vs =>
          cases od with
          | dT es => exact paired_map2 (F := fun (p : List Key × V) (q : List Key × El) => p.1 = q.1 ∧ ElOk K B A H p.2 q.2) (G := fun (p : List Key × V) (q : List Key × El) => p.1 = q.1 ∧ ElOk K B (A.set k none) H p.2 q.2) (f := fun p => (p.1, frz k ds p.2)) (fun a b q => ⟨q.1, el _ _ q.2⟩) h
          | _ => exact h.elim
        | _ => cases od <;> exact h.elim
      refine ⟨A.set k none, ⟨fun a o h n => h, by simp, fun j hj => ?_, fun a m => .inl (sub a m), fun _ h => h⟩, ⟨?_, ?_, ?_, ?_, e.own.bh, ?_⟩, by rw [e.ls, List.length_map], fun i x h => ?_⟩
      · by_cases z : k = j
        · subst z
          exact .inr (List.getElem?_set_self hkA)
        · exact .inl (List.getElem?_set_ne z)
      · simp [e.own.la]
      · intro i j q g1 g2
        by_cases z : k = i
        · subst z
          rw [List.getElem?_set_self hkA] at g1; cases g1
        · by_cases z2 : k = j
          · subst z2
            rw [List.getElem?_set_self hkA] at g2; cases g2
          · rw [List.getElem?_set_ne z] at g1
            rw [List.getElem?_set_ne z2] at g2
            exact e.own.nd i j q g1 g2
      · intro j g
        by_cases z : k = j
        · subst z
          rw [List.getElem?_set_self (by rw [List.length_map]; exact hkl)]
        · rw [List.getElem?_set_ne z] at g
          rw [List.getElem?_set_ne z, List.getElem?_map, e.own.gn j g]
          rfl
      · intro j q g
        by_cases z : k = j
        · subst z
          rw [List.getElem?_set_self hkA] at g; cases g
        · rw [List.getElem?_set_ne z] at g
          obtain ⟨o, od, g1, g2, g3⟩ := e.own.ow j q g
          exact ⟨o, frzO k ds od, g1, by rw [List.getElem?_set_ne z, List.getElem?_map, g2]; rfl, ode o od g3⟩
      · intro j q g
        by_cases z : k = j
        · subst z
          rw [List.getElem?_set_self hkA] at g; cases g
        · rw [List.getElem?_set_ne z] at g
          exact e.own.bd j q g
      · rw [List.getElem?_map] at h
        cases q : Γ[i]? with
        | none => rw [q] at h; cases h
        | some y =>
          rw [q] at h
          cases y with
          | none => cases h
          | some y =>
            have h : frz k ds y = x := by simpa using h
            obtain ⟨v, g1, g2⟩ := e.sl i y q
            exact ⟨v, g1, h ▸ el v y g2⟩
theorem sg_freeze {ts : TS} {k : Nat} {ds : List PyData} (hk : Θ[k]? = some (.lst (ds.map .d))) (h : SG K E ts (Γ.map (Option.map (frz k ds))) ((Θ.map (frzO k ds)).set k .gone) P) : SG K E ts Γ Θ P := fun B A σ H D e d => by
  obtain ⟨A', t, e'⟩ := e.freeze hk
  exact h B A' σ H D e' (d.tr t)
end
end DL

namespace DL
open PySem PySem.Spec PyProof.Rows L2
section
variable {K : PySem.W.Frag} {E : WX} {B : Addr → Prop} {A A' : List (Option Addr)} {H H' : Hp} {Γ Γ' : Gm} {Θ Θ' : Th} {σ σ' : L2.St} {x y z : El} {te ta tb td ty tx : TE} {tt : TT} {P : Post}
/-! ### arguments that change what is owned, some of them the owned ones -/
def AX (K : PySem.W.Frag) (ta : TA) (Γ : Gm) (Θ : Th) (P : List El → Gm → Th → Prop) : Prop := ∀ (B : Addr → Prop) A σ H (Q : List V → Hp → Prop), En K B A H σ Γ Θ →
  (∀ vs A' H' xs Γ' Θ', Tr A H A' H' → En K B A' H' σ Γ' Θ' → Paired (ElOk K B A' H') vs xs → P xs Γ' Θ' → Q vs H') → ta σ H Q
theorem ax_nil {Pp : List El → Gm → Th → Prop} (p : Pp [] Γ Θ) : AX K tNil Γ Θ Pp := fun B A σ H Q e k => k [] A H [] Γ Θ Tr.refl e .nil p
theorem ax_d {tr : TA} {Pp : List El → Gm → Th → Prop} (h : EG K te Γ Θ fun x Γ1 Θ1 => ∃ d, x = .d d ∧ AX K tr Γ1 Θ1 fun xs Γ2 Θ2 => Pp (.d d :: xs) Γ2 Θ2) : AX K (tCons te tr) Γ Θ Pp := fun B A σ H Q e k =>
  h B A σ H _ e fun v A1 H1 x Γ1 Θ1 t1 e1 o1 p1 => by
    obtain ⟨d, rfl, p1⟩ := p1
    exact p1 B A1 σ H1 _ e1 fun vs A2 H2 xs Γ2 Θ2 t2 e2 o2 p2 => k (v :: vs) A2 H2 (.d d :: xs) Γ2 Θ2 (t1.trans t2) e2 (.cons (ElOk.tr t2 e1.own.bh o1) o2) p2
theorem ax_at {k : Nat} {tr : TA} {Pp : List El → Gm → Th → Prop} (h : EV K te Γ Θ (.at k)) (hr : AX K tr Γ Θ fun xs Γ2 Θ2 => (∃ od, Θ2[k]? = some od ∧ od.flat) ∧ Pp (.at k :: xs) Γ2 Θ2) : AX K (tCons te tr) Γ Θ Pp := fun B A σ H Q e kk =>
  h B A σ H _ e fun v H1 s1 o1 => hr B A σ H1 _ (e.pure s1) fun vs A2 H2 xs Γ2 Θ2 t2 e2 o2 p2 => by
    obtain ⟨⟨od, h1, h2⟩, p2⟩ := p2
    refine kk (v :: vs) A2 H2 (.at k :: xs) Γ2 Θ2 ((Tr.pure s1).trans t2) e2 (.cons ?_ o2) p2
    obtain ⟨p, q1, q2⟩ := o1
    rcases t2.kA k (List.getElem?_eq_some_iff.mp q1).1 with z | z
    · exact ⟨p, z.trans q1, q2⟩
    · have := e2.own.gn k z
      rw [h1] at this
      cases this
      exact h2.elim
theorem AV.ax {ta : TA} {xs : List El} {Pp : List El → Gm → Th → Prop} (h : AV K ta Γ Θ xs) (p : Pp xs Γ Θ) : AX K ta Γ Θ Pp := fun B A σ H Q e k =>
  h B A σ H Q e fun vs H' s o => k vs A H' xs Γ Θ (Tr.pure s) (e.pure s) o p
theorem eg_lendX {n k : Nat} {fs : List El → Th → (El → Th → Prop) → Prop} {ta : TA} {E' : XK} {Pp : El → Gm → Th → Prop}
    (h : AX K ta Γ Θ fun xs Γ1 Θ1 => ∃ ys od, LendA k xs ys ∧ Θ1[k]? = some od ∧ od.flat ∧ .at k ∈ xs ∧ ys.length = n ∧ fs ys [od] fun e Θ' => e.flat ∧ ∃ od' r, Θ' = od' :: r ∧ od'.flat ∧ Pp e Γ1 (Θ1.set k od')) : EG K (tCall (spM K n fs) [] E' ta) Γ Θ Pp := fun B A σ H Q e kk =>
  h B A σ H _ e fun vs A1 H1 xs Γ1 Θ1 t1 e1 o1 p1 => by
    obtain ⟨ys, od, h1, h2, h3, h4, h5, h6⟩ := p1
    show spM K n fs (vs ++ []) H1 Q E'
    rw [List.append_nil]
    exact lend_core e1 o1 h1 h2 h3 h4 h6 h5 fun v A' H' x Γ' Θ' t => kk v A' H' x Γ' Θ' (t1.trans t)
end
end DL

namespace DL
open PySem PySem.Spec PyProof.Rows L2
/-! ### own exceptions with fields -/
section
variable {X : Cx} {e : Expr} {es : List Expr} {ta : TA} {p1 p2 pos : Pos}
/-- D.__init__(self, ..), D an own class over ValueError without own __init__ -/
theorem pe_oveinit {x : Str} {D : Addr} {pl : Sem Bool} (hg : Gl X x) (hm : X.mg x = some (.ref D)) (sg : PySem.W.specialIn X.K (.ref D) "__getattribute__" = some (some (.builtin "type.__getattribute__"))) (tm : PySem.W.typeIn X.K (.ref D) = some (.type "type")) (rd : PySem.W.readsIn X.K D (.type "type") = true)
    (fc : PySem.W.findCls X.K (.ref D) (.type "type") "__init__" = some (.val (.builtin "ValueError.__init__"))) (ha : PA X (e :: es) ta)
    (hc : eval (.Call (.Attribute (.Name x p1) "__init__" p2) (e :: es) [] pos) X.env = (do
      let ov ← eval (.Name x p1) X.env
      standAt p2.atName
      let (f, first) ← holding [ov] (getMethod ov "__init__" pl)
      callWith pos f first (backTo pos (starEach (e :: es) X.env)) (backToKw pos (keywordEach [] X.env))) := by rfl)
    (hdb : (x == ("__debug__" : Str)) = false := by decide) (he : starEach (e :: es) X.env = (false, eval e X.env) :: starEach es X.env := by rfl) (hpl : (backTo pos (starEach es X.env)).any (·.1) = false := by rfl) :
    PE X (.Call (.Attribute (.Name x p1) "__init__" p2) (e :: es) [] pos) (tVeI X.K ta) := by
  refine ⟨fun pins s σ H Q I h => ?_⟩
  refine PySem.W.methodCall_KW (ld_glob I hg hm ?_ hdb) hc
  obtain ⟨m, fr⟩ := I.fr
  refine PySem.W.method_of_cls fr I.ok.mod.kin sg (PySem.W.cls_val fr I.ok.mod.kin tm rd fc (by decide +kernel) ?_)
  show wpAny _ _ (callWith pos (Value.builtin "ValueError.__init__") [] (backTo pos (starEach (e :: es) X.env)) []) _ _ _
  refine PyProof.Rows.callWith_method1 (thn (ha.run pos pins _ σ H _ (I.tok _) h) fun us s1 ⟨vs, H1, I1, r1, a, C, ws, ev, hl, T, ea, q⟩ => ?_) he hpl
  subst ev
  cases r1 with
  | @cons _ u0 _ ur ra rw' =>
    obtain rfl : u0 = Value.ref a := ra
    have hlen : ur.length ≤ sizeLine := by
      rw [← Paired.length rw', sizeLine_eq]
      omega
    exact oinit_ok T I1 ea hlen fun s' J => ⟨.non, H1, J, rfl, q⟩
/-- what is known of a class with own __init__ -/
structure ExI (K : PySem.W.Frag) (mg : Str → Option Value) (x : Str) (C fI : Addr) (fs : List Str) : Prop where
  gC : mg x = some (.ref C)
  T : OexC K C
  iC : PySem.W.findIn K (.ref C) "__init__" = some (some (.ref fI))
  tI : PySem.W.typeIn K (.ref fI) = some (.type "function")
  ga : PySem.W.findIn K (.ref C) "__getattribute__" = some (some (.builtin "BaseException.__getattribute__"))
  gg : PySem.W.findIn K (.ref C) "__getattr__" = some none
  hd : PySem.W.hasDictIn K C = true
  no : ∀ f ∈ fs, PySem.W.findIn K (.ref C) f = some none
/-- what is known of the class whose __init__ it calls -/
structure ExB (K : PySem.W.Frag) (mg : Str → Option Value) (x : Str) (D : Addr) : Prop where
  gC : mg x = some (.ref D)
  sg : PySem.W.specialIn K (.ref D) "__getattribute__" = some (some (.builtin "type.__getattribute__"))
  tm : PySem.W.typeIn K (.ref D) = some (.type "type")
  rd : PySem.W.readsIn K D (.type "type") = true
  fc : PySem.W.findCls K (.ref D) (.type "type") "__init__" = some (.val (.builtin "ValueError.__init__"))
def exBB (K : PySem.W.Frag) (D : Addr) : Bool :=
  decide (PySem.W.specialIn K (.ref D) "__getattribute__" = some (some (.builtin "type.__getattribute__"))) && (decide (PySem.W.typeIn K (.ref D) = some (.type "type")) && (PySem.W.readsIn K D (.type "type") &&
  (match PySem.W.findCls K (.ref D) (.type "type") "__init__" with
    | some (.val (.builtin i)) => i == "ValueError.__init__"
    | _ => false)))
theorem exB_of {K : PySem.W.Frag} {mg : Str → Option Value} {x : Str} {D : Addr} (g : mg x = some (.ref D)) (h : exBB K D = true) : ExB K mg x D := by
  obtain ⟨h1, h⟩ := Bool.and_eq_true_iff.mp h
  obtain ⟨h2, h⟩ := Bool.and_eq_true_iff.mp h
  obtain ⟨h3, h⟩ := Bool.and_eq_true_iff.mp h
  refine ⟨g, of_decide_eq_true h1, of_decide_eq_true h2, h3, ?_⟩
  split at h
  · rename_i i e
    rw [e, beq_iff_eq.mp h]
  · cases h
def oexB (K : PySem.W.Frag) (C : Addr) : Bool := match K.lookup C with
  | some ⟨.type t, _, .cls cd, sl⟩ => decide (t = "type") && (match cd.mro, sl.toList with
    | .ref C' :: bm, [_, _, _, _, some (.builtin n), _] => decide (C' = C) && (n == "ValueError.__new__" && (!cd.hasDel && (cd.hasDict && PySem.HandSPX.refsVE bm)))
    | _, _ => false)
  | _ => false
theorem oexB_cls {K : PySem.W.Frag} {C : Addr} (h : oexB K C = true) : ∃ nm q N bs bm sn sub ab col dd k0 k1 k2 k3 k5, K.lookup C = some (excClassObj nm q C N bs bm true sn sub ab col dd k0 k1 k2 k3 k5 "ValueError.__new__") ∧ PySem.HandSPX.refsVE bm = true := by
  unfold oexB at h
  split at h
  · rename_i t dd cd sl ho
    obtain ⟨h1, h⟩ := Bool.and_eq_true_iff.mp h
    have ht := of_decide_eq_true h1
    subst ht
    split at h
    · rename_i C' bm k0 k1 k2 k3 n k5 hm hs
      obtain ⟨_, h⟩ := Bool.and_eq_true_iff.mp h
      obtain ⟨h2, h⟩ := Bool.and_eq_true_iff.mp h
      obtain ⟨h3, h⟩ := Bool.and_eq_true_iff.mp h
      obtain ⟨h4, h⟩ := Bool.and_eq_true_iff.mp h
      obtain ⟨h5, h6⟩ := Bool.and_eq_true_iff.mp h
      have hC := of_decide_eq_true h2
      subst hC
      have hn := beq_iff_eq.mp h3
      subst hn
      obtain ⟨nm, bs, mro, ns, qn, hd, sn, sub, ab, col, del⟩ := cd
      dsimp only at hm h4 h5
      subst hm h5
      have hdel : del = false := by simpa using h4
      subst hdel
      have hsl : sl = #[k0, k1, k2, k3, some (.builtin "ValueError.__new__"), k5] := by
        obtain ⟨l⟩ := sl
        simp only at hs
        rw [hs]
      subst hsl
      exact ⟨nm, qn, ns, bs, bm, sn, sub, ab, col, dd, k0, k1, k2, k3, k5, ho, h6⟩
    · cases h
  · cases h
def exIB (K : PySem.W.Frag) (C fI : Addr) (fs : List Str) : Bool :=
  oexB K C && (decide (PySem.W.findIn K (.ref C) "__setattr__" = some (some (.builtin "object.__setattr__"))) && (decide (PySem.W.subIn K (.ref C) (.type "BaseException") = some true) && (decide (PySem.W.typeIn K (.ref C) = some (.type "type")) && (PySem.W.keepIn K (.ref C) &&
  (decide (PySem.W.findIn K (.ref C) "__init__" = some (some (.ref fI))) && (decide (PySem.W.typeIn K (.ref fI) = some (.type "function")) && (decide (PySem.W.findIn K (.ref C) "__getattribute__" = some (some (.builtin "BaseException.__getattribute__"))) && (decide (PySem.W.findIn K (.ref C) "__getattr__" = some none) && (PySem.W.hasDictIn K C &&
  fs.all fun f => decide (PySem.W.findIn K (.ref C) f = some none))))))))))
theorem exI_of {K : PySem.W.Frag} {mg : Str → Option Value} {x : Str} {C fI : Addr} {fs : List Str} (g : mg x = some (.ref C)) (h : exIB K C fI fs = true) : ExI K mg x C fI fs := by
  obtain ⟨h1, h⟩ := Bool.and_eq_true_iff.mp h
  obtain ⟨h2, h⟩ := Bool.and_eq_true_iff.mp h
  obtain ⟨h3, h⟩ := Bool.and_eq_true_iff.mp h
  obtain ⟨h4, h⟩ := Bool.and_eq_true_iff.mp h
  obtain ⟨h5, h⟩ := Bool.and_eq_true_iff.mp h
  obtain ⟨h6, h⟩ := Bool.and_eq_true_iff.mp h
  obtain ⟨h7, h⟩ := Bool.and_eq_true_iff.mp h
  obtain ⟨h8, h⟩ := Bool.and_eq_true_iff.mp h
  obtain ⟨h9, h⟩ := Bool.and_eq_true_iff.mp h
  obtain ⟨ha, hb⟩ := Bool.and_eq_true_iff.mp h
  exact ⟨g, ⟨oexB_cls h1, of_decide_eq_true h2, of_decide_eq_true h3, of_decide_eq_true h4, h5⟩, of_decide_eq_true h6, of_decide_eq_true h7, of_decide_eq_true h8, of_decide_eq_true h9, ha, fun f hf => of_decide_eq_true (List.all_eq_true.mp hb f hf)⟩
end
/-! ### __init__: the base's, then one field or two -/
def spI1 (K : PySem.W.Frag) (C : Addr) (f : Str) : Sp := fun vs H Q _ => ∃ (a : Addr) (v : V), vs = [.ref a, v] ∧ H a = some (exo a C none) ∧ ∀ dx, H dx = none → dx ≠ a → Q .non (upd (upd H dx (exd dx [(f, v)])) a (exo a C (some dx)))
def spI2 (K : PySem.W.Frag) (C : Addr) (f g : Str) : Sp := fun vs H Q _ => ∃ (a : Addr) (v w : V), vs = [.ref a, v, w] ∧ H a = some (exo a C none) ∧ ∀ dx, H dx = none → dx ≠ a → Q .non (upd (upd (upd H dx (exd dx [(f, v)])) a (exo a C (some dx))) dx (exd dx [(g, w), (f, v)]))
/-- an exception with its fields is raised -/
theorem sg_raiseI1 {K : PySem.W.Frag} {E : WX} {Γ : Gm} {Θ : Th} {P : Post} {ta : TA} {C : Addr} {f : Str} {x : PyData} (ha : AV K ta Γ Θ [.d x]) (h : P.ex (.ref C) (some [(f, x)]) Γ Θ) :
    SG K E (fun _ σ H => tMkO C (spI1 K C f) [] ta σ H fun cls d H' => E cls d σ H') Γ Θ P := fun B A σ H D e dd => ha B A σ H _ e fun vs H1 s1 o1 => by
  cases o1 with | @cons v _ _ _ o t =>
  cases t
  refine ⟨by show 1 ≤ 1000; decide, fun a na => ⟨a, v, by simp, upd_same, fun dx ndx nex => ⟨rfl, dx, [(f, v)], upd_same, ?_, ?_, ?_⟩⟩⟩
  · rw [upd_ne nex, upd_same]
  · rw [upd_ne nex] at ndx; exact ndx
  · have nd : H1 dx = none := by rw [upd_ne nex] at ndx; exact ndx
    have e1 := e.pure s1
    have eH : upd (del (upd (upd (upd H1 a (exo a C none)) dx (exd dx [(f, v)])) a (exo a C (some dx))) a) dx (.xd [(f, v)]) = upd H1 dx (.xd [(f, v)]) := by
      funext b
      by_cases hb : b = dx
      · rw [hb, upd_same, upd_same]
      · rw [upd_ne hb, upd_ne hb]
        by_cases hb2 : b = a
        · rw [hb2, del_same, na]
        · rw [del_ne hb2, upd_ne hb2, upd_ne hb, upd_ne hb2]
    rw [eH]
    refine (dd.tr (Tr.pure s1)).ex (.ref C) (some dx) (some [(f, x)]) A _ σ Γ Θ (Tr.pure (Same.new nd)) (e1.pure (Same.new nd)) ?_ h
    refine ⟨[(f, v)], ?_, .cons ⟨rfl, dx_same (same_mask (Same.new nd) fun _ _ m => m) o⟩ .nil⟩
    rw [mask_no (e1.own.free nd)]
    exact upd_same
/-- e.f, e the exception that the suite holds -/
def tExcF (C a : Addr) (cls : Value) (d : Option Addr) (f : Str) (te : TE) : TE := fun σ H Q => te σ H fun x H1 => x = .ref a ∧ cls = .ref C ∧ ∃ (dd : Addr) (fs : List (Str × V)) (v : V), d = some dd ∧ H1 dd = some (.xd fs) ∧ fs.lookup f = some v ∧ Q v H1
theorem pe_excF {X : Cx} {C fI a : Addr} {oe : Obj} {cls : Value} {d : Option Addr} {pn : List (Addr × Obj)} {e : Expr} {te : TE} {pos : Pos} {x f : Str} {fs : List Str} (T : ExI X.K X.mg x C fI fs) (hf' : f ∈ fs) (hz : Zc cls d oe) (hf : ∃ vs, oe.data = .fields vs) (he : PE (X.suite a ((a, oe) :: pn)) e te)
    (hb : attributeBase e f X.env (eval e X.env) = eval e X.env := by rfl) :
    PE (X.suite a ((a, oe) :: pn)) (.Attribute e f pos) (tExcF C a cls d f te) := by
  refine ⟨fun pins s σ H Q I h => ?_⟩
  refine attr_of hb (thn (he.run pins s σ H _ I h) fun u s1 hh => ?_)
  obtain ⟨x, H1, I1, rx, ex, ec, dd, gs, v, ed, ea, hl, q⟩ := hh
  subst ex
  obtain rfl : u = Value.ref a := rx
  subst ec
  subst ed
  obtain ⟨ha, _⟩ := I1.pin (a, oe) (List.mem_append_left _ List.mem_cons_self)
  obtain ⟨vs, hd⟩ := hf
  have hx : ObjOk X.prog X.w H1 s1.heap dd (.xd gs) := I1.hok dd _ ea
  obtain ⟨mA, hns, hr⟩ := hx
  obtain ⟨od, ho, hlk⟩ := lookIn_ns hns
  obtain ⟨u, hu, ru⟩ := RelO.some_of (v := v) (o := mA f) (by rw [← hl]; exact hr f)
  have J : PySem.W.InstAt s1.heap a oe C (some od) := ⟨ha, hz.1, by unfold PySem.W.notCls; rw [hd] <;> rfl, by rw [hz.2]; exact ho⟩
  exact PySem.HandSPX.exc_get I1.kIn J T.ga T.gg T.T.exC (PySem.W.findObj_own T.hd (T.no f hf') rfl (by rw [hlk, hu])) (handed_of ru) ⟨v, H1, I1.tok _, ru, q⟩
theorem lookup_x : ∀ {K : PySem.W.Frag} {Hm : Hp} {vs : List (Str × V)} {fs : List (Str × PyData)} {f : Str} {x : PyData}, Paired (fun (a : Str × V) (b : Str × PyData) => a.1 = b.1 ∧ Dx K Hm a.2 b.2) vs fs → fs.lookup f = some x → ∃ v, vs.lookup f = some v ∧ Dx K Hm v x
  | _, _, _, _, _, _, .nil, h => by cases h
  | K, Hm, (a, v) :: r, (b, y) :: t, f, x, .cons h q, e => by
    have hb : a = b := h.1
    subst hb
    by_cases c : f = a
    · subst c
      simp [List.lookup] at e
      subst e
      exact ⟨v, by simp [List.lookup], h.2⟩
    · have hc : (f == a) = false := by simpa using c
      simp only [List.lookup, hc] at e ⊢
      exact lookup_x q e
theorem ev_excF {K : PySem.W.Frag} {Γ : Gm} {Θ : Th} {C a : Addr} {d : Option Addr} {f : Str} {i : Nat} {fs : List (Str × PyData)} {x : PyData} (h : Γ[i]? = some (some (.exc a d (some fs)))) (hl : fs.lookup f = some x) : EV K (tExcF C a (.ref C) d f (tVar i)) Γ Θ (.d x) := fun B A σ H Q e k =>
  (ev_var h) B A σ H _ e fun v H1 s1 o1 => by
    obtain ⟨e1, xm⟩ := o1
    cases d with
    | none => exact xm.elim
    | some dd =>
      obtain ⟨vs, h1, h2⟩ := xm
      obtain ⟨w, h3, h4⟩ := lookup_x h2 hl
      exact ⟨e1, rfl, dd, vs, w, rfl, mask_le _ _ h1, h3, k w H1 s1 h4⟩
end DL

namespace DL
open PySem PySem.Spec PyProof.Rows L2
section
variable {K : PySem.W.Frag} {E : WX} {B : Addr → Prop} {A A' : List (Option Addr)} {H H' : Hp} {Γ Γ' : Gm} {Θ Θ' : Th} {σ σ' : L2.St} {x y z : El} {te ta tb td ty tx : TE} {tt : TT} {P : Post}
/-! ### list + list, both new -/
theorem en_catFF {es fs : List El} (ha : EN K ta Γ Θ (.lst es)) (hb : EN K tb Γ Θ (.lst fs)) (hz : es.length + fs.length ≤ sizeLine) : EN K (tOp (rAddX K) ta tb) Γ Θ (.lst (es ++ fs)) := fun B A σ H Q e kk =>
  ha B A σ H _ e fun p o H1 np s1 hp ok => hb _ A σ H1 _ (e.fresh np s1 hp) fun q o2 H2 nq s2 hq ok2 => by
    have e1 := e.pure s1
    have e2 := e1.pure s2
    cases o with
    | lst xs =>
      cases o2 with
      | lst ys =>
        have h1 : Paired (ElOk K B A H2) xs es := paired_mono (show Paired (ElOk K B A H1) xs es from od_less ok) fun u f z => z.pure e1.own.bh s2
        have h2 : Paired (ElOk K B A H2) ys fs := by
          have a1 : OdOk K (fun a => B a ∨ a = p) A H2 (.lst ys) (.lst fs) := od_less ok2
          exact od_less a1
        refine .inr (.inr (.inr ⟨p, q, xs, ys, rfl, rfl, s2 _ _ hp, hq, ?_, fun r nr => ?_⟩))
        · rw [paired_len h1, paired_len h2]; exact hz
        · refine kk r (.lst (xs ++ ys)) _ (Same.free (s1.trans s2) nr) ((s1.trans s2).trans (Same.new nr)) upd_same ?_
          exact en_new e2.own nr (paired_app h1 h2)
      | _ => exact ok2.elim
    | _ => exact ok.elim
/-! ### slots at a later state -/
def Alive (Γ : Gm) (Θ : Th) : Prop := ∀ k, some (El.at k) ∈ Γ → ∃ od, Θ[k]? = some od ∧ od ≠ .gone
theorem En.follow (e : En K B A H σ Γ Θ) (t : Tr A H A' H') (o : Own K B A' H' Θ') (al : Alive Γ Θ') : En K B A' H' σ Γ Θ' := ⟨o, e.ls, fun i x h => by
  obtain ⟨v, h1, h2⟩ := e.sl i x h
  refine ⟨v, h1, ?_⟩
  cases x with
  | d x => exact h2.tr t e.own.bh
  | raw u => exact h2
  | exc a d fs => exact ⟨h2.1, xm_same (t.same e.own.bh) h2.2⟩
  | «at» k =>
    obtain ⟨p, q1, q2⟩ := h2
    rcases t.kA k (List.getElem?_eq_some_iff.mp q1).1 with z | z
    · exact ⟨p, z.trans q1, q2⟩
    · obtain ⟨od, g1, g2⟩ := al k (List.mem_of_getElem? h)
      have := o.gn k z
      rw [g1] at this
      exact absurd (Option.some.inj this) g2⟩
/-! ### a comprehension whose elements change what is owned -/
def hideD (D : Addr) (H : Hp) : Hp := fun b => if b = D then none else H b
theorem hide_ne {D b : Addr} (h : b ≠ D) : hideD D H b = H b := if_neg h
theorem hide_some {D b : Addr} {o : HO} (h : hideD D H b = some o) : b ≠ D ∧ H b = some o := by
  by_cases z : b = D
  · rw [z] at h
    unfold hideD at h
    rw [if_pos rfl] at h
    cases h
  · rw [hide_ne z] at h
    exact ⟨z, h⟩
theorem lcE_core {α : Type} {j : Nat} {l : List α} {en : α → PyData} {Pp : El → Gm → Th → Prop} {H1 : Hp} {J : It} {Q : VK} (hz : l.length < sizeLine) (hal : Alive Γ Θ) (I : Nat → List PyData → Th → Prop) (h0 : I 0 [] Θ)
    (hs : ∀ i a acc Θ', l[i]? = some a → I i acc Θ' → EG K te ((Γ.set j none).set j (some (.d (en a)))) Θ' fun x _ Θ2 => ∃ d, x = .d d ∧ Alive Γ Θ2 ∧ I (i + 1) (acc ++ [d]) Θ2)
    (hd : ∀ acc Θ', acc.length = l.length → I l.length acc Θ' → Pp (.d (.list acc)) Γ Θ') (e1 : En K B A H1 σ Γ Θ) (w : WD K J (Weak (hid B A) H1) (hid B A) H1 (l.map en))
    (k : ∀ v A' H' x Γ' Θ', Tr A H1 A' H' → En K B A' H' σ Γ' Θ' → ElOk K B A' H' v x → Pp x Γ' Θ' → Q v H') : tLc (fun _ H R => R J H) (gName j) tYes te [j] σ H1 Q := fun D nD => by
  have nh := e1.own.free nD
  let Pv : Nat → Hp → Prop := fun i H' => ∃ (A' : List (Option Addr)) (Θ' : Th) (av : List V) (ad : List PyData), Tr A H1 A' (hideD D H') ∧ En K (fun a => B a ∨ a = D) A' H' σ Γ Θ' ∧ H' D = some (.lst av) ∧ DxAll K (mask (hid (fun a => B a ∨ a = D) A') H') av ad ∧ ad.length = i ∧ I i ad Θ'
  have wk : ∀ {A' : List (Option Addr)} {H' : Hp}, Tr A H1 A' (hideD D H') → Weak (hid B A) H1 H' := fun t a o h n => by
    have := t.keep a o h (fun m => n (.inr m))
    exact (hide_some this).2
  have hw : Walk J l.length (Weak (hid B A) H1) (fun i H' v H'' => i < l.length ∧ J.yld i H' v H'') := ⟨fun i H' hi c => w.goes i H' (by simpa using hi) c, fun H' c => by simpa using w.stops H' c, fun i H' v H'' hi _ y => ⟨hi, y⟩⟩
  refine lc_it hw Pv ⟨A, Θ, [], [], ?_, e1.fresh nD (Same.new nD) upd_same, upd_same, .nil, rfl, h0⟩ (fun i H' _ q => by obtain ⟨A', Θ', av, ad, t, _⟩ := q; exact wk t) (fun i v H' H'' hi q y => ?_) (fun H' q => ?_)
  · refine ⟨fun a o h n => ?_, Nat.le_refl _, fun _ _ => .inl rfl, fun a h => .inl h, fun a h => ?_⟩
    · rw [hide_ne (ne_of_none h nD), upd_ne (ne_of_none h nD)]; exact h
    · have : a ≠ D := fun z => h (by rw [z]; exact nD)
      rw [hide_ne this, upd_ne this]; exact h
  · obtain ⟨A', Θ', av, ad, t, en', hD, ha, hl, hI⟩ := q
    obtain ⟨_, y⟩ := y
    obtain ⟨sy, hy⟩ := w.yields i H' v H'' (by simpa using hi) (wk t) y
    obtain ⟨d, hd1, hd2⟩ := hy (hid (fun a => B a ∨ a = D) A') ⟨fun a m => by
      rcases m with (m | m) | m
      · exact .inl (.inl m)
      · rw [m]; exact .inr nD
      · rcases t.new a m with z | z
        · exact .inl (.inr z)
        · exact .inr z, fun a m => by
      rcases m with m | m
      · exact en'.own.bh a m
      · obtain ⟨q, hq⟩ := List.mem_iff_getElem?.mp m
        obtain ⟨o, od, h1, _⟩ := en'.own.ow q a hq
        rw [h1]; simp⟩
    obtain ⟨a, ha1, ha2⟩ : ∃ a, l[i]? = some a ∧ d = en a := by
      rw [List.getElem?_map] at hd1
      cases q : l[i]? with
      | none => rw [q] at hd1; cases hd1
      | some a => rw [q] at hd1; cases hd1; exact ⟨a, rfl, rfl⟩
    subst ha2
    have E2 := (en'.pure sy).wipe [j]
    have dD : ∀ {A2 : List (Option Addr)}, (∀ (q : Nat) p, A2[q]? = some (some p) → ¬ (B p ∨ p = D)) → some D ∉ A2 := fun h m => by
      obtain ⟨q, hq⟩ := List.mem_iff_getElem?.mp m
      exact h q D hq (.inr rfl)
    refine gv_name (K := K) _ A' _ H'' v _ E2 hd2 fun σ3 H3 s3 e3 l3 a3 => ⟨?_, ?_⟩
    · rw [wipe_eq (σ := L2.wipe σ [j]) l3 a3 (fun _ h => h), wipe_wipe]
    · dsimp only [tYes]
      rw [if_pos rfl]
      refine hs i a ad Θ' ha1 hI _ A' σ3 H3 _ e3 fun u A5 H5 x Γ5 Θ5 t5 e5 o5 p5 => ?_
      obtain ⟨dd, rfl, hal5, hI5⟩ := p5
      have t6 : Tr A' H' A5 H5 := ((Tr.pure sy).trans (Tr.pure s3)).trans t5
      have hD5 : H5 D = some (.lst av) := t6.keep D _ hD (dD en'.own.bd)
      have ef := en'.follow t6 e5.own hal5
      have ha5 : DxAll K (mask (hid (fun a => B a ∨ a = D) A5) H5) av ad := dxAll_same (t6.same en'.own.bh) ha
      have up : Same (mask (hid (fun a => B a ∨ a = D) A5) H5) (mask (hid (fun a => B a ∨ a = D) A5) (upd H5 D (.lst (av ++ [u])))) := fun b o q => by
        obtain ⟨h1, h2⟩ := mask_some q
        rw [mask_no h1, upd_ne (fun z => h1 (.inl (.inr z)))]
        exact h2
      have upel : ∀ v e, ElOk K (fun a => B a ∨ a = D) A5 H5 v e → ElOk K (fun a => B a ∨ a = D) A5 (upd H5 D (.lst (av ++ [u]))) v e := fun v e h => by
        cases e with
        | d x => exact dx_same up h
        | raw u => exact h
        | exc a d fs => exact ⟨h.1, xm_same up h.2⟩
        | «at» k => exact h
      refine ⟨av, hD5, ?_, A5, Θ5, av ++ [u], ad ++ [dd], ?_, ⟨⟨ef.own.la, ef.own.nd, ef.own.gn, fun q p h => ?_, fun b m => ?_, ef.own.bd⟩, ef.ls, fun q x h => ?_⟩, upd_same, dxAll_append (dxAll_same up ha5) (.cons (dx_same up o5) .nil), by rw [List.length_append, hl]; rfl, hI5⟩
      · rw [dxAll_len ha, hl]
        exact Nat.lt_trans hi hz
      · refine t.trans ⟨fun b o h n => ?_, t6.le, t6.kA, fun b h => ?_, fun b h => ?_⟩
        · obtain ⟨g1, g2⟩ := hide_some h
          rw [hide_ne g1, upd_ne g1]
          exact t6.keep b o g2 n
        · rcases t6.new b h with z | z
          · exact .inl z
          · right
            by_cases hb : b = D
            · unfold hideD; rw [if_pos hb]
            · rw [hide_ne hb]; exact z
        · cases hc : hideD D H' b with
          | none => exact absurd hc h
          | some o =>
            obtain ⟨g1, g2⟩ := hide_some hc
            rw [hide_ne g1, upd_ne g1]
            exact t6.al b (by rw [g2]; simp)
      · obtain ⟨o, od, g1, g2, g3⟩ := ef.own.ow q p h
        have : p ≠ D := fun z => ef.own.bd q p h (.inr z)
        exact ⟨o, od, by rw [upd_ne this]; exact g1, g2, g3.mono upel⟩
      · by_cases hb : b = D
        · rw [hb, upd_same]; simp
        · rw [upd_ne hb]; exact ef.own.bh b m
      · obtain ⟨v, g1, g2⟩ := ef.sl q x h
        exact ⟨v, g1, upel v x g2⟩
  · obtain ⟨A', Θ', av, ad, t, en', hD, ha, hl, hI⟩ := q
    have ml : ∀ a, hid B A' a → hid (fun a => B a ∨ a = D) A' a := fun a m => m.elim (fun q => .inl (.inl q)) .inr
    have nB : ¬ hid B A' D := by
      rintro (m | m)
      · exact nh (.inl m)
      · obtain ⟨q, hq⟩ := List.mem_iff_getElem?.mp m
        exact en'.own.bd q D hq (.inr rfl)
    have less : ∀ v e, ElOk K (fun a => B a ∨ a = D) A' H' v e → ElOk K B A' H' v e := fun v e h => by
      cases e with
      | d x => exact dx_same (mask_less ml) h
      | raw u => exact h
      | exc a d fs => exact ⟨h.1, xm_same (mask_less ml) h.2⟩
      | «at» k => exact h
    have tr : Tr A H1 A' H' := ⟨fun a o h n => (hide_some (t.keep a o h n)).2, t.le, t.kA, t.new, fun a h => by
      cases hc : hideD D H' a with
      | none => exact absurd hc (t.al a h)
      | some o => rw [(hide_some hc).2]; simp⟩
    refine k (.ref D) A' H' (.d (.list ad)) Γ Θ' tr ⟨⟨en'.own.la, en'.own.nd, en'.own.gn, fun q p h => ?_, fun a m => en'.own.bh a (.inl m), fun q p h m => en'.own.bd q p h (.inl m)⟩, en'.ls, fun q x h => ?_⟩ (Dx.lst (xs := av) (SqL.of (by rw [mask_no nB]; exact hD)) (dxAll_same (mask_less ml) ha)) (hd ad Θ' hl hI)
    · obtain ⟨o, od, g1, g2, g3⟩ := en'.own.ow q p h
      exact ⟨o, od, g1, g2, g3.mono less⟩
    · obtain ⟨v, g1, g2⟩ := en'.sl q x h
      exact ⟨v, g1, less v x g2⟩
theorem eg_lcE {α : Type} {wi : TI} {j : Nat} {l : List α} {en : α → PyData} {Pp : El → Gm → Th → Prop} (hi : IV K wi Γ Θ (l.map en)) (hz : l.length < sizeLine) (hal : Alive Γ Θ) (I : Nat → List PyData → Th → Prop) (h0 : I 0 [] Θ)
    (hs : ∀ i a acc Θ', l[i]? = some a → I i acc Θ' → EG K te ((Γ.set j none).set j (some (.d (en a)))) Θ' fun x _ Θ2 => ∃ d, x = .d d ∧ Alive Γ Θ2 ∧ I (i + 1) (acc ++ [d]) Θ2)
    (hd : ∀ acc Θ', acc.length = l.length → I l.length acc Θ' → Pp (.d (.list acc)) Γ Θ') : EG K (tLc wi (gName j) tYes te [j]) Γ Θ Pp := fun B A σ H Q e k => hi B A σ H _ e fun J H1 s1 w =>
  lcE_core hz hal I h0 hs hd (e.pure s1) w fun v A' H' x Γ' Θ' t => k v A' H' x Γ' Θ' ((Tr.pure s1).trans t)
end
end DL

namespace DL
open PySem PySem.Spec PyProof.Rows L2
section
variable {X : Cx} {K : PySem.W.Frag} (hK : X.K = K)
include hK
theorem kx_in {k : Nat} (hr : Room k X.A) : OpR X (compareOp .In) (rInD K) := by subst hK; exact op_inD (by have := hr.un; omega)
theorem kx_notIn {k : Nat} (hr : Room k X.A) : OpR X (compareOp .NotIn) (rNotInD K) := by subst hK; exact op_notInD (by have := hr.un; omega)
theorem kx_maxL (hc : X.calm = true) : CallR X (.builtin "max") (rMax K) := by subst hK; exact cr_max hc
theorem kx_minL (hc : X.calm = true) : CallR X (.builtin "min") (rMin K) := by subst hK; exact cr_min hc
end
/-- sep.join(list of texts) -/
def rJoin (K : PySem.W.Frag) : V → List V → Hp → VK → Prop := fun x xs H Q => ∃ a p, ∃ ys : List Str, x = .str a ∧ xs = [.ref p] ∧ (SqL K H p (ys.map V.str) ∨ SqT K H p (ys.map V.str)) ∧ (ys.map (·.length)).sum + ys.length * a.length ≤ 16777216 ∧ Q (.str (Txt.join a ys)) H
theorem kx_join {X : Cx} {K : PySem.W.Frag} {o e : Expr} {to te : TE} {apos pos : Pos} (hK : X.K = K) (ho : PE X o to) (he : PE X e te) (hs : starEach [e] X.env = [(false, eval e X.env)] := by rfl) (hbase : attributeBase o "join" X.env (eval o X.env) = eval o X.env := by rfl) (hline : (apos.endLine == pos.line) = true := by rfl) :
    PE X (.Call (.Attribute o "join" apos) [e] [] pos) (tM1 (rJoin K) to te) := by subst hK; exact pe_join ho he hs hbase hline
section
variable {K : PySem.W.Frag} {E : WX} {B : Addr → Prop} {A A' : List (Option Addr)} {H H' : Hp} {Γ Γ' : Gm} {Θ Θ' : Th} {σ σ' : L2.St} {x y z : El} {te ta tb td ty tx : TE} {tt : TT} {P : Post}
theorem rd_in {a : PyData} {ds : List PyData} (h1 : SeqAt.shaped a = true) (h2 : SeqAt.shaped (.list ds) = true) : RD K Θ (rInD K) (.d a) (.d (.list ds)) (.d (.bool (ds.any fun z => PyData.eqv z a))) := fun B A H v w Q o q1 q2 k =>
  ⟨a, ds, (dx_same o.le q1).dp, (dx_same o.le q2).dp, h1, h2, k _ H (Same.refl H) (.bl _)⟩
theorem rd_notIn {a : PyData} {ds : List PyData} (h1 : SeqAt.shaped a = true) (h2 : SeqAt.shaped (.list ds) = true) : RD K Θ (rNotInD K) (.d a) (.d (.list ds)) (.d (.bool (!ds.any fun z => PyData.eqv z a))) := fun B A H v w Q o q1 q2 k =>
  ⟨a, ds, (dx_same o.le q1).dp, (dx_same o.le q2).dp, h1, h2, k _ H (Same.refl H) (.bl _)⟩
theorem ev_join {a : Str} {ys : List Str} (ha : EV K ta Γ Θ (.d (.str a))) (hb : EV K tb Γ Θ (.d (.list (ys.map .str)))) (hz : (ys.map (·.length)).sum + ys.length * a.length ≤ 16777216) : EV K (tM1 (rJoin K) ta tb) Γ Θ (.d (.str (Txt.join a ys))) := fun B A σ H Q e k =>
  ha B A σ H _ e fun v H1 s1 o1 => by
    have := dx_str o1
    subst this
    refine ⟨⟨a, rfl⟩, hb B A σ H1 _ (e.pure s1) fun w H2 s2 o2 => ?_⟩
    obtain ⟨p, xs, rfl, hs, hx⟩ := dx_lst o2
    have := dxAll_strs hx
    subst this
    exact ⟨a, p, ys, rfl, rfl, .inl (same_l mask_le hs), hz, k _ H2 (s1.trans s2) (.str _)⟩
theorem cd_maxL {ns : List Int} {m : Int} (hm : m ∈ ns) (hx : ∀ y ∈ ns, y ≤ m) : CD K Θ (rMax K) [.d (.list (ns.map .int))] (.d (.int m)) := fun B A H vs Q o p k => by
  obtain ⟨v, rfl, h⟩ := one_el p
  obtain ⟨a, xs, rfl, hs, ha⟩ := dx_lst h
  have := dxAll_ints ha
  subst this
  refine ⟨a, ns, rfl, same_l o.le hs, List.length_pos_of_mem hm, fun m' h1 h2 => ?_⟩
  have : m' = m := Int.le_antisymm (hx m' h1) (h2 m hm)
  subst this
  exact k _ H (Same.refl H) (.int _)
end
/-- lists of ints and None -/
theorem shaped_opt : ∀ l : List (Option Nat), PyData.canLayAll0 (l.map fun o => match o with | some n => PyData.int (n : Nat) | none => PyData.none) = true ∧ PyData.depthAll (l.map fun o => match o with | some n => PyData.int (n : Nat) | none => PyData.none) = 0
  | [] => by simp [PyData.canLayAll0, PyData.depthAll]
  | o :: r => by
    have := shaped_opt r
    cases o <;> simp [PyData.canLayAll0, PyData.canLay0, PyData.depthAll, PyData.depth, this.1, this.2]
end DL

namespace DL
open PySem PySem.Spec PyProof.Rows L2
/-- a method call, the fragment named -/
theorem kx_bm {X : Cx} {K : PySem.W.Frag} {T id : String} {name : Str} {r : V → List V → Hp → VK → Prop} {o e : Expr} {es : List Expr} {apos cpos : Pos} {to : TE} {t : TA} (hK : X.K = K) (pa : PlainAttrs T) (slot : Slot T name id) (hty : typeOf (.builtin id) = pure (.type "method_descriptor")) (hm : MtR X id r) (ho : PE X o to) (ha : PA X (e :: es) t)
    (hbase : attributeBase o name X.env (eval o X.env) = eval o X.env := by rfl)
    (hfew : ((backTo cpos (starEach (e :: es) X.env)).all (fun x => !x.1) && (backToKw cpos (keywordEach [] X.env)).all (fun x => x.1.isSome)
      && decide ((e :: es).length + ([] : List Keyword).length + (if ([] : List Keyword).isEmpty then 0 else 1) < 30)) = true := by rfl)
    (hline : (apos.endLine == cpos.line) = true := by rfl) (hs : starEach (e :: es) X.env = (false, eval e X.env) :: starEach es X.env := by rfl) (hplain : (backTo cpos (starEach es X.env)).any (·.1) = false := by rfl) :
    PE X (.Call (.Attribute o name apos) (e :: es) [] cpos) (tBM K T r to t) := by
  subst hK
  exact pe_bm pa slot hty hm ho ha hbase hfew hline hs hplain
theorem ev_isA {K : PySem.W.Frag} {Γ : Gm} {Θ : Th} {ta : TE} {k : Nat} (h : EV K ta Γ Θ (.at k)) : EV K (tIsN ta) Γ Θ (.d (.bool false)) := fun B A σ H Q e kk => h B A σ H _ e fun v H1 s1 o1 => by
  obtain ⟨p, _, rfl⟩ := o1
  exact kk (.bl false) H1 s1 (.bl _)
theorem ev_notA {K : PySem.W.Frag} {Γ : Gm} {Θ : Th} {ta : TE} {k : Nat} (h : EV K ta Γ Θ (.at k)) : EV K (tNotN ta) Γ Θ (.d (.bool true)) := fun B A σ H Q e kk => h B A σ H _ e fun v H1 s1 o1 => by
  obtain ⟨p, _, rfl⟩ := o1
  exact kk (.bl true) H1 s1 (.bl _)
/-- a class with own __init__, as its maker sees it -/
structure CalI (P : Program) (w : World) (K : PySem.W.Frag) (mg : Str → Option Value) (base : Heap) (k : Nat) (x : Str) (C : Addr) (ps fs : List Str) (sp : Sp) : Prop where
  ex : ∃ fI fd, ExI K mg x C fI fs ∧ FnOk P w K mg base CX0 k fI fd ps sp ∧ Binds K fd ps []
theorem CalI.mono {P : Program} {w : World} {K : PySem.W.Frag} {mg : Str → Option Value} {base : Heap} {j k : Nat} {x : Str} {C : Addr} {ps fs : List Str} {sp : Sp} (h : CalI P w K mg base j x C ps fs sp) (hk : j ≤ k) : CalI P w K mg base k x C ps fs sp := by
  obtain ⟨fI, fd, a, b, c⟩ := h.ex
  exact ⟨fI, fd, a, b.mono hk, c⟩
theorem CalI.gC {P : Program} {w : World} {K : PySem.W.Frag} {mg : Str → Option Value} {base : Heap} {k : Nat} {x : Str} {C : Addr} {ps fs : List Str} {sp : Sp} (h : CalI P w K mg base k x C ps fs sp) : mg x = some (.ref C) := by
  obtain ⟨fI, fd, a, b, c⟩ := h.ex
  exact a.gC
theorem pmk_I {X : Cx} {x : Str} {C : Addr} {j k : Nat} {ps fs : List Str} {sp : Sp} {e : Expr} {es : List Expr} {ta : TA} {p pos : Pos} (T : CalI X.prog X.w X.K X.mg X.base j x C ps fs sp) (hr : Room k X.A) (hjk : j + 1 ≤ k) (hg : Gl X x) (ha : PA X (e :: es) ta)
    (hdb : (x == ("__debug__" : Str)) = false := by decide) (he : starEach (e :: es) X.env = (false, eval e X.env) :: starEach es X.env := by rfl) (hpl : (backTo pos (starEach es X.env)).any (·.1) = false := by rfl) :
    PMk X (.Call (.Name x p) (e :: es) [] pos) (tMkO C sp [] ta) := by
  obtain ⟨fI, fd, a, b, c⟩ := T.ex
  exact pmk_oex a.T a.iC a.tI b (hr.mono hjk) c .nil pass0 hg a.gC ha hdb he hpl
theorem init1_sem {K : PySem.W.Frag} {f z : Str} {C : Addr} {vs : List V} {H : Hp} {Q : VK} {E : XK} {N : List Str} (hN : N.length = 2) (T : OexC K C) (hf : PySem.W.findIn K (.ref C) f = some none) (h : spI1 K C f vs H Q E) :
    tSeq (tDrop (tVeI K (tCons (tVar 0) (tCons (tC (.str z)) tNil)))) (tOst K f (tVar 0) (tVar 1)) { nx := fun _ H' => Q .non H', rt := Q } (L2.start N vs) H := by
  obtain ⟨a, v, rfl, ha, hk⟩ := h
  obtain ⟨x, y, rfl⟩ : ∃ x y, N = [x, y] := by
    match N, hN with
    | [x, y], _ => exact ⟨x, y, rfl⟩
  refine ⟨.ref a, rfl, ?_⟩
  exact ⟨a, C, [.str z], rfl, by show 1 ≤ 1000; decide, T, ha, v, rfl, .ref a, rfl, a, C, rfl, T, hf, .inl ⟨ha, fun dx h1 h2 => hk dx h1 h2⟩⟩
theorem init2_sem {K : PySem.W.Frag} {f g : Str} {tz : TE} {C : Addr} {vs : List V} {H : Hp} {Q : VK} {E : XK} {N : List Str} (hN : N.length = 3) (htz : ∀ a v w H (R : VK), (∀ u, R u H) → tz (L2.start N [.ref a, v, w]) H R) (T : OexC K C) (hf : PySem.W.findIn K (.ref C) f = some none) (hg : PySem.W.findIn K (.ref C) g = some none) (h : spI2 K C f g vs H Q E) :
    tSeq (tDrop (tVeI K (tCons (tVar 0) (tCons tz tNil)))) (tSeq (tOst K f (tVar 0) (tVar 1)) (tOst K g (tVar 0) (tVar 2))) { nx := fun _ H' => Q .non H', rt := Q } (L2.start N vs) H := by
  obtain ⟨a, v, w, rfl, ha, hk⟩ := h
  have e0 : (L2.start N [V.ref a, v, w])[0]? = some (some (V.ref a)) ∧ (L2.start N [V.ref a, v, w])[1]? = some (some v) ∧ (L2.start N [V.ref a, v, w])[2]? = some (some w) := by
    match N, hN with
    | [x, y, z], _ => exact ⟨rfl, rfl, rfl⟩
  refine ⟨.ref a, e0.1, htz a v w H _ fun u => ?_⟩
  refine ⟨a, C, [u], rfl, by show 1 ≤ 1000; decide, T, ha, v, e0.2.1, .ref a, e0.1, a, C, rfl, T, hf, .inl ⟨ha, fun dx h1 h2 => ?_⟩⟩
  refine ⟨w, e0.2.2, .ref a, e0.1, a, C, rfl, T, hg, .inr ⟨dx, [(f, v)], upd_same, by rw [upd_ne h2, upd_same], by show 1 ≤ 900; decide, ?_⟩⟩
  exact hk dx h1 h2
theorem calI_mk {P : Program} {w : World} {K : PySem.W.Frag} {mg : Str → Option Value} {base : Heap} {x qual : Str} {C fI : Addr} {fd : FuncData} {st : Stmt} {N ps fs : List Str} {k : Nat} {sp : Sp} (T : ExI K mg x C fI fs) (F : FunD K "__init__" qual (defArgs st) (defBody st) (defScope st) [] [] fI fd) (S : FnScope N ps (defScope st)) (hb : Binds K fd ps []) (len : ∀ vs H Q E, sp vs H Q E → vs.length = ps.length)
    (hbody : ∀ (cdv : Value) (A : Around) (outer : List PySem.Env) (s : Shared) (H : Hp) (vs : List V) (Q : VK) (E : XK), Room k (A.deeper (envOfC qual (defScope st) s.heap.objs.size fI cdv)) → sp vs H Q E →
      ∃ t, PSs (cxOf CX0 P w K mg base N qual (defScope st) fI cdv A outer s H E).nox (defBody st) t ∧ t { nx := fun _ H' => Q .non H', rt := Q } (L2.start N vs) H) : CalI P w K mg base (k + 1) x C ps fs sp :=
  ⟨fI, fd, T, F.ok S len (fun cdv A outer s H vs Q E hr h => let ⟨t, h1, h2⟩ := hbody cdv A outer s H vs Q E hr h; ⟨t, h1.nox, h2⟩), hb⟩
end DL

namespace DL
open PySem PySem.Spec PyProof.Rows L2
/-! ### isinstance of a caught one that has a dict of its own -/
/-- where the exception that the suite holds stands, its dict besides -/
theorem inst_of {X : Cx} {pins : List (Addr × Obj)} {σ : L2.St} {H : Hp} {s : Shared} {a D dd : Addr} {oe : Obj} {pn : List (Addr × Obj)} {d : Option Addr} {gs : List (Str × V)} (I : Inv (X.suite a ((a, oe) :: pn)) pins σ H s) (hz : Zc (.ref D) d oe) (hf : ∃ vs, oe.data = .fields vs) (ed : d = some dd) (ea : H dd = some (.xd gs)) :
    ∃ od, PySem.W.InstAt s.heap a oe D (some od) := by
  subst ed
  obtain ⟨hget, _⟩ := I.pin (a, oe) (List.mem_append_left _ List.mem_cons_self)
  obtain ⟨vs, hv⟩ := hf
  obtain ⟨mA, hns, _⟩ := (show ObjOk X.prog X.w H s.heap dd (.xd gs) from I.hok dd _ ea)
  obtain ⟨od, ho, _⟩ := lookIn_ns hns
  exact ⟨od, hget, hz.1, by unfold PySem.W.notCls; rw [hv] <;> rfl, by rw [hz.2]; exact ho⟩
def rIsED (K : PySem.W.Frag) (D a : Addr) (d : Option Addr) : List V → Hp → VK → Prop := fun xs H Q => ∃ (c : V) (cv : Value) (b : Bool) (dd : Addr) (gs : List (Str × V)), xs = [.ref a, c] ∧ (∀ u, RelV c u → u = cv) ∧ PySem.W.kitOne K (.ref D) cv = some b ∧ (d = some dd ∧ H dd = some (.xd gs)) ∧ Q (.bl b) H
theorem call_isED {X : Cx} {a D : Addr} {d : Option Addr} {oe : Obj} {pn : List (Addr × Obj)} (C : ExcC X.K D) (hz : Zc (.ref D) d oe) (hf : ∃ vs, oe.data = .fields vs) : CallR (X.suite a ((a, oe) :: pn)) (.builtin "isinstance") (rIsED X.K D a d) := by
  intro pins s σ H xs us Q I r h
  obtain ⟨c, cv, b, dd, gs, rfl, hcv, e, ⟨ed, ea⟩, q⟩ := h
  obtain ⟨od, J⟩ := inst_of I hz hf ed ea
  cases r with | cons rx rr =>
  cases rr with | cons rt rr =>
  cases rr
  cases rx
  obtain rfl := hcv _ rt
  have hcl : (PySem.W.clsIn X.K D).isSome = true := by
    obtain ⟨cd, hc, _⟩ := PySem.W.any_some C.hd
    rw [hc]; rfl
  exact PySem.W.kia_one (PySem.W.kitx_exc hcl C.hg C.hk C.hs C.ha C.hn C.ht C.hm) I.kIn J e (fun z => nomatch z) fun tk => ⟨.bl b, H, I.tok tk, rfl, q⟩
def rIsETD (K : PySem.W.Frag) (D a : Addr) (d : Option Addr) : List V → Hp → VK → Prop := fun xs H Q => ∃ (tp : Addr) (cs : List V) (us : List Value) (b : Bool) (dd : Addr) (gs : List (Str × V)), xs = [.ref a, .ref tp] ∧ H tp = some (.tup cs) ∧ Paired ClsV cs us ∧ PySem.W.kitAny K (.ref D) us = some b ∧ (d = some dd ∧ H dd = some (.xd gs)) ∧ Q (.bl b) H
theorem call_isETD {X : Cx} {a D : Addr} {d : Option Addr} {oe : Obj} {pn : List (Addr × Obj)} (C : ExcC X.K D) (hz : Zc (.ref D) d oe) (hf : ∃ vs, oe.data = .fields vs) : CallR (X.suite a ((a, oe) :: pn)) (.builtin "isinstance") (rIsETD X.K D a d) := by
  intro pins s σ H xs us Q I r h
  obtain ⟨tp, cs, ws, b, dd, gs, rfl, hT, k, e, ⟨ed, ea⟩, q⟩ := h
  obtain ⟨od, J⟩ := inst_of I hz hf ed ea
  cases r with | cons rx rr =>
  cases rr with | cons rt rr =>
  cases rr
  cases rx
  cases rt
  obtain ⟨_, its, rv, o, h1, h2, n, h3⟩ := (show ObjOk X.prog X.w H s.heap tp (.tup cs) from I.hok tp _ hT)
  obtain rfl := ClsV.all k rv
  obtain ⟨oc, od2, dt, sl⟩ := o
  simp only at h2 h3
  subst h2 h3
  have hcl : (PySem.W.clsIn X.K D).isSome = true := by
    obtain ⟨cd, hc, _⟩ := PySem.W.any_some C.hd
    rw [hc]; rfl
  exact PySem.W.kia_tup (PySem.W.kitx_exc hcl C.hg C.hk C.hs C.ha C.hn C.ht C.hm) I.kIn J h1 e (fun z => nomatch z) fun tk => ⟨.bl b, H, I.tok tk, rfl, q⟩
/-- a suite that is walked where the class is known, the dict not asked -/
theorem pss_whenY {X : Cx} {sts : List Stmt} {t : TS} {D : Addr} {cls : Value} {d : Option Addr} {oe : Obj} (h : Zc (.ref D) d oe → PSs X sts t) (hz : Zc cls d oe) : PSs X sts (fun Dn σ H => cls = .ref D ∧ t Dn σ H) := ⟨fun pins s σ H Dn I q => by
  obtain ⟨e1, q⟩ := q
  subst e1
  exact (h hz).run pins s σ H Dn I q⟩
section
variable {K : PySem.W.Frag} {E : WX} {B : Addr → Prop} {A A' : List (Option Addr)} {H H' : Hp} {Γ Γ' : Gm} {Θ Θ' : Th} {σ σ' : L2.St} {x y z : El} {te ta tb td ty tx : TE} {tt : TT} {P : Post}
/-- the caught one's dict -/
theorem exc_dict {a : Addr} {d : Option Addr} {fs : List (Str × PyData)} {v : V} (h : ElOk K B A H v (.exc a d (some fs))) : v = .ref a ∧ ∃ dd gs, d = some dd ∧ H dd = some (.xd gs) := by
  obtain ⟨e, xm⟩ := h
  refine ⟨e, ?_⟩
  cases d with
  | none => exact xm.elim
  | some dd =>
    obtain ⟨vs, h1, _⟩ := xm
    exact ⟨dd, vs, rfl, mask_le _ _ h1⟩
theorem ev_isED {D a : Addr} {d : Option Addr} {fs : List (Str × PyData)} {i : Nat} {c : V} {cv : Value} {b : Bool} (h : Γ[i]? = some (some (.exc a d (some fs)))) (hv : EV K te Γ Θ (.raw c)) (hc : ∀ u, RelV c u → u = cv) (hk : PySem.W.kitOne K (.ref D) cv = some b) :
    EV K (tCB (rIsED K D a d) (tCons (tVar i) (tCons te tNil))) Γ Θ (.d (.bool b)) := fun B A σ H Q e k =>
  ev_var h B A σ H _ e fun v H1 s1 o1 => hv B A σ H1 _ (e.pure s1) fun u H2 s2 o2 => by
    obtain ⟨rfl, dd, gs, ed, ea⟩ := exc_dict (o1.pure (e.pure s1).own.bh s2)
    have o2 : u = c := o2
    subst o2
    exact ⟨_, cv, b, dd, gs, rfl, hc, hk, ⟨ed, ea⟩, k _ H2 (s1.trans s2) (.bl b)⟩
theorem ev_isETD {D a : Addr} {d : Option Addr} {fs : List (Str × PyData)} {i : Nat} {cs : List V} {us : List Value} {b : Bool} {tas : TA} (h : Γ[i]? = some (some (.exc a d (some fs)))) (hs : AV K tas Γ Θ (cs.map .raw)) (hz : cs.length ≤ 100) (hc : Paired ClsV cs us) (hk : PySem.W.kitAny K (.ref D) us = some b) :
    EV K (tCB (rIsETD K D a d) (tCons (tVar i) (tCons (tTup tas) tNil))) Γ Θ (.d (.bool b)) := fun B A σ H Q e k =>
  ev_var h B A σ H _ e fun v H1 s1 o1 => hs B A σ H1 _ (e.pure s1) fun vs H2 s2 o2 => by
    obtain ⟨rfl, dd, gs, ed, ea⟩ := exc_dict (o1.pure (e.pure s1).own.bh s2)
    have ev : vs = cs := raw_vals o2
    subst ev
    refine ⟨Nat.le_trans hz (by decide), fun p np => ?_⟩
    exact ⟨p, vs, us, b, dd, gs, rfl, upd_same, hc, hk, ⟨ed, by rw [upd_ne (ne_of_none ea np)]; exact ea⟩, k _ _ ((s1.trans s2).trans (Same.new np)) (.bl b)⟩
theorem eg_lst {ta : TA} {Pp : El → Gm → Th → Prop} (h : AG K ta Γ Θ fun xs Γ1 Θ1 => xs.length ≤ sizeLine ∧ Pp (.d (.list xs)) Γ1 Θ1) : EG K (tLst ta) Γ Θ Pp := fun B A σ H Q e k =>
  h B A σ H _ e fun vs A1 H1 xs Γ1 Θ1 t1 e1 o1 p1 => by
    refine ⟨by rw [dxAll_len o1]; exact p1.1, fun p np => k (.ref p) A1 _ (.d (.list xs)) Γ1 Θ1 (t1.trans (Tr.pure (Same.new np))) (e1.pure (Same.new np)) (Dx.lst (xs := vs) (SqL.of ?_) (dxAll_same (same_mask (Same.new np) fun _ _ m => m) o1)) p1.2⟩
    rw [mask_no (e1.own.free np)]
    exact upd_same
/-! ### xs.append(e), e changes what is owned -/
theorem sg_appendG {k : Nat} {es0 : List El} (hx : EV K ta Γ Θ (.at k)) (hk : Θ[k]? = some (.lst es0)) (he : EG K te Γ Θ fun x Γ' Θ' => ∃ es, Θ'[k]? = some (.lst es) ∧ es.length < sizeLine ∧ P.nx Γ' (Θ'.set k (.lst (es ++ [x])))) : SG K E (tDrop (tBM K "list" rAppend ta (tCons te tNil))) Γ Θ P := fun B A σ H D e d => hx B A σ H _ e fun v H1 s1 o1 => by
  have e1 := e.pure s1
  obtain ⟨pa, vs, rfl, hA, hp, hv⟩ := e1.own.lst hk o1
  refine ⟨.inl ⟨rfl, _, SqL.of hp⟩, he B A σ H1 _ e1 fun u A2 H2 x Γ2 Θ2 t2 e2 o2 p2 => ?_⟩
  obtain ⟨es, hk2, hz, pp⟩ := p2
  have hA2 : A2[k]? = some (some pa) := by
    rcases t2.kA k (List.getElem?_eq_some_iff.mp hA).1 with q | q
    · rw [q]; exact hA
    · have := e2.own.gn k q
      rw [hk2] at this
      cases this
  obtain ⟨p', vs2, e', _, hp2, hv2⟩ := e2.own.lst hk2 (v := .ref pa) ⟨pa, hA2, rfl⟩
  cases e'
  refine ⟨pa, vs2, u, rfl, rfl, hp2, by rw [paired_len hv2]; exact hz, ?_⟩
  exact d.nx A2 _ σ Γ2 _ (((Tr.pure s1).trans t2).trans (Tr.put hA2)) (e2.put hA2 (od := .lst (es ++ [x])) (Paired.snoc o2 hv2)) pp
/-! ### a walk over what is made by an effect -/
def IG (K : PySem.W.Frag) (wi : TI) (Γ : Gm) (Θ : Th) (k : List PyData → Gm → Th → Prop) : Prop := ∀ (B : Addr → Prop) A σ H (R : It → Hp → Prop), En K B A H σ Γ Θ →
  (∀ J A1 H1 xs Γ1 Θ1, Tr A H A1 H1 → En K B A1 H1 σ Γ1 Θ1 → WD K J (Weak (hid B A1) H1) (hid B A1) H1 xs → k xs Γ1 Θ1 → R J H1) → wi σ H R
theorem eg_lcG {α : Type} {wi : TI} {j : Nat} {Pp : El → Gm → Th → Prop} (hi : IG K wi Γ Θ fun xs Γ1 Θ1 => ∃ (l : List α) (en : α → PyData) (I : Nat → List PyData → Th → Prop), xs = l.map en ∧ l.length < sizeLine ∧ Alive Γ1 Θ1 ∧ I 0 [] Θ1 ∧
    (∀ i a acc Θ', l[i]? = some a → I i acc Θ' → EG K te ((Γ1.set j none).set j (some (.d (en a)))) Θ' fun x _ Θ2 => ∃ d, x = .d d ∧ Alive Γ1 Θ2 ∧ I (i + 1) (acc ++ [d]) Θ2) ∧
    ∀ acc Θ', acc.length = l.length → I l.length acc Θ' → Pp (.d (.list acc)) Γ1 Θ') : EG K (tLc wi (gName j) tYes te [j]) Γ Θ Pp := fun B A σ H Q e k =>
  hi B A σ H _ e fun J A1 H1 xs Γ1 Θ1 t1 e1 w p => by
    obtain ⟨l, en, I, rfl, hz, hal, h0, hs, hd⟩ := p
    exact lcE_core hz hal I h0 hs hd e1 w fun v A' H' x Γ' Θ' t => k v A' H' x Γ' Θ' (t1.trans t)
theorem sg_forG {α : Type} {wi : TI} {g : TG} {ts : TS} (hi : IG K wi Γ Θ fun xs Γ1 Θ1 => ∃ (l : List α) (en : α → PyData) (I : Nat → Gm → Th → Prop), xs = l.map en ∧ I 0 Γ1 Θ1 ∧
    (∀ (i : Nat) a Γ' Θ', l[i]? = some a → I i Γ' Θ' → ∃ Γx js, GV K g (en a) Γ' Θ' Γx js ∧ SG K E ts Γx Θ' (P.turn (I (i + 1)))) ∧ ∀ Γ' Θ', I l.length Γ' Θ' → P.nx Γ' Θ') : SG K E (tFor wi g ts) Γ Θ P := fun B A0 σ H D e d =>
  hi B A0 σ H _ e fun J A H1 xs Γ1 Θ1 t1 e1 w p => by
    obtain ⟨l, en, I, rfl, h0, hs, hd⟩ := p
    have d1 := d.tr t1
    let Pv : Nat → L2.St → Hp → Prop := fun i σ' H' => ∃ A' Γ' Θ', Tr A H1 A' H' ∧ En K B A' H' σ' Γ' Θ' ∧ I i Γ' Θ'
    have hw : Walk J l.length (Weak (hid B A) H1) (fun i H' v H'' => i < l.length ∧ Weak (hid B A) H1 H' ∧ J.yld i H' v H'') :=
      ⟨fun i H' hi c => w.goes i H' (by simpa using hi) c, fun H' c => by simpa using w.stops H' c, fun i H' v H'' hi c y => ⟨hi, c, y⟩⟩
    refine for_it hw Pv ⟨A, Γ1, Θ1, Tr.refl, e1, h0⟩ (fun i σ' H' _ q => by obtain ⟨_, _, _, t, _⟩ := q; exact t.weak) (fun i v σ' H' H'' hi q y => ?_) (fun σ' H' q => ?_)
    · obtain ⟨A', Γ', Θ', tr, e', hI⟩ := q
      obtain ⟨_, c, y⟩ := y
      obtain ⟨sy, hy⟩ := w.yields i H' v H'' (by simpa using hi) c y
      obtain ⟨dd, hd1, hd2⟩ := hy (hid B A') (lets_of tr e'.own)
      obtain ⟨a, ha1, ha2⟩ : ∃ a, l[i]? = some a ∧ dd = en a := by
        rw [List.getElem?_map] at hd1
        cases q : l[i]? with
        | none => rw [q] at hd1; cases hd1
        | some a => rw [q] at hd1; cases hd1; exact ⟨a, rfl, rfl⟩
      subst ha2
      obtain ⟨Γx, js, hg, hb⟩ := hs i a Γ' Θ' ha1 hI
      refine hg B A' σ' H'' v _ (e'.pure sy) hd2 fun σ2 H2 s2 e2 _ _ => ?_
      have t2 : Tr A H1 A' H2 := (tr.trans (Tr.pure sy)).trans (Tr.pure s2)
      exact hb B A' σ2 H2 _ e2 ⟨fun A3 H3 σ3 Γ3 Θ3 t3 e3 i' => ⟨A3, Γ3, Θ3, t2.trans t3, e3, i'⟩, (d1.tr t2).rt, fun A3 H3 σ3 Γ3 Θ3 t3 e3 q => (d1.tr t2).nx A3 H3 σ3 Γ3 Θ3 t3 e3 q, fun A3 H3 σ3 Γ3 Θ3 t3 e3 i' => ⟨A3, Γ3, Θ3, t2.trans t3, e3, i'⟩, (d1.tr t2).ex⟩
    · obtain ⟨A', Γ', Θ', tr, e', hI⟩ := q
      exact d1.nx A' H' σ' Γ' Θ' tr e' (hd Γ' Θ' hI)
theorem ig_rng1 {ta : TA} {k : List PyData → Gm → Th → Prop} (h : AG K ta Γ Θ fun xs Γ1 Θ1 => ∃ n : Nat, xs = [.int (n : Int)] ∧ n < 2 ^ 60 ∧ k ((List.range n).map fun i : Nat => PyData.int (i : Int)) Γ1 Θ1) : IG K (iRng1 ta) Γ Θ k := fun B A σ H R e kk => h B A σ H _ e fun vs A1 H1 xs Γ1 Θ1 t1 e1 o1 p1 => by
  obtain ⟨n, rfl, hn, pk⟩ := p1
  have ev := dxAll_ints (ns := [(n : Int)]) o1
  subst ev
  refine ⟨n, rfl, by omega, by omega, kk _ A1 H1 _ Γ1 Θ1 t1 e1 ⟨fun i H' hi _ => ?_, fun H' _ => ?_, fun i H' v H'' hi _ y => ?_⟩ pk⟩
  · rw [List.length_map, List.length_range] at hi
    show (i : Nat) < ((n : Int)).toNat
    omega
  · rw [List.length_map, List.length_range]
    show ((n : Int)).toNat ≤ n
    omega
  · obtain ⟨rfl, rfl⟩ := y
    rw [List.length_map, List.length_range] at hi
    exact ⟨Same.refl _, fun M _ => ⟨.int (i : Int), by simp only [List.getElem?_map, List.getElem?_range hi, Option.map_some], by rw [Int.zero_add]; exact .int _⟩⟩
end
/-! ### a head with more facts, the interpreter's own statics besides -/
def asY (g : Addr → Option Obj) (n : Nat) : List Addr := He.asD g n ++ [cStatics]
def hookY (n : Nat) (fa : List He.Fa) (fn : List He.DefD) (ex : PySem.W.Frag → Bool) : PySem.W.Hook where
  α := Bool × He.AlD
  obs := fun s => (ex (He.frG s.heap.get? (asY s.heap.get? n)), He.obsD fa fn (He.frG s.heap.get? (asY s.heap.get? n)))
  val := fun _ => (true, He.valD fn)
  says := fun _ h => ∃ K : PySem.W.Frag, K.In h ∧ He.SaysD fa fn K ∧ ex K = true
  of := fun _ _ e => ⟨_, He.frG_in, congrArg Prod.snd e, congrArg Prod.fst e⟩
  keeps := fun _ _ _ ⟨K, hK, c⟩ k => ⟨K, PySem.W.Frag.In.keeps hK k, c⟩
def obY (n : Nat) (fa : List He.Fa) (fn : List He.DefD) (ex : PySem.W.Frag → Bool) (g : Addr → Option Obj) : Bool × He.AlD := (ex (He.frG g (asY g n)), He.obsD fa fn (He.frG g (asY g n)))
theorem obY_eq {n : Nat} {fa : List He.Fa} {fn : List He.DefD} {ex : PySem.W.Frag → Bool} {g : Addr → Option Obj} {s : Shared} (h : ∀ a, g a = s.heap.get? a) : obY n fa fn ex g = (hookY n fa fn ex).obs s := by
  have e : g = s.heap.get? := funext h
  rw [e] <;> rfl
end DL

/-! numbers as texts, plain -/
namespace NT
open PySem L2 TL
/-- more than any number met -/
def BIG : Nat := 10 ^ 500
theorem small_BIG {n : Nat} (h : n < 2 ^ 1000) : n < BIG := Nat.lt_of_lt_of_le h (by unfold BIG; exact Nat.le_trans (m := (2 ^ 10) ^ 100) (by rw [← Nat.pow_mul]; exact Nat.le_refl _) (Nat.le_trans (m := (10 ^ 5) ^ 100) (Nat.pow_le_pow_left (by decide) 100) (by rw [← Nat.pow_mul]; exact Nat.le_refl _)))
theorem BIG_len {n : Nat} (h : n < BIG) : (numL n).length ≤ 500 := numL_len (by decide) h
theorem log_of {n : Nat} (h : n < BIG) : n.log2 < 1920 := by
  by_cases z : n = 0
  · subst z; decide
  · rw [Nat.log2_lt z]
    refine Nat.lt_of_lt_of_le h ?_
    unfold BIG
    refine Nat.le_trans (m := (10 ^ 5) ^ 100) (by rw [← Nat.pow_mul]; exact Nat.le_refl _) (Nat.le_trans (m := (2 ^ 17) ^ 100) (Nat.pow_le_pow_left (by decide) 100) ?_)
    rw [← Nat.pow_mul]
    exact Nat.pow_le_pow_right (by decide) (by decide)
def bodyL (p n : Nat) : List Nat := if p = 0 then numL n else (if n = 1 then [] else numL n) ++ [122] ++ (if p = 1 then [] else numL p)
def signed (p : Nat) (o : Int) : List Nat := (if o < 0 then [45] else []) ++ bodyL p o.natAbs
def sepL (o : Int) : List Nat := if 0 < o then [43] else []
def tailZ : List (Nat × Int) → List Nat
  | [] => []
  | (p, o) :: r => sepL o ++ signed p o ++ tailZ r
def shownZ : List (Nat × Int) → List Nat
  | [] => []
  | (p, o) :: r => signed p o ++ tailZ r
def nz (l : List Int) : List (Nat × Int) := (l.zipIdx.filter (fun q => q.1 != 0)).map (fun q => (q.2, q.1))
def shownT (l : List Int) : List Nat := if nz l = [] then [48] else shownZ (nz l)
def shownS (l : List Int) : Str := ⟨(shownT l).toArray⟩
theorem tl_int (o : Int) : tl (Str.ofString (toString o)) = (if o < 0 then [45] else []) ++ numL o.natAbs := by
  cases o with
  | ofNat n => 
    have : ¬ ((Int.ofNat n) < 0) := by simp
    rw [if_neg this]
    exact tl_num n
  | negSucc n =>
    have h : (Int.negSucc n) < 0 := Int.negSucc_lt_zero n
    rw [if_pos h]
    have e : toString (Int.negSucc n) = "-" ++ toString (n + 1) := rfl
    rw [e, tl_ofString, String.toList_append, List.map_append]
    have e2 : (toString (n + 1)).toList.map Char.toNat = numL (n + 1) := by
      have := tl_num (n + 1)
      rw [tl_ofString] at this
      exact this
    rw [e2]
    rfl
theorem signed_ne (p : Nat) (o : Int) : signed p o ≠ [] := by
  unfold signed bodyL
  by_cases h : p = 0
  · rw [if_pos h]
    simp [numL_ne]
  · rw [if_neg h]; simp
theorem tailZ_append : ∀ (a b : List (Nat × Int)), tailZ (a ++ b) = tailZ a ++ tailZ b
  | [], b => rfl
  | (p, o) :: r, b => by
    show sepL o ++ signed p o ++ tailZ (r ++ b) = sepL o ++ signed p o ++ tailZ r ++ tailZ b
    rw [tailZ_append r b, List.append_assoc (sepL o ++ signed p o)]
theorem shownZ_snoc (a : List (Nat × Int)) (p : Nat) (o : Int) : shownZ (a ++ [(p, o)]) = shownZ a ++ (if a = [] then [] else sepL o) ++ signed p o := by
  cases a with
  | nil => simp [shownZ, tailZ]
  | cons x r =>
    obtain ⟨q, u⟩ := x
    show signed q u ++ tailZ (r ++ [(p, o)]) = signed q u ++ tailZ r ++ _ ++ _
    rw [tailZ_append, if_neg (by simp)]
    show _ ++ (_ ++ (sepL o ++ signed p o ++ [])) = _
    simp
theorem shownZ_nil {a : List (Nat × Int)} : shownZ a = [] ↔ a = [] := by
  cases a with
  | nil => simp [shownZ]
  | cons x r =>
    obtain ⟨q, u⟩ := x
    have := signed_ne q u
    simp [shownZ, this]
theorem nz_snoc (l : List Int) (o : Int) : nz (l ++ [o]) = nz l ++ (if o = 0 then [] else [(l.length, o)]) := by
  unfold nz
  rw [List.zipIdx_append, List.filter_append, List.map_append]
  congr 1
  by_cases h : o = 0
  · simp [h]
  · simp [h]
theorem nz_mem {l : List Int} {p : Nat} {o : Int} (h : (p, o) ∈ nz l) : l[p]? = some o ∧ o ≠ 0 := by
  unfold nz at h
  obtain ⟨⟨a, b⟩, h1, h2⟩ := List.mem_map.mp h
  obtain ⟨h3, h4⟩ := List.mem_filter.mp h1
  cases h2
  have := List.mem_zipIdx' h3
  simp at h4
  refine ⟨?_, h4⟩
  rw [List.getElem?_eq_getElem this.1]
  exact congrArg some this.2.symm
/-! lengths -/
theorem bodyL_len {p n : Nat} (hp : p < 10 ^ 3) (hn : n < BIG) : (bodyL p n).length ≤ 504 := by
  unfold bodyL
  have h1 := BIG_len hn
  have h2 := numL_len (k := 3) (by decide) hp
  split
  · omega
  · rw [List.length_append, List.length_append]
    have a1 : (if n = 1 then ([] : List Nat) else numL n).length ≤ 500 := by
      split
      · exact Nat.zero_le _
      · exact h1
    have a2 : (if p = 1 then ([] : List Nat) else numL p).length ≤ 3 := by
      split
      · exact Nat.zero_le _
      · exact h2
    simp only [List.length_singleton]
    omega
theorem signed_len {p : Nat} {o : Int} (hp : p < 10 ^ 3) (hn : o.natAbs < BIG) : (signed p o).length ≤ 505 := by
  unfold signed
  rw [List.length_append]
  have := bodyL_len hp hn
  split <;> simp <;> omega
theorem tailZ_len : ∀ {a : List (Nat × Int)}, (∀ q ∈ a, q.1 < 10 ^ 3 ∧ q.2.natAbs < BIG) → (tailZ a).length ≤ 506 * a.length
  | [], _ => by simp [tailZ]
  | (p, o) :: r, h => by
    have h1 := h (p, o) List.mem_cons_self
    have h2 := tailZ_len (a := r) fun q m => h q (List.mem_cons_of_mem _ m)
    have h3 : (signed p o).length ≤ 505 := signed_len h1.1 h1.2
    have h4 : (sepL o).length ≤ 1 := by unfold sepL; split <;> simp
    show (sepL o ++ signed p o ++ tailZ r).length ≤ _
    rw [List.length_append, List.length_append, List.length_cons]
    omega
theorem shownZ_len {a : List (Nat × Int)} (h : ∀ q ∈ a, q.1 < 10 ^ 3 ∧ q.2.natAbs < BIG) : (shownZ a).length ≤ 506 * a.length := by
  have := tailZ_len h
  cases a with
  | nil => simp [shownZ]
  | cons x r =>
    obtain ⟨p, o⟩ := x
    have : (shownZ ((p, o) :: r)).length ≤ (tailZ ((p, o) :: r)).length := by
      show (signed p o ++ tailZ r).length ≤ (sepL o ++ signed p o ++ tailZ r).length
      simp only [List.length_append]
      omega
    omega
theorem nz_le (l : List Int) : (nz l).length ≤ l.length := by
  unfold nz
  rw [List.length_map]
  have := List.length_filter_le (fun q : Int × Nat => q.1 != 0) l.zipIdx
  simpa using this
theorem nz_ok {l : List Int} (hl : l.length ≤ 1000) (h : ∀ o ∈ l, o.natAbs < BIG) : ∀ q ∈ nz l, q.1 < 10 ^ 3 ∧ q.2.natAbs < BIG := fun ⟨p, o⟩ m => by
  have := (nz_mem m).1
  have h1 := (List.getElem?_eq_some_iff.mp this).1
  exact ⟨by show p < 10 ^ 3; omega, h o (List.mem_of_getElem? this)⟩
theorem shownT_len {l : List Int} (hl : l.length ≤ 1000) (h : ∀ o ∈ l, o.natAbs < BIG) : (shownT l).length ≤ 506 * l.length + 1 := by
  unfold shownT
  split
  · simp
  · have h1 := shownZ_len (nz_ok hl h)
    have h2 := nz_le l
    omega
end NT

namespace NT
open PySem L2 TL PySem.StrLaws
def dash (L : List Nat) : List Nat := L.flatMap fun c => if c = 45 then [43, 45] else [c]
theorem repl_dash : ∀ L : List Nat, replL [45] [43, 45] L = dash L
  | [] => replL_nil
  | c :: r => by
    by_cases h : c = 45
    · subst h
      rw [replL_hit (by decide) rfl]
      show [43, 45] ++ replL [45] [43, 45] r = _
      rw [repl_dash r]
      simp [dash]
    · rw [replL_miss (by intro z; exact h (by simpa using z)), repl_dash r]
      simp [dash, h]
theorem dash_app (a b : List Nat) : dash (a ++ b) = dash a ++ dash b := List.flatMap_append
theorem dash_none : ∀ {L : List Nat}, 45 ∉ L → dash L = L
  | [], _ => rfl
  | c :: r, h => by
    rw [List.mem_cons, not_or] at h
    have := dash_none h.2
    unfold dash at this ⊢
    rw [List.flatMap_cons, this, if_neg (Ne.symm h.1)]
    rfl
theorem body_no {p n s : Nat} (h : s < 48 ∨ 57 < s) (h2 : s ≠ 122) : s ∉ bodyL p n := by
  unfold bodyL
  intro m
  split at m
  · exact numL_free h m
  · rcases List.mem_append.mp m with m | m
    · rcases List.mem_append.mp m with m | m
      · split at m
        · simp at m
        · exact numL_free h m
      · exact h2 (by simpa using m)
    · split at m
      · simp at m
      · exact numL_free h m
theorem dash_signed (p : Nat) (o : Int) : dash (signed p o) = (if o < 0 then [43] else []) ++ signed p o := by
  unfold signed
  rw [dash_app, dash_none (body_no (.inl (by decide)) (by decide))]
  by_cases h : o < 0
  · simp [h, dash]
  · simp [h, dash]
theorem dash_tail : ∀ {es : List (Nat × Int)}, (∀ q ∈ es, q.2 ≠ 0) → dash (tailZ es) = es.flatMap fun q => 43 :: signed q.1 q.2
  | [], _ => rfl
  | (p, o) :: r, h => by
    have h0 : o ≠ 0 := h (p, o) List.mem_cons_self
    show dash (sepL o ++ signed p o ++ tailZ r) = _
    rw [dash_app, dash_app, dash_signed, dash_tail fun q m => h q (List.mem_cons_of_mem _ m), List.flatMap_cons]
    unfold sepL
    by_cases h1 : 0 < o
    · rw [if_pos h1, if_neg (by omega)]
      rfl
    · rw [if_neg h1, if_pos (by omega)]
      rfl
theorem join_cons : ∀ (x : List Nat) (xs : List (List Nat)), joinL [43] (x :: xs) = x ++ xs.flatMap fun y => 43 :: y
  | x, [] => by simp [joinL]
  | x, y :: ys => by
    show x ++ ([43] ++ joinL [43] (y :: ys)) = _
    rw [join_cons y ys, List.flatMap_cons]
    rfl
def partsZ : List (Nat × Int) → List (List Nat)
  | [] => []
  | (p, o) :: r => (if o < 0 then [[]] else []) ++ ((p, o) :: r).map fun q => signed q.1 q.2
theorem dash_shown {p : Nat} {o : Int} {r : List (Nat × Int)} (h : ∀ q ∈ r, q.2 ≠ 0) : dash (shownZ ((p, o) :: r)) = joinL [43] (partsZ ((p, o) :: r)) := by
  show dash (signed p o ++ tailZ r) = _
  rw [dash_app, dash_signed, dash_tail h]
  show _ = joinL [43] ((if o < 0 then [[]] else []) ++ ((p, o) :: r).map fun q => signed q.1 q.2)
  by_cases h1 : o < 0
  · rw [if_pos h1, if_pos h1]
    show _ = joinL [43] ([] :: (signed p o :: r.map fun q => signed q.1 q.2))
    rw [join_cons, List.flatMap_cons, List.flatMap_map]
    simp
  · rw [if_neg h1, if_neg h1, List.map_cons]
    show _ = joinL [43] (_ :: _)
    rw [join_cons, List.flatMap_map]
    rfl
theorem signed_no (p : Nat) (o : Int) : 43 ∉ signed p o := by
  unfold signed
  intro m
  rcases List.mem_append.mp m with m | m
  · split at m <;> simp at m
  · exact body_no (.inl (by decide)) (by decide) m
theorem parts_no {es : List (Nat × Int)} : ∀ x ∈ partsZ es, 43 ∉ x := by
  cases es with
  | nil => simp [partsZ]
  | cons q r =>
    obtain ⟨p, o⟩ := q
    intro x m
    unfold partsZ at m
    rcases List.mem_append.mp m with m | m
    · split at m
      · have : x = [] := by simpa using m
        rw [this]; simp
      · simp at m
    · obtain ⟨q, _, rfl⟩ := List.mem_map.mp m
      exact signed_no _ _
theorem split_shown {p : Nat} {o : Int} {r : List (Nat × Int)} (h : ∀ q ∈ r, q.2 ≠ 0) :
    Txt.split (Txt.replace ⟨(shownZ ((p, o) :: r)).toArray⟩ (Str.ofString "-") (Str.ofString "+-")) (Str.ofString "+") = (partsZ ((p, o) :: r)).map fun x => (⟨x.toArray⟩ : Str) := by
  apply map_tl_inj
  have e1 : tl (Str.ofString "+") = [43] := rfl
  rw [split_spl _ _ (by rw [e1]; simp) (kind_ok (by decide +kernel)), e1]
  have e2 : tl (Txt.replace ⟨(shownZ ((p, o) :: r)).toArray⟩ (Str.ofString "-") (Str.ofString "+-")) = joinL [43] (partsZ ((p, o) :: r)) := by
    show (Txt.replace _ _ _).cps.toList = _
    rw [replace_list (by decide)]
    show replL [45] [43, 45] (shownZ ((p, o) :: r)) = _
    rw [repl_dash, dash_shown h]
  rw [e2, spl_join (by unfold partsZ; simp) parts_no, List.map_map]
  have : (tl ∘ fun x : List Nat => (⟨x.toArray⟩ : Str)) = id := rfl
  rw [this, List.map_id]
theorem shown_head {p : Nat} {o : Int} {r : List (Nat × Int)} : (shownZ ((p, o) :: r)).take 1 = [45] ↔ o < 0 := by
  show (signed p o ++ tailZ r).take 1 = [45] ↔ _
  unfold signed
  by_cases h : o < 0
  · simp [h]
  · rw [if_neg h, List.nil_append]
    refine ⟨fun z => ?_, fun z => absurd z h⟩
    exfalso
    have hb : bodyL p o.natAbs ≠ [] := by
      have := signed_ne p o
      unfold signed at this
      rw [if_neg h] at this
      simpa using this
    cases hq : bodyL p o.natAbs with
    | nil => exact hb hq
    | cons a b =>
      rw [hq] at z
      have : a = 45 := by simpa using z
      exact body_no (p := p) (n := o.natAbs) (s := 45) (.inl (by decide)) (by decide) (by rw [hq, this]; simp)
/-- the entries that are shown -/
def ents (l : List Int) : List (Nat × Int) := if nz l = [] then [(0, 0)] else nz l
theorem shown_ents (l : List Int) : shownT l = shownZ (ents l) := by
  unfold shownT ents
  split
  · rfl
  · rfl
theorem ents_cons (l : List Int) : ∃ p o r, ents l = (p, o) :: r ∧ ∀ q ∈ r, q.2 ≠ 0 := by
  unfold ents
  by_cases h : nz l = []
  · exact ⟨0, 0, [], by rw [if_pos h], by simp⟩
  · rw [if_neg h]
    cases hq : nz l with
    | nil => exact absurd hq h
    | cons q r =>
      obtain ⟨p, o⟩ := q
      refine ⟨p, o, r, rfl, fun q m => ?_⟩
      obtain ⟨a, b⟩ := q
      exact (nz_mem (l := l) (by rw [hq]; exact List.mem_cons_of_mem _ m)).2
theorem ents_mem {l : List Int} (hl : l ≠ []) {p : Nat} {o : Int} (h : (p, o) ∈ ents l) : l[p]? = some o := by
  unfold ents at h
  by_cases h0 : nz l = []
  · rw [if_pos h0] at h
    have : p = 0 ∧ o = 0 := by simpa using h
    obtain ⟨rfl, rfl⟩ := this
    cases l with
    | nil => exact absurd rfl hl
    | cons a b =>
      by_cases ha : a = 0
      · rw [ha]; rfl
      · exfalso
        unfold nz at h0
        rw [List.zipIdx_cons] at h0
        simp [ha] at h0
  · rw [if_neg h0] at h
    exact (nz_mem h).1
/-- written back -/
def back (es : List (Nat × Int)) (f : List Int) : List Int := es.foldl (fun f q => f.set q.1 q.2) f
theorem back_app : ∀ (es : List (Nat × Int)) (f g : List Int), (∀ q ∈ es, q.1 < f.length) → back es (f ++ g) = back es f ++ g
  | [], _, _, _ => rfl
  | (p, o) :: r, f, g, h => by
    show back r ((f ++ g).set p o) = back r (f.set p o) ++ g
    rw [List.set_append_left p o (h (p, o) List.mem_cons_self)]
    exact back_app r _ g fun q m => by rw [List.length_set]; exact h q (List.mem_cons_of_mem _ m)
theorem back_nz (l : List Int) : back (nz l) (List.replicate l.length 0) = l := by
  induction hn : l.length generalizing l with
  | zero =>
    have : l = [] := List.eq_nil_of_length_eq_zero hn
    subst this
    rfl
  | succ n ih =>
    have hne : l ≠ [] := by intro z; rw [z] at hn; cases hn
    have e : l = l.dropLast ++ [l.getLast hne] := (List.dropLast_concat_getLast hne).symm
    generalize l.dropLast = m at e
    generalize l.getLast hne = o at e
    subst e
    have hm : m.length = n := by simpa using hn
    rw [nz_snoc]
    have e2 : List.replicate (n + 1) (0 : Int) = List.replicate n 0 ++ [0] := by rw [List.replicate_succ']
    have hb : back (nz m) (List.replicate n 0 ++ [0]) = m ++ [0] := by
      rw [back_app _ _ _ (fun q hq => ?_), ih m hm]
      obtain ⟨a, b⟩ := q
      have := (List.getElem?_eq_some_iff.mp (nz_mem hq).1).1
      rw [List.length_replicate]
      omega
    rw [e2]
    by_cases h : o = 0
    · rw [if_pos h, List.append_nil, hb, h]
    · rw [if_neg h]
      show List.foldl _ _ (nz m ++ [(m.length, o)]) = _
      rw [List.foldl_append]
      show (back (nz m) (List.replicate n 0 ++ [0])).set m.length o = _
      rw [hb]
      simp
theorem back_ents (l : List Int) : back (ents l) (List.replicate l.length 0) = l := by
  unfold ents
  by_cases h : nz l = []
  · rw [if_pos h]
    have := back_nz l
    rw [h] at this
    have e : List.replicate l.length 0 = l := this
    rw [e]
    show l.set 0 0 = l
    rw [← e]
    cases l.length with
    | zero => rfl
    | succ n => rfl
  · rw [if_neg h]
    exact back_nz l
theorem back_len : ∀ (es : List (Nat × Int)) (f : List Int), (back es f).length = f.length
  | [], _ => rfl
  | (p, o) :: r, f => by
    show (back r (f.set p o)).length = _
    rw [back_len r, List.length_set]
theorem back_snoc (es : List (Nat × Int)) (q : Nat × Int) (f : List Int) : back (es ++ [q]) f = (back es f).set q.1 q.2 := by
  unfold back
  rw [List.foldl_append]
  rfl
end NT

namespace TX
open PySem PySem.Spec PyProof.Rows L2 DL
/-! ### the plain functions -/
def placesN (n : Nat) : Nat := ((List.range n).filter fun i => decide (Nat.gcd (1 + i) n = 1)).length
theorem placesN_pos : ∀ n, 1 ≤ n → 1 ≤ placesN n := by
  intro n h
  unfold placesN
  have : 0 ∈ (List.range n).filter fun i => decide (Nat.gcd (1 + i) n = 1) := by
    simp
    omega
  exact List.length_pos_of_mem this
theorem placesN_le (n : Nat) : placesN n ≤ n := by
  unfold placesN
  have := List.length_filter_le (fun i => decide (Nat.gcd (1 + i) n = 1)) (List.range n)
  simpa using this
def pf_shared (ds : List PyData) (r : PyData) : Prop := ∃ a b : Nat, ds = [.int a, .int b] ∧ r = .int (Nat.gcd a b : Nat)
def pf_places (ds : List PyData) (r : PyData) : Prop := ∃ n : Nat, ds = [.int n] ∧ n ≤ 1000 ∧ r = .int (placesN n : Nat)
def pf_shown_place (ds : List PyData) (r : PyData) : Prop := ∃ (p : Nat) (o : Int), ds = [.int p, .int o] ∧ p < 10 ^ 3 ∧ o ≠ 0 ∧ o.natAbs < NT.BIG ∧ r = .str ⟨(NT.signed p o).toArray⟩
def pf_shown_number (ds : List PyData) (r : PyData) : Prop := ∃ l : List Int, (ds = [.tuple (l.map .int)] ∨ ds = [.list (l.map .int)]) ∧ l.length ≤ 100 ∧ (∀ o ∈ l, o.natAbs < NT.BIG) ∧ r = .str (NT.shownS l)
theorem str_len (s : Str) : s.length = (TL.tl s).length := TL.len_tl s
theorem str_eq {a b : Str} : decide (a = b) = decide (TL.tl a = TL.tl b) := by
  congr 1
  exact propext ⟨fun h => by rw [h], TL.ext_tl⟩
theorem shown_len {l : List Int} (hl : l.length ≤ 100) (h : ∀ o ∈ l, o.natAbs < NT.BIG) (k : Nat) : (NT.shownZ (NT.nz (l.take k))).length ≤ 50600 := by
  have h1 : (l.take k).length ≤ 100 := by rw [List.length_take]; omega
  have := NT.shownZ_len (NT.nz_ok (l := l.take k) (by omega) fun o m => h o (List.mem_of_mem_take m))
  have := NT.nz_le (l.take k)
  omega
theorem shownT_le {l : List Int} (hl : l.length ≤ 100) (h : ∀ o ∈ l, o.natAbs < NT.BIG) : (NT.shownT l).length ≤ 50601 := by
  have := NT.shownT_len (by omega) h
  omega
def S (l : List Nat) : Str := ⟨l.toArray⟩
theorem tl_S (l : List Nat) : TL.tl (S l) = l := rfl
theorem S_tl (s : Str) : S (TL.tl s) = s := TL.ext_tl rfl
theorem S_inj {a b : List Nat} : S a = S b ↔ a = b := ⟨fun h => by rw [← tl_S a, h, tl_S], fun h => by rw [h]⟩
theorem S_len (l : List Nat) : (S l).length = l.length := by rw [str_len, tl_S]
theorem S_num (n : Nat) : Str.ofString (toString ((n : Nat) : Int)) = S (TL.numL n) := TL.ext_tl (TL.tl_num n)
theorem S_nil : Str.ofString "" = S [] := rfl
theorem S_z : Str.ofString "z" = S [122] := TL.ext_tl rfl
theorem S_m : Str.ofString "-" = S [45] := TL.ext_tl rfl
theorem S_p : Str.ofString "+" = S [43] := TL.ext_tl rfl
theorem S_app (a b : List Nat) : S a ++ S b = S (a ++ b) := TL.ext_tl (by rw [TL.tl_append]; rfl)
theorem tl_cut1 (z : Str) : TL.tl (cutS z none (some 1)) = (TL.tl z).take 1 := by
  show ((TL.tl z).drop 0).take (min 1 z.length - 0) = _
  rw [List.drop_zero, TL.len_tl, Nat.sub_zero]
  cases TL.tl z with
  | nil => rfl
  | cons a b => rw [List.length_cons, Nat.min_eq_left (by omega)]
theorem tl_cutd (z : Str) : TL.tl (cutS z (some 1) none) = (TL.tl z).drop 1 := by
  show ((TL.tl z).drop (min 1 z.length)).take (z.length - min 1 z.length) = _
  rw [TL.len_tl]
  cases h : TL.tl z with
  | nil => rfl
  | cons a b =>
    rw [List.length_cons, Nat.min_eq_left (by omega), List.take_of_length_le]
    rw [List.length_drop]
    exact Nat.le_refl _
theorem sm_BIG {n : Nat} (h : n < 100000) : n < NT.BIG := Nat.lt_trans (Nat.lt_of_lt_of_le h (show 100000 ≤ 10 ^ 5 by decide)) (Nat.lt_of_lt_of_le (show 10 ^ 5 < 10 ^ 6 by decide) (by unfold NT.BIG; exact Nat.pow_le_pow_right (by decide) (by decide)))
theorem lt90_BIG {n : Nat} (h : n < 2 ^ 90) : n < NT.BIG := Nat.lt_of_lt_of_le h (by unfold NT.BIG; exact Nat.le_trans (m := 10 ^ 30) (by decide) (Nat.pow_le_pow_right (by decide) (by decide)))
/-! ### figures, places -/
def digB (c : Nat) : Bool := decide (48 ≤ c ∧ c ≤ 57)
def figs (t : List Nat) : Option Nat := if t ≠ [] ∧ t.all digB = true then some (NumText.digitsVal t) else none
theorem figs_num (n : Nat) : figs (TL.numL n) = some n := by
  unfold figs
  rw [if_pos ⟨TL.numL_ne n, List.all_eq_true.mpr fun c hc => decide_eq_true (TL.numL_digits n c hc)⟩, TL.numL_val]
theorem dig_lt : ∀ (t : List Nat) (a k : Nat), (∀ c ∈ t, 48 ≤ c ∧ c ≤ 57) → a < 10 ^ k → t.foldl (fun acc c => acc * 10 + (c - 48)) a < 10 ^ (k + t.length)
  | [], a, k, _, h => h
  | c :: r, a, k, hd, h => by
    have h1 := hd c List.mem_cons_self
    have := dig_lt r (a * 10 + (c - 48)) (k + 1) (fun c m => hd c (List.mem_cons_of_mem _ m)) (by rw [Nat.pow_succ]; omega)
    rw [List.length_cons]
    have e : k + (r.length + 1) = k + 1 + r.length := by omega
    rw [e]
    exact this
theorem figs_lt {t : List Nat} {n : Nat} (h : figs t = some n) : n < 10 ^ t.length := by
  unfold figs at h
  split at h
  · rename_i c
    cases h
    have := dig_lt t 0 0 (fun x m => of_decide_eq_true (List.all_eq_true.mp c.2 x m)) (by decide)
    rw [Nat.zero_add] at this
    exact this
  · cases h
theorem numL_lt10 (n : Nat) : n < 10 ^ (TL.numL n).length := figs_lt (figs_num n)
theorem lt_BIG {n k : Nat} (h : n < 10 ^ k) (hk : k ≤ 500) : n < NT.BIG := Nat.lt_of_lt_of_le h (by unfold NT.BIG; exact Nat.pow_le_pow_right (by decide) hk)
def optD : Option Nat → PyData
  | some n => .int (n : Nat)
  | none => .none
def pf_figures_in (ds : List PyData) (r : PyData) : Prop := ∃ t : List Nat, ds = [.str (S t)] ∧ t.length ≤ 600 ∧ r = optD (figs t)
def pA (t : List Nat) : List Nat := t.takeWhile (· != 122)
def pR (t : List Nat) : List Nat := t.dropWhile (· != 122)
def pNeg (t : List Nat) : Bool := decide ((pA t).take 1 = [45])
def pA' (t : List Nat) : List Nat := if pNeg t = true then (pA t).drop 1 else pA t
def powO (t : List Nat) : Option Nat := if pR t = [] then some 0 else if (pR t).drop 1 = [] then some 1 else figs ((pR t).drop 1)
def oftO (t : List Nat) : Option Nat := if pR t ≠ [] ∧ pA' t = [] then some 1 else figs (pA' t)
def placeOf (t : List Nat) : Option (Nat × Int) := (powO t).bind fun p => (oftO t).map fun n => (p, if pNeg t = true then -(n : Int) else n)
def plD : Option (Nat × Int) → PyData
  | some (p, o) => .tuple [.int p, .int o]
  | none => .none
def pf_place_in (ds : List PyData) (r : PyData) : Prop := ∃ t : List Nat, ds = [.str (S t)] ∧ t.length ≤ 600 ∧ r = plD (placeOf t)
theorem split122 (t : List Nat) : t = pA t ++ pR t := (List.takeWhile_append_dropWhile).symm
theorem pA_no : ∀ t : List Nat, 122 ∉ pA t
  | [] => by simp [pA]
  | c :: r => by
    unfold pA
    rw [List.takeWhile_cons]
    by_cases h : c = 122
    · subst h
      simp
    · rw [if_pos (by simpa using h)]
      intro m
      rcases List.mem_cons.mp m with e | m
      · exact h e.symm
      · exact pA_no r m
theorem pR_cases (t : List Nat) : pR t = [] ∨ ∃ b, pR t = 122 :: b := by
  cases h : pR t with
  | nil => exact .inl rfl
  | cons a b =>
    right
    have : ¬ ((a != 122) = true) := by
      have := List.head?_dropWhile_not (fun x : Nat => x != 122) t
      rw [show t.dropWhile (fun x => x != 122) = a :: b from h] at this
      simpa using this
    have : a = 122 := by simpa using this
    exact ⟨b, by rw [this]⟩
theorem partition_z (t : List Nat) : Txt.partition (S t) (Str.ofString "z") = (S (pA t), S (if pR t = [] then [] else [122]), S ((pR t).drop 1)) := by
  have ht := split122 t
  rcases pR_cases t with h | ⟨b, h⟩
  · have e : t = pA t := by rw [h, List.append_nil] at ht; exact ht
    have hn := pA_no t
    rw [← e] at hn
    rw [TL.partition_none (s := 122) (S := []) rfl (a := S t) hn, h, ← e]
    rfl
  · have e1 : S t = S (pA t) ++ Str.ofString "z" ++ S b := by
      apply TL.ext_tl
      rw [TL.tl_append, TL.tl_append]
      show t = pA t ++ [122] ++ b
      rw [List.append_assoc]
      rw [h] at ht
      exact ht
    rw [e1, TL.partition_app (s := 122) (S := []) rfl (pA_no t), h, if_neg (by simp), S_z]
    rfl
theorem placeOf_lt {t : List Nat} {p : Nat} {o : Int} (h : placeOf t = some (p, o)) (ht : t.length ≤ 400) : o.natAbs < NT.BIG := by
  unfold placeOf at h
  cases hp : powO t with
  | none => rw [hp] at h; cases h
  | some q =>
    cases hq : oftO t with
    | none => rw [hp, hq] at h; cases h
    | some n =>
      rw [hp, hq] at h
      have h : (q, if pNeg t = true then -(n : Int) else n) = (p, o) := Option.some.inj h
      have e : o.natAbs = n := by
        have := congrArg Prod.snd h
        have : (if pNeg t = true then -(n : Int) else n) = o := this
        rw [← this]
        split <;> omega
      rw [e]
      unfold oftO at hq
      split at hq
      · cases hq
        exact NT.small_BIG (by decide)
      · have h1 := figs_lt hq
        refine lt_BIG h1 ?_
        have : (pA' t).length ≤ (pA t).length := by
          unfold pA'
          split
          · rw [List.length_drop]; omega
          · exact Nat.le_refl _
        have h2 : (pA t).length ≤ t.length := by
          have e := congrArg List.length (split122 t)
          rw [List.length_append] at e
          omega
        omega
theorem placeOf_signed (p : Nat) (o : Int) : placeOf (NT.signed p o) = some (p, o) := by
  let sg : List Nat := if o < 0 then [45] else []
  let ah : List Nat := if p ≠ 0 ∧ o.natAbs = 1 then [] else TL.numL o.natAbs
  let rr : List Nat := if p = 0 then [] else 122 :: (if p = 1 then [] else TL.numL p)
  have hsz : ∀ c ∈ sg ++ ah, (c != 122) = true := by
    intro c m
    rw [bne_iff_ne]
    intro z
    subst z
    rcases List.mem_append.mp m with m | m
    · by_cases h : o < 0
      · rw [show sg = [45] from if_pos h] at m; simp at m
      · rw [show sg = [] from if_neg h] at m; simp at m
    · by_cases h : p ≠ 0 ∧ o.natAbs = 1
      · rw [show ah = [] from if_pos h] at m; simp at m
      · rw [show ah = _ from if_neg h] at m
        exact TL.numL_free (.inr (by decide)) m
  have hr : rr = [] ∨ ∃ b, rr = 122 :: b := by
    by_cases h : p = 0
    · exact .inl (if_pos h)
    · exact .inr ⟨_, if_neg h⟩
  have ht : NT.signed p o = (sg ++ ah) ++ rr := by
    show sg ++ NT.bodyL p o.natAbs = _
    rw [List.append_assoc]
    congr 1
    unfold NT.bodyL
    by_cases h : p = 0
    · rw [if_pos h, show ah = _ from if_neg (fun z => z.1 h), show rr = [] from if_pos h, List.append_nil]
    · rw [if_neg h, show rr = _ from if_neg h]
      have e2 : (if o.natAbs = 1 then [] else TL.numL o.natAbs) = ah := by
        show _ = if p ≠ 0 ∧ o.natAbs = 1 then [] else TL.numL o.natAbs
        by_cases h1 : o.natAbs = 1
        · rw [if_pos h1, if_pos ⟨h, h1⟩]
        · rw [if_neg h1, if_neg (fun z => h1 z.2)]
      rw [e2, List.append_assoc]
      rfl
  have eA : pA (NT.signed p o) = sg ++ ah := by
    unfold pA
    rw [ht, List.takeWhile_append_of_pos hsz]
    rcases hr with h | ⟨b, h⟩
    · rw [h]; simp
    · rw [h]; simp
  have eR : pR (NT.signed p o) = rr := by
    unfold pR
    rw [ht, List.dropWhile_append_of_pos hsz]
    rcases hr with h | ⟨b, h⟩
    · rw [h]; rfl
    · rw [h]; simp
  have eN : pNeg (NT.signed p o) = decide (o < 0) := by
    unfold pNeg
    rw [eA]
    congr 1
    refine propext ⟨fun hh => ?_, fun hh => ?_⟩
    · refine Classical.byContradiction fun hn => ?_
      rw [show sg = [] from if_neg hn, List.nil_append] at hh
      have m : (45 : Nat) ∈ ah := List.mem_of_mem_take (i := 1) (by rw [hh]; simp)
      by_cases h : p ≠ 0 ∧ o.natAbs = 1
      · rw [show ah = [] from if_pos h] at m; simp at m
      · rw [show ah = _ from if_neg h] at m
        exact TL.numL_free (.inl (by decide)) m
    · rw [show sg = [45] from if_pos hh]
      rfl
  have eA' : pA' (NT.signed p o) = ah := by
    unfold pA'
    rw [eN, eA]
    by_cases h : o < 0
    · rw [if_pos (decide_eq_true h), show sg = [45] from if_pos h]
      rfl
    · rw [if_neg (by simpa using h), show sg = [] from if_neg h]
      rfl
  have eP : powO (NT.signed p o) = some p := by
    unfold powO
    rw [eR]
    by_cases h : p = 0
    · rw [show rr = [] from if_pos h, if_pos rfl, h]
    · rw [show rr = _ from if_neg h, if_neg (by simp)]
      show (if (if p = 1 then [] else TL.numL p) = [] then some 1 else figs (if p = 1 then [] else TL.numL p)) = _
      by_cases h1 : p = 1
      · rw [if_pos h1, if_pos rfl, h1]
      · rw [if_neg h1, if_neg (TL.numL_ne p), figs_num]
  have eO : oftO (NT.signed p o) = some o.natAbs := by
    unfold oftO
    rw [eR, eA']
    by_cases h : p ≠ 0 ∧ o.natAbs = 1
    · rw [if_pos ⟨by rw [show rr = _ from if_neg h.1]; simp, if_pos h⟩, h.2]
    · rw [show ah = _ from if_neg h, if_neg (fun z => TL.numL_ne _ z.2), figs_num]
  unfold placeOf
  rw [eP, eO, eN]
  show some (p, if decide (o < 0) = true then -(o.natAbs : Int) else (o.natAbs : Int)) = _
  congr 2
  by_cases h : o < 0
  · rw [if_pos (decide_eq_true h)]; omega
  · rw [if_neg (by simpa using h)]; omega
/-- one who is shown is no longer than the text -/
theorem tail_ge : ∀ (a : List (Nat × Int)) {p : Nat} {o : Int}, (p, o) ∈ a → (NT.signed p o).length ≤ (NT.tailZ a).length
  | [], _, _, h => by simp at h
  | (q, u) :: r, p, o, h => by
    show _ ≤ (NT.sepL u ++ NT.signed q u ++ NT.tailZ r).length
    rw [List.length_append, List.length_append]
    rcases List.mem_cons.mp h with e | m
    · cases e
      omega
    · have := tail_ge r m
      omega
theorem shown_ge (a : List (Nat × Int)) {p : Nat} {o : Int} (h : (p, o) ∈ a) : (NT.signed p o).length ≤ (NT.shownZ a).length := by
  cases a with
  | nil => simp at h
  | cons x r =>
    obtain ⟨q, u⟩ := x
    show _ ≤ (NT.signed q u ++ NT.tailZ r).length
    rw [List.length_append]
    rcases List.mem_cons.mp h with e | m
    · cases e
      omega
    · have := tail_ge r m
      omega
theorem body_ge (p n : Nat) : (TL.numL n).length ≤ (NT.bodyL p n).length + 1 := by
  unfold NT.bodyL
  split
  · omega
  · rw [List.length_append, List.length_append]
    by_cases h : n = 1
    · subst h
      show 1 ≤ _
      omega
    · rw [if_neg h]
      omega
theorem big_of_shown {l : List Int} {k : Nat} (h : (NT.shownT l).length ≤ k) (hk : k ≤ 450) : ∀ o ∈ l, o.natAbs < NT.BIG := by
  intro o ho
  by_cases h0 : o = 0
  · subst h0
    exact NT.small_BIG (by decide)
  · obtain ⟨p, hp⟩ := List.mem_iff_getElem?.mp ho
    have hm : (p, o) ∈ NT.nz l := by
      unfold NT.nz
      refine List.mem_map.mpr ⟨(o, p), List.mem_filter.mpr ⟨?_, by simpa using h0⟩, rfl⟩
      exact List.mem_zipIdx_iff_getElem?.mpr hp
    have hne : NT.nz l ≠ [] := fun z => by rw [z] at hm; simp at hm
    have e : NT.shownT l = NT.shownZ (NT.nz l) := by
      unfold NT.shownT
      rw [if_neg hne]
    rw [e] at h
    have h1 := shown_ge _ hm
    have h2 : (NT.bodyL p o.natAbs).length ≤ (NT.signed p o).length := by
      unfold NT.signed
      rw [List.length_append]
      omega
    have h3 := body_ge p o.natAbs
    exact lt_BIG (numL_lt10 _) (by omega)
/-! ### pieces -/
theorem spl_len : ∀ (L acc : List Nat), ∀ x ∈ TL.spl [43] 0 acc L, x.length ≤ acc.length + (L.filter (· != 43)).length
  | [], acc, x, h => by
    have : x = acc := by simpa [TL.spl] using h
    rw [this]; omega
  | c :: r, acc, x, h => by
    unfold TL.spl at h
    by_cases hc : c = 43
    · subst hc
      rw [if_pos (by rfl)] at h
      rcases List.mem_cons.mp h with e | m
      · rw [e]; omega
      · have := spl_len r [] x m
        simp at this ⊢
        omega
    · have : TL.pre [43] (c :: r) = false := by
        simp [TL.pre]
        first | exact fun z => hc z.symm | exact fun z => hc z | omega
      rw [if_neg (by rw [this]; decide)] at h
      have := spl_len r (acc ++ [c]) x h
      rw [List.length_append] at this
      simp [hc] at this ⊢
      omega
theorem dash_filter (t : List Nat) : ((NT.dash t).filter (· != 43)).length ≤ t.length := by
  induction t with
  | nil => simp [NT.dash]
  | cons c r ih =>
    unfold NT.dash at ih ⊢
    rw [List.flatMap_cons, List.filter_append, List.length_append, List.length_cons]
    have : (List.filter (· != 43) (if c = 45 then [43, 45] else [c])).length ≤ 1 := by
      split
      · decide
      · exact Nat.le_trans (List.length_filter_le _ _) (by simp)
    omega
def piecesOf (t : List Nat) : List (List Nat) := TL.spl [43] 0 [] (NT.dash t)
theorem split_pieces (t : List Nat) : Txt.split (Txt.replace (S t) (Str.ofString "-") (Str.ofString "+-")) (Str.ofString "+") = (piecesOf t).map S := by
  apply TL.map_tl_inj
  have e1 : TL.tl (Str.ofString "+") = [43] := rfl
  rw [TL.split_spl _ _ (by rw [e1]; simp) (TL.kind_ok (by decide +kernel)), e1]
  have e2 : TL.tl (Txt.replace (S t) (Str.ofString "-") (Str.ofString "+-")) = NT.dash t := by
    show (Txt.replace _ _ _).cps.toList = _
    rw [PySem.StrLaws.replace_list (by decide)]
    exact NT.repl_dash t
  rw [e2, List.map_map]
  show _ = (piecesOf t).map id
  rw [List.map_id]
  rfl
theorem pieces_len {t x : List Nat} (h : x ∈ piecesOf t) : x.length ≤ t.length := by
  have := spl_len _ _ x h
  have := dash_filter t
  simp at *
  omega
theorem pieces_shown {p : Nat} {o : Int} {r : List (Nat × Int)} (h : ∀ q ∈ r, q.2 ≠ 0) : piecesOf (NT.shownZ ((p, o) :: r)) = NT.partsZ ((p, o) :: r) := by
  unfold piecesOf
  rw [NT.dash_shown h, TL.spl_join (by unfold NT.partsZ; simp) NT.parts_no]
/-! ### the law's feed -/
def feedO (cells : List Int) (at' : Nat) (left : Int) : OD := .dK [(.inr (Str.ofString "cells"), .d (.list (cells.map .int))), (.inr (Str.ofString "at"), .d (.int at')), (.inr (Str.ofString "left"), .d (.int left))]
def pf__law_feed (ds : List PyData) (od : OD) : Prop := ∃ c : List Int, ds = [.list (c.map .int)] ∧ c.length ≤ 63 ∧ od = feedO c 0 0
def fs_draw (es : List El) (Θ : Th) (R : El → Th → Prop) : Prop := ∃ (m : Nat) (cells : List Int) (a : Nat) (left : Int), es = [.at 0, .d (.int m)] ∧ Θ = [feedO cells a left] ∧ 1 ≤ m ∧ m < 1073741824 ∧ a < 2 ^ 40 ∧ cells.length ≤ 63 ∧
  ∀ (v a' : Nat) (left' : Int), v < m → a' ≤ a + 1 → R (.d (.int v)) [feedO cells a' left']
theorem ndF : [(.inr (Str.ofString "cells") : Key), .inr (Str.ofString "at"), .inr (Str.ofString "left")].Nodup := by decide
theorem mulw {i j : Int} (hi : i.natAbs < 2 ^ 200) (hj : j.natAbs < 2 ^ 200) : CMulW i j := by
  have f : ∀ x : Nat, x < 2 ^ 200 → x.log2 < 200 := fun x h => by
    by_cases z : x = 0
    · subst z; decide
    · exact (Nat.log2_lt z).mpr h
  have h1 := f _ hi
  have h2 := f _ hj
  unfold CMulW
  omega
theorem mulB {i j : Int} (hi : i.natAbs < NT.BIG) (hj : j.natAbs < NT.BIG) : CMulW i j := by
  have h1 := NT.log_of hi
  have h2 := NT.log_of hj
  unfold CMulW
  omega
theorem fmod_nat (x : Int) {m : Nat} (h : 1 ≤ m) : ∃ v : Nat, x.fmod m = v ∧ v < m := by
  rw [Int.fmod_eq_emod_of_nonneg _ (by omega)]
  have h1 := Int.emod_nonneg x (b := (m : Int)) (by omega)
  have h2 := Int.emod_lt_of_pos x (b := (m : Int)) (by omega)
  exact ⟨(x % m).toNat, by omega, by omega⟩
theorem feed_flat (c : List Int) (a : Nat) (left : Int) : (feedO c a left).flat := by
  intro p hp
  rcases List.mem_cons.mp hp with q | q
  · rw [q]; trivial
  · rcases List.mem_cons.mp q with q | q
    · rw [q]; trivial
    · rw [List.mem_singleton.mp q]; trivial
section
variable {K : PySem.W.Frag}
theorem eg_draw {Γ : Gm} {Θ : Th} {ta : TA} {m : Nat} {cells : List Int} {a : Nat} {left : Int} {k : Nat} {E' : XK} (ha : AV K ta Γ Θ [.at k, .d (.int m)]) (hk : Θ[k]? = some (feedO cells a left)) (h1 : 1 ≤ m) (h2 : m < 1073741824) (h3 : a < 2 ^ 40) (h4 : cells.length ≤ 63) {Pp : El → Gm → Th → Prop}
    (h : ∀ (v a' : Nat) (left' : Int), v < m → a' ≤ a + 1 → Pp (.d (.int v)) Γ (Θ.set k (feedO cells a' left'))) : EG K (tCall (spM K 2 fs_draw) [] E' ta) Γ Θ Pp :=
  eg_lend ha (.own (.d .nil)) hk (feed_flat _ _ _) (by simp) ⟨m, cells, a, left, rfl, rfl, h1, h2, h3, h4, fun v a' left' hv ha' => ⟨trivial, _, [], rfl, feed_flat _ _ _, h v a' left' hv ha'⟩⟩
def pf__law_alone (ds : List PyData) (r : PyData) : Prop := ∃ a b : Nat, ds = [.int a, .int b] ∧ r = .bool (decide (Nat.gcd a b = 1))
def pf__law_shown (ds : List PyData) (r : PyData) : Prop := ∃ l : List Int, ds = [.tuple (l.map .int)] ∧ l.length ≤ 100 ∧ (∀ o ∈ l, o.natAbs < NT.BIG) ∧ r = .str (NT.shownS l)
def fs_number (es : List El) (Θ : Th) (R : El → Th → Prop) : Prop := ∃ (wide : Nat) (cells : List Int) (a : Nat) (left : Int), es = [.at 0, .d (.int wide)] ∧ Θ = [feedO cells a left] ∧ wide ≤ 1000 ∧ a < 2 ^ 39 ∧ cells.length ≤ 63 ∧
  ∀ (l : List Int) (a' : Nat) (left' : Int) (r : Th), l.length = wide → (∀ o ∈ l, o.natAbs < 2 ^ 90) → a' ≤ a + 2 * wide → R (.d (.tuple (l.map .int))) (feedO cells a' left' :: r)
theorem eg_number {Γ : Gm} {Θ : Th} {ta : TA} {wide : Nat} {cells : List Int} {a : Nat} {left : Int} {k : Nat} {E' : XK} (ha : AV K ta Γ Θ [.at k, .d (.int wide)]) (hk : Θ[k]? = some (feedO cells a left)) (h1 : wide ≤ 1000) (h3 : a < 2 ^ 39) (h4 : cells.length ≤ 63) {Pp : El → Gm → Th → Prop}
    (h : ∀ (l : List Int) (a' : Nat) (left' : Int), l.length = wide → (∀ o ∈ l, o.natAbs < 2 ^ 90) → a' ≤ a + 2 * wide → Pp (.d (.tuple (l.map .int))) Γ (Θ.set k (feedO cells a' left'))) : EG K (tCall (spM K 2 fs_number) [] E' ta) Γ Θ Pp :=
  eg_lend ha (.own (.d .nil)) hk (feed_flat _ _ _) (by simp) ⟨wide, cells, a, left, rfl, rfl, h1, h3, h4, fun l a' left' r hl hb ha' => ⟨trivial, _, r, rfl, feed_flat _ _ _, h l a' left' hl hb ha'⟩⟩
theorem cd_reprT {l : List Int} {Θ : Th} (hl : l.length ≤ 100) (hb : ∀ o ∈ l, o.natAbs < NT.BIG) : CD K Θ (rRepr K) [.d (.tuple (l.map .int))] (.d (.str (PyData.shown (.tuple (l.map .int))))) := by
  refine cd_repr (by simpa [PyData.showable] using showable_ints l fun o m => NT.log_of (hb o m)) (by simp [PyData.hasDict, noDict_ints]) (by simp [PyData.depth, depth_ints]) ?_
  refine Nat.le_trans (shown_le _ (by simpa [low] using low_ints l)) ?_
  have := wd_ints (k := 500) l fun o m => NT.BIG_len (hb o m)
  simp only [wd]
  exact Nat.le_trans (m := 100000) (by omega) (by decide)
end
def psL (t : List Nat) : List (List Nat) := if t.take 1 = [45] then (piecesOf t).drop 1 else piecesOf t
theorem psL_len {t x : List Nat} (h : x ∈ psL t) : x.length ≤ t.length := by
  unfold psL at h
  split at h
  · exact pieces_len (List.mem_of_mem_drop h)
  · exact pieces_len h
theorem psL_shown (l : List Int) : psL (NT.shownT l) = (NT.ents l).map fun q => NT.signed q.1 q.2 := by
  obtain ⟨p, o, r, he, hr⟩ := NT.ents_cons l
  rw [NT.shown_ents, he]
  unfold psL
  rw [pieces_shown hr]
  by_cases h : o < 0
  · rw [if_pos (NT.shown_head.mpr h)]
    show List.drop 1 ((if o < 0 then [[]] else []) ++ _) = _
    rw [if_pos h]
    rfl
  · rw [if_neg (fun z => h (NT.shown_head.mp z))]
    show ((if o < 0 then [[]] else []) ++ _) = _
    rw [if_neg h]
    rfl
/-- what a reader tells -/
def Canon (m : Nat) (t : List Nat) (l : List Int) : Prop := l.length = m ∧ NT.shownT l = t
theorem canon_ps {m : Nat} {t : List Nat} {l : List Int} (h : Canon m t l) : psL t = (NT.ents l).map fun q => NT.signed q.1 q.2 := by
  rw [← h.2]
  exact psL_shown l
theorem canon_inj {m : Nat} {t : List Nat} {l l' : List Int} (h : Canon m t l) (h' : Canon m t l') : l = l' := by
  have e := (canon_ps h).symm.trans (canon_ps h')
  have e2 : NT.ents l = NT.ents l' := by
    have f : ∀ a : List (Nat × Int), (a.map fun q => NT.signed q.1 q.2).map TX.placeOf = a.map some := fun a => by
      rw [List.map_map]
      exact List.map_congr_left fun q _ => placeOf_signed q.1 q.2
    have := congrArg (List.map TX.placeOf) e
    rw [f, f] at this
    exact (List.map_inj_right fun _ _ h => Option.some.inj h).mp this
  have b1 := NT.back_ents l
  have b2 := NT.back_ents l'
  rw [h.1] at b1
  rw [h'.1, ← e2, b1] at b2
  exact b2
def pf_read_number (ds : List PyData) (o : Out) : Prop := ∃ (n : Nat) (t : List Nat), ds = [.int n, .str (S t)] ∧ 1 ≤ n ∧ n ≤ 100 ∧ t.length ≤ 400 ∧ (∀ l, Canon (placesN n) t l → o = .ret (.tuple (l.map .int))) ∧ ((¬ ∃ l, Canon (placesN n) t l) → o = .exc "NoText" none)
end TX

namespace TX
open PySem PySem.Spec PyProof.Rows L2 DL
/-! ### the law's own reader, plain -/
theorem num_val : ∀ (t : List Nat), (∀ c ∈ t, 48 ≤ c ∧ c ≤ 57) → t ≠ [] → t.head? ≠ some 48 → TL.numL (NumText.digitsVal t) = t ∧ 1 ≤ NumText.digitsVal t := by
  intro t
  induction hn : t.length generalizing t with
  | zero => intro _ h; exact absurd (List.eq_nil_of_length_eq_zero hn) h
  | succ n ih =>
    intro hd hne hh
    have e : t = t.dropLast ++ [t.getLast hne] := (List.dropLast_concat_getLast hne).symm
    generalize t.dropLast = s at e
    generalize t.getLast hne = c at e
    subst e
    have hc := hd c (by simp)
    have hs : s.length = n := by simpa using hn
    rw [NumText.digitsVal_snoc]
    cases s with
    | nil =>
      have h0 : NumText.digitsVal [] = 0 := rfl
      rw [h0]
      have hc2 : c ≠ 48 := by
        intro z
        exact hh (by rw [z]; rfl)
      rw [show 0 * 10 + (c - 48) = c - 48 by omega, TL.numL_lt (by omega)]
      refine ⟨?_, by omega⟩
      show [48 + (c - 48)] = [c]
      rw [show 48 + (c - 48) = c by omega]
    | cons a r =>
      obtain ⟨h1, h2⟩ := ih (a :: r) hs (fun x m => hd x (List.mem_append_left _ m)) (by simp) (by simpa using hh)
      have h3 : 10 ≤ NumText.digitsVal (a :: r) * 10 + (c - 48) := by omega
      rw [TL.numL_step h3, show (NumText.digitsVal (a :: r) * 10 + (c - 48)) / 10 = NumText.digitsVal (a :: r) by omega, h1, show (NumText.digitsVal (a :: r) * 10 + (c - 48)) % 10 = c - 48 by omega, show 48 + (c - 48) = c by omega]
      exact ⟨rfl, by omega⟩
def lawFigs (t : List Nat) : Option Nat := if t ≠ [] ∧ t.all digB = true ∧ t.head? ≠ some 48 then some (NumText.digitsVal t) else none
theorem lawFigs_some {t : List Nat} {n : Nat} (h : lawFigs t = some n) : t = TL.numL n ∧ 1 ≤ n := by
  unfold lawFigs at h
  split at h
  · rename_i c
    cases h
    obtain ⟨h1, h2⟩ := num_val t (fun x m => of_decide_eq_true (List.all_eq_true.mp c.2.1 x m)) c.1 c.2.2
    exact ⟨h1.symm, h2⟩
  · cases h
theorem numL_head {n : Nat} (h : 1 ≤ n) : (TL.numL n).head? ≠ some 48 := by
  induction n using Nat.strongRecOn with
  | _ n ih =>
    by_cases h1 : n < 10
    · rw [TL.numL_lt h1]
      simp
      omega
    · rw [TL.numL_step (by omega)]
      have := ih (n / 10) (by omega) (by omega)
      cases hq : TL.numL (n / 10) with
      | nil => exact absurd hq (TL.numL_ne _)
      | cons a b =>
        rw [hq] at this
        simpa using this
theorem lawFigs_num {n : Nat} (h : 1 ≤ n) : lawFigs (TL.numL n) = some n := by
  unfold lawFigs
  rw [if_pos ⟨TL.numL_ne n, List.all_eq_true.mpr fun c hc => decide_eq_true (TL.numL_digits n c hc), numL_head h⟩, TL.numL_val]
def manyO (t : List Nat) : Option Nat := if pA t = [] then some 1 else lawFigs (pA t)
def highO (t : List Nat) : Option Nat := if (pR t).drop 1 = [] then some 1 else lawFigs ((pR t).drop 1)
def lawPiece (t : List Nat) : Option (Nat × Nat) :=
  if pR t = [] then (lawFigs t).map fun n => (0, n)
  else (manyO t).bind fun n => (highO t).bind fun p => if (pA t ≠ [] ∧ n = 1) ∨ (pR t).drop 1 = [49] then none else some (p, n)
theorem lawPiece_some {t : List Nat} {p n : Nat} (h : lawPiece t = some (p, n)) : t = NT.bodyL p n ∧ 1 ≤ n := by
  unfold lawPiece at h
  split at h
  · rename_i c
    cases hq : lawFigs t with
    | none => rw [hq] at h; cases h
    | some k =>
      rw [hq] at h
      cases h
      obtain ⟨h1, h2⟩ := lawFigs_some hq
      exact ⟨by unfold NT.bodyL; rw [if_pos rfl]; exact h1, h2⟩
  · rename_i c
    have ht := split122 t
    obtain ⟨b, hb⟩ := (pR_cases t).resolve_left c
    cases hm : manyO t with
    | none => rw [hm] at h; cases h
    | some k =>
      cases hh : highO t with
      | none => rw [hm, hh] at h; cases h
      | some q =>
        rw [hm, hh] at h
        have h : (if (pA t ≠ [] ∧ k = 1) ∨ (pR t).drop 1 = [49] then none else some (q, k)) = some (p, n) := h
        split at h
        · cases h
        · rename_i d
          cases h
          rw [not_or] at d
          rw [hb] at d
          unfold highO at hh
          unfold manyO at hm
          rw [hb] at hh ht
          simp only [List.drop_succ_cons, List.drop_zero] at hh d
          have hA : pA t = (if n = 1 then [] else TL.numL n) ∧ 1 ≤ n := by
            by_cases ha : pA t = []
            · rw [if_pos ha] at hm
              cases hm
              rw [ha]
              exact ⟨rfl, by omega⟩
            · rw [if_neg ha] at hm
              obtain ⟨h1, h2⟩ := lawFigs_some hm
              have hn1 : n ≠ 1 := fun z => d.1 ⟨ha, z⟩
              rw [if_neg hn1]
              exact ⟨h1, h2⟩
          have hB : b = (if p = 1 then [] else TL.numL p) ∧ 1 ≤ p := by
            by_cases hbn : b = []
            · rw [if_pos hbn] at hh
              cases hh
              rw [hbn]
              exact ⟨rfl, by omega⟩
            · rw [if_neg hbn] at hh
              obtain ⟨h1, h2⟩ := lawFigs_some hh
              have hp1 : p ≠ 1 := fun z => d.2 (by rw [h1, z]; rfl)
              rw [if_neg hp1]
              exact ⟨h1, h2⟩
          refine ⟨?_, hA.2⟩
          unfold NT.bodyL
          rw [if_neg (by omega), ← hA.1, ← hB.1, List.append_assoc]
          exact ht
theorem pA_app {a b : List Nat} (h : 122 ∉ a) (hb : b = [] ∨ ∃ c, b = 122 :: c) : pA (a ++ b) = a ∧ pR (a ++ b) = b := by
  have hp : ∀ c ∈ a, (c != 122) = true := fun c m => by
    rw [bne_iff_ne]
    intro z
    rw [z] at m
    exact h m
  unfold pA pR
  rw [List.takeWhile_append_of_pos hp, List.dropWhile_append_of_pos hp]
  rcases hb with e | ⟨c, e⟩
  · rw [e]; simp
  · rw [e]; simp
theorem lawPiece_body {p n : Nat} (h : 1 ≤ n) : lawPiece (NT.bodyL p n) = some (p, n) := by
  by_cases hp : p = 0
  · have e : NT.bodyL p n = TL.numL n := by unfold NT.bodyL; rw [if_pos hp]
    have h1 := pA_app (a := TL.numL n) (b := []) (TL.numL_free (.inr (by decide))) (.inl rfl)
    rw [List.append_nil] at h1
    unfold lawPiece
    rw [e, if_pos h1.2, lawFigs_num h, hp]
    rfl
  · have e : NT.bodyL p n = (if n = 1 then [] else TL.numL n) ++ (122 :: (if p = 1 then [] else TL.numL p)) := by
      unfold NT.bodyL
      rw [if_neg hp, List.append_assoc]
      rfl
    have h1 := pA_app (a := if n = 1 then [] else TL.numL n) (b := 122 :: (if p = 1 then [] else TL.numL p)) (by
      split
      · simp
      · exact TL.numL_free (.inr (by decide))) (.inr ⟨_, rfl⟩)
    rw [← e] at h1
    unfold lawPiece manyO highO
    rw [h1.1, h1.2, if_neg (by simp)]
    show ((if (if n = 1 then [] else TL.numL n) = [] then some 1 else lawFigs (if n = 1 then [] else TL.numL n)).bind fun n_1 => (if (if p = 1 then [] else TL.numL p) = [] then some 1 else lawFigs (if p = 1 then [] else TL.numL p)).bind fun p_1 => if ((if n = 1 then [] else TL.numL n) ≠ [] ∧ n_1 = 1) ∨ (if p = 1 then [] else TL.numL p) = [49] then none else some (p_1, n_1)) = _
    have e1 : (if (if n = 1 then [] else TL.numL n) = [] then some 1 else lawFigs (if n = 1 then [] else TL.numL n)) = some n := by
      by_cases hn : n = 1
      · rw [if_pos hn, if_pos rfl, hn]
      · rw [if_neg hn, if_neg (TL.numL_ne n), lawFigs_num h]
    have e2 : (if (if p = 1 then [] else TL.numL p) = [] then some 1 else lawFigs (if p = 1 then [] else TL.numL p)) = some p := by
      by_cases hn : p = 1
      · rw [if_pos hn, if_pos rfl, hn]
      · rw [if_neg hn, if_neg (TL.numL_ne p), lawFigs_num (by omega)]
    rw [e1, e2]
    show (if ((if n = 1 then [] else TL.numL n) ≠ [] ∧ n = 1) ∨ (if p = 1 then [] else TL.numL p) = [49] then none else some (p, n)) = _
    rw [if_neg]
    rintro (⟨z1, z2⟩ | z)
    · rw [if_pos z2] at z1; exact z1 rfl
    · by_cases hn : p = 1
      · rw [if_pos hn] at z; cases z
      · rw [if_neg hn] at z
        have := TL.numL_val p
        rw [z] at this
        exact hn (this.symm.trans rfl)
/-! ### increasing entries -/
def Inc (es : List (Nat × Int)) : Prop := es.Pairwise fun a b => a.1 < b.1
theorem nz_back : ∀ (m : Nat) (es : List (Nat × Int)), Inc es → (∀ q ∈ es, q.1 < m ∧ q.2 ≠ 0) → NT.nz (NT.back es (List.replicate m 0)) = es
  | 0, es, _, h => by
    cases es with
    | nil => rfl
    | cons q r => exact absurd (h q List.mem_cons_self).1 (by omega)
  | m + 1, es, hi, h => by
    have er : List.replicate (m + 1) (0 : Int) = List.replicate m 0 ++ [0] := List.replicate_succ'
    rw [er]
    by_cases hne : es = []
    · subst hne
      show NT.nz (List.replicate m 0 ++ [0]) = []
      rw [NT.nz_snoc, if_pos rfl, List.append_nil]
      exact nz_back m [] List.Pairwise.nil (by simp)
    · have e : es = es.dropLast ++ [es.getLast hne] := (List.dropLast_concat_getLast hne).symm
      generalize es.dropLast = s at e
      generalize es.getLast hne = q at e
      subst e
      obtain ⟨p, o⟩ := q
      have hp := h (p, o) (by simp)
      have hs : ∀ q ∈ s, q.1 < p := fun q m => (List.pairwise_append.mp hi).2.2 q m (p, o) (by simp)
      have his : Inc s := (List.pairwise_append.mp hi).1
      by_cases hpm : p = m
      · subst hpm
        rw [NT.back_snoc, NT.back_app s _ _ (fun q hq => by rw [List.length_replicate]; exact hs q hq)]
        have hl : (NT.back s (List.replicate p 0)).length = p := by rw [NT.back_len, List.length_replicate]
        have e3 : (NT.back s (List.replicate p 0) ++ [(0 : Int)]).set p o = NT.back s (List.replicate p 0) ++ [o] := by
          rw [List.set_append_right _ _ (by omega), hl, Nat.sub_self]
          rfl
        show NT.nz ((NT.back s (List.replicate p 0) ++ [0]).set p o) = _
        rw [e3, NT.nz_snoc, if_neg hp.2, hl, nz_back p s his fun q hq => ⟨hs q hq, (h q (List.mem_append_left _ hq)).2⟩]
      · have hlt : ∀ q ∈ s ++ [(p, o)], q.1 < m := fun q hq => by
          rcases List.mem_append.mp hq with hq | hq
          · have := hs q hq
            have := hp.1
            have : p < m + 1 := hp.1
            omega
          · rw [List.mem_singleton.mp hq]
            have : p < m + 1 := hp.1
            show p < m
            omega
        rw [NT.back_app _ _ _ (fun q hq => by rw [List.length_replicate]; exact hlt q hq), NT.nz_snoc, if_pos rfl, List.append_nil]
        exact nz_back m _ hi fun q hq => ⟨hlt q hq, (h q hq).2⟩
theorem nz_inc (l : List Int) : Inc (NT.nz l) := by
  induction hn : l.length generalizing l with
  | zero =>
    have : l = [] := List.eq_nil_of_length_eq_zero hn
    subst this
    exact List.Pairwise.nil
  | succ n ih =>
    have hne : l ≠ [] := by intro z; rw [z] at hn; cases hn
    have e : l = l.dropLast ++ [l.getLast hne] := (List.dropLast_concat_getLast hne).symm
    generalize l.dropLast = m at e
    generalize l.getLast hne = o at e
    subst e
    have hm : m.length = n := by simpa using hn
    rw [NT.nz_snoc]
    refine List.pairwise_append.mpr ⟨ih m hm, ?_, ?_⟩
    · split
      · exact List.Pairwise.nil
      · exact List.pairwise_singleton _ _
    · intro a ha b hb
      split at hb
      · simp at hb
      · rw [List.mem_singleton.mp hb]
        obtain ⟨p, u⟩ := a
        exact (List.getElem?_eq_some_iff.mp (NT.nz_mem ha).1).1
/-! ### signs and pieces -/
def notSep (c : Nat) : Bool := !(decide (c = 43) || decide (c = 45))
def pcO (r : List Nat) : List Nat := r.takeWhile notSep
theorem body_notSep (p n : Nat) : ∀ c ∈ NT.bodyL p n, notSep c = true := fun c m => by
  have h1 : c ≠ 43 := fun z => NT.body_no (.inl (by decide)) (by decide) (z ▸ m)
  have h2 : c ≠ 45 := fun z => NT.body_no (.inl (by decide)) (by decide) (z ▸ m)
  unfold notSep
  rw [decide_eq_false h1, decide_eq_false h2]
  rfl
theorem tail_head {r : List (Nat × Int)} (h : ∀ q ∈ r, q.2 ≠ 0) : NT.tailZ r = [] ∨ ∃ c t, NT.tailZ r = c :: t ∧ notSep c = false := by
  cases r with
  | nil => exact .inl rfl
  | cons q r =>
    obtain ⟨p, o⟩ := q
    have h0 : o ≠ 0 := h (p, o) List.mem_cons_self
    right
    show ∃ c t, NT.sepL o ++ NT.signed p o ++ NT.tailZ r = c :: t ∧ _
    unfold NT.sepL NT.signed
    by_cases h1 : 0 < o
    · rw [if_pos h1]
      exact ⟨43, _, rfl, rfl⟩
    · rw [if_neg h1, if_pos (by omega)]
      exact ⟨45, _, rfl, rfl⟩
theorem pc_body {p n : Nat} {r : List (Nat × Int)} (h : ∀ q ∈ r, q.2 ≠ 0) : pcO (NT.bodyL p n ++ NT.tailZ r) = NT.bodyL p n := by
  unfold pcO
  rw [List.takeWhile_append_of_pos (body_notSep p n)]
  rcases tail_head h with e | ⟨c, t, e, hc⟩
  · rw [e]; simp
  · rw [e, List.takeWhile_cons, hc]; simp
theorem shown_split (es : List (Nat × Int)) (p : Nat) (o : Int) (r : List (Nat × Int)) : NT.shownZ (es ++ (p, o) :: r) = NT.shownZ es ++ ((if es = [] then [] else NT.sepL o) ++ NT.signed p o ++ NT.tailZ r) := by
  cases es with
  | nil => rfl
  | cons q s =>
    obtain ⟨a, b⟩ := q
    show NT.signed a b ++ NT.tailZ (s ++ (p, o) :: r) = NT.signed a b ++ NT.tailZ s ++ _
    rw [NT.tailZ_append, if_neg (by simp), List.append_assoc]
    rfl
theorem ents_nz {l : List Int} (h : NT.shownT l ≠ [48]) : NT.ents l = NT.nz l ∧ NT.nz l ≠ [] := by
  have : NT.nz l ≠ [] := fun z => h (by unfold NT.shownT; rw [if_pos z])
  exact ⟨by unfold NT.ents; rw [if_neg this], this⟩
def lowL (t : List Nat) : Prop := ∀ c ∈ t, c < 1114112
theorem signed_lenK {p : Nat} {o : Int} {d : Nat} (hd : 1 ≤ d) (hp : p < 10 ^ 3) (ho : o.natAbs < 10 ^ d) : (NT.signed p o).length ≤ d + 5 := by
  unfold NT.signed NT.bodyL
  have h1 := TL.numL_len (k := d) (by omega) ho
  have h2 := TL.numL_len (k := 3) (by decide) hp
  rw [List.length_append]
  have a0 : (if o < 0 then [45] else ([] : List Nat)).length ≤ 1 := by split <;> simp
  have a1 : (if o.natAbs = 1 then ([] : List Nat) else TL.numL o.natAbs).length ≤ d := by
    split
    · exact Nat.zero_le _
    · exact h1
  have a2 : (if p = 1 then ([] : List Nat) else TL.numL p).length ≤ 3 := by
    split
    · exact Nat.zero_le _
    · exact h2
  by_cases h0 : p = 0
  · rw [if_pos h0]
    omega
  · rw [if_neg h0, List.length_append, List.length_append]
    simp only [List.length_singleton]
    omega
theorem tail_lenK {k : Nat} : ∀ {a : List (Nat × Int)}, (∀ q ∈ a, (NT.signed q.1 q.2).length ≤ k) → (NT.tailZ a).length ≤ (k + 1) * a.length
  | [], _ => by simp [NT.tailZ]
  | (p, o) :: r, h => by
    have h1 : (NT.signed p o).length ≤ k := h (p, o) List.mem_cons_self
    have h2 := tail_lenK (a := r) fun q m => h q (List.mem_cons_of_mem _ m)
    have h4 : (NT.sepL o).length ≤ 1 := by unfold NT.sepL; split <;> simp
    show (NT.sepL o ++ NT.signed p o ++ NT.tailZ r).length ≤ _
    rw [List.length_append, List.length_append, List.length_cons, Nat.mul_add]
    omega
theorem shown_lenK {l : List Int} {d : Nat} (hd : 1 ≤ d) (hl : l.length ≤ 1000) (h : ∀ o ∈ l, o.natAbs < 10 ^ d) : (NT.shownT l).length ≤ (d + 6) * l.length + 1 := by
  unfold NT.shownT
  split
  · simp
  · have h1 : ∀ q ∈ NT.nz l, (NT.signed q.1 q.2).length ≤ d + 5 := fun ⟨p, o⟩ m => by
      have := (NT.nz_mem m).1
      have h1 := (List.getElem?_eq_some_iff.mp this).1
      exact signed_lenK hd (by omega) (h o (List.mem_of_getElem? this))
    have h2 := tail_lenK h1
    have h3 := NT.nz_le l
    have h4 : (NT.shownZ (NT.nz l)).length ≤ (NT.tailZ (NT.nz l)).length := by
      cases NT.nz l with
      | nil => simp [NT.shownZ]
      | cons x r =>
        obtain ⟨p, o⟩ := x
        show (NT.signed p o ++ NT.tailZ r).length ≤ (NT.sepL o ++ NT.signed p o ++ NT.tailZ r).length
        simp only [List.length_append]
        omega
    have h5 : (d + 5 + 1) * (NT.nz l).length ≤ (d + 6) * l.length := Nat.mul_le_mul (by omega) h3
    omega
theorem bodyL_low (p n : Nat) : ∀ c ∈ NT.bodyL p n, c < 1114112 := fun c hc => Classical.byContradiction fun hn => NT.body_no (p := p) (n := n) (s := c) (.inr (by omega)) (by omega) hc
theorem signed_low (p : Nat) (o : Int) : ∀ c ∈ NT.signed p o, c < 1114112 := fun c hc => by
  unfold NT.signed at hc
  rcases List.mem_append.mp hc with q | q
  · split at q
    · rw [List.mem_singleton.mp q]; decide
    · simp at q
  · exact bodyL_low p _ c q
theorem tailZ_low : ∀ (a : List (Nat × Int)), ∀ c ∈ NT.tailZ a, c < 1114112
  | [], c, hc => by simp [NT.tailZ] at hc
  | (p, o) :: r, c, hc => by
    have hc : c ∈ NT.sepL o ++ NT.signed p o ++ NT.tailZ r := hc
    rcases List.mem_append.mp hc with q | q
    · rcases List.mem_append.mp q with q | q
      · unfold NT.sepL at q
        split at q
        · rw [List.mem_singleton.mp q]; decide
        · simp at q
      · exact signed_low p o c q
    · exact tailZ_low r c q
theorem shownT_low (l : List Int) : ∀ c ∈ NT.shownT l, c < 1114112 := fun c hc => by
  obtain ⟨p, o, r, he, _⟩ := NT.ents_cons l
  rw [NT.shown_ents, he] at hc
  have hc : c ∈ NT.signed p o ++ NT.tailZ r := hc
  rcases List.mem_append.mp hc with q | q
  · exact signed_low p o c q
  · exact tailZ_low r c q
theorem cd_reprN {K : PySem.W.Frag} {Θ : Th} : CD K Θ (rRepr K) [.d .none] (.d (.str (PyData.shown .none))) := cd_repr rfl rfl (by simp [PyData.depth]) (by decide)
def lastOf (es : List (Nat × Int)) : Int := match es.getLast? with
  | some q => (q.1 : Int)
  | none => -1
theorem lastOf_snoc (es : List (Nat × Int)) (p : Nat) (o : Int) : lastOf (es ++ [(p, o)]) = p := by
  unfold lastOf
  rw [List.getLast?_append]
  rfl
theorem lastOf_lt {es : List (Nat × Int)} {p : Nat} (h : ∀ q ∈ es, q.1 < p) : lastOf es < p := by
  unfold lastOf
  cases hq : es.getLast? with
  | none => show (-1 : Int) < p; omega
  | some q =>
    have := h q (List.mem_of_getLast? hq)
    show (q.1 : Int) < p
    omega
theorem lastOf_ge {es : List (Nat × Int)} (hi : Inc es) : ∀ q ∈ es, (q.1 : Int) ≤ lastOf es := by
  intro q hq
  have hne : es ≠ [] := fun z => by rw [z] at hq; cases hq
  have e : es = es.dropLast ++ [es.getLast hne] := (List.dropLast_concat_getLast hne).symm
  generalize es.dropLast = s at e
  generalize es.getLast hne = u at e
  subst e
  obtain ⟨a, b⟩ := u
  rw [lastOf_snoc]
  rcases List.mem_append.mp hq with m | m
  · have := (List.pairwise_append.mp hi).2.2 q m (a, b) (by simp)
    have : q.1 < a := this
    omega
  · rw [List.mem_singleton.mp m]
    exact Int.le_refl _
theorem lastOf_nonneg {es : List (Nat × Int)} (h : es ≠ []) : 0 ≤ lastOf es := by
  unfold lastOf
  rw [List.getLast?_eq_getLast h]
  show (0 : Int) ≤ ((es.getLast h).1 : Int)
  omega
theorem takeWhile_take {p : Nat → Bool} : ∀ {r : List Nat} {n : Nat}, (∀ c ∈ r.take n, p c = true) → (r.length ≤ n ∨ ∃ d, r[n]? = some d ∧ p d = false) → r.takeWhile p = r.take n
  | [], _, _, _ => by simp
  | c :: r, 0, _, h => by
    rcases h with h | ⟨d, h1, h2⟩
    · simp at h
    · have : c = d := by simpa using h1
      rw [List.takeWhile_cons, this, h2]
      rfl
  | c :: r, n + 1, ha, h => by
    rw [List.take_succ_cons, List.takeWhile_cons, ha c (by simp)]
    rw [takeWhile_take (r := r) (n := n) (fun c m => ha c (by simp [m])) (by
      rcases h with h | ⟨d, h1, h2⟩
      · left; simpa using h
      · right; exact ⟨d, by simpa using h1, h2⟩)]
    rfl
def pf__law_figures (ds : List PyData) (r : PyData) : Prop := ∃ t : List Nat, ds = [.str (S t)] ∧ t.length ≤ 600 ∧ lowL t ∧ r = optD (lawFigs t)
def fs_bent (es : List El) (Θ : Th) (R : El → Th → Prop) : Prop := ∃ (t : List Nat) (cells : List Int) (a : Nat) (left : Int), es = [.at 0, .d (.str (S t))] ∧ Θ = [feedO cells a left] ∧ t.length ≤ 390 ∧ a < 2 ^ 39 ∧ cells.length ≤ 63 ∧ lowL t ∧
  ∀ (u : List Nat) (a' : Nat) (left' : Int), u.length ≤ t.length + 1 → lowL u → a' ≤ a + 3 → R (.d (.str (S u))) [feedO cells a' left']
theorem bent_flat {t : List Nat} : (El.d (.str (S t))).flat := trivial
def plN : Option (Nat × Nat) → PyData
  | some (p, n) => .tuple [.int p, .int n]
  | none => .none
def pf__law_piece (ds : List PyData) (r : PyData) : Prop := ∃ t : List Nat, ds = [.str (S t)] ∧ t.length ≤ 600 ∧ lowL t ∧ r = plN (lawPiece t)
def pf__law_read (ds : List PyData) (r : PyData) : Prop := ∃ (m : Nat) (t : List Nat), ds = [.int m, .str (S t)] ∧ 1 ≤ m ∧ m ≤ 100 ∧ t.length ≤ 400 ∧ lowL t ∧ (∀ l, Canon m t l → r = .tuple (l.map .int)) ∧ ((¬ ∃ l, Canon m t l) → r = .none)
def pf__law_told (ds : List PyData) (r : PyData) : Prop := ∃ (n : Nat) (t : List Nat), ds = [.int n, .str (S t)] ∧ 1 ≤ n ∧ n ≤ 100 ∧ t.length ≤ 400 ∧ (∀ l, Canon (placesN n) t l → r = .tuple (l.map .int)) ∧ ((¬ ∃ l, Canon (placesN n) t l) → r = .none)
theorem index_z {t : List Nat} (h : pR t ≠ []) : ∃ rest, PySem.Builtin.Str.occurrences (S t) (Str.ofString "z") 0 (S t).length 1 = (pA t).length :: rest := by
  have hp := partition_z t
  unfold Txt.partition at hp
  split at hp
  · rename_i i rest e
    refine ⟨rest, ?_⟩
    have h1 := congrArg (fun z : Str × Str × Str => TL.tl z.1) hp
    have h1 : TL.tl (PySem.Builtin.Str.strSub (S t) 0 i) = pA t := h1
    rw [TL.tl_strSub, List.drop_zero, Nat.sub_zero] at h1
    have hl := congrArg List.length h1
    rw [List.length_take] at hl
    rcases PySem.StrLaws.occ_head (S t) (Str.ofString "z") 1 (Nat.le_refl 1) with ⟨e2, _⟩ | ⟨i2, r2, e2, hat, _⟩
    · rw [e] at e2; cases e2
    · rw [e] at e2
      cases e2
      have := hat.1
      have hz : (Str.ofString "z").length = 1 := rfl
      rw [hz] at this
      have hl2 : (TL.tl (S t)).length = (S t).length := (str_len _).symm
      have : i = (pA t).length := by omega
      rw [e, this]
  · have := congrArg (fun z : Str × Str × Str => TL.tl z.2.1) hp
    have : ([] : List Nat) = (if pR t = [] then [] else [122]) := this
    rw [if_neg h] at this
    cases this
theorem ix_at {α : Type} {xs : List α} {k : Nat} {c : α} (h : xs[k]? = some c) : atI xs (k : Int) = some c := by
  have hk := (List.getElem?_eq_some_iff.mp h).1
  unfold atI ixN
  rw [if_pos (by omega), if_pos (by omega)]
  exact h
theorem tl_cutN (z : Str) (k : Nat) (h : k ≤ z.length) : TL.tl (cutS z none (some (k : Int))) = (TL.tl z).take k := by
  show ((TL.tl z).drop 0).take (HT.sIx z.length z.length (some (k : Int)) - 0) = _
  rw [HT.sIx_nat, Nat.min_eq_left h, List.drop_zero, Nat.sub_zero]
theorem tl_cutF (z : Str) (k : Nat) : TL.tl (cutS z (some (k : Int)) none) = (TL.tl z).drop k := by
  show ((TL.tl z).drop (HT.sIx z.length 0 (some (k : Int)))).take (z.length - HT.sIx z.length 0 (some (k : Int))) = _
  rw [HT.sIx_nat, TL.len_tl]
  by_cases h : k ≤ (TL.tl z).length
  · rw [Nat.min_eq_left h, List.take_of_length_le (by rw [List.length_drop]; omega)]
  · rw [Nat.min_eq_right (by omega), Nat.sub_self, List.take_zero, List.drop_eq_nil_of_le (by omega)]
theorem tl_cutB (z : Str) (k j : Nat) (hk : k ≤ j) (hj : j ≤ z.length) : TL.tl (cutS z (some (k : Int)) (some (j : Int))) = ((TL.tl z).drop k).take (j - k) := by
  show ((TL.tl z).drop (HT.sIx z.length 0 (some (k : Int)))).take (HT.sIx z.length z.length (some (j : Int)) - HT.sIx z.length 0 (some (k : Int))) = _
  rw [HT.sIx_nat, HT.sIx_nat, Nat.min_eq_left hj, Nat.min_eq_left (show k ≤ z.length by omega)]
theorem cut_S {z : Str} {lo hi : Option Int} {l : List Nat} (h : TL.tl (cutS z lo hi) = l) : cutS z lo hi = S l := TL.ext_tl (by rw [h]; rfl)
theorem one_S (c : Nat) : (⟨#[c]⟩ : Str) = S [c] := TL.ext_tl rfl
section
variable {K : PySem.W.Frag} {Γ : Gm} {Θ : Th} {te ta tb : TE}
theorem rd_notin_sign {c : Nat} {z : Str} : RD K Θ (fun x y H Q => ∃ (c : Nat) (z : Str), x = .str ⟨#[c]⟩ ∧ y = .str z ∧ Q (.bl (!decide (c ∈ z.cps.toList))) H) (.d (.str ⟨#[c]⟩)) (.d (.str z)) (.d (.bool (!decide (c ∈ z.cps.toList)))) := fun B A H v w Q o q1 q2 k =>
  ⟨c, z, dx_str q1, dx_str q2, k _ H (Same.refl H) (.bl _)⟩
theorem pR_mem {t : List Nat} : 122 ∈ t ↔ pR t ≠ [] := by
  have ht := split122 t
  constructor
  · intro m h
    rw [h, List.append_nil] at ht
    rw [ht] at m
    exact pA_no t m
  · intro h
    obtain ⟨b, hb⟩ := (pR_cases t).resolve_left h
    rw [ht, hb]
    simp
theorem ev_index {t : List Nat} (h : pR t ≠ []) (ha : EV K ta Γ Θ (.d (.str (S t)))) (hb : EV K tb Γ Θ (.d (.str (Str.ofString "z")))) : EV K (tM1 (fun x xs H Q => ∃ a b i rest, x = .str a ∧ xs = [.str b] ∧ PySem.Builtin.Str.occurrences a b 0 a.length 1 = i :: rest ∧ Q (.int (i : Nat)) H) ta tb) Γ Θ (.d (.int (pA t).length)) :=
  ev_m1 ha hb fun B A H w Q o q k => by
    obtain ⟨rest, e⟩ := index_z h
    exact ⟨_, _, _, rest, rfl, by rw [dx_str q], e, k _ H (Same.refl H) (.int _)⟩
theorem canLay_strs : ∀ l : List Str, (∀ x ∈ l, PyData.canLay0 (.str x) = true) → PyData.canLayAll0 (l.map .str) = true
  | [], _ => by simp [PyData.canLayAll0]
  | x :: r, h => by
    simp only [List.map_cons, PyData.canLayAll0, h x List.mem_cons_self, canLay_strs r fun y m => h y (List.mem_cons_of_mem _ m), Bool.and_self]
theorem depth_strs : ∀ l : List Str, PyData.depthAll (l.map .str) = 0
  | [] => by simp [PyData.depthAll]
  | x :: r => by simp [PyData.depthAll, PyData.depth, depth_strs r]
theorem shaped_signs {l : List Nat} (h : lowL l) : SeqAt.shaped (.list ((l.map fun c => S [c]).map .str)) = true := by
  unfold SeqAt.shaped
  rw [Bool.and_eq_true]
  constructor
  · simp only [PyData.canLay0]
    refine canLay_strs _ fun x hx => ?_
    obtain ⟨c, hc, rfl⟩ := List.mem_map.mp hx
    simp only [PyData.canLay0]
    unfold PyData.strOk
    rw [← Array.all_toList]
    show List.all [c] _ = true
    simp
    exact h c hc
  · simp only [PyData.depth, depth_strs]
    decide
end
end TX

namespace TX
open PySem PySem.Spec PyProof.Rows L2 DL
/-! ### words -/
def wordsL (t : List Nat) : List (List Nat) := TL.spl [32] 0 [] t
theorem split_words (t : List Nat) : Txt.split (S t) (Str.ofString " ") = (wordsL t).map S := by
  apply TL.map_tl_inj
  have e1 : TL.tl (Str.ofString " ") = [32] := rfl
  rw [TL.split_spl _ _ (by rw [e1]; simp) (TL.kind_ok (by decide +kernel)), e1, List.map_map]
  show _ = (wordsL t).map id
  rw [List.map_id]
  rfl
theorem words_join {ws : List (List Nat)} (h : ws ≠ []) (hn : ∀ w ∈ ws, 32 ∉ w) : wordsL (TL.joinL [32] ws) = ws := TL.spl_join h hn
theorem words_ne (t : List Nat) : wordsL t ≠ [] := by
  have key : ∀ (t acc : List Nat), TL.spl [32] 0 acc t ≠ [] := by
    intro t
    induction t with
    | nil => intro acc; simp [TL.spl]
    | cons c r ih =>
      intro acc
      unfold TL.spl
      split
      · simp
      · exact ih _
  exact key t []
theorem words_no (t : List Nat) : ∀ w ∈ wordsL t, 32 ∉ w := by
  have key : ∀ (t acc : List Nat), 32 ∉ acc → ∀ w ∈ TL.spl [32] 0 acc t, 32 ∉ w := by
    intro t
    induction t with
    | nil =>
      intro acc ha w hw
      have : w = acc := by simpa [TL.spl] using hw
      rw [this]; exact ha
    | cons c r ih =>
      intro acc ha w hw
      unfold TL.spl at hw
      by_cases hc : c = 32
      · subst hc
        rw [if_pos (by rfl)] at hw
        rcases List.mem_cons.mp hw with e | m
        · rw [e]; exact ha
        · exact ih [] (by simp) w m
      · have hp : TL.pre [32] (c :: r) = false := by
          simp [TL.pre]
          first | exact fun z => hc z.symm | exact fun z => hc z | omega
        rw [if_neg (by rw [hp]; decide)] at hw
        exact ih _ (by simp [ha]; first | exact fun z => hc z.symm | exact fun z => hc z | omega) w hw
  exact key t [] (by simp)
theorem words_low {t : List Nat} (h : lowL t) : ∀ w ∈ wordsL t, lowL w := by
  have key : ∀ (t acc : List Nat), lowL t → lowL acc → ∀ w ∈ TL.spl [32] 0 acc t, lowL w := by
    intro t
    induction t with
    | nil =>
      intro acc _ ha w hw
      have : w = acc := by simpa [TL.spl] using hw
      rw [this]; exact ha
    | cons c r ih =>
      intro acc ht ha w hw
      have hr : lowL r := fun x hx => ht x (List.mem_cons_of_mem _ hx)
      unfold TL.spl at hw
      split at hw
      · rcases List.mem_cons.mp hw with e | m
        · rw [e]; exact ha
        · exact ih [] hr (fun _ z => by cases z) w m
      · exact ih _ hr (fun x hx => by
          rcases List.mem_append.mp hx with q | q
          · exact ha x q
          · rw [List.mem_singleton.mp q]; exact ht c List.mem_cons_self) w hw
  exact key t [] h (fun _ z => by cases z)
theorem tl_joinS (ws : List (List Nat)) : Str.join (Str.ofString " ") (ws.map S) = S (TL.joinL [32] ws) := by
  apply TL.ext_tl
  rw [TL.tl_join, List.map_map]
  have e1 : TL.tl (Str.ofString " ") = [32] := rfl
  rw [e1]
  show TL.joinL [32] (ws.map id) = _
  rw [List.map_id]
  rfl
/-! ### heads, rows, tables -/
noncomputable def readO (m : Nat) (w : List Nat) : Option (List Int) := open Classical in if h : ∃ l, Canon m w l then some h.choose else none
theorem readO_some {m : Nat} {w : List Nat} {l : List Int} (h : Canon m w l) : readO m w = some l := by
  unfold readO
  rw [dif_pos ⟨l, h⟩]
  exact congrArg some (canon_inj (Exists.choose_spec (p := fun l => Canon m w l) ⟨l, h⟩) h)
theorem readO_none {m : Nat} {w : List Nat} (h : ¬ ∃ l, Canon m w l) : readO m w = none := by
  unfold readO
  rw [dif_neg h]
def numD : Option (List Int) → PyData
  | some l => .tuple (l.map .int)
  | none => .none
theorem read_of {m : Nat} {w : List Nat} : (∀ l, Canon m w l → numD (readO m w) = .tuple (l.map .int)) ∧ ((¬ ∃ l, Canon m w l) → numD (readO m w) = .none) :=
  ⟨fun l h => by rw [readO_some h]; rfl, fun h => by rw [readO_none h]; rfl⟩
def smallO (w : List Nat) : Option Nat := (lawFigs w).bind fun v => if v ≤ 60 then some v else none
def allO {α : Type} : List (Option α) → Option (List α)
  | [] => some []
  | some x :: r => (allO r).map (x :: ·)
  | none :: _ => none
theorem allO_some {α : Type} : ∀ {l : List (Option α)} {r : List α}, allO l = some r → l = r.map some
  | [], r, h => by cases h; rfl
  | some x :: t, r, h => by
    unfold allO at h
    cases q : allO t with
    | none => rw [q] at h; cases h
    | some s =>
      rw [q] at h
      cases h
      rw [allO_some q]
      rfl
  | none :: t, r, h => by cases h
theorem allO_none {α : Type} : ∀ {l : List (Option α)}, allO l = none → none ∈ l
  | [], h => by cases h
  | some x :: t, h => by
    unfold allO at h
    cases q : allO t with
    | none => exact List.mem_cons_of_mem _ (allO_none q)
    | some s => rw [q] at h; cases h
  | none :: t, _ => List.mem_cons_self
theorem allO_len {α : Type} {l : List (Option α)} {r : List α} (h : allO l = some r) : r.length = l.length := by
  rw [allO_some h, List.length_map]
def tabW : List Nat := [116, 97, 98, 108, 101]
def rowW : List Nat := [114, 111, 119]
/-- the first line: n and the sizes -/
def headO (t : List Nat) : Option (Nat × List Nat) :=
  if (wordsL t).head? = some tabW ∧ 2 ≤ (wordsL t).tail.length ∧ (wordsL t).tail.length ≤ 17 then
    (allO ((wordsL t).tail.map smallO)).bind fun ns => match ns with
      | n :: r => some (n, r)
      | [] => none
  else none
noncomputable def rowO (n many : Nat) (t : List Nat) : Option (List (List Int)) :=
  if (wordsL t).head? = some rowW ∧ (wordsL t).length = 1 + many then allO ((wordsL t).tail.map (readO (placesN n))) else none
noncomputable def rowsO (n many : Nat) : List (List Nat) → Nat → List (List (List Int)) → Nat ⊕ List (List (List Int))
  | [], _, acc => .inr acc
  | t :: r, k, acc => match rowO n many t with
    | some row => rowsO n many r (k + 1) (acc ++ [row])
    | none => .inl k
noncomputable def tableO : List (List Nat) → Nat ⊕ (Nat × List Nat × List (List (List Int)))
  | [] => .inl 0
  | t :: r => match headO t with
    | none => .inl 0
    | some (n, sz) => match rowsO n sz.length r 1 [] with
      | .inl k => .inl k
      | .inr [] => .inl 1
      | .inr rows => .inr (n, sz, rows)
def rowD (row : List (List Int)) : PyData := .tuple (row.map fun l => .tuple (l.map .int))
def tabD (n : Nat) (sz : List Nat) (rows : List (List (List Int))) : PyData := .tuple [.int n, .tuple (sz.map fun s : Nat => .int (s : Int)), .tuple (rows.map rowD)]
/-- a line: its words are short -/
def LineOk (t : List Nat) : Prop := t.length ≤ 20000 ∧ lowL t ∧ ∀ w ∈ wordsL t, w.length ≤ 120
def linesD (ls : List (List Nat)) : PyData := .list (ls.map fun t => .str (S t))
def pf_small_number (ds : List PyData) (r : PyData) : Prop := ∃ w : List Nat, ds = [.str (S w)] ∧ w.length ≤ 120 ∧ r = optD (smallO w)
def headD : Option (Nat × List Nat) → PyData
  | some (n, sz) => .tuple [.int n, .tuple (sz.map fun s : Nat => .int (s : Int))]
  | none => .none
def pf_head_in (ds : List PyData) (r : PyData) : Prop := ∃ t : List Nat, ds = [.str (S t)] ∧ LineOk t ∧ r = headD (headO t)
def rowOD : Option (List (List Int)) → PyData
  | some row => rowD row
  | none => .none
def pf_row_in (ds : List PyData) (r : PyData) : Prop := ∃ (n many : Nat) (t : List Nat), ds = [.int n, .int many, .str (S t)] ∧ 1 ≤ n ∧ n ≤ 100 ∧ many ≤ 100 ∧ LineOk t ∧ r = rowOD (rowO n many t)
def pf_read_table (ds : List PyData) (o : Out) : Prop := ∃ ls : List (List Nat), ds = [linesD ls] ∧ ls.length ≤ 1000 ∧ (∀ t ∈ ls, LineOk t) ∧
  (∀ k, tableO ls = .inl k → o = .exc "NoLines" (some [("row", .int k)])) ∧ ∀ n sz rows, tableO ls = .inr (n, sz, rows) → o = .ret (tabD n sz rows)
def outD : Nat ⊕ (Nat × List Nat × List (List (List Int))) → PyData
  | .inl k => .int k
  | .inr (n, sz, rows) => tabD n sz rows
def pf__law_due (ds : List PyData) (r : PyData) : Prop := ∃ ls : List (List Nat), ds = [linesD ls] ∧ ls.length ≤ 1000 ∧ (∀ t ∈ ls, LineOk t) ∧ r = outD (tableO ls)
end TX

namespace TX
open PySem PySem.Spec PyProof.Rows L2 DL
theorem cutD_from {α : Type} (xs : List α) (k : Nat) : DL.cutD xs (some (k : Int)) none = xs.drop k := by
  unfold DL.cutD
  rw [HT.sIx_none, HT.sIx_nat]
  by_cases h : k ≤ xs.length
  · rw [Nat.min_eq_left h, List.take_of_length_le (by simp)]
  · rw [Nat.min_eq_right (by omega), List.drop_eq_nil_of_le (Nat.le_refl _), List.drop_eq_nil_of_le (show xs.length ≤ k by omega)]
    simp
theorem cutD_tail {α : Type} (xs : List α) : DL.cutD xs (some 1) none = xs.tail := (cutD_from xs 1).trans List.drop_one
theorem cutD_to {α : Type} (xs : List α) (k : Nat) : DL.cutD xs none (some (k : Int)) = xs.take k := by
  unfold DL.cutD
  rw [HT.sIx_none, HT.sIx_nat, List.drop_zero, Nat.sub_zero]
  by_cases h : k ≤ xs.length
  · rw [Nat.min_eq_left h]
  · rw [Nat.min_eq_right (by omega), List.take_of_length_le (Nat.le_refl _), List.take_of_length_le (by omega)]
theorem canLay_map {α : Type} {f : α → PyData} : ∀ {l : List α}, (∀ x ∈ l, PyData.canLay0 (f x) = true) → PyData.canLayAll0 (l.map f) = true
  | [], _ => by simp [PyData.canLayAll0]
  | x :: r, h => by
    rw [List.map_cons, PyData.canLayAll0, h x List.mem_cons_self, canLay_map fun y m => h y (List.mem_cons_of_mem _ m)]
    rfl
theorem depth_map {α : Type} {f : α → PyData} {n : Nat} : ∀ {l : List α}, (∀ x ∈ l, PyData.depth (f x) ≤ n) → PyData.depthAll (l.map f) ≤ n
  | [], _ => by simp [PyData.depthAll]
  | x :: r, h => by
    rw [List.map_cons, PyData.depthAll]
    exact Nat.max_le.mpr ⟨h x List.mem_cons_self, depth_map fun y m => h y (List.mem_cons_of_mem _ m)⟩
theorem shaped_list {α : Type} {f : α → PyData} {l : List α} (h : ∀ x ∈ l, PyData.canLay0 (f x) = true ∧ PyData.depth (f x) ≤ 60) : SeqAt.shaped (.list (l.map f)) = true ∧ SeqAt.shaped (.tuple (l.map f)) = true := by
  have h1 := canLay_map (l := l) (f := f) fun x m => (h x m).1
  have h2 := depth_map (l := l) (f := f) (n := 60) fun x m => (h x m).2
  unfold SeqAt.shaped
  simp only [PyData.canLay0, PyData.depth, h1, Bool.true_and]
  exact ⟨decide_eq_true (by omega), decide_eq_true (by omega)⟩
theorem shaped_none : SeqAt.shaped .none = true := by decide
theorem shaped_optD (l : List (Option Nat)) : SeqAt.shaped (.list (l.map optD)) = true := (shaped_list fun o _ => by cases o <;> simp [optD, PyData.canLay0, PyData.depth]).1
theorem shaped_numD (l : List (Option (List Int))) : SeqAt.shaped (.list (l.map numD)) = true := (shaped_list fun o _ => by
  cases o with
  | none => simp [numD, PyData.canLay0, PyData.depth]
  | some z => simp [numD, PyData.canLay0, PyData.depth, canLay_ints, depth_ints]).1
theorem any_none {α : Type} {f : α → PyData} (hf : ∀ x, PyData.eqv (f x) .none = false) (g : Option α → PyData) (hg : ∀ o, g o = match o with | some x => f x | none => .none) : ∀ l : List (Option α), ((l.map g).any fun z => PyData.eqv z .none) = (allO l).isNone
  | [] => rfl
  | some x :: r => by
    rw [List.map_cons, List.any_cons, any_none hf g hg r, hg, hf]
    show (false || (allO r).isNone) = ((allO r).map (x :: ·)).isNone
    cases allO r <;> rfl
  | none :: r => by
    rw [List.map_cons, List.any_cons, hg]
    rfl
theorem any_optD (l : List (Option Nat)) : ((l.map optD).any fun z => PyData.eqv z .none) = (allO l).isNone := any_none (f := fun n => .int (n : Nat)) (fun _ => rfl) optD (fun o => by cases o <;> rfl) l
theorem any_numD (l : List (Option (List Int))) : ((l.map numD).any fun z => PyData.eqv z .none) = (allO l).isNone := any_none (f := fun n => .tuple (n.map .int)) (fun _ => rfl) numD (fun o => by cases o <;> rfl) l
theorem word_eq {w v : List Nat} : decide (S w = S v) = decide (w = v) := by congr 1; exact propext S_inj
theorem S_table : Str.ofString "table" = S tabW := TL.ext_tl rfl
theorem S_row : Str.ofString "row" = S rowW := TL.ext_tl rfl
theorem word_len {t : List Nat} : ∀ w ∈ wordsL t, w.length ≤ t.length := by
  have key : ∀ (t acc : List Nat), ∀ w ∈ TL.spl [32] 0 acc t, w.length ≤ acc.length + t.length := by
    intro t
    induction t with
    | nil =>
      intro acc w hw
      have : w = acc := by simpa [TL.spl] using hw
      rw [this]; simp
    | cons c r ih =>
      intro acc w hw
      unfold TL.spl at hw
      split at hw
      · rcases List.mem_cons.mp hw with e | m
        · rw [e]; simp
        · have := ih [] w m
          simp at this ⊢; omega
      · have := ih _ w hw
        simp at this ⊢; omega
  intro w hw
  have := key t [] w hw
  simpa using this
theorem words_count (t : List Nat) : (wordsL t).length ≤ t.length + 1 := by
  have key : ∀ (t acc : List Nat), (TL.spl [32] 0 acc t).length ≤ t.length + 1 := by
    intro t
    induction t with
    | nil => intro acc; simp [TL.spl]
    | cons c r ih =>
      intro acc
      unfold TL.spl
      split
      · have := ih []
        simp at this ⊢; omega
      · have := ih (acc ++ [c])
        simp at this ⊢
        first | omega | exact Nat.le_trans this (by omega)
  exact key t []
theorem allO_map {α : Type} : ∀ vs : List α, allO (vs.map some) = some vs
  | [] => rfl
  | x :: r => by
    show (allO (r.map some)).map (x :: ·) = _
    rw [allO_map r]
    rfl
end TX

namespace TX
open PySem PySem.Spec PyProof.Rows L2 DL
theorem smallO_bd {w : List Nat} {v : Nat} (h : smallO w = some v) : 1 ≤ v ∧ v ≤ 60 := by
  unfold smallO at h
  cases q : lawFigs w with
  | none => rw [q] at h; cases h
  | some u =>
    rw [q] at h
    change (if u ≤ 60 then some u else none) = some v at h
    split at h
    · cases h
      exact ⟨(lawFigs_some q).2, by assumption⟩
    · cases h
theorem headO_bd {t : List Nat} {n : Nat} {sz : List Nat} (h : headO t = some (n, sz)) : 1 ≤ n ∧ n ≤ 60 ∧ 1 ≤ sz.length ∧ sz.length ≤ 16 ∧ ∀ s ∈ sz, 1 ≤ s ∧ s ≤ 60 := by
  unfold headO at h
  split at h
  · rename_i c
    cases q : allO ((wordsL t).tail.map smallO) with
    | none => rw [q] at h; cases h
    | some ns =>
      rw [q] at h
      cases ns with
      | nil => cases h
      | cons a r =>
        cases h
        have e := allO_some q
        have hl := allO_len q
        have hb : ∀ x ∈ n :: sz, 1 ≤ x ∧ x ≤ 60 := fun x hx => by
          have : some x ∈ (wordsL t).tail.map smallO := by rw [e]; exact List.mem_map.mpr ⟨x, hx, rfl⟩
          obtain ⟨w, _, hw⟩ := List.mem_map.mp this
          exact smallO_bd hw
        rw [List.length_cons, List.length_map] at hl
        refine ⟨(hb n List.mem_cons_self).1, (hb n List.mem_cons_self).2, by omega, by omega, fun s hs => hb s (List.mem_cons_of_mem _ hs)⟩
  · cases h
theorem shaped_lines {ls : List (List Nat)} (h : ∀ t ∈ ls, lowL t) : SeqAt.shaped (linesD ls) = true := (shaped_list fun t ht => by
  constructor
  · simp only [PyData.canLay0]
    unfold PyData.strOk
    rw [← Array.all_toList]
    exact List.all_eq_true.mpr fun c hc => by simpa using h t ht c hc
  · simp [PyData.depth]).1
theorem eqv_nil {α : Type} (f : α → PyData) (l : List α) : PyData.eqv (.list (l.map f)) (.list []) = l.isEmpty := by cases l <;> rfl
theorem table_bad {t : List Nat} {r : List (List Nat)} (h : headO t = none) : tableO (t :: r) = .inl 0 := by simp only [tableO, h]
theorem table_row {t : List Nat} {r : List (List Nat)} {n : Nat} {sz : List Nat} {k : Nat} (h : headO t = some (n, sz)) (h2 : rowsO n sz.length r 1 [] = .inl k) : tableO (t :: r) = .inl k := by simp only [tableO, h, h2]
theorem table_none {t : List Nat} {r : List (List Nat)} {n : Nat} {sz : List Nat} (h : headO t = some (n, sz)) (h2 : rowsO n sz.length r 1 [] = .inr []) : tableO (t :: r) = .inl 1 := by simp only [tableO, h, h2]
theorem table_all {t : List Nat} {r : List (List Nat)} {n : Nat} {sz : List Nat} {a : List (List Int)} {b : List (List (List Int))} (h : headO t = some (n, sz)) (h2 : rowsO n sz.length r 1 [] = .inr (a :: b)) : tableO (t :: r) = .inr (n, sz, a :: b) := by simp only [tableO, h, h2]
theorem rows_bad {n m k : Nat} {t : List Nat} {r : List (List Nat)} {acc : List (List (List Int))} (h : rowO n m t = none) : rowsO n m (t :: r) k acc = .inl k := by simp only [rowsO, h]
theorem rows_ok {n m k : Nat} {t : List Nat} {r : List (List Nat)} {acc : List (List (List Int))} {row : List (List Int)} (h : rowO n m t = some row) : rowsO n m (t :: r) k acc = rowsO n m r (k + 1) (acc ++ [row]) := by simp only [rowsO, h]
end TX

namespace TX
open PySem PySem.Spec PyProof.Rows L2 DL
theorem allO_small : ∀ l : List (List Nat), allO (l.map smallO) = (allO (l.map lawFigs)).bind fun ns => if (∀ x ∈ ns, x ≤ 60) then some ns else none
  | [] => rfl
  | w :: r => by
    rw [List.map_cons, List.map_cons]
    cases q : lawFigs w with
    | none =>
      have : smallO w = none := by unfold smallO; rw [q]; rfl
      rw [this]
      rfl
    | some v =>
      by_cases hv : v ≤ 60
      · have : smallO w = some v := by unfold smallO; rw [q]; exact if_pos hv
        rw [this]
        show (allO (r.map smallO)).map (v :: ·) = ((allO (r.map lawFigs)).map (v :: ·)).bind _
        rw [allO_small r]
        cases allO (r.map lawFigs) with
        | none => rfl
        | some ns =>
          show Option.map (v :: ·) (if _ then some ns else none) = if _ then some (v :: ns) else none
          by_cases h : ∀ x ∈ ns, x ≤ 60
          · rw [if_pos h, if_pos (fun x m => (List.mem_cons.mp m).elim (fun e => by omega) (fun m => h x m))]
            rfl
          · rw [if_neg h, if_neg (fun z => h fun x m => z x (List.mem_cons_of_mem _ m))]
            rfl
      · have : smallO w = none := by unfold smallO; rw [q]; exact if_neg hv
        rw [this]
        show none = ((allO (r.map lawFigs)).map (v :: ·)).bind _
        cases allO (r.map lawFigs) with
        | none => rfl
        | some ns =>
          show none = if _ then some (v :: ns) else none
          rw [if_neg (fun z => hv (z v List.mem_cons_self))]
theorem head_no {t w0 : List Nat} {ws : List (List Nat)} (hW : wordsL t = w0 :: ws) (h : w0 ≠ tabW ∨ allO (ws.map lawFigs) = none ∨ ¬(2 ≤ ws.length ∧ ws.length ≤ 17) ∨ ∃ ns, allO (ws.map lawFigs) = some ns ∧ ∃ m ∈ ns, 60 < m) : headO t = none := by
  unfold headO
  rw [hW]
  by_cases c : (w0 :: ws).head? = some tabW ∧ 2 ≤ (w0 :: ws).tail.length ∧ (w0 :: ws).tail.length ≤ 17
  · rw [if_pos c]
    rcases h with h | h | h | ⟨ns, h, m, hm, h6⟩
    · exact absurd (Option.some.inj c.1) h
    · show (allO (ws.map smallO)).bind _ = none
      rw [allO_small, h]
      rfl
    · exact absurd c.2 h
    · show (allO (ws.map smallO)).bind _ = none
      rw [allO_small, h]
      show (if _ then some ns else none).bind _ = none
      rw [if_neg (fun z => absurd (z m hm) (by omega))]
      rfl
  · rw [if_neg c]
theorem head_yes {t w0 : List Nat} {ws : List (List Nat)} {n : Nat} {sz : List Nat} (hW : wordsL t = w0 :: ws) (h1 : w0 = tabW) (h2 : allO (ws.map lawFigs) = some (n :: sz)) (h3 : 2 ≤ ws.length ∧ ws.length ≤ 17) (h4 : ∀ x ∈ n :: sz, x ≤ 60) : headO t = some (n, sz) := by
  unfold headO
  rw [hW, if_pos ⟨by rw [h1]; rfl, h3⟩]
  show (allO (ws.map smallO)).bind _ = _
  rw [allO_small, h2]
  show (if _ then some (n :: sz) else none).bind _ = _
  rw [if_pos h4]
  rfl
theorem max_of : ∀ {ns : List Nat}, ns ≠ [] → ∃ m ∈ ns, ∀ y ∈ ns, y ≤ m
  | [], h => absurd rfl h
  | [a], _ => ⟨a, List.mem_cons_self, fun y hy => by rw [List.mem_singleton.mp hy]; exact Nat.le_refl _⟩
  | a :: b :: r, _ => by
    obtain ⟨m, hm, hx⟩ := max_of (ns := b :: r) (by simp)
    by_cases h : a ≤ m
    · exact ⟨m, List.mem_cons_of_mem _ hm, fun y hy => (List.mem_cons.mp hy).elim (fun e => by omega) (fun k => hx y k)⟩
    · exact ⟨a, List.mem_cons_self, fun y hy => (List.mem_cons.mp hy).elim (fun e => by omega) (fun k => Nat.le_trans (hx y k) (by omega))⟩
theorem row_no {n many : Nat} {t w0 : List Nat} {ws : List (List Nat)} (hW : wordsL t = w0 :: ws) (h : w0 ≠ rowW ∨ allO (ws.map (readO (placesN n))) = none ∨ ws.length ≠ many) : rowO n many t = none := by
  unfold rowO
  rw [hW]
  by_cases c : (w0 :: ws).head? = some rowW ∧ (w0 :: ws).length = 1 + many
  · rw [if_pos c]
    rcases h with h | h | h
    · exact absurd (Option.some.inj c.1) h
    · exact h
    · have := c.2
      rw [List.length_cons] at this
      exact absurd (by omega) h
  · rw [if_neg c]
theorem row_yes {n many : Nat} {t w0 : List Nat} {ws : List (List Nat)} {row : List (List Int)} (hW : wordsL t = w0 :: ws) (h1 : w0 = rowW) (h2 : allO (ws.map (readO (placesN n))) = some row) (h3 : ws.length = many) : rowO n many t = some row := by
  unfold rowO
  rw [hW, if_pos ⟨by rw [h1]; rfl, by rw [List.length_cons]; omega⟩]
  exact h2
end TX

namespace TX
open PySem PySem.Spec PyProof.Rows L2 DL
/-! ### lines that are made of words -/
def WordsB (ws : List (List Nat)) : Prop := ws.length ≤ 40 ∧ ∀ w ∈ ws, w.length ≤ 120 ∧ lowL w ∧ 32 ∉ w
theorem joinL_len : ∀ ws : List (List Nat), (∀ w ∈ ws, w.length ≤ 120) → (TL.joinL [32] ws).length ≤ 121 * ws.length
  | [], _ => by simp [TL.joinL]
  | [p], h => by
    have := h p List.mem_cons_self
    show p.length ≤ 121 * 1
    omega
  | p :: q :: r, h => by
    have h1 := h p List.mem_cons_self
    have h2 := joinL_len (q :: r) fun w m => h w (List.mem_cons_of_mem _ m)
    show (p ++ ([32] ++ TL.joinL [32] (q :: r))).length ≤ 121 * ((q :: r).length + 1)
    rw [List.length_append, List.length_append, List.length_singleton]
    omega
theorem joinL_low : ∀ ws : List (List Nat), (∀ w ∈ ws, lowL w) → lowL (TL.joinL [32] ws)
  | [], _ => fun c hc => by simp [TL.joinL] at hc
  | [p], h => h p List.mem_cons_self
  | p :: q :: r, h => fun c hc => by
    have hc : c ∈ p ++ ([32] ++ TL.joinL [32] (q :: r)) := hc
    rcases List.mem_append.mp hc with m | m
    · exact h p List.mem_cons_self c m
    · rcases List.mem_append.mp m with m | m
      · rw [List.mem_singleton.mp m]; decide
      · exact joinL_low (q :: r) (fun w m => h w (List.mem_cons_of_mem _ m)) c m
theorem join_ok {ws : List (List Nat)} (h : WordsB ws) : LineOk (TL.joinL [32] ws) := by
  obtain ⟨hl, hw⟩ := h
  refine ⟨Nat.le_trans (joinL_len ws fun w m => (hw w m).1) (by omega), joinL_low ws fun w m => (hw w m).2.1, ?_⟩
  cases ws with
  | nil =>
    intro w hw
    have : w = [] := by simpa [wordsL, TL.joinL, TL.spl] using hw
    rw [this]; simp
  | cons p r =>
    rw [words_join (by simp) fun w m => (hw w m).2.2]
    exact fun w m => (hw w m).1
def LineB (t : List Nat) : Prop := ∃ ws, ws ≠ [] ∧ t = TL.joinL [32] ws ∧ ws.length ≤ 20 ∧ WordsB ws
theorem LineB.ok {t : List Nat} (h : LineB t) : LineOk t := by
  obtain ⟨ws, _, rfl, _, hb⟩ := h
  exact join_ok hb
theorem LineB.words {t : List Nat} (h : LineB t) : wordsL t ≠ [] ∧ (wordsL t).length ≤ 20 ∧ WordsB (wordsL t) := by
  obtain ⟨ws, hn, rfl, h2, hb⟩ := h
  rw [words_join hn fun w m => (hb.2 w m).2.2]
  exact ⟨hn, h2, hb⟩
theorem line_nil : LineOk [] := join_ok (ws := []) ⟨by simp, by simp⟩
/-! ### what the law draws: numbers of two places that are not nought -/
def RowB (k : Nat) (row : List (List Int)) : Prop := row.length = k ∧ ∀ l ∈ row, l ≠ [] ∧ l.length ≤ 60 ∧ (∀ o ∈ l, o.natAbs < 2 ^ 90) ∧ (NT.nz l).length ≤ 2
def AnyB (n : Nat) (sz : List Nat) (rows : List (List (List Int))) : Prop := (1 ≤ n ∧ n ≤ 60) ∧ (1 ≤ sz.length ∧ sz.length ≤ 17) ∧ (∀ s ∈ sz, 1 ≤ s ∧ s ≤ 60) ∧ (1 ≤ rows.length ∧ rows.length ≤ 4) ∧ ∀ row ∈ rows, RowB sz.length row
theorem shown_len2 {l : List Int} (hl : l.length ≤ 60) (h : ∀ o ∈ l, o.natAbs < 2 ^ 90) (h2 : (NT.nz l).length ≤ 2) : (NT.shownT l).length ≤ 70 := by
  unfold NT.shownT
  split
  · simp
  · have h1 : ∀ q ∈ NT.nz l, (NT.signed q.1 q.2).length ≤ 33 := fun ⟨p, o⟩ m => by
      have := (NT.nz_mem m).1
      have h1 := (List.getElem?_eq_some_iff.mp this).1
      exact signed_lenK (d := 28) (by decide) (by omega) (Nat.lt_of_lt_of_le (h o (List.mem_of_getElem? this)) (by decide))
    have h3 := tail_lenK h1
    have h4 : (NT.shownZ (NT.nz l)).length ≤ (NT.tailZ (NT.nz l)).length := by
      cases NT.nz l with
      | nil => simp [NT.shownZ]
      | cons x r =>
        obtain ⟨p, o⟩ := x
        show (NT.signed p o ++ NT.tailZ r).length ≤ (NT.sepL o ++ NT.signed p o ++ NT.tailZ r).length
        simp only [List.length_append]
        omega
    omega
theorem signed_no32 (p : Nat) (o : Int) : 32 ∉ NT.signed p o := fun h => by
  unfold NT.signed at h
  rcases List.mem_append.mp h with q | q
  · split at q <;> simp at q
  · exact NT.body_no (.inl (by decide)) (by decide) q
theorem tail_no32 : ∀ a : List (Nat × Int), 32 ∉ NT.tailZ a
  | [], h => by simp [NT.tailZ] at h
  | (p, o) :: r, h => by
    have h : 32 ∈ NT.sepL o ++ NT.signed p o ++ NT.tailZ r := h
    rcases List.mem_append.mp h with q | q
    · rcases List.mem_append.mp q with q | q
      · unfold NT.sepL at q
        split at q <;> simp at q
      · exact signed_no32 p o q
    · exact tail_no32 r q
theorem shown_no32 (l : List Int) : 32 ∉ NT.shownT l := fun h => by
  obtain ⟨p, o, r, he, _⟩ := NT.ents_cons l
  rw [NT.shown_ents, he] at h
  have h : 32 ∈ NT.signed p o ++ NT.tailZ r := h
  rcases List.mem_append.mp h with q | q
  · exact signed_no32 p o q
  · exact tail_no32 r q
theorem num_word {n : Nat} (h : n ≤ 60) : (TL.numL n).length ≤ 120 ∧ lowL (TL.numL n) ∧ 32 ∉ TL.numL n := by
  refine ⟨Nat.le_trans (TL.numL_len (k := 2) (by decide) (by omega)) (by decide), fun c hc => ?_, fun hc => ?_⟩
  · have := bodyL_low 0 n c (by unfold NT.bodyL; rw [if_pos rfl]; exact hc)
    exact this
  · exact NT.body_no (p := 0) (n := n) (s := 32) (.inl (by decide)) (by decide) (by unfold NT.bodyL; rw [if_pos rfl]; exact hc)
/-! ### the lines of a table -/
def lineH (n : Nat) (sz : List Nat) : List Nat := TL.joinL [32] (tabW :: (n :: sz).map TL.numL)
def lineR (row : List (List Int)) : List Nat := TL.joinL [32] (rowW :: row.map NT.shownT)
def frameL (n : Nat) (sz : List Nat) (rows : List (List (List Int))) : List (List Nat) := lineH n sz :: rows.map lineR
theorem tab_word : tabW.length ≤ 120 ∧ lowL tabW ∧ 32 ∉ tabW := ⟨by decide, fun c hc => by simp [tabW] at hc; omega, by decide⟩
theorem row_word : rowW.length ≤ 120 ∧ lowL rowW ∧ 32 ∉ rowW := ⟨by decide, fun c hc => by simp [rowW] at hc; omega, by decide⟩
theorem lineH_ok {n : Nat} {sz : List Nat} (h1 : n ≤ 60) (h2 : sz.length ≤ 17) (h3 : ∀ s ∈ sz, s ≤ 60) : LineB (lineH n sz) := ⟨_, by simp, rfl, by simp; omega, by simp; omega, fun w hw => by
  rcases List.mem_cons.mp hw with rfl | hw
  · exact tab_word
  · obtain ⟨x, hx, rfl⟩ := List.mem_map.mp hw
    refine num_word ?_
    rcases List.mem_cons.mp hx with rfl | hx
    · exact h1
    · exact h3 x hx⟩
theorem lineR_ok {k : Nat} {row : List (List Int)} (h : RowB k row) (hk : k ≤ 17) : LineB (lineR row) := ⟨_, by simp, rfl, by have := h.1; simp; omega, by have := h.1; simp; omega, fun w hw => by
  rcases List.mem_cons.mp hw with rfl | hw
  · exact row_word
  · obtain ⟨l, hl, rfl⟩ := List.mem_map.mp hw
    obtain ⟨_, a, b, c⟩ := h.2 l hl
    exact ⟨Nat.le_trans (shown_len2 a b c) (by decide), shownT_low l, shown_no32 l⟩⟩
theorem frame_ok {n : Nat} {sz : List Nat} {rows : List (List (List Int))} (h : AnyB n sz rows) : ∀ t ∈ frameL n sz rows, LineB t := fun t ht => by
  obtain ⟨h1, h2, h3, h4, h5⟩ := h
  rcases List.mem_cons.mp ht with rfl | ht
  · exact lineH_ok h1.2 h2.2 fun s m => (h3 s m).2
  · obtain ⟨row, hr, rfl⟩ := List.mem_map.mp ht
    exact lineR_ok (h5 row hr) h2.2
def pf__law_lines (ds : List PyData) (r : PyData) : Prop := ∃ n sz rows, ds = [tabD n sz rows] ∧ AnyB n sz rows ∧ r = linesD (frameL n sz rows)
def fs_any (es : List El) (Θ : Th) (R : El → Th → Prop) : Prop := ∃ (cells : List Int) (a : Nat) (left : Int), es = [.at 0] ∧ Θ = [feedO cells a left] ∧ a < 2 ^ 38 ∧ cells.length ≤ 63 ∧
  ∀ n sz rows (a' : Nat) (left' : Int) (r : Th), AnyB n sz rows → a' ≤ a + 400 → R (.d (tabD n sz rows)) (feedO cells a' left' :: r)
def fs_bentL (es : List El) (Θ : Th) (R : El → Th → Prop) : Prop := ∃ (ls : List (List Nat)) (cells : List Int) (a : Nat) (left : Int), es = [.at 0, .d (linesD ls)] ∧ Θ = [feedO cells a left] ∧ ls ≠ [] ∧ ls.length ≤ 8 ∧ (∀ t ∈ ls, LineB t) ∧ a < 2 ^ 38 ∧ cells.length ≤ 63 ∧
  ∀ ls' (a' : Nat) (left' : Int), ls'.length ≤ 20 → (∀ t ∈ ls', LineOk t) → a' ≤ a + 10 → R (.d (linesD ls')) [feedO cells a' left']
/-! ### what is told is written back by repr -/
theorem wd_map {α : Type} {f : α → PyData} {k : Nat} : ∀ {l : List α}, (∀ x ∈ l, wd (f x) ≤ k) → wdAll (l.map f) ≤ (k + 2) * l.length
  | [], _ => by simp [wdAll]
  | x :: r, h => by
    have h1 := h x List.mem_cons_self
    have h2 := wd_map (l := r) fun y m => h y (List.mem_cons_of_mem _ m)
    rw [List.map_cons, wdAll, List.length_cons, Nat.mul_add]
    omega
theorem low_map {α : Type} {f : α → PyData} : ∀ {l : List α}, (∀ x ∈ l, low (f x) = true) → lowAll (l.map f) = true
  | [], _ => by simp [lowAll]
  | x :: r, h => by
    rw [List.map_cons, lowAll, h x List.mem_cons_self, low_map fun y m => h y (List.mem_cons_of_mem _ m)]
    rfl
theorem showable_map {α : Type} {f : α → PyData} : ∀ {l : List α}, (∀ x ∈ l, (f x).showable = true) → PyData.showableAll (l.map f) = true
  | [], _ => by simp [PyData.showableAll]
  | x :: r, h => by
    rw [List.map_cons, PyData.showableAll, h x List.mem_cons_self, showable_map fun y m => h y (List.mem_cons_of_mem _ m)]
    rfl
theorem noDict_map {α : Type} {f : α → PyData} : ∀ {l : List α}, (∀ x ∈ l, (f x).hasDict = false) → PyData.hasDictAll (l.map f) = false
  | [], _ => by simp [PyData.hasDictAll]
  | x :: r, h => by
    rw [List.map_cons, PyData.hasDictAll, h x List.mem_cons_self, noDict_map fun y m => h y (List.mem_cons_of_mem _ m)]
    rfl
/-- a datum that repr writes, so long at most -/
def Rp (k dp : Nat) (d : PyData) : Prop := d.showable = true ∧ d.hasDict = false ∧ d.depth ≤ dp ∧ low d = true ∧ wd d ≤ k
theorem rp_int {i : Int} (h : i.natAbs < NT.BIG) : Rp 501 0 (.int i) := ⟨by simpa [PyData.showable] using NT.log_of h, by simp [PyData.hasDict], by simp [PyData.depth], by simp [low], by
  simp only [wd]
  have := NT.BIG_len h
  omega⟩
theorem rp_tup {α : Type} {f : α → PyData} {l : List α} {k dp m : Nat} (h : ∀ x ∈ l, Rp k dp (f x)) (hm : (k + 2) * l.length + 3 ≤ m) : Rp m (dp + 1) (.tuple (l.map f)) := by
  refine ⟨?_, ?_, ?_, ?_, ?_⟩
  · simpa [PyData.showable] using showable_map fun x q => (h x q).1
  · simpa [PyData.hasDict] using noDict_map fun x q => (h x q).2.1
  · have := depth_map (l := l) (f := f) (n := dp) fun x q => (h x q).2.2.1
    simp only [PyData.depth]
    omega
  · simpa [low] using low_map fun x q => (h x q).2.2.2.1
  · have := wd_map (l := l) (f := f) (k := k) fun x q => (h x q).2.2.2.2
    simp only [wd]
    omega
theorem Rp.le {k k' dp dp' : Nat} {d : PyData} (h : Rp k dp d) (hk : k ≤ k') (hd : dp ≤ dp') : Rp k' dp' d := ⟨h.1, h.2.1, Nat.le_trans h.2.2.1 hd, h.2.2.2.1, Nat.le_trans h.2.2.2.2 hk⟩
theorem cd_rp {K : PySem.W.Frag} {Θ : Th} {d : PyData} {k : Nat} (h : Rp k 8 d) (hk : k ≤ 16777216) : CD K Θ (rRepr K) [.d d] (.d (.str d.shown)) :=
  cd_repr h.1 h.2.1 h.2.2.1 (Nat.le_trans (shown_le d h.2.2.2.1) (Nat.le_trans h.2.2.2.2 (by rw [sizeLine_eq]; exact hk)))
theorem small_BIG {i : Nat} (h : i ≤ 1000) : ((i : Nat) : Int).natAbs < NT.BIG := by
  rw [Int.natAbs_natCast]
  exact sm_BIG (by omega)
theorem rowO_ok {n m : Nat} {t : List Nat} {row : List (List Int)} (h : rowO n m t = some row) : row.length = m ∧ ∀ l ∈ row, ∃ w ∈ wordsL t, Canon (placesN n) w l := by
  unfold rowO at h
  split at h
  · rename_i c
    have hl := allO_len h
    have he := allO_some h
    refine ⟨?_, fun l hl => ?_⟩
    · rw [hl, List.length_map, List.length_tail]
      omega
    · have : some l ∈ (wordsL t).tail.map (readO (placesN n)) := by rw [he]; exact List.mem_map.mpr ⟨l, hl, rfl⟩
      obtain ⟨w, hw, e⟩ := List.mem_map.mp this
      refine ⟨w, List.mem_of_mem_tail hw, ?_⟩
      by_cases hc : ∃ l, Canon (placesN n) w l
      · obtain ⟨l', hl'⟩ := hc
        rw [readO_some hl'] at e
        cases e
        exact hl'
      · rw [readO_none hc] at e
        cases e
  · cases h
theorem rowsO_ok {n m : Nat} : ∀ {ts : List (List Nat)} {k : Nat} {acc rows : List (List (List Int))}, rowsO n m ts k acc = .inr rows → rows.length = acc.length + ts.length ∧ ∀ row ∈ rows, row ∈ acc ∨ ∃ t ∈ ts, rowO n m t = some row
  | [], _, acc, rows, h => by
    have h : (Sum.inr acc : Nat ⊕ List (List (List Int))) = .inr rows := h
    cases h
    exact ⟨rfl, fun row m => .inl m⟩
  | t :: r, k, acc, rows, h => by
    cases q : rowO n m t with
    | none => rw [rows_bad q] at h; cases h
    | some row0 =>
      rw [rows_ok q] at h
      obtain ⟨h1, h2⟩ := rowsO_ok h
      refine ⟨by rw [h1, List.length_append, List.length_cons, List.length_cons, List.length_nil]; omega, fun row hr => ?_⟩
      rcases h2 row hr with m | ⟨t', ht, e⟩
      · rcases List.mem_append.mp m with m | m
        · exact .inl m
        · rw [List.mem_singleton.mp m]
          exact .inr ⟨t, List.mem_cons_self, q⟩
      · exact .inr ⟨t', List.mem_cons_of_mem _ ht, e⟩
theorem rp_out {ls : List (List Nat)} (h1 : ls.length ≤ 20) (h2 : ∀ t ∈ ls, LineOk t) : Rp 16000000 8 (outD (tableO ls)) := by
  cases q : tableO ls with
  | inl k =>
    have : k ≤ 1000 := by
      cases ls with
      | nil =>
        have q : (Sum.inl 0 : Nat ⊕ (Nat × List Nat × List (List (List Int)))) = .inl k := q
        cases q
        omega
      | cons t r =>
        cases hh : headO t with
        | none => rw [table_bad hh] at q; cases q; omega
        | some p =>
          obtain ⟨n, sz⟩ := p
          have key : ∀ (ts : List (List Nat)) (j : Nat) (acc : List (List (List Int))) (k : Nat), rowsO n sz.length ts j acc = .inl k → k < j + ts.length := by
            intro ts
            induction ts with
            | nil => intro j acc k h; have h : (Sum.inr acc : Nat ⊕ List (List (List Int))) = .inl k := h; cases h
            | cons t r ih =>
              intro j acc k h
              cases q : rowO n sz.length t with
              | none => rw [rows_bad q] at h; cases h; simp
              | some row0 =>
                rw [rows_ok q] at h
                have := ih _ _ _ h
                rw [List.length_cons]
                omega
          cases hr : rowsO n sz.length r 1 [] with
          | inl j =>
            rw [table_row hh hr] at q
            cases q
            have := key _ _ _ _ hr
            rw [List.length_cons] at h1
            omega
          | inr rows =>
            cases rows with
            | nil => rw [table_none hh hr] at q; cases q; omega
            | cons a b => rw [table_all hh hr] at q; cases q
    exact (rp_int (small_BIG this)).le (by decide) (by decide)
  | inr p =>
    obtain ⟨n, sz, rows⟩ := p
    obtain ⟨t, r, rfl⟩ : ∃ t r, ls = t :: r := by
      cases ls with
      | nil => have q : (Sum.inl 0 : Nat ⊕ (Nat × List Nat × List (List (List Int)))) = _ := q; cases q
      | cons t r => exact ⟨t, r, rfl⟩
    cases hh : headO t with
    | none => rw [table_bad hh] at q; cases q
    | some p =>
      obtain ⟨n', sz'⟩ := p
      cases hr : rowsO n' sz'.length r 1 [] with
      | inl j => rw [table_row hh hr] at q; cases q
      | inr rows' =>
        cases rows' with
        | nil => rw [table_none hh hr] at q; cases q
        | cons a b =>
          rw [table_all hh hr] at q
          cases q
          obtain ⟨b1, b2, b3, b4, b5⟩ := headO_bd hh
          obtain ⟨r1, r2⟩ := rowsO_ok hr
          have hpl := placesN_le n
          have hrow : ∀ row ∈ (a :: b), Rp 490000 2 (rowD row) := fun row hm => by
            rcases r2 row hm with m | ⟨t', ht', e⟩
            · cases m
            · obtain ⟨e1, e2⟩ := rowO_ok e
              refine rp_tup (k := 30200) (dp := 1) (fun l hl => ?_) (by have : 30202 * row.length ≤ 30202 * 16 := Nat.mul_le_mul (Nat.le_refl _) (by omega); omega)
              obtain ⟨w, hw, hc⟩ := e2 l hl
              have hwl := (h2 t' (List.mem_cons_of_mem _ ht')).2.2 w hw
              have hb := big_of_shown (l := l) (k := 120) (by rw [hc.2]; exact hwl) (by decide)
              have hll : l.length ≤ 60 := by rw [hc.1]; omega
              exact rp_tup (k := 501) (dp := 0) (fun o ho => rp_int (hb o ho)) (by have : 503 * l.length ≤ 503 * 60 := Nat.mul_le_mul (Nat.le_refl _) hll; omega)
          have hrl : (a :: b).length ≤ 20 := by
            rw [r1]
            simp at h1 ⊢
            omega
          have R1 : Rp 9900000 3 (.tuple ((a :: b).map rowD)) := rp_tup hrow (by have : 490002 * (a :: b).length ≤ 490002 * 20 := Nat.mul_le_mul (Nat.le_refl _) hrl; omega)
          have R2 : Rp 9900000 3 (.tuple (sz.map fun s : Nat => .int (s : Int))) := (rp_tup (k := 501) (dp := 0) (m := 9000) (fun s hs => rp_int (small_BIG (by have := (b5 s hs).2; omega))) (by have : 503 * sz.length ≤ 503 * 16 := Nat.mul_le_mul (Nat.le_refl _) b4; omega)).le (by decide) (by decide)
          have R3 : Rp 501 0 (.int (n : Int)) := rp_int (small_BIG (by omega))
          unfold outD tabD
          obtain ⟨p1, p2, p3, p4, p5⟩ := R1
          obtain ⟨q1, q2, q3, q4, q5⟩ := R2
          obtain ⟨s1, s2, s3, s4, s5⟩ := R3
          -- the sizes are short
          have q5' : wd (.tuple (sz.map fun s : Nat => .int (s : Int))) ≤ 9000 := (rp_tup (k := 501) (dp := 0) (m := 9000) (fun s hs => rp_int (small_BIG (by have := (b5 s hs).2; omega))) (by have : 503 * sz.length ≤ 503 * 16 := Nat.mul_le_mul (Nat.le_refl _) b4; omega)).2.2.2.2
          refine ⟨?_, ?_, ?_, ?_, ?_⟩
          · simp only [PyData.showable, PyData.showableAll, Bool.and_true, Bool.and_eq_true]
            simp only [PyData.showable] at p1 q1 s1
            exact ⟨s1, q1, p1⟩
          · simp only [PyData.hasDict, PyData.hasDictAll, Bool.or_false, Bool.or_eq_false_iff]
            simp only [PyData.hasDict] at p2 q2 s2
            exact ⟨trivial, q2, p2⟩
          · simp only [PyData.depth, PyData.depthAll] at p3 q3 ⊢
            omega
          · simp only [low, lowAll, Bool.and_true, Bool.and_eq_true]
            simp only [low] at p4 q4
            exact ⟨trivial, q4, p4⟩
          · simp only [wd, wdAll] at p5 q5' s5 ⊢
            omega
theorem txt_join (ws : List (List Nat)) : Txt.join (Str.ofString " ") (ws.map S) = S (TL.joinL [32] ws) := by
  rw [TL.join_eq, tl_joinS]
theorem join_sz {ws : List (List Nat)} (h : WordsB ws) : ((ws.map S).map (·.length)).sum + (ws.map S).length * (Str.ofString " ").length ≤ 16777216 := by
  have key : ∀ ws : List (List Nat), (∀ w ∈ ws, w.length ≤ 120) → ((ws.map S).map (·.length)).sum ≤ 120 * ws.length := by
    intro ws
    induction ws with
    | nil => intro _; simp
    | cons p r ih =>
      intro h
      have h1 := h p List.mem_cons_self
      have h2 := ih fun w m => h w (List.mem_cons_of_mem _ m)
      simp only [List.map_cons, List.sum_cons, List.length_cons, S_len]
      omega
  have h1 := key ws fun w m => (h.2 w m).1
  have h2 : (Str.ofString " ").length = 1 := rfl
  have := h.1
  rw [h2, List.length_map]
  omega
theorem nz_zeros (l : List Int) : ∀ k, NT.nz (l ++ List.replicate k 0) = NT.nz l
  | 0 => by simp
  | k + 1 => by
    rw [List.replicate_succ', ← List.append_assoc, NT.nz_snoc, nz_zeros l k, if_pos rfl, List.append_nil]
theorem join_nil : TL.joinL [32] [] = [] := rfl
theorem lines_cut (ls : List (List Nat)) (k : Nat) : (ls.map fun t => PyData.str (S t)).take k = (ls.take k).map fun t => PyData.str (S t) := List.map_take.symm
theorem lines_dropped (ls : List (List Nat)) (k : Nat) : (ls.map fun t => PyData.str (S t)).drop k = (ls.drop k).map fun t => PyData.str (S t) := List.map_drop.symm
def pf_lawL (ds : List PyData) (r : PyData) : Prop := ∃ c : List Int, ds = [.list (c.map .int)] ∧ c.length ≤ 63 ∧ r = .bool true
end TX
namespace TX
open PySem PySem.Spec PyProof.Rows L2 DL
section
variable {K : PySem.W.Frag} {Γ : Gm} {Θ : Th} {ta : TA} {cells : List Int} {a : Nat} {left : Int} {k : Nat} {E' : XK} {Pp : El → Gm → Th → Prop}
theorem eg_any (ha : AV K ta Γ Θ [.at k]) (hk : Θ[k]? = some (feedO cells a left)) (h3 : a < 2 ^ 38) (h4 : cells.length ≤ 63)
    (h : ∀ n sz rows (a' : Nat) (left' : Int), AnyB n sz rows → a' ≤ a + 400 → Pp (.d (tabD n sz rows)) Γ (Θ.set k (feedO cells a' left'))) : EG K (tCall (spM K 1 fs_any) [] E' ta) Γ Θ Pp :=
  eg_lend ha (.own .nil) hk (feed_flat _ _ _) (by simp) ⟨cells, a, left, rfl, rfl, h3, h4, fun n sz rows a' left' r hA ha' => ⟨trivial, _, r, rfl, feed_flat _ _ _, h n sz rows a' left' hA ha'⟩⟩
theorem eg_bentL {ls : List (List Nat)} (ha : AV K ta Γ Θ [.at k, .d (linesD ls)]) (hk : Θ[k]? = some (feedO cells a left)) (h1 : ls ≠ []) (h2 : ls.length ≤ 8) (h3 : ∀ t ∈ ls, LineB t) (h4 : a < 2 ^ 38) (h5 : cells.length ≤ 63)
    (h : ∀ ls' (a' : Nat) (left' : Int), ls'.length ≤ 20 → (∀ t ∈ ls', LineOk t) → a' ≤ a + 10 → Pp (.d (linesD ls')) Γ (Θ.set k (feedO cells a' left'))) : EG K (tCall (spM K 2 fs_bentL) [] E' ta) Γ Θ Pp :=
  eg_lend ha (.own (.d .nil)) hk (feed_flat _ _ _) (by simp) ⟨ls, cells, a, left, rfl, rfl, h1, h2, h3, h4, h5, fun ls' a' left' l1 l2 l3 => ⟨trivial, _, [], rfl, feed_flat _ _ _, h ls' a' left' l1 l2 l3⟩⟩
end
end TX
namespace TX
open PySem PySem.Spec PyProof.Rows L2 DL
section
variable {K : PySem.W.Frag} {Γ : Gm} {Θ : Th} {te ti : TE} {l : List (List Nat)} {k : Nat}
def wD (t : List Nat) : PyData := .str (S t)
theorem en_takeW (h1 : EV K te Γ Θ (.d (.list (l.map wD)))) (h2 : EV K ti Γ Θ (.d (.int (k : Int)))) : EN K (tSl (fun x lo hi H Q => rSlS x lo hi H Q ∨ (fun x lo hi H Q => rSlA K x lo hi H Q ∨ rSlL K x lo hi H Q) x lo hi H Q) te tNoPart (tPart ti)) Γ Θ (.lst (((l.take k).map wD).map .d)) :=
  (en_slL h1 ov_none (ov_some h2)).is (by rw [cutD_to, ← List.map_take])
theorem en_dropW (h1 : EV K te Γ Θ (.d (.list (l.map wD)))) (h2 : EV K ti Γ Θ (.d (.int (k : Int)))) : EN K (tSl (fun x lo hi H Q => rSlS x lo hi H Q ∨ (fun x lo hi H Q => rSlA K x lo hi H Q ∨ rSlL K x lo hi H Q) x lo hi H Q) te (tPart ti) tNoPart) Γ Θ (.lst (((l.drop k).map wD).map .d)) :=
  (en_slL h1 (ov_some h2) ov_none).is (by rw [cutD_from, ← List.map_drop])
theorem en_oneW {x : List Nat} (h : EV K te Γ Θ (.d (wD x))) : EN K (tLst (tCons te tNil)) Γ Θ (.lst (([x].map wD).map .d)) := en_lst (av_cons h av_nil) (by show 1 ≤ sizeLine; decide)
theorem en_catW {ta tb : TE} {x y : List (List Nat)} (ha : EN K ta Γ Θ (.lst ((x.map wD).map .d))) (hb : EN K tb Γ Θ (.lst ((y.map wD).map .d))) (hz : x.length + y.length ≤ 1000) : EN K (tOp (rAddX K) ta tb) Γ Θ (.lst (((x ++ y).map wD).map .d)) :=
  (en_catFF ha hb (by simp only [List.length_map]; exact le_sizeLine (by omega))).is (by simp)
theorem ev_joinW {x : List (List Nat)} (hb : EV K te Γ Θ (.d (.list (x.map wD)))) (h : WordsB x) : EV K (tM1 (rJoin K) (tC (.str (Str.ofString " "))) te) Γ Θ (.d (wD (TL.joinL [32] x))) :=
  EV.is (ev_join (a := Str.ofString " ") (ys := x.map S) ev_str (EV.is hb (by rw [List.map_map]; rfl)) (join_sz h)) (by rw [txt_join]; rfl)
end
def WOk (w : List Nat) : Prop := w.length ≤ 120 ∧ lowL w ∧ 32 ∉ w
def oddW : List Str := ["", "0", "00", "01", "60", "61", "-1", "7", "1", "table", "row", "z", "1z", "+1", "z60", "z+1", "Row", "x"].map Str.ofString
theorem oddW_ok : ∀ s ∈ oddW, WOk (TL.tl s) := by
  have h1 : ∀ s ∈ oddW, (TL.tl s).length ≤ 20 ∧ (TL.tl s).all (fun c => decide (c < 1114112)) = true ∧ 32 ∉ TL.tl s := by decide +kernel
  exact fun s hs => ⟨Nat.le_trans (h1 s hs).1 (by decide), fun c hc => of_decide_eq_true (List.all_eq_true.mp (h1 s hs).2.1 c hc), (h1 s hs).2.2⟩
end TX

namespace T63
open PySem PySem.Spec PyProof.Rows L2 DL TX
local macro_rules | `(tactic| walk_at "rd") => `(tactic| first
  | exact rd_I0i | exact rd_I0b
  | exact rd_l rd_I0i | apply rd_Ii | (apply rd_l; apply rd_Ii)
  | exact rd_l rd_eqI | exact rd_l rd_neI | exact rd_l rd_eqS | exact rd_l rd_neS | exact rd_l rd_eqB
  | (apply rd_r; apply rd_eq) | (apply rd_r; apply rd_ne)
  | (apply rd_r; apply rd_l; apply rd_strs) | (apply rd_r; apply rd_r; apply rd_l; apply rd_catT)
  | (apply rd_r; apply rd_l; apply rd_ixT) | (apply rd_l; apply rd_ixL) | (apply rd_r; apply rd_r; apply rd_ixS) | (apply rd_l; apply rd_ixO (by rfl))
  | (apply rd_r; apply rd_l; apply rd_repT) | exact ev_in_sign)
local macro_rules | `(tactic| walk_at "cd") => `(tactic| first
  | exact cd_l cd_lenT | exact cd_l cd_lenL | exact cd_l (cd_lenO (by rfl)) | (apply cd_r; apply cd_lenS)
  | (apply cd_l; apply cd_strI) | (apply cd_r; apply cd_intS) | exact cd_l cd_intB | exact cd_abs | exact cd_min | exact cd_max
  | exact cd_all | exact cd_any | apply cd_repr | exact cd_tupL | exact cd_tupT | exact cd_tupO (by rfl))
local macro_rules | `(tactic| walk_at "ev") => `(tactic| repeat' (first
  | exact ev_int | exact ev_str | exact ev_bl | exact ev_non | exact ev_var (by rfl)
  | exact av_nil | with_reducible apply av_cons
  | with_reducible apply ev_op | walk_at "rd" | with_reducible apply ev_neg | with_reducible apply ev_isN | with_reducible apply ev_notN
  | with_reducible apply ev_cb | walk_at "cd"
  | with_reducible apply ev_callX | (show List.map El.d (List.map unD _) = _; rfl) | (show List.length (List.map unD _) = _; rfl) | (show List.length (List.cons _ _) ≤ sizeLine; exact le_sizeLine (by simp only [List.length_cons, List.length_nil]; omega))
  | with_reducible apply ev_tupX | with_reducible apply ev_lstX | with_reducible apply ev_tupY | with_reducible apply ev_lstY | (show _ = List.map El.d _; rfl) | with_reducible apply ev_slS | with_reducible apply ev_slT | exact ov_none | apply ov_some
  | with_reducible apply ev_partition
  | with_reducible apply tv_test | with_reducible apply tv_B | with_reducible apply tv_not))
def topS (i : Nat) : Stmt := PySem.Challenge.pw_classtab_k63_lines_of_no_table.main.body.getD i (.Pass ⟨0, 0, 0, 0⟩)
section
variable {P : Program} {w : World} {K : PySem.W.Frag} {mg : Str → Option Value} {base : Heap}
abbrev s_shared : Stmt := topS 15
theorem sc_shared : FnScope ["one", "other"] ["one", "other"] (defScope s_shared) := ⟨rfl, rfl, rfl, by decide +kernel, rfl, by decide +kernel, by decide +kernel⟩
theorem c_shared (D : At K mg "shared" s_shared ["one", "other"]) : Cal P w K mg base CX0 1 "shared" ["one", "other"] (spP K 2 pf_shared) := by
  refine cal_mk0 D sc_shared (fun vs H Q E h => spP_len h) fun f cdv A outer s H vs Q E hg hr h => ?_
  have hu := hu_of hr
  refine ⟨_, (pss_cons (ps_while PassesOwn.never (pt_cmpR op_gt (pv 1) pe_int (nomark _))
      (pss_one (ps_par (i := 0) (j := 1) (by rfl) sc_shared.nd rfl rfl (by decide) rfl rfl (pa_cons (pv 1) (pa_cons (pe_op op_modN (pv 0) (pv 1)) pa_nil)) (by rfl))))
      (pss_one (ps_ret (pv 0)))), body_pure h fun ds r hn hp => ?_⟩
  obtain ⟨a, b, rfl, rfl⟩ := hp
  refine sg_seq (sg_while (fun m Γ Θ => ∃ x : Nat, Γ = [some (.d (.int x)), some (.d (.int m))] ∧ Θ = [] ∧ Nat.gcd x m = Nat.gcd a b) b ⟨a, rfl, rfl, rfl⟩ ?_)
  rintro m Γ' Θ' ⟨x, rfl, rfl, hg⟩
  apply wh_step
  · walk_at "ev"
  · intro hb
    have hm : 0 < m := by simpa using hb
    refine sg_par (x := .d (.int m)) (y := .d (.int ((x : Int).fmod m))) ?_ ?_
    · walk_at "ev"
      omega
    · have e : (x : Int).fmod m = ((x % m : Nat) : Int) := by
        rw [Int.fmod_eq_emod_of_nonneg _ (by omega)]; rfl
      refine ⟨x % m, Nat.mod_lt _ hm, m, by rw [e]; rfl, rfl, ?_⟩
      rw [← hg, Nat.gcd_comm x m, Nat.gcd_rec m x, Nat.gcd_comm]
  · intro hb
    have hm : m = 0 := by
      have : ¬ 0 < m := by simpa using hb
      omega
    subst hm
    refine sg_retV (by walk_at "ev") ?_
    rw [← hg, Nat.gcd_zero_right]
abbrev s_places : Stmt := topS 16
theorem sc_places : FnScope ["n", "k"] ["n"] (defScope s_places) := ⟨rfl, rfl, rfl, by decide +kernel, rfl, by decide +kernel, by decide +kernel⟩
theorem c_places (D : At K mg "places" s_places ["n"]) (m_len : mg "len" = none) (m_range : mg "range" = none) (C_shared : Cal P w K mg base CX0 1 "shared" ["one", "other"] (spP K 2 pf_shared)) : Cal P w K mg base CX0 2 "places" ["n"] (spP K 1 pf_places) := by
  refine cal_mk0 D sc_places (fun vs H Q E h => spP_len h) fun f cdv A outer s H vs Q E hg hr h => ?_
  have hu := hu_of hr
  refine ⟨_, (pss_one (ps_ret (pe_callB (kx_len (K := K) rfl) (by rfl) m_len (by decide +kernel) (pa_cons (pe_lc (own := [("k", 1)]) (by rfl) sc_places.nd (pi_range2 (by rfl) m_range (pa_cons pe_int (pa_cons (pe_op (kx_add (K := K) rfl) (pv 0) pe_int) pa_nil))) (blkOk_by (N := ["n", "k"]) (sc := defScope s_places) (by decide +kernel)) (fun _ _ _ _ _ => (pg_name (i := 1) sc_places.nd rfl (by first | exact Or.inl rfl | exact Or.inr rfl))) (fun _ _ _ _ _ => (pts_one (pt_cmpR (kx_eq (K := K) rfl hr.units) (pe_callC C_shared hg hr pass0 (by rfl) (pa_cons (pv 1) (pa_cons (pv 0) pa_nil))) pe_int (nomark _)))) (fun _ _ _ _ _ => (pv 1))) pa_nil)))), body_pure h fun ds r hn hp => ?_⟩
  obtain ⟨n, rfl, hn, rfl⟩ := hp
  refine sg_retV ?_ rfl
  apply ev_cb
  · apply av_cons
    · apply EN.ev
      apply en_filt (l := List.range n) (en := fun i : Nat => PyData.int (1 + (i : Int))) (f := fun i : Nat => PyData.int (1 + (i : Int))) (p := fun i => decide (Nat.gcd (1 + i) n = 1))
      · refine IS.cast (xs := (List.range ((n : Int) + 1 - 1).toNat).map fun i : Nat => PyData.int (1 + (i : Int))) (IV.is (iv_rng2 (m := 1) (n := (n : Int) + 1) (by walk_at "ev") (by decide) (by decide) (by omega) (by omega))) ?_
        rw [show ((n : Int) + 1 - 1).toNat = n by omega]
      · intro a ha
        refine TV.is (a := decide (((Nat.gcd (1 + a) n : Nat) : Int) = 1)) (by walk_at "ev"; exact ⟨1 + a, n, by push_cast; rfl, rfl⟩) ?_
        congr 1
        exact propext ⟨fun z => by omega, fun z => by omega⟩
      · intro a ha _
        walk_at "ev"
      · rw [List.length_range]; exact lt_sizeLine (by omega)
    · exact av_nil
  · refine (show (PyData.int (made (List.range n) (fun i => decide (Nat.gcd (1 + i) n = 1)) (fun i : Nat => PyData.int (1 + (i : Int)))).length) = .int (placesN n : Nat) from ?_) ▸ cd_l cd_lenL
    unfold made placesN
    rw [List.length_map]
abbrev s_shown_place : Stmt := topS 19
theorem sc_shown_place : FnScope ["power", "often", "ahead"] ["power", "often"] (defScope s_shown_place) := ⟨rfl, rfl, rfl, by decide +kernel, rfl, by decide +kernel, by decide +kernel⟩
theorem c_shown_place (D : At K mg "shown_place" s_shown_place ["power", "often"]) (m_str : mg "str" = none) : Cal P w K mg base CX0 1 "shown_place" ["power", "often"] (spP K 2 pf_shown_place) := by
  refine cal_mk0 D sc_shown_place (fun vs H Q E h => spP_len h) fun f cdv A outer s H vs Q E hg hr h => ?_
  have hu := hu_of hr
  refine ⟨_, (pss_cons (ps_if (pt_cmpR (kx_eq (K := K) rfl hr.units) (pv 0) pe_int (nomark _))
      (pss_one (ps_ret (pe_callTy cx_str (by rfl) m_str (by decide +kernel) (pa_cons (pv 1) pa_nil))))
      pss_nil)
      (pss_cons (ps_set (i := 2) sc_shown_place.nd rfl (by first | exact Or.inl rfl | exact Or.inr rfl) (pe_dget2 hu (pe_disp (pps_cons pe_int pe_str (pps_cons (pe_un un_neg pe_int) pe_str pps_nil)) (by rfl) (by rfl) (fun z => by cases z) (by decide)) (pv 1) (pe_callTy cx_str (by rfl) m_str (by decide +kernel) (pa_cons (pv 1) pa_nil)) ⟨rfl, rfl, rfl, rfl⟩))
      (pss_cons (ps_if (pt_cmpR (kx_eq (K := K) rfl hr.units) (pv 0) pe_int (nomark _))
      (pss_one (ps_ret (pe_op (kx_add (K := K) rfl) (pv 2) pe_str)))
      pss_nil)
      (pss_one (ps_ret (pe_op (kx_add (K := K) rfl) (pe_op (kx_add (K := K) rfl) (pv 2) pe_str) (pe_callTy cx_str (by rfl) m_str (by decide +kernel) (pa_cons (pv 0) pa_nil)))))))), body_pure h fun ds r hn hp => ?_⟩
  obtain ⟨p, o, rfl, hp, ho, hb, rfl⟩ := hp
  have hl := NT.log_of hb
  have hlp : ((p : Int).natAbs).log2 < 1920 := NT.log_of (by rw [Int.natAbs_natCast]; exact sm_BIG (by omega))
  have len : (TL.tl (Str.ofString (toString o))).length ≤ 600 := by
    rw [NT.tl_int]
    have := NT.BIG_len hb
    split <;> simp <;> omega
  have lenp : (TL.tl (Str.ofString (toString (p : Int)))).length ≤ 600 := by
    rw [NT.tl_int]
    have := TL.numL_len (n := p) (k := 3) (by decide) (by simp; omega)
    rw [Int.natAbs_natCast]
    split <;> simp <;> omega
  refine sg_seq ?_
  apply sg_if
  · walk_at "ev"
  · intro h0
    have hp0 : p = 0 := by simpa using h0
    subst hp0
    refine sg_retV (x := .d (.str (Str.ofString (toString o)))) ?_ ?_
    · walk_at "ev"
      exact hl
    · refine congrArg (fun z => El.d (.str z)) (TL.ext_tl ?_)
      rw [NT.tl_int]
      rfl
  · intro h0
    have hp0 : p ≠ 0 := by simpa using h0
    refine sg_next ?_
    refine sg_seq (sg_asg (x := .d (.str (if o = 1 then Str.ofString "" else if o = -1 then Str.ofString "-" else Str.ofString (toString o)))) ?_ ?_)
    · refine ev_getFresh (kvs := mergeE [] [(.inl 1, .d (.str (Str.ofString ""))), (.inl (-1), .d (.str (Str.ofString "-")))]) (key := .inl o) ?_ ?_ ?_ ?_ (z := .str (Str.ofString (toString o)))
      · apply en_disp
        · apply pv_cons
          · exact ev_int
          · exact ev_str
          · apply pv_cons
            · exact ev_neg ev_int
            · exact ev_str
            · exact pv_nil
        · decide
      · exact ev_var (by rfl)
      · walk_at "ev"
        exact hl
      · by_cases h1 : o = 1
        · subst h1; rfl
        · rw [if_neg h1]
          by_cases h2 : o = -1
          · subst h2; rfl
          · rw [if_neg h2]
            have e1 : ¬ ((Sum.inl 1 : Key) = Sum.inl o) := fun z => h1 (by cases z; rfl)
            have e2 : ¬ ((Sum.inl (-1) : Key) = Sum.inl o) := fun z => h2 (by cases z; rfl)
            have e3 : mergeE [] [(.inl 1, .d (.str (Str.ofString ""))), (.inl (-1), .d (.str (Str.ofString "-")))] = [(Sum.inl 1, El.d (.str (Str.ofString ""))), (Sum.inl (-1), El.d (.str (Str.ofString "-")))] := rfl
            rw [e3]
            unfold lookE
            rw [if_neg e1]
            unfold lookE
            rw [if_neg e2]
            rfl
    · generalize ea : (if o = 1 then Str.ofString "" else if o = -1 then Str.ofString "-" else Str.ofString (toString o)) = ah
      have hz : TL.tl (Str.ofString "z") = [122] := rfl
      have la : TL.tl ah = (if o < 0 then [45] else []) ++ (if o.natAbs = 1 then [] else TL.numL o.natAbs) := by
        rw [← ea]
        by_cases h1 : o = 1
        · subst h1; rfl
        · rw [if_neg h1]
          by_cases h2 : o = -1
          · subst h2; rfl
          · rw [if_neg h2, NT.tl_int, if_neg (show ¬ o.natAbs = 1 by omega)]
      have ll : (TL.tl ah).length ≤ 600 := by
        rw [← ea]
        by_cases h1 : o = 1
        · subst h1; decide
        · rw [if_neg h1]
          by_cases h2 : o = -1
          · subst h2; decide
          · rw [if_neg h2]; exact len
      refine sg_seq ?_
      apply sg_if
      · walk_at "ev"
      · intro h3
        have h3 : p = 1 := by have := of_decide_eq_true h3; omega
        refine sg_retV (x := .d (.str (ah ++ Str.ofString "z"))) ?_ ?_
        · walk_at "ev"
          rw [str_len, str_len, hz]
          exact le_sizeLine (by simp only [List.length_append, List.length_cons, List.length_nil]; omega)
        · refine congrArg (fun z => El.d (.str z)) (TL.ext_tl ?_)
          rw [TL.tl_append, hz, la]
          show _ = NT.signed p o
          unfold NT.signed NT.bodyL
          rw [if_neg hp0, if_pos h3]
          simp
      · intro h3
        have h3 : p ≠ 1 := by have := of_decide_eq_false h3; omega
        refine sg_next ?_
        refine sg_retV (x := .d (.str ((ah ++ Str.ofString "z") ++ Str.ofString (toString (p : Int))))) ?_ ?_
        · walk_at "ev"
          · rw [str_len, str_len, hz]
            exact le_sizeLine (by simp only [List.length_append, List.length_cons, List.length_nil]; omega)
          · exact hlp
          · rw [str_len, str_len, TL.tl_append, hz]
            exact le_sizeLine (by simp only [List.length_append, List.length_cons, List.length_nil]; omega)
        · refine congrArg (fun z => El.d (.str z)) (TL.ext_tl ?_)
          rw [TL.tl_append, TL.tl_append, hz, la, NT.tl_int]
          show _ = NT.signed p o
          unfold NT.signed NT.bodyL
          rw [if_neg hp0, if_neg h3, if_neg (show ¬ ((p : Int) < 0) by omega)]
          simp
abbrev s_shown_number : Stmt := topS 20
theorem sc_shown_number : FnScope ["one", "found", "power", "often"] ["one"] (defScope s_shown_number) := ⟨rfl, rfl, rfl, by decide +kernel, rfl, by decide +kernel, by decide +kernel⟩
theorem c_shown_number (D : At K mg "shown_number" s_shown_number ["one"]) (m_enumerate : mg "enumerate" = none) (C_shown_place : Cal P w K mg base CX0 1 "shown_place" ["power", "often"] (spP K 2 pf_shown_place)) : Cal P w K mg base CX0 2 "shown_number" ["one"] (spP K 1 pf_shown_number) := by
  refine cal_mk0 D sc_shown_number (fun vs H Q E h => spP_len h) fun f cdv A outer s H vs Q E hg hr h => ?_
  have hu := hu_of hr
  refine ⟨_, (pss_cons (ps_set (i := 1) sc_shown_number.nd rfl (by first | exact Or.inl rfl | exact Or.inr rfl) pe_str)
      (pss_cons (ps_for PassesOwn.never rfl (kx_enum (K := K) rfl (by rfl) m_enumerate (pa_cons (pv 0) pa_nil)) (kx_gtup (K := K) rfl (by rfl) (pgs_cons (pg_name (i := 2) sc_shown_number.nd rfl (by first | exact Or.inl rfl | exact Or.inr rfl)) (pgs_cons (pg_name (i := 3) sc_shown_number.nd rfl (by first | exact Or.inl rfl | exact Or.inr rfl)) pgs_nil)))
      (pss_one (ps_if (pt_cmpR (kx_ne (K := K) rfl hr.units) (pv 3) pe_int (nomark _))
      (pss_cons (ps_if (PW.pt (pw_and (pt_cmpR (kx_ne (K := K) rfl hr.units) (pv 1) pe_str (nomark _)) (pw_and1 (pt_cmpR op_gt (pv 3) pe_int (nomark _)))))
      (pss_one (ps_set (i := 1) sc_shown_number.nd rfl (by first | exact Or.inl rfl | exact Or.inr rfl) (pe_op (kx_add (K := K) rfl) (pv 1) pe_str)))
      pss_nil)
      (pss_one (ps_set (i := 1) sc_shown_number.nd rfl (by first | exact Or.inl rfl | exact Or.inr rfl) (pe_op (kx_add (K := K) rfl) (pv 1) (pe_callC C_shown_place hg hr pass0 (by rfl) (pa_cons (pv 2) (pa_cons (pv 3) pa_nil)))))))
      pss_nil)))
      (pss_cons (ps_if (pt_cmpR (kx_eq (K := K) rfl hr.units) (pv 1) pe_str (nomark _))
      (pss_one (ps_ret pe_str))
      pss_nil)
      (pss_one (ps_ret (pv 1)))))), body_pure h fun ds r hn hp => ?_⟩
  obtain ⟨l, hds, hl, hb, rfl⟩ := hp
  obtain ⟨x0, hd, hx0⟩ : ∃ x0, ds = [x0] ∧ (x0 = .tuple (l.map .int) ∨ x0 = .list (l.map .int)) := by
    rcases hds with h | h
    · exact ⟨_, h, .inl rfl⟩
    · exact ⟨_, h, .inr rfl⟩
  subst hd
  refine sg_seq (sg_asg (x := .d (.str (Str.ofString ""))) (by walk_at "ev") ?_)
  refine sg_seq ?_
  refine sg_for (l := (l.map PyData.int).zipIdx) (en := fun p => .tuple [.int (p.2 : Nat), p.1]) ?_ (fun i Γ Θ => Θ = [] ∧ ∃ fnd u v, Γ = [some (.d x0), some (.d (.str fnd)), u, v] ∧ TL.tl fnd = NT.shownZ (NT.nz (l.take i))) ?_ ?_ ?_
  · rcases hx0 with rfl | rfl
    · exact iv_enumT (av_cons (ev_var (by rfl)) av_nil)
    · exact iv_enumL (av_cons (ev_var (by rfl)) av_nil)
  · exact ⟨rfl, _, _, _, rfl, rfl⟩
  · rintro i a Γ' Θ' ha ⟨rfl, fnd, u, v, rfl, hf⟩
    rw [List.getElem?_zipIdx] at ha
    obtain ⟨o, ho, hoe⟩ : ∃ o, l[i]? = some o ∧ a = (.int o, i) := by
      rw [List.getElem?_map] at ha
      cases hq : l[i]? with
      | none => rw [hq] at ha; cases ha
      | some o => rw [hq] at ha; cases ha; exact ⟨o, rfl, by rw [Nat.zero_add]⟩
    subst hoe
    have hi := (List.getElem?_eq_some_iff.mp ho).1
    have hi3 : i < 10 ^ 3 := by omega
    have hbo := hb o (List.mem_of_getElem? ho)
    have htk : l.take (i + 1) = l.take i ++ [o] := by rw [List.take_add_one, ho]; rfl
    have hlen : (l.take i).length = i := by rw [List.length_take]; omega
    have hfl := shown_len hl hb i
    rw [← hf] at hfl
    refine ⟨_, _, gv_tup rfl (gvs_cons gv_name (gvs_cons gv_name gvs_nil)), ?_⟩
    apply sg_if
    · walk_at "ev"
    · intro h0
      have h0 : o ≠ 0 := by simpa using h0
      have hsl := NT.signed_len (p := i) hi3 hbo
      refine sg_seq ?_
      refine sg_mid (fun Γ Θ => Θ = [] ∧ ∃ g, Γ = [some (.d x0), some (.d (.str g)), some (.d (.int i)), some (.d (.int o))] ∧ TL.tl g = TL.tl fnd ++ (if NT.nz (l.take i) = [] then [] else NT.sepL o)) ?_ ?_
      · apply sg_if
        · apply tv_and
          · walk_at "ev"
          · intro _
            walk_at "ev"
        · intro hc
          have hc : fnd ≠ Str.ofString "" ∧ 0 < o := by simpa using hc
          have hn : NT.nz (l.take i) ≠ [] := fun z => hc.1 (TL.ext_tl (by rw [hf, z]; rfl))
          refine sg_asg (x := .d (.str (fnd ++ Str.ofString "+"))) ?_ ⟨rfl, _, rfl, ?_⟩
          · walk_at "ev"
            rw [str_len, str_len]
            show _ + 1 ≤ _
            exact le_sizeLine (by omega)
          · rw [if_neg hn, TL.tl_append]
            unfold NT.sepL
            rw [if_pos hc.2]
            rfl
        · intro hc
          have hc : fnd ≠ Str.ofString "" → ¬ 0 < o := by simpa using hc
          refine sg_next ⟨rfl, fnd, rfl, ?_⟩
          by_cases hn : NT.nz (l.take i) = []
          · rw [if_pos hn, List.append_nil]
          · have hfn : fnd ≠ Str.ofString "" := fun z => hn (NT.shownZ_nil.mp (by rw [← hf, z]; rfl))
            unfold NT.sepL
            rw [if_neg hn, if_neg (hc hfn), List.append_nil]
      · rintro Γ Θ ⟨rfl, g, rfl, hg⟩
        refine sg_asg (x := .d (.str (g ++ ⟨(NT.signed i o).toArray⟩))) ?_ ⟨rfl, _, _, _, rfl, ?_⟩
        · walk_at "ev"
          · exact ⟨i, o, rfl, hi3, h0, hbo, rfl⟩
          · rw [str_len, str_len, hg, List.length_append]
            show _ + (NT.signed i o).length ≤ _
            have : (if NT.nz (l.take i) = [] then [] else NT.sepL o).length ≤ 1 := by
              split
              · simp
              · unfold NT.sepL; split <;> simp
            exact le_sizeLine (by omega)
        · rw [TL.tl_append, hg, hf, htk, NT.nz_snoc, if_neg h0, hlen, NT.shownZ_snoc]
    · intro h0
      have h0 : o = 0 := by simpa using h0
      refine sg_next ⟨rfl, fnd, _, _, rfl, ?_⟩
      rw [htk, NT.nz_snoc, if_pos h0, List.append_nil]
      exact hf
  · rintro Γ' Θ' ⟨rfl, fnd, u, v, rfl, hf⟩
    rw [List.length_zipIdx, List.length_map, List.take_length] at hf
    refine sg_seq ?_
    apply sg_if
    · walk_at "ev"
    · intro h0
      have h0 : fnd = Str.ofString "" := by simpa using h0
      refine sg_retV (by walk_at "ev") ?_
      subst h0
      have : NT.nz l = [] := NT.shownZ_nil.mp hf.symm
      unfold NT.shownS NT.shownT
      rw [if_pos this]
      rfl
    · intro h0
      refine sg_next ?_
      refine sg_retV (by walk_at "ev") ?_
      have h0 : fnd ≠ Str.ofString "" := by simpa using h0
      have : NT.nz l ≠ [] := fun z => h0 (TL.ext_tl (by rw [hf, z]; rfl))
      unfold NT.shownS NT.shownT
      rw [if_neg this]
      exact congrArg (fun z => El.d (.str z)) (TL.ext_tl hf)
end
end T63

namespace T63
open PySem PySem.Spec PyProof.Rows L2 DL TX
local macro_rules | `(tactic| walk_at "rd") => `(tactic| first
  | exact rd_I0i | exact rd_I0b
  | exact rd_l rd_I0i | apply rd_Ii | (apply rd_l; apply rd_Ii)
  | exact rd_l rd_eqI | exact rd_l rd_neI | exact rd_l rd_eqS | exact rd_l rd_neS | exact rd_l rd_eqB
  | (apply rd_r; apply rd_eq) | (apply rd_r; apply rd_ne)
  | (apply rd_r; apply rd_l; apply rd_strs) | (apply rd_r; apply rd_r; apply rd_l; apply rd_catT)
  | (apply rd_r; apply rd_l; apply rd_ixT) | (apply rd_l; apply rd_ixL) | (apply rd_r; apply rd_r; apply rd_ixS) | (apply rd_l; apply rd_ixO (by rfl))
  | (apply rd_r; apply rd_l; apply rd_repT) | exact ev_in_sign)
local macro_rules | `(tactic| walk_at "cd") => `(tactic| first
  | exact cd_l cd_lenT | exact cd_l cd_lenL | exact cd_l (cd_lenO (by rfl)) | (apply cd_r; apply cd_lenS)
  | (apply cd_l; apply cd_strI) | (apply cd_r; apply cd_intS) | exact cd_l cd_intB | exact cd_abs | exact cd_min | exact cd_max
  | exact cd_all | exact cd_any | apply cd_repr | exact cd_tupL | exact cd_tupT | exact cd_tupO (by rfl))
local macro_rules | `(tactic| walk_at "ev") => `(tactic| repeat' (first
  | exact ev_int | exact ev_str | exact ev_bl | exact ev_non | exact ev_var (by rfl)
  | exact av_nil | with_reducible apply av_cons
  | with_reducible apply ev_op | walk_at "rd" | with_reducible apply ev_neg | with_reducible apply ev_isN | with_reducible apply ev_notN
  | with_reducible apply ev_cb | walk_at "cd"
  | with_reducible apply ev_callX | (show List.map El.d (List.map unD _) = _; rfl) | (show List.length (List.map unD _) = _; rfl) | (show List.length (List.cons _ _) ≤ sizeLine; exact le_sizeLine (by simp only [List.length_cons, List.length_nil]; omega))
  | with_reducible apply ev_tupX | with_reducible apply ev_lstX | with_reducible apply ev_tupY | with_reducible apply ev_lstY | (show _ = List.map El.d _; rfl) | with_reducible apply ev_slS | with_reducible apply ev_slT | exact ov_none | apply ov_some
  | with_reducible apply ev_partition
  | with_reducible apply tv_test | with_reducible apply tv_B | with_reducible apply tv_not))
section
variable {P : Program} {w : World} {K : PySem.W.Frag} {mg : Str → Option Value} {base : Heap}
abbrev s_figures_in : Stmt := topS 21
theorem sc_figures_in : FnScope ["text", "sign"] ["text"] (defScope s_figures_in) := ⟨rfl, rfl, rfl, by decide +kernel, rfl, by decide +kernel, by decide +kernel⟩
theorem c_figures_in (D : At K mg "figures_in" s_figures_in ["text"]) (m_int : mg "int" = none) (m_all : mg "all" = none) {t_FIGURES_numbertexts : Tok} (m_FIGURES_numbertexts : mg "FIGURES_numbertexts" = some (.str "0123456789" t_FIGURES_numbertexts)) : Cal P w K mg base CX0 1 "figures_in" ["text"] (spP K 1 pf_figures_in) := by
  refine cal_mk0 D sc_figures_in (fun vs H Q E h => spP_len h) fun f cdv A outer s H vs Q E hg hr h => ?_
  have hu := hu_of hr
  refine ⟨_, (pss_cons (ps_if (PW.pt (pw_or (pt_cmpR (kx_eq (K := K) rfl hr.units) (pv 0) pe_str (nomark _)) (pw_or1 (pt_not (pt_val (pe_callB (kx_all (K := K) rfl (by rfl)) (by rfl) m_all (by decide +kernel) (pa_cons (pe_lc (own := [("sign", 1)]) (by rfl) sc_figures_in.nd (pi_str (pv 0)) (blkOk_by (N := ["text", "sign"]) (sc := defScope s_figures_in) (by decide +kernel)) (fun _ _ _ _ _ => (pg_name (i := 1) sc_figures_in.nd rfl (by first | exact Or.inl rfl | exact Or.inr rfl))) (fun _ _ _ _ _ => pts_nil) (fun _ _ _ _ _ => (pe_cmpR op_in_sign (pv 1) (pe_glob (v := .str "0123456789") (by rfl) m_FIGURES_numbertexts (by exact ⟨_, rfl⟩)) (by rfl)))) pa_nil)))))))
      (pss_one (ps_ret pe_non))
      pss_nil)
      (pss_one (ps_ret (pe_callTy cx_int (by rfl) m_int (by decide +kernel) (pa_cons (pv 0) pa_nil))))), body_pure h fun ds r hn hp => ?_⟩
  obtain ⟨t, rfl, hl, rfl⟩ := hp
  refine sg_seq ?_
  have hall : ∀ c, decide (c ∈ (Str.ofString "0123456789").cps.toList) = digB c := by
    intro c
    have e : (Str.ofString "0123456789").cps.toList = [48,49,50,51,52,53,54,55,56,57] := rfl
    rw [e]
    unfold digB
    congr 1
    simp
    omega
  apply sg_if (b := decide (t = []) || !(t.all digB))
  · apply tv_or
    · refine TV.is (tv_test (ev_op (ev_var rfl) ev_str (rd_l rd_eqS))) ?_
      rw [S_nil]
      congr 1
      exact propext S_inj
    · intro _
      apply tv_not
      apply tv_test
      apply ev_cb
      · apply av_cons
        · apply EN.ev
          apply en_map (f := fun c => PyData.bool (decide (c ∈ (Str.ofString "0123456789").cps.toList)))
          · exact (iv_str (ev_var (by rfl))).is
          · intro a ha
            exact ev_op (ev_var rfl) ev_str ev_in_sign
          · exact lt_sizeLine (by show t.length < _; omega)
        · exact av_nil
      · have e1 : List.map (fun c => PyData.bool (decide (c ∈ (Str.ofString "0123456789").cps.toList))) (S t).cps.toList = (t.map digB).map PyData.bool := by
          rw [List.map_map]
          refine List.map_congr_left fun c _ => ?_
          show PyData.bool (decide (c ∈ (Str.ofString "0123456789").cps.toList)) = PyData.bool (digB c)
          rw [hall]
        have e2 : t.all digB = (t.map digB).all id := by rw [List.all_map]; rfl
        rw [e1, e2]
        exact cd_all
  · intro h0
    refine sg_retV ev_non ?_
    have : figs t = none := by
      unfold figs
      rw [if_neg]
      rintro ⟨h1, h2⟩
      rw [h2, decide_eq_false h1] at h0
      cases h0
    rw [this]
    rfl
  · intro h0
    refine sg_next ?_
    have h1 : t ≠ [] := fun z => by rw [decide_eq_true z] at h0; cases h0
    have h2 : t.all digB = true := by
      cases q : t.all digB with
      | true => rfl
      | false => rw [q] at h0; simp at h0
    have e : figs t = some (NumText.digitsVal t) := if_pos ⟨h1, h2⟩
    rw [e]
    refine sg_retV ?_ rfl
    refine ev_cb (av_cons (ev_var rfl) av_nil) (cd_r (cd_intS ?_ ?_))
    · refine PySem.intText_digits (x := S t) (fun c m => ?_) h1 ?_
      · exact of_decide_eq_true (List.all_eq_true.mp h2 c m)
      · rw [S_len]; omega
    · rw [S_len]; omega
abbrev s_place_in : Stmt := topS 22
theorem sc_place_in : FnScope ["text", "ahead", "z", "behind", "power", "sign", "often"] ["text"] (defScope s_place_in) := ⟨rfl, rfl, rfl, by decide +kernel, rfl, by decide +kernel, by decide +kernel⟩
theorem c_place_in (D : At K mg "place_in" s_place_in ["text"]) (C_figures_in : Cal P w K mg base CX0 1 "figures_in" ["text"] (spP K 1 pf_figures_in)) : Cal P w K mg base CX0 2 "place_in" ["text"] (spP K 1 pf_place_in) := by
  refine cal_mk0 D sc_place_in (fun vs H Q E h => spP_len h) fun f cdv A outer s H vs Q E hg hr h => ?_
  have hu := hu_of hr
  refine ⟨_, (pss_cons (ps_asg (pe_partition (pv 0) pe_str) (kx_gtup (K := K) rfl (by rfl) (pgs_cons (pg_name (i := 1) sc_place_in.nd rfl (by first | exact Or.inl rfl | exact Or.inr rfl)) (pgs_cons (pg_name (i := 2) sc_place_in.nd rfl (by first | exact Or.inl rfl | exact Or.inr rfl)) (pgs_cons (pg_name (i := 3) sc_place_in.nd rfl (by first | exact Or.inl rfl | exact Or.inr rfl)) pgs_nil)))))
      (pss_cons (ps_set (i := 4) sc_place_in.nd rfl (by first | exact Or.inl rfl | exact Or.inr rfl) pe_int)
      (pss_cons (ps_if (pt_cmpR (kx_eq (K := K) rfl hr.units) (pv 2) pe_str (nomark _))
      (pss_one (ps_set (i := 4) sc_place_in.nd rfl (by first | exact Or.inl rfl | exact Or.inr rfl) (pe_ifExp (pt_cmpR (kx_eq (K := K) rfl hr.units) (pv 3) pe_str (nomark _)) pe_int (pe_callC C_figures_in hg hr pass0 (by rfl) (pa_cons (pv 3) pa_nil)))))
      pss_nil)
      (pss_cons (ps_set (i := 5) sc_place_in.nd rfl (by first | exact Or.inl rfl | exact Or.inr rfl) pe_int)
      (pss_cons (ps_if (pt_cmpR (kx_eq (K := K) rfl hr.units) (pe_slice (kx_sl (K := K) rfl) (pv 1) po_none (po_some pe_int)) pe_str (nomark _))
      (pss_cons (ps_set (i := 5) sc_place_in.nd rfl (by first | exact Or.inl rfl | exact Or.inr rfl) (pe_un un_neg pe_int))
      (pss_one (ps_set (i := 1) sc_place_in.nd rfl (by first | exact Or.inl rfl | exact Or.inr rfl) (pe_slice (kx_sl (K := K) rfl) (pv 1) (po_some pe_int) po_none))))
      pss_nil)
      (pss_cons (ps_set (i := 6) sc_place_in.nd rfl (by first | exact Or.inl rfl | exact Or.inr rfl) (pe_ifExp (PW.pt (pw_and (pt_cmpR (kx_eq (K := K) rfl hr.units) (pv 2) pe_str (nomark _)) (pw_and1 (pt_cmpR (kx_eq (K := K) rfl hr.units) (pv 1) pe_str (nomark _))))) pe_int (pe_callC C_figures_in hg hr pass0 (by rfl) (pa_cons (pv 1) pa_nil))))
      (pss_cons (ps_if (PW.pt (pw_or (pt_cmp (pc_isN (pv 4))) (pw_or1 (pt_cmp (pc_isN (pv 6))))))
      (pss_one (ps_ret pe_non))
      pss_nil)
      (pss_one (ps_ret (pe_tup (pa_cons (pv 4) (pa_cons (pe_op (kx_mul (K := K) rfl) (pv 5) (pv 6)) pa_nil)))))))))))), body_pure h fun ds r hn hp => ?_⟩
  obtain ⟨t, rfl, hl, rfl⟩ := hp
  have e0 := congrArg List.length (split122 t)
  rw [List.length_append] at e0
  have hA : (pA t).length ≤ 600 := by omega
  have hR : (pR t).length ≤ 600 := by omega
  have hA' : (pA' t).length ≤ 600 := by
    unfold pA'
    split
    · rw [List.length_drop]; omega
    · omega
  have hzz : decide (S (if pR t = [] then [] else [122]) = Str.ofString "z") = decide (pR t ≠ []) := by
    rw [S_z]
    congr 1
    rw [S_inj]
    by_cases h : pR t = []
    · rw [if_pos h]; simp [h]
    · rw [if_neg h]; simp [h]
  have hbB : ∀ n, (powO t = some n ∨ oftO t = some n) → n < 10 ^ 600 := by
    intro n h
    have f : ∀ u : List Nat, figs u = some n → u.length ≤ 600 → n < 10 ^ 600 := fun u h hu => Nat.lt_of_lt_of_le (figs_lt h) (Nat.pow_le_pow_right (by decide) hu)
    have one : (1 : Nat) < 10 ^ 600 := Nat.one_lt_pow (by decide) (by decide)
    rcases h with h | h
    · unfold powO at h
      split at h
      · cases h; omega
      · split at h
        · cases h; exact one
        · exact f _ h (by rw [List.length_drop]; omega)
    · unfold oftO at h
      split at h
      · cases h; exact one
      · exact f _ h hA'
  refine sg_seq (sg_asgT (ev_partition (ev_var (by rfl)) ev_str (by decide) (by rw [S_len]; exact le_sizeLine (by omega))) (gv_tup rfl (gvs_cons gv_name (gvs_cons gv_name (gvs_cons gv_name gvs_nil)))) ?_)
  rw [partition_z]
  refine sg_seq (sg_asg (x := .d (.int 0)) (by walk_at "ev") ?_)
  refine sg_seq (sg_mid (fun Γ Θ => Θ = [] ∧ Γ = [some (.d (.str (S t))), some (.d (.str (S (pA t)))), some (.d (.str (S (if pR t = [] then [] else [122])))), some (.d (.str (S ((pR t).drop 1)))), some (.d (optD (powO t))), none, none]) ?_ ?_)
  · apply sg_if (b := decide (pR t ≠ []))
    · refine TV.is (by walk_at "ev") hzz
    · intro h
      have h := of_decide_eq_true h
      refine sg_asg (x := .d (optD (powO t))) ?_ ⟨rfl, rfl⟩
      apply ev_ite
      · walk_at "ev"
      · intro h1
        have h1 := of_decide_eq_true h1
        rw [S_nil, S_inj] at h1
        have : powO t = some 1 := by unfold powO; rw [if_neg h, if_pos h1]
        rw [this]
        exact ev_int
      · intro h1
        have h1 := of_decide_eq_false h1
        have h2 : (pR t).drop 1 ≠ [] := fun z => h1 (by rw [z]; rfl)
        have : powO t = figs ((pR t).drop 1) := by unfold powO; rw [if_neg h, if_neg h2]
        rw [this]
        exact ev_callX (av_cons (ev_var rfl) av_nil) ⟨_, rfl, by rw [List.length_drop]; omega, rfl⟩
    · intro h
      have h := of_decide_eq_false h
      have h : pR t = [] := Classical.not_not.mp h
      have : powO t = some 0 := by unfold powO; rw [if_pos h]
      rw [this]
      exact sg_next ⟨rfl, rfl⟩
  rintro Γ Θ ⟨rfl, rfl⟩
  refine sg_seq (sg_asg (x := .d (.int 1)) (by walk_at "ev") ?_)
  refine sg_seq (sg_mid (fun Γ Θ => Θ = [] ∧ Γ = [some (.d (.str (S t))), some (.d (.str (S (pA' t)))), some (.d (.str (S (if pR t = [] then [] else [122])))), some (.d (.str (S ((pR t).drop 1)))), some (.d (optD (powO t))), some (.d (.int (if pNeg t = true then -1 else 1))), none]) ?_ ?_)
  · have e1 : decide (cutS (S (pA t)) none (some 1) = Str.ofString "-") = pNeg t := by
      rw [str_eq, tl_cut1]
      rfl
    apply sg_if (b := pNeg t)
    · refine TV.is (by walk_at "ev"; rw [S_len]; exact le_sizeLine (by omega)) e1
    · intro h
      refine sg_seq (sg_asg (x := .d (.int (-1))) (by walk_at "ev") ?_)
      refine sg_asg (x := .d (.str (cutS (S (pA t)) (some 1) none))) ?_ ?_
      · walk_at "ev"
        rw [S_len]; exact le_sizeLine (by omega)
      · have : cutS (S (pA t)) (some 1) none = S (pA' t) := by
          apply TL.ext_tl
          rw [tl_cutd, tl_S, tl_S]
          unfold pA'
          rw [if_pos h]
        rw [this, if_pos h]
        exact ⟨rfl, rfl⟩
    · intro h
      have h' : ¬ pNeg t = true := by rw [h]; decide
      refine sg_next ⟨rfl, ?_⟩
      rw [if_neg h', show pA' t = pA t from if_neg h']
      rfl
  rintro Γ Θ ⟨rfl, rfl⟩
  refine sg_seq (sg_asg (x := .d (optD (oftO t))) ?_ ?_)
  · apply ev_ite (b := decide (pR t ≠ []) && decide (S (pA' t) = Str.ofString ""))
    · apply tv_and
      · refine TV.is (by walk_at "ev") hzz
      · intro _
        walk_at "ev"
    · intro h
      rw [Bool.and_eq_true] at h
      have h1 := of_decide_eq_true h.1
      have h2 := of_decide_eq_true h.2
      rw [S_nil, S_inj] at h2
      have : oftO t = some 1 := if_pos ⟨h1, h2⟩
      rw [this]
      exact ev_int
    · intro h
      have : oftO t = figs (pA' t) := by
        unfold oftO
        rw [if_neg]
        rintro ⟨h1, h2⟩
        rw [decide_eq_true h1, h2, decide_eq_true (show S [] = Str.ofString "" from rfl)] at h
        cases h
      rw [this]
      exact ev_callX (av_cons (ev_var rfl) av_nil) ⟨_, rfl, hA', rfl⟩
  refine sg_seq ?_
  apply sg_if (b := (isNone (optD (powO t)) || isNone (optD (oftO t))))
  · exact tv_or (tv_test (ev_isN (ev_var (by rfl)))) fun _ => tv_test (ev_isN (ev_var (by rfl)))
  · intro h
    refine sg_retV ev_non ?_
    unfold TX.placeOf
    cases hp : powO t with
    | none => rfl
    | some p =>
      cases hq : oftO t with
      | none => rfl
      | some n => rw [hp, hq] at h; cases h
  · intro h
    refine sg_next ?_
    cases hp : powO t with
    | none => rw [hp] at h; cases h
    | some p =>
      cases hq : oftO t with
      | none => rw [hp, hq] at h; cases h
      | some n =>
        have hpl : TX.placeOf t = some (p, if pNeg t = true then -(n : Int) else n) := by
          unfold TX.placeOf
          rw [hp, hq]
          rfl
        rw [hpl]
        have hn6 := hbB n (.inr hq)
        refine sg_retV (x := .d (.tuple [.int p, .int ((if pNeg t = true then -1 else 1) * (n : Int))])) ?_ ?_
        · refine EV.is (ev_tupX (av_cons (ev_var rfl) (av_cons (ev_op (ev_var (x := .d (.int (if pNeg t = true then -1 else 1))) rfl) (ev_var (x := .d (.int n)) rfl) (rd_l (rd_Ii ?_))) av_nil)) (by show 2 ≤ sizeLine; decide)) rfl
          show _ < 1000000
          have h2 : (if pNeg t = true then (-1 : Int) else 1).natAbs.log2 = 0 := by split <;> decide
          rw [h2, Int.natAbs_natCast]
          by_cases z : n = 0
          · subst z; decide
          · have : n.log2 < 2000 := by
              rw [Nat.log2_lt z]
              refine Nat.lt_of_lt_of_le hn6 ?_
              exact Nat.le_trans (m := (10 ^ 3) ^ 200) (by rw [← Nat.pow_mul]; exact Nat.le_refl _) (Nat.le_trans (m := (2 ^ 10) ^ 200) (Nat.pow_le_pow_left (by decide) 200) (by rw [← Nat.pow_mul]; exact Nat.le_refl _))
            omega
        · have : (if pNeg t = true then (-1 : Int) else 1) * (n : Int) = if pNeg t = true then -(n : Int) else n := by
            split <;> omega
          rw [this]
          rfl
end
end T63

namespace T63
open PySem PySem.Spec PyProof.Rows L2 DL TX
local macro_rules | `(tactic| walk_at "rd") => `(tactic| first
  | exact rd_I0i | exact rd_I0b
  | exact rd_l rd_I0i | apply rd_Ii | (apply rd_l; apply rd_Ii)
  | exact rd_l rd_eqI | exact rd_l rd_neI | exact rd_l rd_eqS | exact rd_l rd_neS | exact rd_l rd_eqB
  | (apply rd_r; apply rd_eq) | (apply rd_r; apply rd_ne)
  | (apply rd_r; apply rd_l; apply rd_strs) | (apply rd_r; apply rd_r; apply rd_l; apply rd_catT)
  | (apply rd_r; apply rd_l; apply rd_ixT) | (apply rd_l; apply rd_ixL) | (apply rd_r; apply rd_r; apply rd_ixS) | (apply rd_l; apply rd_ixO (by rfl))
  | (apply rd_r; apply rd_l; apply rd_repT) | exact ev_in_sign)
local macro_rules | `(tactic| walk_at "cd") => `(tactic| first
  | exact cd_l cd_lenT | exact cd_l cd_lenL | exact cd_l (cd_lenO (by rfl)) | (apply cd_r; apply cd_lenS)
  | (apply cd_l; apply cd_strI) | (apply cd_r; apply cd_intS) | exact cd_l cd_intB | exact cd_abs | exact cd_min | exact cd_max
  | exact cd_all | exact cd_any | apply cd_repr | exact cd_tupL | exact cd_tupT | exact cd_tupO (by rfl))
local macro_rules | `(tactic| walk_at "ev") => `(tactic| repeat' (first
  | exact ev_int | exact ev_str | exact ev_bl | exact ev_non | exact ev_var (by rfl)
  | exact av_nil | with_reducible apply av_cons
  | with_reducible apply ev_op | walk_at "rd" | with_reducible apply ev_neg | with_reducible apply ev_isN | with_reducible apply ev_notN
  | with_reducible apply ev_cb | walk_at "cd"
  | with_reducible apply ev_callX | (show List.map El.d (List.map unD _) = _; rfl) | (show List.length (List.map unD _) = _; rfl) | (show List.length (List.cons _ _) ≤ sizeLine; exact le_sizeLine (by simp only [List.length_cons, List.length_nil]; omega))
  | with_reducible apply ev_tupX | with_reducible apply ev_lstX | with_reducible apply ev_tupY | with_reducible apply ev_lstY | (show _ = List.map El.d _; rfl) | with_reducible apply ev_slS | with_reducible apply ev_slT | exact ov_none | apply ov_some
  | with_reducible apply ev_partition
  | with_reducible apply tv_test | with_reducible apply tv_B | with_reducible apply tv_not))
section
variable {P : Program} {w : World} {K : PySem.W.Frag} {mg : Str → Option Value} {base : Heap}
abbrev s__law_feed : Stmt := topS 33
theorem sc__law_feed : FnScope ["_law_script"] ["_law_script"] (defScope s__law_feed) := ⟨rfl, rfl, rfl, by decide +kernel, rfl, by decide +kernel, by decide +kernel⟩
theorem c__law_feed (D : At K mg "_law_feed" s__law_feed ["_law_script"]) (m_list : mg "list" = none) : Cal P w K mg base CX0 1 "_law_feed" ["_law_script"] (spN K 1 pf__law_feed) := by
  refine cal_mk0 D sc__law_feed (fun vs H Q E h => spN_len h) fun f cdv A outer s H vs Q E hg hr h => ?_
  have hu := hu_of hr
  refine ⟨_, (pss_one (ps_ret (pe_disp (pps_cons pe_str (pe_callTy (kx_list (K := K) rfl) (by rfl) m_list (by decide +kernel) (pa_cons (pe_slice (kx_sl (K := K) rfl) (pv 0) po_none (po_some pe_int)) pa_nil)) (pps_cons pe_str pe_int (pps_cons pe_str pe_int pps_nil))) (by rfl) (by rfl) (fun z => by cases z) (by decide)))), body_N h fun ds od hn hp => ?_⟩
  obtain ⟨c, rfl, hc, rfl⟩ := hp
  refine sg_ret (EN.eg (od := feedO c 0 0) (P := fun e _ Θ => e = .at 0 ∧ Θ = [feedO c 0 0]) ?_ ?_)
  · refine (en_disp (kvs := [(.inr (Str.ofString "cells"), .d (.list (c.map .int))), (.inr (Str.ofString "at"), .d (.int (0 : Nat))), (.inr (Str.ofString "left"), .d (.int 0))]) ?_ (by show 3 ≤ 15; decide)).is (by rfl)
    refine pv_cons ev_str ?_ (pv_cons ev_str ev_int (pv_cons ev_str ev_int pv_nil))
    apply EN.ev
    apply en_listL
    apply av_cons
    · refine (EN.ev (en_slL (lo := none) (hi := some 63) (ds := c.map .int) (ev_var (by rfl)) ov_none (ov_some ev_int))).is ?_
      refine congrArg (fun z => El.d (.list z)) ?_
      unfold DL.cutD
      rw [HT.sIx_none, show (some (63 : Int)) = some ((63 : Nat) : Int) from rfl, HT.sIx_nat, List.drop_zero, List.take_of_length_le]
      rw [List.length_map]
      omega
    · exact av_nil
  · exact ⟨rfl, rfl⟩
abbrev s__law_draw : Stmt := topS 34
theorem sc__law_draw : FnScope ["_law_feed_here", "_law_many", "_law_found", "_law_at", "_law_cells", "_law_cell", "_law_number_here"] ["_law_feed_here", "_law_many"] (defScope s__law_draw) := ⟨rfl, rfl, rfl, by decide +kernel, rfl, by decide +kernel, by decide +kernel⟩
theorem c__law_draw (D : At K mg "_law_draw" s__law_draw ["_law_feed_here", "_law_many"]) (m_len : mg "len" = none) : Cal P w K mg base CX0 1 "_law_draw" ["_law_feed_here", "_law_many"] (spM K 2 fs_draw) := by
  refine cal_mk0 D sc__law_draw (fun vs H Q E h => spM_len h) fun f cdv A outer s H vs Q E hg hr h => ?_
  have hu := hu_of hr
  refine ⟨_, (pss_cons (ps_if (pt_cmpR op_gt (pe_dget hu (pv 0) pe_str (fun _ _ => rfl)) pe_int (nomark _))
      (pss_cons (ps_set (i := 2) sc__law_draw.nd rfl (by first | exact Or.inl rfl | exact Or.inr rfl) (pe_op op_modN (pe_dget hu (pv 0) pe_str (fun _ _ => rfl)) (pv 1)))
      (pss_cons (ps_dput hu (pv 0) pe_str (pe_op ox_div (pe_dget hu (pv 0) pe_str (fun _ _ => rfl)) (pv 1)) rfl)
      (pss_one (ps_ret (pv 2)))))
      pss_nil)
      (pss_cons (ps_set (i := 3) sc__law_draw.nd rfl (by first | exact Or.inl rfl | exact Or.inr rfl) (pe_dget hu (pv 0) pe_str (fun _ _ => rfl)))
      (pss_cons (ps_dput hu (pv 0) pe_str (pe_op (kx_add (K := K) rfl) (pv 3) pe_int) rfl)
      (pss_cons (ps_set (i := 4) sc__law_draw.nd rfl (by first | exact Or.inl rfl | exact Or.inr rfl) (pe_dget hu (pv 0) pe_str (fun _ _ => rfl)))
      (pss_cons (ps_set (i := 5) sc__law_draw.nd rfl (by first | exact Or.inl rfl | exact Or.inr rfl) (pe_ifExp (pt_cmpR (kx_ne (K := K) rfl hr.units) (pv 4) (pe_lst pa_nil) (nomark _)) (pe_ix (kx_ix (K := K) rfl) (pv 4) (pe_op op_modN (pv 3) (pe_callB (kx_len (K := K) rfl) (by rfl) m_len (by decide +kernel) (pa_cons (pv 4) pa_nil))) (fun _ _ => rfl)) (pe_op (kx_mul (K := K) rfl) (pv 3) (pv 3))))
      (pss_cons (ps_if (PW.pt (pw_and (pt_cmpR op_ge (pv 5) (pe_op op_pow pe_int pe_int) (nomark _)) (pw_and1 (pt_cmpR op_lt (pv 3) (pe_callB (kx_len (K := K) rfl) (by rfl) m_len (by decide +kernel) (pa_cons (pv 4) pa_nil)) (nomark _)))))
      (pss_cons (ps_dput hu (pv 0) pe_str (pe_op ox_div (pv 5) (pv 1)) rfl)
      (pss_one (ps_ret (pe_op op_modN (pv 5) (pv 1)))))
      pss_nil)
      (pss_cons (ps_set (i := 6) sc__law_draw.nd rfl (by first | exact Or.inl rfl | exact Or.inr rfl) (pe_op op_modN (pe_op (kx_mul (K := K) rfl) (pe_op (kx_add (K := K) rfl) (pe_op op_modN (pv 5) pe_int) pe_int) (pe_op (kx_add (K := K) rfl) pe_int (pe_op (kx_mul (K := K) rfl) pe_int (pv 3)))) pe_int))
      (pss_one (ps_ret (pe_op op_modN (pe_op ox_div (pe_op op_modN (pe_op (kx_add (K := K) rfl) (pe_op (kx_mul (K := K) rfl) (pv 6) pe_int) (pe_op (kx_mul (K := K) rfl) (pe_op (kx_mul (K := K) rfl) (pv 3) (pv 3)) pe_int)) pe_int) pe_int) (pv 1))))))))))), body_M h fun es Θ R hn hp => ?_⟩
  obtain ⟨m, cells, a, left, rfl, rfl, hm, hm2, ha, hc, hR⟩ := hp
  have hm0 : (m : Int) ≠ 0 := by omega
  have hdv : ∀ x : Int, CDivN x m := fun x => ⟨hm0, by rw [Int.natAbs_natCast]; exact hm2⟩
  have gl : ∀ {Γ : Gm}, Γ[0]? = some (some (.at 0)) → EV K (tDGet (tVar 0) (tC (V.str (Str.ofString "left")))) Γ [feedO cells a left] (.d (.int left)) := fun h =>
    ev_dget (key := .inr (Str.ofString "left")) (ev_var h) ev_str rfl rfl
  refine sg_seq ?_
  apply sg_if
  · apply tv_test
    exact ev_op (gl rfl) ev_int rd_I0b
  · intro h
    refine sg_seq (sg_asg (x := .d (.int (left.fmod m))) (ev_op (gl rfl) (ev_var rfl) (rd_Ii hm0)) ?_)
    refine sg_seq (sg_dput (key := .inr (Str.ofString "left")) (x := .d (.int (left.fdiv m))) (ev_op (gl rfl) (ev_var rfl) (rd_Ii (hdv _))) (ev_var rfl) ev_str rfl ndF (lt_sizeLine (n := 3) (by decide)) ?_)
    refine sg_retV (ev_var rfl) ?_
    obtain ⟨v, e1, e2⟩ := fmod_nat left hm
    rw [e1]
    exact hR v a (left.fdiv m) e2 (by omega)
  · intro h
    refine sg_next ?_
    refine sg_seq (sg_asg (x := .d (.int a)) (ev_dget (key := .inr (Str.ofString "at")) (ev_var rfl) ev_str rfl rfl) ?_)
    refine sg_seq (sg_dput (key := .inr (Str.ofString "at")) (x := .d (.int ((a : Int) + 1))) (ev_op (ev_var rfl) ev_int (rd_l rd_I0i)) (ev_var rfl) ev_str rfl ndF (lt_sizeLine (n := 3) (by decide)) ?_)
    refine sg_seq (sg_asg (x := .d (.list (cells.map .int))) (ev_dget (key := .inr (Str.ofString "cells")) (ev_var rfl) ev_str rfl rfl) ?_)
    have eth : ([feedO cells a left].set 0 (.dK (putE [(.inr (Str.ofString "cells"), .d (.list (cells.map .int))), (.inr (Str.ofString "at"), .d (.int (a : Int))), (.inr (Str.ofString "left"), .d (.int left))] (.inr (Str.ofString "at")) (.d (.int ((a : Int) + 1)))))) = [feedO cells (a + 1) left] := rfl
    rw [eth]
    refine sg_seq (sg_mid (fun Γ Θ => Θ = [feedO cells (a + 1) left] ∧ ∃ c : Int, Γ = [some (.at 0), some (.d (.int m)), none, some (.d (.int a)), some (.d (.list (cells.map .int))), some (.d (.int c)), none]) ?_ ?_)
    · have hsh := shaped_ints cells
      have hb : TV K (tTest (tOp (fun x y H Q => rNe x y H Q ∨ rNeD K x y H Q) (tVar 4) (tLst tNil))) [some (.at 0), some (.d (.int m)), none, some (.d (.int a)), some (.d (.list (cells.map .int))), none, none] [feedO cells (a + 1) left] (!PyData.eqv (.list (cells.map .int)) (.list [])) :=
        tv_test (ev_op (ev_var rfl) (ev_lstY av_nil rfl (by decide)) (rd_r (rd_ne hsh.1 (by decide))))
      have hev : PyData.eqv (.list (cells.map .int)) (.list []) = decide (cells = []) := by
        cases cells with
        | nil => rfl
        | cons c r => rfl
      rw [hev] at hb
      by_cases hq : cells = []
      · refine sg_asg (x := .d (.int ((a : Int) * a))) (ev_ite hb (fun h => ?_) fun _ => ?_) ⟨rfl, _, rfl⟩
        · rw [decide_eq_true hq] at h; cases h
        · refine ev_op (ev_var rfl) (ev_var rfl) (rd_l (rd_Ii (mulw ?_ ?_)))
          · rw [Int.natAbs_natCast]; omega
          · rw [Int.natAbs_natCast]; omega
      · have hl : 1 ≤ cells.length := by
          cases cells with
          | nil => exact absurd rfl hq
          | cons c r => rw [List.length_cons]; omega
        obtain ⟨v, e1, e2⟩ := fmod_nat (a : Int) hl
        have e3 : (cells.map PyData.int)[v]? = some (.int cells[v]) := by rw [List.getElem?_map, List.getElem?_eq_getElem e2]; rfl
        refine sg_asg (x := .d (.int cells[v])) (ev_ite hb (fun h => ?_) fun h => ?_) ⟨rfl, _, rfl⟩
        · refine ev_op (ev_var rfl) (ev_op (ev_var rfl) (ev_cb (av_cons (ev_var rfl) av_nil) (cd_l cd_lenL)) (rd_Ii ?_)) (rd_l (rd_ixL (i := (a : Int).fmod ((cells.map PyData.int).length : Nat)) ?_))
          · rw [List.length_map]; omega
          · rw [List.length_map, e1]
            unfold atI ixN
            rw [List.length_map, if_pos (by omega), if_pos (by omega)]
            exact e3
        · rw [decide_eq_false hq] at h; cases h
    rintro Γ Θ ⟨rfl, c, rfl⟩
    refine sg_seq ?_
    apply sg_if
    · apply tv_and
      · exact tv_test (ev_op (ev_var rfl) (ev_op ev_int ev_int (rd_Ii (show CPow 10 18 from ⟨by decide, by decide, by decide⟩))) rd_I0b)
      · intro _
        exact tv_test (ev_op (ev_var rfl) (ev_cb (av_cons (ev_var rfl) av_nil) (cd_l cd_lenL)) rd_I0b)
    · intro _
      refine sg_seq (sg_dput (key := .inr (Str.ofString "left")) (x := .d (.int (c.fdiv m))) (ev_op (ev_var rfl) (ev_var rfl) (rd_Ii (hdv _))) (ev_var rfl) ev_str rfl ndF (lt_sizeLine (n := 3) (by decide)) ?_)
      obtain ⟨v, e1, e2⟩ := fmod_nat c hm
      refine sg_retV (ev_op (ev_var rfl) (ev_var rfl) (rd_Ii hm0)) ?_
      rw [e1]
      exact hR v (a + 1) (c.fdiv m) e2 (by omega)
    · intro _
      refine sg_next ?_
      obtain ⟨v1, e1, l1⟩ := fmod_nat c (m := 2147483629) (by decide)
      obtain ⟨v2, e2, l2⟩ := fmod_nat ((((v1 : Int) + 1) * (48271 + 7919 * (a : Int)))) (m := 2147483647) (by decide)
      obtain ⟨v3, e3, l3⟩ := fmod_nat ((v2 : Int) * 69621 + (a : Int) * a * 40692) (m := 2147483399) (by decide)
      obtain ⟨v4, e4, l4⟩ := fmod_nat (((v3 : Int)).fdiv 5) hm
      have haa : a * a < 2 ^ 80 := Nat.lt_of_lt_of_le (Nat.mul_lt_mul'' ha ha) (by decide)
      refine sg_seq (sg_asg (x := .d (.int v2)) ?_ ?_)
      · refine EV.is (ev_op (ev_op (ev_op (ev_op (ev_var rfl) ev_int (rd_Ii (show (2147483629 : Int) ≠ 0 by decide))) ev_int (rd_l rd_I0i)) (ev_op ev_int (ev_op ev_int (ev_var rfl) (rd_l (rd_Ii (mulw ?_ ?_)))) (rd_l rd_I0i)) (rd_l (rd_Ii (mulw ?_ ?_)))) ev_int (rd_Ii (show (2147483647 : Int) ≠ 0 by decide))) ?_
        · decide
        · rw [Int.natAbs_natCast]; omega
        · show (c.fmod (2147483629 : Nat) + 1).natAbs < _
          rw [e1]; omega
        · omega
        · refine congrArg (fun z => El.d (.int z)) ?_
          rw [← e2, ← e1]
          rfl
      · refine sg_retV (x := .d (.int v4)) ?_ ?_
        · refine EV.is (ev_op (ev_op (ev_op (ev_op (ev_op (ev_var rfl) ev_int (rd_l (rd_Ii (mulw ?_ ?_)))) (ev_op (ev_op (ev_var rfl) (ev_var rfl) (rd_l (rd_Ii (mulw ?_ ?_)))) ev_int (rd_l (rd_Ii (mulw ?_ ?_)))) (rd_l rd_I0i)) ev_int (rd_Ii (show (2147483399 : Int) ≠ 0 by decide))) ev_int (rd_Ii (show CDivN _ 5 from ⟨by decide, by decide⟩))) (ev_var rfl) (rd_Ii hm0)) ?_
          · omega
          · decide
          · rw [Int.natAbs_natCast]; omega
          · rw [Int.natAbs_natCast]; omega
          · rw [← Int.natCast_mul, Int.natAbs_natCast]; omega
          · decide
          · refine congrArg (fun z => El.d (.int z)) ?_
            rw [← e4, ← e3]
            rfl
        · exact hR v4 (a + 1) left l4 (by omega)
abbrev s__law_alone : Stmt := topS 35
theorem sc__law_alone : FnScope ["_law_k", "_law_n"] ["_law_k", "_law_n"] (defScope s__law_alone) := ⟨rfl, rfl, rfl, by decide +kernel, rfl, by decide +kernel, by decide +kernel⟩
theorem c__law_alone (D : At K mg "_law_alone" s__law_alone ["_law_k", "_law_n"]) : Cal P w K mg base CX0 1 "_law_alone" ["_law_k", "_law_n"] (spP K 2 pf__law_alone) := by
  refine cal_mk0 D sc__law_alone (fun vs H Q E h => spP_len h) fun f cdv A outer s H vs Q E hg hr h => ?_
  have hu := hu_of hr
  refine ⟨_, (pss_cons (ps_while PassesOwn.never (pt_cmpR op_gt (pv 1) pe_int (nomark _))
      (pss_one (ps_par (i := 0) (j := 1) (by rfl) sc__law_alone.nd rfl rfl (by decide) rfl rfl (pa_cons (pv 1) (pa_cons (pe_op op_modN (pv 0) (pv 1)) pa_nil)) (by rfl))))
      (pss_one (ps_ret (pe_cmpR (kx_eq (K := K) rfl hr.units) (pv 0) pe_int (nomark _))))), body_pure h fun ds r hn hp => ?_⟩
  obtain ⟨a, b, rfl, rfl⟩ := hp
  refine sg_seq (sg_while (fun m Γ Θ => ∃ x : Nat, Γ = [some (.d (.int x)), some (.d (.int m))] ∧ Θ = [] ∧ Nat.gcd x m = Nat.gcd a b) b ⟨a, rfl, rfl, rfl⟩ ?_)
  rintro m Γ' Θ' ⟨x, rfl, rfl, hg⟩
  apply wh_step
  · walk_at "ev"
  · intro hb
    have hm : 0 < m := by simpa using hb
    refine sg_par (x := .d (.int m)) (y := .d (.int ((x : Int).fmod m))) ?_ ?_
    · walk_at "ev"
      omega
    · have e : (x : Int).fmod m = ((x % m : Nat) : Int) := by
        rw [Int.fmod_eq_emod_of_nonneg _ (by omega)]; rfl
      refine ⟨x % m, Nat.mod_lt _ hm, m, by rw [e]; rfl, rfl, ?_⟩
      rw [← hg, Nat.gcd_comm x m, Nat.gcd_rec m x, Nat.gcd_comm]
  · intro hb
    have hm : m = 0 := by
      have : ¬ 0 < m := by simpa using hb
      omega
    subst hm
    refine sg_retV (x := .d (.bool (decide ((x : Int) = 1)))) (by walk_at "ev") ?_
    have e : ((x : Int) = 1) = (Nat.gcd a b = 1) := by
      rw [← hg, Nat.gcd_zero_right]
      exact propext ⟨fun z => by omega, fun z => by omega⟩
    simp only [e]
abbrev s__law_shown : Stmt := topS 36
theorem sc__law_shown : FnScope ["_law_number_here", "_law_found", "_law_k", "_law_piece_here"] ["_law_number_here"] (defScope s__law_shown) := ⟨rfl, rfl, rfl, by decide +kernel, rfl, by decide +kernel, by decide +kernel⟩
theorem c__law_shown (D : At K mg "_law_shown" s__law_shown ["_law_number_here"]) (m_range : mg "range" = none) (m_len : mg "len" = none) (m_abs : mg "abs" = none) (m_int : mg "int" = none) (m_str : mg "str" = none) (m_min : mg "min" = none) : Cal P w K mg base CX0 1 "_law_shown" ["_law_number_here"] (spP K 1 pf__law_shown) := by
  refine cal_mk0 D sc__law_shown (fun vs H Q E h => spP_len h) fun f cdv A outer s H vs Q E hg hr h => ?_
  have hu := hu_of hr
  refine ⟨_, (pss_cons (ps_set (i := 1) sc__law_shown.nd rfl (by first | exact Or.inl rfl | exact Or.inr rfl) pe_str)
      (pss_cons (ps_for PassesOwn.never rfl (pi_range1 (by rfl) m_range (pa_cons (pe_callB (kx_len (K := K) rfl) (by rfl) m_len (by decide +kernel) (pa_cons (pv 0) pa_nil)) pa_nil)) (pg_name (i := 2) sc__law_shown.nd rfl (by first | exact Or.inl rfl | exact Or.inr rfl))
      (pss_one (ps_if (pt_cmpR (kx_ne (K := K) rfl hr.units) (pe_ix (kx_ix (K := K) rfl) (pv 0) (pv 2) (fun _ _ => rfl)) pe_int (nomark _))
      (pss_cons (ps_set (i := 3) sc__law_shown.nd rfl (by first | exact Or.inl rfl | exact Or.inr rfl) (pe_op (kx_add (K := K) rfl) (pe_callTy cx_str (by rfl) m_str (by decide +kernel) (pa_cons (pe_ix (kx_ix (K := K) rfl) (pv 0) (pv 2) (fun _ _ => rfl)) pa_nil)) (pe_ix (kx_ix (K := K) rfl) (pe_lst (pa_cons pe_str (pa_cons pe_str (pa_cons (pe_op (kx_add (K := K) rfl) pe_str (pe_callTy cx_str (by rfl) m_str (by decide +kernel) (pa_cons (pv 2) pa_nil))) pa_nil)))) (pe_callB (call_min2 (by rfl)) (by rfl) m_min (by decide +kernel) (pa_cons (pv 2) (pa_cons pe_int pa_nil))) (fun _ _ => rfl))))
      (pss_cons (ps_if (PW.pt (pw_and (pt_cmpR op_gt (pv 2) pe_int (nomark _)) (pw_and1 (pt_cmpR (kx_eq (K := K) rfl hr.units) (pe_callB call_abs (by rfl) m_abs (by decide +kernel) (pa_cons (pe_ix (kx_ix (K := K) rfl) (pv 0) (pv 2) (fun _ _ => rfl)) pa_nil)) pe_int (nomark _)))))
      (pss_one (ps_set (i := 3) sc__law_shown.nd rfl (by first | exact Or.inl rfl | exact Or.inr rfl) (pe_op (kx_add (K := K) rfl) (pe_ix (kx_ix (K := K) rfl) (pe_lst (pa_cons pe_str (pa_cons pe_str pa_nil))) (pe_callTy cx_int (by rfl) m_int (by decide +kernel) (pa_cons (pe_cmpR op_lt (pe_ix (kx_ix (K := K) rfl) (pv 0) (pv 2) (fun _ _ => rfl)) pe_int (nomark _)) pa_nil)) (fun _ _ => rfl)) (pe_ix (kx_ix (K := K) rfl) (pe_lst (pa_cons pe_str (pa_cons pe_str (pa_cons (pe_op (kx_add (K := K) rfl) pe_str (pe_callTy cx_str (by rfl) m_str (by decide +kernel) (pa_cons (pv 2) pa_nil))) pa_nil)))) (pe_callB (call_min2 (by rfl)) (by rfl) m_min (by decide +kernel) (pa_cons (pv 2) (pa_cons pe_int pa_nil))) (fun _ _ => rfl)))))
      pss_nil)
      (pss_cons (ps_if (PW.pt (pw_and (pt_cmpR (kx_ne (K := K) rfl hr.units) (pv 1) pe_str (nomark _)) (pw_and1 (pt_cmpR op_gt (pe_ix (kx_ix (K := K) rfl) (pv 0) (pv 2) (fun _ _ => rfl)) pe_int (nomark _)))))
      (pss_one (ps_set (i := 3) sc__law_shown.nd rfl (by first | exact Or.inl rfl | exact Or.inr rfl) (pe_op (kx_add (K := K) rfl) pe_str (pv 3))))
      pss_nil)
      (pss_one (ps_set (i := 1) sc__law_shown.nd rfl (by first | exact Or.inl rfl | exact Or.inr rfl) (pe_op (kx_add (K := K) rfl) (pv 1) (pv 3)))))))
      pss_nil)))
      (pss_one (ps_ret (pe_ifExp (pt_cmpR (kx_ne (K := K) rfl hr.units) (pv 1) pe_str (nomark _)) (pv 1) pe_str))))), body_pure h fun ds r hn hp => ?_⟩
  obtain ⟨l, rfl, hl, hb, rfl⟩ := hp
  refine sg_seq (sg_asg (x := .d (.str (Str.ofString ""))) (by walk_at "ev") ?_)
  refine sg_seq ?_
  refine sg_for (l := List.range l.length) (en := fun i : Nat => .int (i : Int)) ?_ (fun i Γ Θ => Θ = [] ∧ ∃ fnd u v, Γ = [some (.d (.tuple (l.map .int))), some (.d (.str fnd)), u, v] ∧ TL.tl fnd = NT.shownZ (NT.nz (l.take i))) ?_ ?_ ?_
  · refine IV.cast (iv_rng1 (n := ((l.map PyData.int).length : Nat)) (by walk_at "ev") (by rw [List.length_map]; omega) (by omega)) ?_
    rw [Int.toNat_natCast, List.length_map]
  · exact ⟨rfl, _, _, _, rfl, rfl⟩
  · rintro i a Γ' Θ' ha ⟨rfl, fnd, u, v, rfl, hf⟩
    have hi : i < l.length := by
      have := (List.getElem?_eq_some_iff.mp ha).1
      rwa [List.length_range] at this
    have : a = i := by rw [List.getElem?_range hi] at ha; exact (Option.some.inj ha).symm
    subst this
    obtain ⟨o, ho⟩ : ∃ o, l[a]? = some o := ⟨_, List.getElem?_eq_getElem hi⟩
    have hi3 : a < 10 ^ 3 := by omega
    have hbo := hb o (List.mem_of_getElem? ho)
    have htk : l.take (a + 1) = l.take a ++ [o] := by rw [List.take_add_one, ho]; rfl
    have hlen : (l.take a).length = a := by rw [List.length_take]; omega
    have hfl := shown_len hl hb a
    rw [← hf] at hfl
    have hsl := NT.signed_len (p := a) hi3 hbo
    have hlg := NT.log_of hbo
    have hlga : ((a : Int)).natAbs.log2 < 1920 := NT.log_of (by rw [Int.natAbs_natCast]; exact sm_BIG (by omega))
    have hix : atI (l.map PyData.int) (a : Int) = some (.int o) := by
      unfold atI ixN
      rw [List.length_map, if_pos (by omega), if_pos (by omega)]
      show (l.map PyData.int)[a]? = _
      rw [List.getElem?_map, ho]
      rfl
    have ix : ∀ {Γ : Gm}, Γ[0]? = some (some (.d (.tuple (l.map .int)))) → Γ[2]? = some (some (.d (.int a))) → EV K (tOp (rIx K) (tVar 0) (tVar 2)) Γ [] (.d (.int o)) := fun h1 h2 =>
      ev_op (ev_var h1) (ev_var h2) (rd_r (rd_l (rd_ixT hix)))
    let zs : List Nat := if a = 0 then [] else if a = 1 then [122] else 122 :: TL.numL a
    have lenz : zs.length ≤ 60 := by
      have := TL.numL_len (n := a) (k := 3) (by decide) hi3
      show (if a = 0 then [] else if a = 1 then [122] else 122 :: TL.numL a).length ≤ 60
      split
      · simp
      · split
        · simp
        · rw [List.length_cons]; omega
    have hixz : atI [PyData.str (Str.ofString ""), PyData.str (Str.ofString "z"), PyData.str (Str.ofString "z" ++ Str.ofString (toString (a : Int)))] (if (2 : Int) < a then 2 else a) = some (.str (S zs)) := by
      by_cases h0 : a = 0
      · subst h0; rfl
      · by_cases h1 : a = 1
        · subst h1
          rw [show zs = [122] from rfl, ← S_z]
          rfl
        · have e1 : zs = 122 :: TL.numL a := by
            show (if a = 0 then [] else if a = 1 then [122] else 122 :: TL.numL a) = _
            rw [if_neg h0, if_neg h1]
          have e2 : (if (2 : Int) < (a : Int) then (2 : Int) else (a : Int)) = 2 := by split <;> omega
          have e3 : Str.ofString "z" ++ Str.ofString (toString (a : Int)) = S zs := by
            apply TL.ext_tl
            rw [TL.tl_append, S_num, S_z, tl_S, tl_S, tl_S, e1]
            rfl
          rw [e2, e3]
          rfl
    have lstra : (Str.ofString "z").length + (Str.ofString (toString (a : Int))).length ≤ sizeLine := by
      have := TL.numL_len (n := a) (k := 3) (by decide) hi3
      rw [S_num, S_z, S_len, S_len]
      exact le_sizeLine (by simp only [List.length_cons, List.length_nil]; omega)
    have zsE : ∀ {Γ : Gm}, Γ[2]? = some (some (.d (.int a))) → EV K (tOp (rIx K) (tLst (tCons (tC (V.str (Str.ofString ""))) (tCons (tC (V.str (Str.ofString "z"))) (tCons (tOp (fun x y H Q => (rI0 fun i j => .int (i + j)) x y H Q ∨ (fun x y H Q => (∃ i j, x = V.str i ∧ y = V.str j ∧ i.length + j.length ≤ sizeLine ∧ Q (.str (i ++ j)) H) ∨ (fun x y H Q => rCatA K x y H Q ∨ rCat x y H Q) x y H Q) x y H Q) (tC (V.str (Str.ofString "z"))) (tCB (fun xs H Q => (∃ i, xs = [V.int i] ∧ i.natAbs.log2 < 1920 ∧ Q (.str (toString i)) H) ∨ ∃ a, xs = [V.str a] ∧ Q (.str a) H) (tCons (tVar 2) tNil))) tNil))))
        (tCB (fun xs H Q => ∃ i j, xs = [V.int i, V.int j] ∧ Q (.int (if j < i then j else i)) H) (tCons (tVar 2) (tCons (tC (V.int 2)) tNil)))) Γ [] (.d (.str (S zs))) := fun h =>
      ev_op (ev_lstX (av_cons ev_str (av_cons ev_str (av_cons (ev_op ev_str (ev_cb (av_cons (ev_var h) av_nil) (cd_l (cd_strI hlga))) (rd_r (rd_l (rd_strs lstra)))) av_nil))) (by show 3 ≤ sizeLine; decide)) (ev_cb (av_cons (ev_var h) (av_cons ev_int av_nil)) cd_min) (rd_l (rd_ixL hixz))
    refine ⟨_, _, gv_name, ?_⟩
    apply sg_if
    · exact tv_test (ev_op (ix rfl rfl) ev_int (rd_l rd_neI))
    · intro h0
      have h0 : o ≠ 0 := by simpa using h0
      have lo : (TL.numL o.natAbs).length ≤ 500 := NT.BIG_len hbo
      let so : List Nat := (if o < 0 then [45] else []) ++ TL.numL o.natAbs
      have eso : Str.ofString (toString o) = S so := TL.ext_tl (NT.tl_int o)
      have lso : so.length ≤ 501 := by
        show ((if o < 0 then [45] else []) ++ TL.numL o.natAbs).length ≤ 501
        rw [List.length_append]
        split <;> simp <;> omega
      refine sg_seq (sg_asg (x := .d (.str (S (so ++ zs)))) ?_ ?_)
      · refine EV.is (ev_op (ev_cb (av_cons (ix rfl rfl) av_nil) (cd_l (cd_strI hlg))) (zsE rfl) (rd_r (rd_l (rd_strs ?_)))) ?_
        · rw [eso, S_len, S_len]
          exact le_sizeLine (by omega)
        · rw [eso, S_app]
      refine sg_seq (sg_mid (fun Γ Θ => Θ = [] ∧ Γ = [some (.d (.tuple (l.map .int))), some (.d (.str fnd)), some (.d (.int a)), some (.d (.str (S (NT.signed a o))))]) ?_ ?_)
      · apply sg_if (b := decide ((0 : Int) < a) && decide ((if o < 0 then -o else o) = 1))
        · apply tv_and
          · exact tv_test (ev_op (ev_var rfl) ev_int rd_I0b)
          · intro _
            exact tv_test (ev_op (ev_cb (av_cons (ix rfl rfl) av_nil) cd_abs) ev_int (rd_l rd_eqI))
        · intro h1
          rw [Bool.and_eq_true] at h1
          have ha0 := of_decide_eq_true h1.1
          have ho1 : o.natAbs = 1 := by
            have := of_decide_eq_true h1.2
            split at this <;> omega
          refine sg_asg (x := .d (.str (S (NT.signed a o)))) ?_ ⟨rfl, rfl⟩
          refine EV.is (ev_op (ev_op (ev_lstX (av_cons ev_str (av_cons ev_str av_nil))) (ev_cb (av_cons (ev_op (ix rfl rfl) ev_int rd_I0b) av_nil) (cd_l cd_intB)) (rd_l (rd_ixL (d := .str (S (if o < 0 then [45] else []))) ?_))) (zsE rfl) (rd_r (rd_l (rd_strs ?_)))) ?_
          · by_cases hn : o < 0
            · rw [if_pos hn, decide_eq_true hn, ← S_m]
              rfl
            · rw [if_neg hn, decide_eq_false hn]
              rfl
          · rw [S_len, S_len]
            exact le_sizeLine (by split <;> simp only [List.length_cons, List.length_nil] <;> omega)
          · refine congrArg (fun z => El.d (.str z)) (TL.ext_tl ?_)
            rw [TL.tl_append, tl_S, tl_S, tl_S]
            unfold NT.signed NT.bodyL
            congr 1
            rw [if_neg (by omega), if_pos ho1]
            show (if a = 0 then [] else if a = 1 then [122] else 122 :: TL.numL a) = _
            rw [if_neg (by omega)]
            split <;> rfl
        · intro h1
          refine sg_next ⟨rfl, ?_⟩
          have e : so ++ zs = NT.signed a o := by
            show ((if o < 0 then [45] else []) ++ TL.numL o.natAbs) ++ (if a = 0 then [] else if a = 1 then [122] else 122 :: TL.numL a) = _
            unfold NT.signed NT.bodyL
            rw [List.append_assoc]
            congr 1
            by_cases ha : a = 0
            · rw [if_pos ha, if_pos ha, List.append_nil]
            · rw [if_neg ha, if_neg ha]
              have : o.natAbs ≠ 1 := by
                intro z
                rw [decide_eq_true (by omega), decide_eq_true (by split <;> omega)] at h1
                cases h1
              rw [if_neg this]
              split <;> simp
          rw [e]
          rfl
      rintro Γ Θ ⟨rfl, rfl⟩
      refine sg_seq (sg_mid (fun Γ Θ => Θ = [] ∧ Γ = [some (.d (.tuple (l.map .int))), some (.d (.str fnd)), some (.d (.int a)), some (.d (.str (S ((if NT.nz (l.take a) = [] then [] else NT.sepL o) ++ NT.signed a o))))]) ?_ ?_)
      · apply sg_if (b := !decide (fnd = Str.ofString "") && decide (0 < o))
        · apply tv_and
          · exact tv_test (ev_op (ev_var rfl) ev_str (rd_l rd_neS))
          · intro _
            exact tv_test (ev_op (ix rfl rfl) ev_int rd_I0b)
        · intro hc
          have hc : fnd ≠ Str.ofString "" ∧ 0 < o := by simpa using hc
          have hn : NT.nz (l.take a) ≠ [] := fun z => hc.1 (TL.ext_tl (by rw [hf, z]; rfl))
          refine sg_asg (x := .d (.str (Str.ofString "+" ++ S (NT.signed a o)))) (ev_op ev_str (ev_var rfl) (rd_r (rd_l (rd_strs ?_)))) ⟨rfl, ?_⟩
          · rw [S_p, S_len, S_len]
            exact le_sizeLine (by simp only [List.length_cons, List.length_nil]; omega)
          · rw [if_neg hn]
            unfold NT.sepL
            rw [if_pos hc.2, S_p, S_app]
            rfl
        · intro hc
          have hc : fnd ≠ Str.ofString "" → ¬ 0 < o := by simpa using hc
          refine sg_next ⟨rfl, ?_⟩
          have : (if NT.nz (l.take a) = [] then [] else NT.sepL o) = [] := by
            by_cases hn : NT.nz (l.take a) = []
            · rw [if_pos hn]
            · have hfn : fnd ≠ Str.ofString "" := fun z => hn (NT.shownZ_nil.mp (by rw [← hf, z]; rfl))
              unfold NT.sepL
              rw [if_neg hn, if_neg (hc hfn)]
          rw [this]
          rfl
      rintro Γ Θ ⟨rfl, rfl⟩
      refine sg_asg (x := .d (.str (fnd ++ S ((if NT.nz (l.take a) = [] then [] else NT.sepL o) ++ NT.signed a o)))) (ev_op (ev_var rfl) (ev_var rfl) (rd_r (rd_l (rd_strs ?_)))) ⟨rfl, _, _, _, rfl, ?_⟩
      · rw [str_len, S_len, List.length_append]
        have : (if NT.nz (l.take a) = [] then [] else NT.sepL o).length ≤ 1 := by
          split
          · simp
          · unfold NT.sepL; split <;> simp
        exact le_sizeLine (by omega)
      · rw [TL.tl_append, tl_S, hf, htk, NT.nz_snoc, if_neg h0, hlen, NT.shownZ_snoc, List.append_assoc]
    · intro h0
      have h0 : o = 0 := by simpa using h0
      refine sg_next ⟨rfl, fnd, _, _, rfl, ?_⟩
      rw [htk, NT.nz_snoc, if_pos h0, List.append_nil]
      exact hf
  · rintro Γ' Θ' ⟨rfl, fnd, u, v, rfl, hf⟩
    rw [List.length_range, List.take_length] at hf
    refine sg_retV (x := .d (.str (NT.shownS l))) ?_ rfl
    apply ev_ite (b := !decide (fnd = Str.ofString ""))
    · walk_at "ev"
    · intro h0
      have h0 : fnd ≠ Str.ofString "" := by simpa using h0
      have : NT.nz l ≠ [] := fun z => h0 (TL.ext_tl (by rw [hf, z]; rfl))
      refine EV.is (ev_var rfl) ?_
      unfold NT.shownS NT.shownT
      rw [if_neg this]
      exact congrArg (fun z => El.d (.str z)) (TL.ext_tl hf)
    · intro h0
      have h0 : fnd = Str.ofString "" := by simpa using h0
      subst h0
      have : NT.nz l = [] := NT.shownZ_nil.mp hf.symm
      refine EV.is ev_str ?_
      unfold NT.shownS NT.shownT
      rw [if_pos this]
      rfl
abbrev s__law_number : Stmt := topS 37
theorem sc__law_number : FnScope ["_law_feed_here", "_law_wide", "_law_found", "_law_k", "_law_way", "_law_big"] ["_law_feed_here", "_law_wide"] (defScope s__law_number) := ⟨rfl, rfl, rfl, by decide +kernel, rfl, by decide +kernel, by decide +kernel⟩
theorem c__law_number (D : At K mg "_law_number" s__law_number ["_law_feed_here", "_law_wide"]) (m_tuple : mg "tuple" = none) (m_range : mg "range" = none) (C__law_draw : Cal P w K mg base CX0 1 "_law_draw" ["_law_feed_here", "_law_many"] (spM K 2 fs_draw)) : Cal P w K mg base CX0 2 "_law_number" ["_law_feed_here", "_law_wide"] (spM K 2 fs_number) := by
  refine cal_mk0 D sc__law_number (fun vs H Q E h => spM_len h) fun f cdv A outer s H vs Q E hg hr h => ?_
  have hu := hu_of hr
  refine ⟨_, (pss_cons (ps_set (i := 2) sc__law_number.nd rfl (by first | exact Or.inl rfl | exact Or.inr rfl) (pe_lst pa_nil))
      (pss_cons (ps_for PassesOwn.never rfl (pi_range1 (by rfl) m_range (pa_cons (pv 1) pa_nil)) (pg_name (i := 3) sc__law_number.nd rfl (by first | exact Or.inl rfl | exact Or.inr rfl))
      (pss_cons (ps_set (i := 4) sc__law_number.nd rfl (by first | exact Or.inl rfl | exact Or.inr rfl) (pe_callC C__law_draw hg hr pass0 (by rfl) (pa_cons (pv 0) (pa_cons pe_int pa_nil))))
      (pss_cons (ps_set (i := 5) sc__law_number.nd rfl (by first | exact Or.inl rfl | exact Or.inr rfl) (pe_ifExp (pt_cmpR (kx_eq (K := K) rfl hr.units) (pv 4) pe_int (nomark _)) (pe_op op_sub (pe_op op_sub (pe_op op_pow pe_int pe_int) pe_int) (pe_callC C__law_draw hg hr pass0 (by rfl) (pa_cons (pv 0) (pa_cons (pe_op op_pow pe_int pe_int) pa_nil)))) (pe_callC C__law_draw hg hr pass0 (by rfl) (pa_cons (pv 0) (pa_cons pe_int pa_nil)))))
      (pss_one (ps_expr (pe_bm PySem.F.plainAttrs_list PySem.F.slot_list_append PySem.F.type_list_append mt_append (pv 2) (pa_cons (pe_ix (kx_ix (K := K) rfl) (pe_lst (pa_cons pe_int (pa_cons pe_int (pa_cons (pe_un un_neg pe_int) (pa_cons (pv 5) (pa_cons (pe_op op_sub pe_int (pv 5)) (pa_cons (pv 5) pa_nil))))))) (pv 4) (fun _ _ => rfl)) pa_nil)))))))
      (pss_one (ps_ret (pe_callTy (kx_tuple (K := K) rfl) (by rfl) m_tuple (by decide +kernel) (pa_cons (pv 2) pa_nil)))))), body_M h fun es Θ R hn hp => ?_⟩
  obtain ⟨wide, cells, a, left, rfl, rfl, hw, ha, hc, hR⟩ := hp
  refine sg_seq (sg_asgN (en_lst av_nil (by decide)) ?_)
  refine sg_seq ?_
  refine sg_for (l := List.range wide) (en := fun i : Nat => .int (i : Int)) ?_ (fun i Γ Θ => ∃ (l : List Int) (a' : Nat) (left' : Int) (u v w : Option El), Γ = [some (.at 0), some (.d (.int wide)), some (.at 1), u, v, w] ∧ Θ = [feedO cells a' left', .lst ((l.map PyData.int).map .d)] ∧ l.length = i ∧ (∀ o ∈ l, o.natAbs < 2 ^ 90) ∧ a' ≤ a + 2 * i) ?_ ?_ ?_
  · refine IV.cast (iv_rng1 (n := (wide : Nat)) (av_cons (ev_var rfl) av_nil) (by omega) (by omega)) ?_
    rw [Int.toNat_natCast]
  · exact ⟨[], a, left, _, _, _, rfl, rfl, rfl, by simp, by omega⟩
  · rintro i x Γ' Θ' hx ⟨l, a1, left1, u, v, w, rfl, rfl, hl, hb, ha1⟩
    have hi : i < wide := by
      have := (List.getElem?_eq_some_iff.mp hx).1
      rwa [List.length_range] at this
    refine ⟨_, _, gv_name, ?_⟩
    refine sg_seq (sg_asgG (eg_draw (m := 6) (k := 0) (av_cons (ev_var rfl) (av_cons ev_int av_nil)) rfl (by decide) (by decide) (by omega) hc fun way a2 left2 hway ha2 => ?_))
    refine sg_seq (sg_mid (fun Γ Θ => ∃ (big : Int) (a3 : Nat) (left3 : Int), Γ = [some (.at 0), some (.d (.int wide)), some (.at 1), some (.d (.int x)), some (.d (.int way)), some (.d (.int big))] ∧ Θ = [feedO cells a3 left3, .lst ((l.map PyData.int).map .d)] ∧ big.natAbs < 2 ^ 90 ∧ a3 ≤ a2 + 1) ?_ ?_)
    · refine sg_asgG (eg_if (tv_test (ev_op (ev_var rfl) ev_int (rd_l rd_eqI))) (fun _ => ?_) fun _ => ?_)
      · refine eg_op (EV.eg (ev_op (ev_op ev_int ev_int (rd_Ii (show CPow 10 20 from ⟨by decide, by decide, by decide⟩))) ev_int rd_I0i) ⟨_, rfl, ?_⟩)
        refine eg_draw (m := 1000000) (k := 0) (av_cons (ev_var rfl) (av_cons (ev_op ev_int ev_int (rd_Ii (show CPow 10 6 from ⟨by decide, by decide, by decide⟩))) av_nil)) rfl (by decide) (by decide) (by omega) hc fun v a3 left3 hv ha3 => ?_
        refine ⟨_, _, rfl, rd_I0i, _, a3, left3, rfl, rfl, ?_, ha3⟩
        show ((100000000000000000000 : Int) - 1 - (v : Int)).natAbs < _
        omega
      · refine eg_draw (m := 40) (k := 0) (av_cons (ev_var rfl) (av_cons ev_int av_nil)) rfl (by decide) (by decide) (by omega) hc fun v a3 left3 hv ha3 => ?_
        exact ⟨_, a3, left3, rfl, rfl, by rw [Int.natAbs_natCast]; omega, ha3⟩
    rintro Γ Θ ⟨big, a3, left3, rfl, rfl, hbig, ha3⟩
    have hat : ∃ o : Int, atI [PyData.int 0, .int 1, .int (-1), .int big, .int (0 - big), .int big] (way : Int) = some (.int o) ∧ o.natAbs < 2 ^ 90 := by
      have : way = 0 ∨ way = 1 ∨ way = 2 ∨ way = 3 ∨ way = 4 ∨ way = 5 := by omega
      rcases this with h | h | h | h | h | h <;> subst h
      · exact ⟨0, rfl, by decide⟩
      · exact ⟨1, rfl, by decide⟩
      · exact ⟨-1, rfl, by decide⟩
      · exact ⟨big, rfl, hbig⟩
      · exact ⟨0 - big, rfl, by omega⟩
      · exact ⟨big, rfl, hbig⟩
    obtain ⟨o, ho, hob⟩ := hat
    refine sg_drop (eg_append (k := 1) (es := (l.map PyData.int).map .d) (x := .d (.int o)) (ev_var rfl) (ev_op (ev_lstX (av_cons ev_int (av_cons ev_int (av_cons (ev_neg ev_int) (av_cons (ev_var rfl) (av_cons (ev_op ev_int (ev_var rfl) rd_I0i) (av_cons (ev_var rfl) av_nil)))))) (by show 6 ≤ sizeLine; decide)) (ev_var rfl) (rd_l (rd_ixL ho))) rfl (by rw [List.length_map, List.length_map]; exact lt_sizeLine (by omega)) ?_)
    refine ⟨l ++ [o], a3, left3, _, _, _, rfl, ?_, by rw [List.length_append, hl]; rfl, ?_, by omega⟩
    · show [feedO cells a3 left3, OD.lst _] = _
      rw [List.map_append, List.map_append]
      rfl
    · intro z hz
      rcases List.mem_append.mp hz with q | q
      · exact hb z q
      · rw [List.mem_singleton.mp q]; omega
  · rintro Γ' Θ' ⟨l, a1, left1, u, v, w, rfl, rfl, hl, hb, ha1⟩
    rw [List.length_range] at hl ha1
    refine sg_retV (x := .d (.tuple (l.map .int))) (ev_cb (av_cons (ev_var rfl) av_nil) (cd_tupO rfl)) ?_
    exact hR l a1 left1 _ hl hb ha1
end
end T63

namespace T63
open PySem PySem.Spec PyProof.Rows L2 DL TX
local macro_rules | `(tactic| walk_at "rd") => `(tactic| first
  | exact rd_I0i | exact rd_I0b
  | exact rd_l rd_I0i | apply rd_Ii | (apply rd_l; apply rd_Ii)
  | exact rd_l rd_eqI | exact rd_l rd_neI | exact rd_l rd_eqS | exact rd_l rd_neS | exact rd_l rd_eqB
  | (apply rd_r; apply rd_eq) | (apply rd_r; apply rd_ne)
  | (apply rd_r; apply rd_l; apply rd_strs) | (apply rd_r; apply rd_r; apply rd_l; apply rd_catT)
  | (apply rd_r; apply rd_l; apply rd_ixT) | (apply rd_l; apply rd_ixL) | (apply rd_r; apply rd_r; apply rd_ixS) | (apply rd_l; apply rd_ixO (by rfl))
  | (apply rd_r; apply rd_l; apply rd_repT) | exact ev_in_sign)
local macro_rules | `(tactic| walk_at "cd") => `(tactic| first
  | exact cd_l cd_lenT | exact cd_l cd_lenL | exact cd_l (cd_lenO (by rfl)) | (apply cd_r; apply cd_lenS)
  | (apply cd_l; apply cd_strI) | (apply cd_r; apply cd_intS) | exact cd_l cd_intB | exact cd_abs | exact cd_min | exact cd_max
  | exact cd_all | exact cd_any | apply cd_repr | exact cd_tupL | exact cd_tupT | exact cd_tupO (by rfl))
local macro_rules | `(tactic| walk_at "ev") => `(tactic| repeat' (first
  | exact ev_int | exact ev_str | exact ev_bl | exact ev_non | exact ev_var (by rfl)
  | exact av_nil | with_reducible apply av_cons
  | with_reducible apply ev_op | walk_at "rd" | with_reducible apply ev_neg | with_reducible apply ev_isN | with_reducible apply ev_notN
  | with_reducible apply ev_cb | walk_at "cd"
  | with_reducible apply ev_callX | (show List.map El.d (List.map unD _) = _; rfl) | (show List.length (List.map unD _) = _; rfl) | (show List.length (List.cons _ _) ≤ sizeLine; exact le_sizeLine (by simp only [List.length_cons, List.length_nil]; omega))
  | with_reducible apply ev_tupX | with_reducible apply ev_lstX | with_reducible apply ev_tupY | with_reducible apply ev_lstY | (show _ = List.map El.d _; rfl) | with_reducible apply ev_slS | with_reducible apply ev_slT | exact ov_none | apply ov_some
  | with_reducible apply ev_partition
  | with_reducible apply tv_test | with_reducible apply tv_B | with_reducible apply tv_not))
section
variable {P : Program} {w : World} {K : PySem.W.Frag} {mg : Str → Option Value} {base : Heap}
abbrev s_read_number : Stmt := topS 23
theorem sc_read_number : FnScope ["n", "text", "found", "k", "pieces", "piece", "place"] ["n", "text"] (defScope s_read_number) := ⟨rfl, rfl, rfl, by decide +kernel, rfl, by decide +kernel, by decide +kernel⟩
theorem c_read_number (D : At K mg "read_number" s_read_number ["n", "text"]) (m_range : mg "range" = none) (m_tuple : mg "tuple" = none) (m_len : mg "len" = none) {C_NoText : Addr} (X_NoText : ExF K mg "NoText" C_NoText) (C_places : Cal P w K mg base CX0 2 "places" ["n"] (spP K 1 pf_places)) (C_shown_number : Cal P w K mg base CX0 2 "shown_number" ["one"] (spP K 1 pf_shown_number)) (C_place_in : Cal P w K mg base CX0 2 "place_in" ["text"] (spP K 1 pf_place_in)) : Cal P w K mg base (L2.CX P w) 3 "read_number" ["n", "text"] (spX K mg 2 pf_read_number) := by
  refine cal_mkTC D sc_read_number (fun vs H Q E h => spX_len h) (by decide +kernel) (by decide) fun f cdv A outer s H vs Q E hg hr h => ?_
  have hu := hu_of hr
  refine ⟨_, (psst_cons (PST.of (ps_setLc (i := 2) (own := [("k", 3)]) (by rfl) sc_read_number.nd rfl rfl (sw_true rfl rfl rfl (by decide +kernel)) (pi_range1 (by rfl) m_range (pa_cons (pe_callC C_places hg hr pass0 (by rfl) (pa_cons (pv 0) pa_nil)) pa_nil)) (blkOk_by (N := ["n", "text", "found", "k", "pieces", "piece", "place"]) (sc := defScope s_read_number) (by decide +kernel)) (fun _ _ _ _ _ => (pg_name (i := 3) sc_read_number.nd rfl (by first | exact Or.inl rfl | exact Or.inr rfl))) (fun _ _ _ _ _ => pts_nil) (fun _ _ _ _ _ => pe_int)))
      (psst_cons (pst_set (i := 4) sc_read_number.nd rfl (by first | exact Or.inl rfl | exact Or.inr rfl) (pet_split (CwR.pet_replC (pv 1)) pe_str))
      (PSsT.of (pss_cons (ps_if (pt_cmpR (kx_eq (K := K) rfl hr.units) (pe_slice (kx_sl (K := K) rfl) (pv 1) po_none (po_some pe_int)) pe_str (nomark _))
      (pss_one (ps_set (i := 4) sc_read_number.nd rfl (by first | exact Or.inl rfl | exact Or.inr rfl) (pe_slice (kx_sl (K := K) rfl) (pv 4) (po_some pe_int) po_none)))
      pss_nil)
      (pss_cons (ps_for (passes_of rfl) rfl (pi_or (kx_ilist (K := K) rfl (pv 4)) (kx_itup (K := K) rfl (pv 4))) (pg_name (i := 5) sc_read_number.nd rfl (by first | exact Or.inl rfl | exact Or.inr rfl))
      (pss_cons (ps_set (i := 6) sc_read_number.nd rfl (by first | exact Or.inl rfl | exact Or.inr rfl) (pe_callC C_place_in hg hr pass0 (by rfl) (pa_cons (pv 5) pa_nil)))
      (pss_cons (ps_if (PW.pt (pw_or (pt_cmp (pc_isN (pv 6))) (pw_or1 (pt_cmpR op_ge (pe_ix (kx_ix (K := K) rfl) (pv 6) pe_int (fun _ _ => rfl)) (pe_callB (kx_len (K := K) rfl) (by rfl) m_len (by decide +kernel) (pa_cons (pv 2) pa_nil)) (nomark _)))))
      (pss_one (ps_raise (by rfl) (takes_of rfl rfl rfl rfl) (pmk_own PySem.F.excBase_ValueError X_NoText.xP X_NoText.gC X_NoText.kP (raises_own X_NoText.bP X_NoText.tP) (by rfl))))
      pss_nil)
      (pss_one (ps_asg (pe_ix (kx_ix (K := K) rfl) (pv 6) pe_int (fun _ _ => rfl)) (pg_sub (pv 2) (pe_ix (kx_ix (K := K) rfl) (pv 6) pe_int (fun _ _ => rfl)) set_list))))))
      (pss_cons (ps_if (pt_cmpR (kx_ne (K := K) rfl hr.units) (pe_callC C_shown_number hg hr pass0 (by rfl) (pa_cons (pv 2) pa_nil)) (pv 1) (nomark _))
      (pss_one (ps_raise (by rfl) (takes_of rfl rfl rfl rfl) (pmk_own PySem.F.excBase_ValueError X_NoText.xP X_NoText.gC X_NoText.kP (raises_own X_NoText.bP X_NoText.tP) (by rfl))))
      pss_nil)
      (pss_one (ps_ret (pe_callTy (kx_tuple (K := K) rfl) (by rfl) m_tuple (by decide +kernel) (pa_cons (pv 2) pa_nil)))))))))), body_X h fun ds o hn hp => ?_⟩
  obtain ⟨n, t, rfl, hn1, hn100, hlt, hyes, hno⟩ := hp
  have hle := placesN_le n
  have hpos := placesN_pos n hn1
  generalize hm : placesN n = m at hyes hno hle hpos
  refine sg_seq (sg_asgN (od := .lst (((List.replicate m (0 : Int)).map PyData.int).map .d)) ?_ ?_)
  · refine (en_map (l := List.range m) (en := fun i : Nat => PyData.int (i : Int)) (f := fun _ => PyData.int 0) ?_ ?_ ?_).is ?_
    · refine IS.cast (IV.is (iv_rng1 (n := (m : Nat)) (av_cons (ev_callX (av_cons (ev_var rfl) av_nil) ⟨n, rfl, by omega, by rw [hm]⟩) av_nil) (by omega) (by omega))) ?_
      rw [Int.toNat_natCast]
    · intro a ha
      walk_at "ev"
    · rw [List.length_range]; exact lt_sizeLine (by omega)
    · simp
      exact (List.map_const' (l := List.range m) (b := El.d (PyData.int 0))).trans (by rw [List.length_range])
  refine sg_seq (sg_asg (x := .d (.list ((piecesOf t).map fun x => PyData.str (S x)))) ?_ ?_)
  · apply EN.ev
    refine (en_split (a := Txt.replace (S t) (Str.ofString "-") (Str.ofString "+-")) (b := Str.ofString "+") (ev_replC (ev_var (by rfl)) ?_) ev_str (by decide) ?_).is ?_
    · rw [S_len]
      show t.length + (t.length + 1) * 2 ≤ _
      omega
    · have := TK.replace_len (S t) (Str.ofString "-") (Str.ofString "+-")
      have e2 : (Str.ofString "+-").length = 2 := rfl
      rw [S_len, e2] at this
      exact le_sizeLine (by omega)
    · rw [split_pieces]
      simp only [List.map_map]
      rfl
  refine sg_seq (sg_mid (fun Γ Θ => Θ = [.lst (((List.replicate m (0 : Int)).map PyData.int).map .d)] ∧ ∃ a b c, Γ = [some (.d (.int n)), some (.d (.str (S t))), some (.at 0), a, some (.d (.list ((psL t).map fun x => PyData.str (S x)))), b, c]) ?_ ?_)
  · apply sg_if (b := decide (t.take 1 = [45]))
    · refine TV.is (by walk_at "ev"; exact le_sizeLine (by rw [S_len]; omega)) ?_
      rw [str_eq, tl_cut1]
      rfl
    · intro h
      have h := of_decide_eq_true h
      refine sg_asg (x := .d (.list ((psL t).map fun x => PyData.str (S x)))) ?_ ⟨rfl, _, _, _, rfl⟩
      refine EV.is (EN.ev (en_slL (ds := (piecesOf t).map fun x => PyData.str (S x)) (lo := some 1) (hi := none) (ev_var (by rfl)) (ov_some ev_int) ov_none)) ?_
      refine congrArg (fun z => El.d (.list z)) ?_
      unfold psL
      rw [if_pos h, List.map_drop]
      generalize (piecesOf t).map (fun x => PyData.str (S x)) = z
      unfold DL.cutD
      cases z with
      | nil => rfl
      | cons a b =>
        rw [List.length_cons, HT.sIx_none, show (some (1 : Int)) = some ((1 : Nat) : Int) from rfl, HT.sIx_nat, Nat.min_eq_left (by omega), List.drop_succ_cons, List.drop_zero, List.take_of_length_le (by omega)]
    · intro h
      have h := of_decide_eq_false h
      refine sg_next ⟨rfl, none, none, none, ?_⟩
      unfold psL
      rw [if_neg h]
      rfl
  rintro Γ Θ ⟨rfl, sa, sb, sc, rfl⟩
  refine sg_seq ?_
  refine sg_for (l := psL t) (en := fun x => PyData.str (S x)) (is_list (ev_var (by rfl))) (fun i Γ Θ => ∃ f : List Int, Θ = [.lst ((f.map PyData.int).map .d)] ∧ f.length = m ∧ (∀ o ∈ f, o.natAbs < NT.BIG) ∧ (∀ l, Canon m t l → f = NT.back ((NT.ents l).take i) (List.replicate m 0)) ∧ ∃ a b c, Γ = [some (.d (.int n)), some (.d (.str (S t))), some (.at 0), a, some (.d (.list ((psL t).map fun x => PyData.str (S x)))), b, c]) ?_ ?_ ?_
  · refine ⟨List.replicate m 0, rfl, by simp, fun o ho => ?_, fun l _ => rfl, _, _, _, rfl⟩
    rw [(List.mem_replicate.mp ho).2]
    exact sm_BIG (by decide)
  · rintro i x Γ' Θ' hx ⟨f, rfl, hfl, hfb, hfc, a, b, c, rfl⟩
    have hxl := psL_len (List.mem_of_getElem? hx)
    have hce : ∀ l, Canon m t l → ∃ p o, (NT.ents l)[i]? = some (p, o) ∧ TX.placeOf x = some (p, o) ∧ p < m := by
      intro l hl
      have e := canon_ps hl
      rw [e, List.getElem?_map] at hx
      cases hq : (NT.ents l)[i]? with
      | none => rw [hq] at hx; cases hx
      | some q =>
        obtain ⟨p, o⟩ := q
        rw [hq] at hx
        have hx : NT.signed p o = x := Option.some.inj hx
        have hne : l ≠ [] := fun z => by rw [← hl.1, z] at hpos; exact absurd hpos (by decide)
        have h1 := NT.ents_mem hne (List.mem_of_getElem? hq)
        have h2 := (List.getElem?_eq_some_iff.mp h1).1
        rw [hl.1] at h2
        exact ⟨p, o, rfl, by rw [← hx, placeOf_signed], h2⟩
    refine ⟨_, _, gv_name, ?_⟩
    refine sg_seq (sg_asg (x := .d (plD (TX.placeOf x))) (ev_callX (av_cons (ev_var rfl) av_nil) ⟨x, rfl, by omega, rfl⟩) ?_)
    refine sg_seq ?_
    cases hq : TX.placeOf x with
    | none =>
      apply sg_if (b := true)
      · refine TV.is (a := isNone .none || true) (tv_or (tv_test (ev_isN (ev_var (by rfl)))) fun z => by cases z) rfl
      · intro _
        refine sg_raise0 ⟨_, _, rfl, X_NoText.gC, hno ?_⟩
        rintro ⟨l, hl⟩
        obtain ⟨p, o, _, h, _⟩ := hce l hl
        rw [hq] at h
        cases h
      · intro h; cases h
    | some q =>
      obtain ⟨p, o⟩ := q
      have hob := placeOf_lt hq (by omega)
      apply sg_if (b := decide ((m : Int) ≤ p))
      · refine TV.is (a := isNone (.tuple [.int p, .int o]) || decide ((m : Int) ≤ p)) (tv_or (tv_test (ev_isN (ev_var (by rfl)))) fun _ => tv_test ?_) rfl
        refine EV.is (ev_op (ev_op (ev_var (x := .d (.tuple [.int p, .int o])) (by rfl)) ev_int (rd_r (rd_l (rd_ixT (d := .int p) (by rfl))))) (ev_cb (av_cons (ev_var (by rfl)) av_nil) (cd_l (cd_lenO (by rfl)))) rd_I0b) ?_
        rw [List.length_map, List.length_map, hfl]
      · intro hge
        have hge := of_decide_eq_true hge
        refine sg_raise0 ⟨_, _, rfl, X_NoText.gC, hno ?_⟩
        rintro ⟨l, hl⟩
        obtain ⟨p', o', _, h, hp⟩ := hce l hl
        rw [hq] at h
        cases h
        omega
      · intro hlt2
        have hlt2 := of_decide_eq_false hlt2
        have hpm : p < m := by omega
        refine sg_next ?_
        refine sg_setL (k := 0) (x := .d (.int o)) (i := p) (j := p) (es := (f.map PyData.int).map .d) (ev_op (ev_var (x := .d (.tuple [.int p, .int o])) (by rfl)) ev_int (rd_r (rd_l (rd_ixT (d := .int o) (by rfl))))) (ev_var (by rfl)) (ev_op (ev_var (x := .d (.tuple [.int p, .int o])) (by rfl)) ev_int (rd_r (rd_l (rd_ixT (d := .int p) (by rfl))))) rfl ?_ ?_
        · unfold ixN
          rw [List.length_map, List.length_map, if_pos (by omega), if_pos (by omega)]
          rfl
        · refine ⟨f.set p o, ?_, by rw [List.length_set, hfl], fun u hu => ?_, fun l hl => ?_, _, _, _, rfl⟩
          · show [OD.lst _] = _
            rw [List.map_set, List.map_set]
          · rcases List.mem_or_eq_of_mem_set hu with h | h
            · exact hfb u h
            · rw [h]; exact hob
          · obtain ⟨p', o', hi, h, _⟩ := hce l hl
            rw [hq] at h
            cases h
            have ht : (NT.ents l).take (i + 1) = (NT.ents l).take i ++ [(p, o)] := by rw [List.take_add_one, hi]; rfl
            rw [ht, NT.back_snoc, ← hfc l hl]
  · rintro Γ' Θ' ⟨f, rfl, hfl, hfb, hfc, a, b, c, rfl⟩
    have hfc2 : ∀ l, Canon m t l → f = l := fun l hl => by
      have e := hfc l hl
      have e3 : (psL t).length = (NT.ents l).length := by rw [canon_ps hl, List.length_map]
      rw [e3, List.take_length] at e
      have e2 := NT.back_ents l
      rw [hl.1] at e2
      rw [e, e2]
    refine sg_seq ?_
    apply sg_if (b := !decide (NT.shownS f = S t))
    · exact tv_test (ev_op (ev_callL (av_cons (ev_var (by rfl)) av_nil) (.own rfl .nil) ⟨f, .inr rfl, by omega, hfb, rfl⟩ trivial) (ev_var (by rfl)) (rd_l rd_neS))
    · intro h
      have h : NT.shownS f ≠ S t := by simpa using h
      refine sg_raise0 ⟨_, _, rfl, X_NoText.gC, hno ?_⟩
      rintro ⟨l, hl⟩
      have := hfc2 l hl
      subst this
      exact h (by unfold NT.shownS; rw [hl.2]; rfl)
    · intro h
      have h : NT.shownS f = S t := by simpa using h
      have hcf : Canon m t f := ⟨hfl, by have := congrArg TL.tl h; exact this⟩
      refine sg_next ?_
      refine sg_retV (x := .d (.tuple (f.map .int))) ?_ ⟨_, rfl, hyes f hcf⟩
      exact ev_cb (av_cons (ev_var (by rfl)) av_nil) (cd_tupO (by rfl))
end
end T63

namespace T63
open PySem PySem.Spec PyProof.Rows L2 DL TX
local macro_rules | `(tactic| walk_at "rd") => `(tactic| first
  | exact rd_I0i | exact rd_I0b
  | exact rd_l rd_I0i | apply rd_Ii | (apply rd_l; apply rd_Ii)
  | exact rd_l rd_eqI | exact rd_l rd_neI | exact rd_l rd_eqS | exact rd_l rd_neS | exact rd_l rd_eqB
  | (apply rd_r; apply rd_eq) | (apply rd_r; apply rd_ne)
  | (apply rd_r; apply rd_l; apply rd_strs) | (apply rd_r; apply rd_r; apply rd_l; apply rd_catT)
  | (apply rd_r; apply rd_l; apply rd_ixT) | (apply rd_l; apply rd_ixL) | (apply rd_r; apply rd_r; apply rd_ixS) | (apply rd_l; apply rd_ixO (by rfl))
  | (apply rd_r; apply rd_l; apply rd_repT) | exact ev_in_sign)
local macro_rules | `(tactic| walk_at "cd") => `(tactic| first
  | exact cd_l cd_lenT | exact cd_l cd_lenL | exact cd_l (cd_lenO (by rfl)) | (apply cd_r; apply cd_lenS)
  | (apply cd_l; apply cd_strI) | (apply cd_r; apply cd_intS) | exact cd_l cd_intB | exact cd_abs | exact cd_min | exact cd_max
  | exact cd_all | exact cd_any | apply cd_repr | exact cd_tupL | exact cd_tupT | exact cd_tupO (by rfl))
local macro_rules | `(tactic| walk_at "ev") => `(tactic| repeat' (first
  | exact ev_int | exact ev_str | exact ev_bl | exact ev_non | exact ev_var (by rfl)
  | exact av_nil | with_reducible apply av_cons
  | with_reducible apply ev_op | walk_at "rd" | with_reducible apply ev_neg | with_reducible apply ev_isN | with_reducible apply ev_notN
  | with_reducible apply ev_cb | walk_at "cd"
  | with_reducible apply ev_callX | (show List.map El.d (List.map unD _) = _; rfl) | (show List.length (List.map unD _) = _; rfl) | (show List.length (List.cons _ _) ≤ sizeLine; exact le_sizeLine (by simp only [List.length_cons, List.length_nil]; omega))
  | with_reducible apply ev_tupX | with_reducible apply ev_lstX | with_reducible apply ev_tupY | with_reducible apply ev_lstY | (show _ = List.map El.d _; rfl) | with_reducible apply ev_slS | with_reducible apply ev_slT | exact ov_none | apply ov_some
  | with_reducible apply ev_partition
  | with_reducible apply tv_test | with_reducible apply tv_B | with_reducible apply tv_not))
section
variable {P : Program} {w : World} {K : PySem.W.Frag} {mg : Str → Option Value} {base : Heap}
abbrev s__law_figures : Stmt := topS 38
theorem sc__law_figures : FnScope ["_law_text", "_law_sign"] ["_law_text"] (defScope s__law_figures) := ⟨rfl, rfl, rfl, by decide +kernel, rfl, by decide +kernel, by decide +kernel⟩
theorem c__law_figures (D : At K mg "_law_figures" s__law_figures ["_law_text"]) (m_int : mg "int" = none) : Cal P w K mg base CX0 1 "_law_figures" ["_law_text"] (spP K 1 pf__law_figures) := by
  refine cal_mk0 D sc__law_figures (fun vs H Q E h => spP_len h) fun f cdv A outer s H vs Q E hg hr h => ?_
  have hu := hu_of hr
  refine ⟨_, (pss_cons (ps_if (PW.pt (pw_or (pt_cmpR (kx_eq (K := K) rfl hr.units) (pv 0) pe_str (nomark _)) (pw_or (pt_cmpR (kx_ne (K := K) rfl hr.units) (pe_lc (own := [("_law_sign", 1)]) (by rfl) sc__law_figures.nd (pi_str (pv 0)) (blkOk_by (N := ["_law_text", "_law_sign"]) (sc := defScope s__law_figures) (by decide +kernel)) (fun _ _ _ _ _ => (pg_name (i := 1) sc__law_figures.nd rfl (by first | exact Or.inl rfl | exact Or.inr rfl))) (fun _ _ _ _ _ => (pts_one (pt_cmpR op_notIn_sign (pv 1) pe_str (by rfl)))) (fun _ _ _ _ _ => (pv 1))) (pe_lst pa_nil) (nomark _)) (pw_or1 (pt_cmpR (kx_eq (K := K) rfl hr.units) (pe_ix (kx_ix (K := K) rfl) (pv 0) pe_int (fun _ _ => rfl)) pe_str (nomark _))))))
      (pss_one (ps_ret pe_non))
      pss_nil)
      (pss_one (ps_ret (pe_callTy cx_int (by rfl) m_int (by decide +kernel) (pa_cons (pv 0) pa_nil))))), body_pure h fun ds r hn hp => ?_⟩
  obtain ⟨t, rfl, hl, hlow, rfl⟩ := hp
  refine sg_seq ?_
  have hall : ∀ c, decide (c ∈ (Str.ofString "0123456789").cps.toList) = digB c := by
    intro c
    have e : (Str.ofString "0123456789").cps.toList = [48,49,50,51,52,53,54,55,56,57] := rfl
    rw [e]
    unfold digB
    congr 1
    simp
    omega
  apply sg_if (b := decide (t = []) || (!(t.all digB) || decide (t.head? = some 48)))
  · apply tv_or
    · refine TV.is (tv_test (ev_op (ev_var rfl) ev_str (rd_l rd_eqS))) ?_
      rw [S_nil]
      congr 1
      exact propext S_inj
    · intro hne
      have hne := of_decide_eq_false hne
      apply tv_or
      · apply tv_test
        have hlow2 : lowL (t.filter fun c => !digB c) := fun c hc => hlow c (List.mem_filter.mp hc).1
        refine EV.is (ev_op (x := .d (.list (((t.filter fun c => !digB c).map fun c => S [c]).map PyData.str))) ?_ (ev_lstY (ds := []) av_nil rfl (by decide)) (rd_r (rd_ne (shaped_signs hlow2) (by decide)))) ?_
        · apply EN.ev
          refine EN.is (en_filt (l := t) (en := fun c => PyData.str ⟨#[c]⟩) (f := fun c => PyData.str (S [c])) (p := fun c => !digB c) ?_ ?_ ?_ (lt_sizeLine (by omega))) ?_
          · exact IV.is (iv_str (s := S t) (ev_var rfl))
          · intro c hc
            refine TV.is (tv_test (ev_op (ev_var rfl) ev_str rd_notin_sign)) ?_
            rw [hall]
          · intro c hc _
            exact EV.is (ev_var rfl) rfl
          · unfold made
            simp only [List.map_map]
            rfl
        refine congrArg (fun z => El.d (.bool z)) ?_
        congr 1
        cases hq : t.filter fun c => !digB c with
        | nil =>
          have : t.all digB = true := List.all_eq_true.mpr fun c hc => by
            cases q : digB c with
            | true => rfl
            | false =>
              have : c ∈ t.filter fun c => !digB c := List.mem_filter.mpr ⟨hc, by rw [q]; rfl⟩
              rw [hq] at this
              cases this
          rw [this]
          rfl
        | cons a r =>
          have ha : a ∈ t.filter fun c => !digB c := by rw [hq]; simp
          have ha := List.mem_filter.mp ha
          have : t.all digB = false := by
            refine Bool.eq_false_iff.mpr fun z => ?_
            have := List.all_eq_true.mp z a ha.1
            rw [this] at ha
            cases ha.2
          rw [this]
          rfl
      · intro _
        obtain ⟨c, r, hcr⟩ : ∃ c r, t = c :: r := by
          cases t with
          | nil => exact absurd rfl hne
          | cons c r => exact ⟨c, r, rfl⟩
        refine TV.is (tv_test (ev_op (ev_op (ev_var rfl) ev_int (rd_r (rd_r (rd_ixS (i := 0) (c := c) (atI_nat (j := 0) (by show t[0]? = _; rw [hcr]; rfl)) (by rw [S_len]; exact le_sizeLine (by omega)))))) ev_str (rd_l rd_eqS))) ?_
        rw [hcr]
        congr 1
        show ((⟨#[c]⟩ : Str) = Str.ofString "0") = (some c = some 48)
        rw [one_S, show Str.ofString "0" = S [48] from TL.ext_tl rfl]
        exact propext ⟨fun z => by have := S_inj.mp z; simpa using this, fun z => by cases z; rfl⟩
  · intro h0
    refine sg_retV ev_non ?_
    have : lawFigs t = none := by
      unfold lawFigs
      rw [if_neg]
      rintro ⟨h1, h2, h3⟩
      rw [h2, decide_eq_false h1, decide_eq_false h3] at h0
      cases h0
    rw [this]
    rfl
  · intro h0
    refine sg_next ?_
    rw [Bool.or_eq_false_iff, Bool.or_eq_false_iff] at h0
    have h1 : t ≠ [] := of_decide_eq_false h0.1
    have h2 : t.all digB = true := by
      cases q : t.all digB with
      | true => rfl
      | false => rw [q] at h0; cases h0.2.1
    have h3 := of_decide_eq_false h0.2.2
    have e : lawFigs t = some (NumText.digitsVal t) := if_pos ⟨h1, h2, h3⟩
    rw [e]
    refine sg_retV ?_ rfl
    refine ev_cb (av_cons (ev_var rfl) av_nil) (cd_r (cd_intS ?_ ?_))
    · refine PySem.intText_digits (x := S t) (fun c m => ?_) h1 ?_
      · exact of_decide_eq_true (List.all_eq_true.mp h2 c m)
      · rw [S_len]; omega
    · rw [S_len]; omega
abbrev s__law_piece : Stmt := topS 39
theorem sc__law_piece : FnScope ["_law_text", "_law_many", "_law_at", "_law_high"] ["_law_text"] (defScope s__law_piece) := ⟨rfl, rfl, rfl, by decide +kernel, rfl, by decide +kernel, by decide +kernel⟩
theorem c__law_piece (D : At K mg "_law_piece" s__law_piece ["_law_text"]) (C__law_figures : Cal P w K mg base CX0 1 "_law_figures" ["_law_text"] (spP K 1 pf__law_figures)) : Cal P w K mg base CX0 2 "_law_piece" ["_law_text"] (spP K 1 pf__law_piece) := by
  refine cal_mk0 D sc__law_piece (fun vs H Q E h => spP_len h) fun f cdv A outer s H vs Q E hg hr h => ?_
  have hu := hu_of hr
  refine ⟨_, (pss_cons (ps_if (pt_cmpR op_notIn_sign pe_str (pv 0) (by rfl))
      (pss_cons (ps_set (i := 1) sc__law_piece.nd rfl (by first | exact Or.inl rfl | exact Or.inr rfl) (pe_callC C__law_figures hg hr pass0 (by rfl) (pa_cons (pv 0) pa_nil)))
      (pss_one (ps_ret (pe_ifExp (pt_cmp (pc_isN (pv 1))) pe_non (pe_tup (pa_cons pe_int (pa_cons (pv 1) pa_nil)))))))
      pss_nil)
      (pss_cons (ps_set (i := 2) sc__law_piece.nd rfl (by first | exact Or.inl rfl | exact Or.inr rfl) (pe_m1 PySem.F.slot_str_index PySem.F.type_str_index mt_sindex (pv 0) pe_str))
      (pss_cons (ps_set (i := 1) sc__law_piece.nd rfl (by first | exact Or.inl rfl | exact Or.inr rfl) (pe_ifExp (pt_cmpR (kx_eq (K := K) rfl hr.units) (pv 2) pe_int (nomark _)) pe_int (pe_callC C__law_figures hg hr pass0 (by rfl) (pa_cons (pe_slice (kx_sl (K := K) rfl) (pv 0) po_none (po_some (pv 2))) pa_nil))))
      (pss_cons (ps_set (i := 3) sc__law_piece.nd rfl (by first | exact Or.inl rfl | exact Or.inr rfl) (pe_ifExp (pt_cmpR (kx_eq (K := K) rfl hr.units) (pe_slice (kx_sl (K := K) rfl) (pv 0) (po_some (pe_op (kx_add (K := K) rfl) (pv 2) pe_int)) po_none) pe_str (nomark _)) pe_int (pe_callC C__law_figures hg hr pass0 (by rfl) (pa_cons (pe_slice (kx_sl (K := K) rfl) (pv 0) (po_some (pe_op (kx_add (K := K) rfl) (pv 2) pe_int)) po_none) pa_nil))))
      (pss_cons (ps_if (PW.pt (pw_or (pt_cmp (pc_isN (pv 1))) (pw_or (pt_cmp (pc_isN (pv 3))) (pw_or (PW.pt (pw_and (pt_cmpR op_gt (pv 2) pe_int (nomark _)) (pw_and1 (pt_cmpR (kx_eq (K := K) rfl hr.units) (pv 1) pe_int (nomark _))))) (pw_or1 (pt_cmpR (kx_eq (K := K) rfl hr.units) (pe_slice (kx_sl (K := K) rfl) (pv 0) (po_some (pe_op (kx_add (K := K) rfl) (pv 2) pe_int)) po_none) pe_str (nomark _)))))))
      (pss_one (ps_ret pe_non))
      pss_nil)
      (pss_one (ps_ret (pe_tup (pa_cons (pv 3) (pa_cons (pv 1) pa_nil)))))))))), body_pure h fun ds r hn hp => ?_⟩
  obtain ⟨t, rfl, hl, hlow, rfl⟩ := hp
  have e0 := split122 t
  have e1 := congrArg List.length e0
  rw [List.length_append] at e1
  have lowA : lowL (pA t) := fun c hc => hlow c (by rw [e0]; exact List.mem_append_left _ hc)
  have lowR : lowL ((pR t).drop 1) := fun c hc => hlow c (by rw [e0]; exact List.mem_append_right _ (List.mem_of_mem_drop hc))
  have hSl : (S t).length ≤ sizeLine := by rw [S_len]; exact le_sizeLine (by omega)
  refine sg_seq ?_
  apply sg_if (b := decide (pR t = []))
  · refine TV.is (tv_test (ev_op (EV.is ev_str (show El.d (.str (Str.ofString "z")) = .d (.str ⟨#[122]⟩) from by rw [S_z, one_S])) (ev_var rfl) rd_notin_sign)) ?_
    show (!decide (122 ∈ t)) = _
    by_cases h : pR t = []
    · rw [decide_eq_true h, decide_eq_false (fun z => pR_mem.mp z h)]; rfl
    · rw [decide_eq_false h, decide_eq_true (pR_mem.mpr h)]; rfl
  · intro h
    have h := of_decide_eq_true h
    refine sg_seq (sg_asg (x := .d (optD (lawFigs t))) (ev_callX (av_cons (ev_var rfl) av_nil) ⟨t, rfl, hl, hlow, rfl⟩) ?_)
    have e : lawPiece t = (lawFigs t).map fun n => (0, n) := if_pos h
    rw [e]
    refine sg_retV (x := .d (plN ((lawFigs t).map fun n => (0, n)))) ?_ rfl
    apply ev_ite (tv_test (ev_isN (ev_var (by rfl))))
    · intro z
      cases hq : lawFigs t with
      | none => exact ev_non
      | some n => rw [hq] at z; cases z
    · intro z
      cases hq : lawFigs t with
      | none => rw [hq] at z; cases z
      | some n => exact ev_tupY (av_cons ev_int (av_cons (ev_var rfl) av_nil)) rfl (by show 2 ≤ sizeLine; decide)
  · intro h
    have h := of_decide_eq_false h
    obtain ⟨b, hb⟩ := (pR_cases t).resolve_left h
    have hlen : t.length = (pA t).length + 1 + b.length := by rw [e1, hb, List.length_cons]; omega
    refine sg_next ?_
    refine sg_seq (sg_asg (x := .d (.int (pA t).length)) (ev_index h (ev_var rfl) ev_str) ?_)
    have cutA : cutS (S t) none (some ((pA t).length : Int)) = S (pA t) := cut_S (by
      rw [tl_cutN _ _ (by rw [S_len]; omega)]
      show t.take (pA t).length = pA t
      rw [show t.take (pA t).length = (pA t ++ pR t).take (pA t).length from by rw [← e0], List.take_left])
    have cutB : cutS (S t) (some (((pA t).length : Int) + 1)) none = S ((pR t).drop 1) := cut_S (by
      have := tl_cutF (S t) ((pA t).length + 1)
      push_cast at this
      rw [this]
      show t.drop ((pA t).length + 1) = (pR t).drop 1
      rw [show t.drop ((pA t).length + 1) = (pA t ++ pR t).drop ((pA t).length + 1) from by rw [← e0], ← List.drop_drop, List.drop_left])
    have evB : ∀ {Γ : Gm}, Γ[0]? = some (some (.d (.str (S t)))) → Γ[2]? = some (some (.d (.int (pA t).length))) → EV K (tSl (fun x lo hi H Q => rSlS x lo hi H Q ∨ (fun x lo hi H Q => rSlA K x lo hi H Q ∨ rSlL K x lo hi H Q) x lo hi H Q) (tVar 0) (tPart (tOp (rAddX K) (tVar 2) (tC (V.int 1)))) tNoPart) Γ [] (.d (.str (S ((pR t).drop 1)))) := fun h1 h2 =>
      EV.is (ev_slS (ev_var h1) (ov_some (ev_op (ev_var h2) ev_int (rd_l rd_I0i))) ov_none hSl) (by rw [cutB])
    refine sg_seq (sg_asg (x := .d (optD (manyO t))) ?_ ?_)
    · apply ev_ite (b := decide (((pA t).length : Int) = 0)) (tv_test (ev_op (ev_var rfl) ev_int (rd_l rd_eqI)))
      · intro z
        have z := of_decide_eq_true z
        have : pA t = [] := List.eq_nil_of_length_eq_zero (by omega)
        unfold manyO
        rw [if_pos this]
        exact ev_int
      · intro z
        have z := of_decide_eq_false z
        have : pA t ≠ [] := fun y => z (by rw [y]; rfl)
        unfold manyO
        rw [if_neg this]
        refine ev_callX (av_cons (EV.is (ev_slS (ev_var rfl) ov_none (ov_some (ev_var rfl)) hSl) (by rw [cutA])) av_nil) ⟨pA t, rfl, by omega, lowA, rfl⟩
    refine sg_seq (sg_asg (x := .d (optD (highO t))) ?_ ?_)
    · apply ev_ite (tv_test (ev_op (evB rfl rfl) ev_str (rd_l rd_eqS)))
      · intro z
        have z := of_decide_eq_true z
        rw [S_nil, S_inj] at z
        unfold highO
        rw [if_pos z]
        exact ev_int
      · intro z
        have z := of_decide_eq_false z
        have : (pR t).drop 1 ≠ [] := fun y => z (by rw [y]; rfl)
        unfold highO
        rw [if_neg this]
        exact ev_callX (av_cons (evB rfl rfl) av_nil) ⟨_, rfl, by rw [hb]; simp; omega, lowR, rfl⟩
    have e : lawPiece t = (manyO t).bind fun n => (highO t).bind fun p => if (pA t ≠ [] ∧ n = 1) ∨ (pR t).drop 1 = [49] then none else some (p, n) := if_neg h
    rw [e]
    refine sg_seq ?_
    cases hm : manyO t with
    | none =>
      apply sg_if (b := true)
      · exact TV.is (a := isNone .none || true) (tv_or (tv_test (ev_isN (ev_var (by rfl)))) fun z => by cases z) rfl
      · intro _
        exact sg_retV ev_non rfl
      · intro z; cases z
    | some n =>
      cases hh : highO t with
      | none =>
        apply sg_if (b := true)
        · exact TV.is (a := isNone (.int n) || (isNone .none || true)) (tv_or (tv_test (ev_isN (ev_var (by rfl)))) fun _ => tv_or (tv_test (ev_isN (ev_var (by rfl)))) fun z => by cases z) rfl
        · intro _
          exact sg_retV ev_non rfl
        · intro z; cases z
      | some p =>
        apply sg_if (b := (decide ((0 : Int) < (pA t).length) && decide ((n : Int) = 1)) || decide (S ((pR t).drop 1) = Str.ofString "1"))
        · refine TV.is (a := isNone (.int n) || (isNone (.int p) || ((decide ((0 : Int) < (pA t).length) && decide ((n : Int) = 1)) || decide (S ((pR t).drop 1) = Str.ofString "1")))) (tv_or (tv_test (ev_isN (ev_var (by rfl)))) fun _ => tv_or (tv_test (ev_isN (ev_var (by rfl)))) fun _ => tv_or (tv_and (tv_test (ev_op (ev_var rfl) ev_int rd_I0b)) fun _ => tv_test (ev_op (ev_var rfl) ev_int (rd_l rd_eqI))) fun _ => tv_test (ev_op (evB rfl rfl) ev_str (rd_l rd_eqS))) rfl
        · intro z
          refine sg_retV ev_non ?_
          have : (pA t ≠ [] ∧ n = 1) ∨ (pR t).drop 1 = [49] := by
            rw [Bool.or_eq_true, Bool.and_eq_true] at z
            rcases z with z | z
            · left
              have z1 := of_decide_eq_true z.1
              have z2 := of_decide_eq_true z.2
              exact ⟨fun y => by rw [y] at z1; exact absurd z1 (by decide), by omega⟩
            · right
              have z := of_decide_eq_true z
              rw [show Str.ofString "1" = S [49] from TL.ext_tl rfl, S_inj] at z
              exact z
          show El.d PyData.none = .d (plN (if (pA t ≠ [] ∧ n = 1) ∨ (pR t).drop 1 = [49] then none else some (p, n)))
          rw [if_pos this]
          rfl
        · intro z
          have : ¬ ((pA t ≠ [] ∧ n = 1) ∨ (pR t).drop 1 = [49]) := by
            rw [Bool.or_eq_false_iff] at z
            rintro (⟨y1, y2⟩ | y)
            · have : 0 < (pA t).length := List.length_pos_iff.mpr y1
              rw [decide_eq_true (by omega), decide_eq_true (by omega)] at z
              cases z.1
            · rw [y, show decide (S [49] = Str.ofString "1") = true from decide_eq_true (TL.ext_tl rfl)] at z
              cases z.2
          refine sg_next ?_
          refine sg_retV (x := .d (.tuple [.int p, .int n])) (ev_tupY (av_cons (ev_var rfl) (av_cons (ev_var rfl) av_nil)) rfl (by show 2 ≤ sizeLine; decide)) ?_
          show _ = El.d (plN (if (pA t ≠ [] ∧ n = 1) ∨ (pR t).drop 1 = [49] then none else some (p, n)))
          rw [if_neg this]
          rfl
end
end T63

namespace T63
open PySem PySem.Spec PyProof.Rows L2 DL TX
local macro_rules | `(tactic| walk_at "rd") => `(tactic| first
  | exact rd_I0i | exact rd_I0b
  | exact rd_l rd_I0i | apply rd_Ii | (apply rd_l; apply rd_Ii)
  | exact rd_l rd_eqI | exact rd_l rd_neI | exact rd_l rd_eqS | exact rd_l rd_neS | exact rd_l rd_eqB
  | (apply rd_r; apply rd_eq) | (apply rd_r; apply rd_ne)
  | (apply rd_r; apply rd_l; apply rd_strs) | (apply rd_r; apply rd_r; apply rd_l; apply rd_catT)
  | (apply rd_r; apply rd_l; apply rd_ixT) | (apply rd_l; apply rd_ixL) | (apply rd_r; apply rd_r; apply rd_ixS) | (apply rd_l; apply rd_ixO (by rfl))
  | (apply rd_r; apply rd_l; apply rd_repT) | exact ev_in_sign)
local macro_rules | `(tactic| walk_at "cd") => `(tactic| first
  | exact cd_l cd_lenT | exact cd_l cd_lenL | exact cd_l (cd_lenO (by rfl)) | (apply cd_r; apply cd_lenS)
  | (apply cd_l; apply cd_strI) | (apply cd_r; apply cd_intS) | exact cd_l cd_intB | exact cd_abs | exact cd_min | exact cd_max
  | exact cd_all | exact cd_any | apply cd_repr | exact cd_tupL | exact cd_tupT | exact cd_tupO (by rfl))
local macro_rules | `(tactic| walk_at "ev") => `(tactic| repeat' (first
  | exact ev_int | exact ev_str | exact ev_bl | exact ev_non | exact ev_var (by rfl)
  | exact av_nil | with_reducible apply av_cons
  | with_reducible apply ev_op | walk_at "rd" | with_reducible apply ev_neg | with_reducible apply ev_isN | with_reducible apply ev_notN
  | with_reducible apply ev_cb | walk_at "cd"
  | with_reducible apply ev_callX | (show List.map El.d (List.map unD _) = _; rfl) | (show List.length (List.map unD _) = _; rfl) | (show List.length (List.cons _ _) ≤ sizeLine; exact le_sizeLine (by simp only [List.length_cons, List.length_nil]; omega))
  | with_reducible apply ev_tupX | with_reducible apply ev_lstX | with_reducible apply ev_tupY | with_reducible apply ev_lstY | (show _ = List.map El.d _; rfl) | with_reducible apply ev_slS | with_reducible apply ev_slT | exact ov_none | apply ov_some
  | with_reducible apply ev_partition
  | with_reducible apply tv_test | with_reducible apply tv_B | with_reducible apply tv_not))
section
variable {P : Program} {w : World} {K : PySem.W.Frag} {mg : Str → Option Value} {base : Heap}
abbrev s__law_read : Stmt := topS 40
theorem sc__law_read : FnScope ["_law_wide", "_law_text", "_law_found", "_law_last", "_law_at", "_law_sign", "_law_end", "_law_piece_here"] ["_law_wide", "_law_text"] (defScope s__law_read) := ⟨rfl, rfl, rfl, by decide +kernel, rfl, by decide +kernel, by decide +kernel⟩
theorem c__law_read (D : At K mg "_law_read" s__law_read ["_law_wide", "_law_text"]) (m_tuple : mg "tuple" = none) (m_len : mg "len" = none) (C__law_piece : Cal P w K mg base CX0 2 "_law_piece" ["_law_text"] (spP K 1 pf__law_piece)) : Cal P w K mg base CX0 3 "_law_read" ["_law_wide", "_law_text"] (spP K 2 pf__law_read) := by
  refine cal_mk0 D sc__law_read (fun vs H Q E h => spP_len h) fun f cdv A outer s H vs Q E hg hr h => ?_
  have hu := hu_of hr
  refine ⟨_, (pss_cons (ps_if (pt_cmpR (kx_eq (K := K) rfl hr.units) (pv 1) pe_str (nomark _))
      (pss_one (ps_ret (pe_op (kx_mul (K := K) rfl) (pe_tup (pa_cons pe_int pa_nil)) (pv 0))))
      pss_nil)
      (pss_cons (ps_set (i := 2) sc__law_read.nd rfl (by first | exact Or.inl rfl | exact Or.inr rfl) (pe_op (kx_mul (K := K) rfl) (pe_lst (pa_cons pe_int pa_nil)) (pv 0)))
      (pss_cons (ps_set (i := 3) sc__law_read.nd rfl (by first | exact Or.inl rfl | exact Or.inr rfl) (pe_un un_neg pe_int))
      (pss_cons (ps_set (i := 4) sc__law_read.nd rfl (by first | exact Or.inl rfl | exact Or.inr rfl) pe_int)
      (pss_cons (ps_while PassesOwn.never (pt_cmpR op_lt (pv 4) (pe_callB (kx_len (K := K) rfl) (by rfl) m_len (by decide +kernel) (pa_cons (pv 1) pa_nil)) (nomark _))
      (pss_cons (ps_set (i := 5) sc__law_read.nd rfl (by first | exact Or.inl rfl | exact Or.inr rfl) pe_int)
      (pss_cons (ps_if (pt_cmpR (kx_eq (K := K) rfl hr.units) (pe_ix (kx_ix (K := K) rfl) (pv 1) (pv 4) (fun _ _ => rfl)) pe_str (nomark _))
      (pss_cons (ps_set (i := 5) sc__law_read.nd rfl (by first | exact Or.inl rfl | exact Or.inr rfl) (pe_un un_neg pe_int))
      (pss_one (ps_set (i := 4) sc__law_read.nd rfl (by first | exact Or.inl rfl | exact Or.inr rfl) (pe_op (kx_add (K := K) rfl) (pv 4) pe_int))))
      (pss_one (ps_if (PW.pt (pw_and (pt_cmpR op_gt (pv 4) pe_int (nomark _)) (pw_and1 (pt_cmpR (kx_eq (K := K) rfl hr.units) (pe_ix (kx_ix (K := K) rfl) (pv 1) (pv 4) (fun _ _ => rfl)) pe_str (nomark _)))))
      (pss_one (ps_set (i := 4) sc__law_read.nd rfl (by first | exact Or.inl rfl | exact Or.inr rfl) (pe_op (kx_add (K := K) rfl) (pv 4) pe_int)))
      (pss_one (ps_if (pt_cmpR op_gt (pv 4) pe_int (nomark _))
      (pss_one (ps_ret pe_non))
      pss_nil)))))
      (pss_cons (ps_set (i := 6) sc__law_read.nd rfl (by first | exact Or.inl rfl | exact Or.inr rfl) (pv 4))
      (pss_cons (ps_while PassesOwn.never (PW.pt (pw_and (pt_cmpR op_lt (pv 6) (pe_callB (kx_len (K := K) rfl) (by rfl) m_len (by decide +kernel) (pa_cons (pv 1) pa_nil)) (nomark _)) (pw_and1 (pt_cmpR op_notIn_sign (pe_ix (kx_ix (K := K) rfl) (pv 1) (pv 6) (fun _ _ => rfl)) pe_str (by rfl)))))
      (pss_one (ps_set (i := 6) sc__law_read.nd rfl (by first | exact Or.inl rfl | exact Or.inr rfl) (pe_op (kx_add (K := K) rfl) (pv 6) pe_int))))
      (pss_cons (ps_set (i := 7) sc__law_read.nd rfl (by first | exact Or.inl rfl | exact Or.inr rfl) (pe_callC C__law_piece hg hr pass0 (by rfl) (pa_cons (pe_slice (kx_sl (K := K) rfl) (pv 1) (po_some (pv 4)) (po_some (pv 6))) pa_nil)))
      (pss_cons (ps_if (PW.pt (pw_or (pt_cmp (pc_isN (pv 7))) (pw_or (pt_cmpR op_le (pe_ix (kx_ix (K := K) rfl) (pv 7) pe_int (fun _ _ => rfl)) (pv 3) (nomark _)) (pw_or1 (pt_cmpR op_ge (pe_ix (kx_ix (K := K) rfl) (pv 7) pe_int (fun _ _ => rfl)) (pv 0) (nomark _))))))
      (pss_one (ps_ret pe_non))
      pss_nil)
      (pss_cons (ps_set (i := 3) sc__law_read.nd rfl (by first | exact Or.inl rfl | exact Or.inr rfl) (pe_ix (kx_ix (K := K) rfl) (pv 7) pe_int (fun _ _ => rfl)))
      (pss_cons (ps_asg (pe_op (kx_mul (K := K) rfl) (pv 5) (pe_ix (kx_ix (K := K) rfl) (pv 7) pe_int (fun _ _ => rfl))) (pg_sub (pv 2) (pv 3) set_list))
      (pss_one (ps_set (i := 4) sc__law_read.nd rfl (by first | exact Or.inl rfl | exact Or.inr rfl) (pv 6))))))))))))
      (pss_one (ps_ret (pe_ifExp (pt_cmpR op_ge (pv 3) pe_int (nomark _)) (pe_callTy (kx_tuple (K := K) rfl) (by rfl) m_tuple (by decide +kernel) (pa_cons (pv 2) pa_nil)) pe_non)))))))), body_pure h fun ds r hn hp => ?_⟩
  obtain ⟨m, t, rfl, hm1, hm100, hl, hlow, hyes, hno⟩ := hp
  have hSl : (S t).length ≤ sizeLine := by rw [S_len]; exact le_sizeLine (by omega)
  have hrep : ∀ n : Nat, (List.replicate ((n : Int)).toNat [PyData.int 0]).flatten = (List.replicate n (0 : Int)).map PyData.int := fun k => by
    rw [Int.toNat_natCast, List.flatten_replicate_singleton, List.map_replicate]
  have hrep2 : ∀ n : Nat, (List.replicate ((n : Int)).toNat [El.d (PyData.int 0)]).flatten = ((List.replicate n (0 : Int)).map PyData.int).map .d := fun k => by
    rw [Int.toNat_natCast, List.flatten_replicate_singleton, List.map_replicate, List.map_replicate]
  refine sg_seq ?_
  apply sg_if (b := decide (t = [48]))
  · refine TV.is (tv_test (ev_op (ev_var rfl) ev_str (rd_l rd_eqS))) ?_
    rw [show Str.ofString "0" = S [48] from TL.ext_tl rfl]
    congr 1
    exact propext S_inj
  · intro h
    have h := of_decide_eq_true h
    have hc : Canon m t (List.replicate m 0) := by
      refine ⟨by simp, ?_⟩
      have := nz_back m [] List.Pairwise.nil (by simp)
      have : NT.nz (List.replicate m 0) = [] := this
      unfold NT.shownT
      rw [if_pos this, h]
    refine sg_retV (x := .d (.tuple ((List.replicate m (0 : Int)).map .int))) ?_ (by rw [hyes _ hc])
    exact EV.is (ev_op (ev_tupX (av_cons ev_int av_nil)) (ev_var rfl) (rd_r (rd_l (rd_repT (by omega) (by omega) (by show 1 ≤ 1000; decide))))) (by
      refine congrArg (fun z => El.d (.tuple z)) ?_
      exact hrep m)
  intro h48
  have h48 := of_decide_eq_false h48
  refine sg_next ?_
  refine sg_seq (sg_asgN (od := .lst (((List.replicate m (0 : Int)).map PyData.int).map .d)) ?_ ?_)
  · exact (en_repF (n := (m : Int)) (en_lst (av_cons ev_int av_nil) (by show 1 ≤ sizeLine; decide)) (ev_var rfl) (by omega) (by omega) (by show 1 ≤ 1000; decide)).is (by rw [hrep2])
  refine sg_seq (sg_asg (x := .d (.int (-1))) (ev_neg ev_int) ?_)
  refine sg_seq (sg_asg (x := .d (.int (0 : Nat))) ev_int ?_)
  refine sg_seq (sg_while (fun mm Γ Θ => ∃ (k : Nat) (es : List (Nat × Int)) (x5 x6 x7 : Option El), Γ = [some (.d (.int m)), some (.d (.str (S t))), some (.at 0), some (.d (.int (lastOf es))), some (.d (.int k)), x5, x6, x7] ∧ Θ = [.lst (((NT.back es (List.replicate m 0)).map PyData.int).map .d)] ∧ k ≤ t.length ∧ mm = t.length - k ∧ t.take k = NT.shownZ es ∧ Inc es ∧ (∀ q ∈ es, q.1 < m ∧ q.2 ≠ 0) ∧ ∀ l, Canon m t l → ∃ rest, NT.nz l = es ++ rest) t.length ?_ ?_)
  · exact ⟨0, [], _, _, _, rfl, rfl, Nat.zero_le _, rfl, by rw [List.take_zero]; rfl, List.Pairwise.nil, by simp, fun l _ => ⟨_, rfl⟩⟩
  rintro mm Γ' Θ' ⟨k, es, x5, x6, x7, rfl, rfl, hk, rfl, htk, hinc, hes, hcan⟩
  have hlk : (NT.shownZ es).length = k := by rw [← htk, List.length_take]; omega
  have hk0 : k = 0 ↔ es = [] := by
    constructor
    · intro z
      exact NT.shownZ_nil.mp (List.eq_nil_of_length_eq_zero (by rw [hlk, z]))
    · intro z
      rw [← hlk, z]
      rfl
  apply wh_step (b := decide ((k : Int) < (S t).length))
  · exact tv_test (ev_op (ev_var rfl) (ev_cb (av_cons (ev_var rfl) av_nil) (cd_r (cd_lenS hSl))) rd_I0b)
  · intro hlt
    have hlt := of_decide_eq_true hlt
    rw [S_len] at hlt
    have hlt : k < t.length := by omega
    obtain ⟨c, hc⟩ : ∃ c, t[k]? = some c := ⟨_, List.getElem?_eq_getElem hlt⟩
    have evC : ∀ {Γ : Gm} {Θ : Th}, Γ[1]? = some (some (.d (.str (S t)))) → Γ[4]? = some (some (.d (.int k))) → EV K (tOp (rIx K) (tVar 1) (tVar 4)) Γ Θ (.d (.str (S [c]))) := fun h1 h2 =>
      EV.is (ev_op (ev_var h1) (ev_var h2) (rd_r (rd_r (rd_ixS (c := c) (ix_at hc) hSl)))) (by rw [one_S])
    have hX : ∀ l, Canon m t l → ∃ p o rest, NT.nz l = es ++ (p, o) :: rest ∧ t.drop k = (if es = [] then [] else NT.sepL o) ++ NT.signed p o ++ NT.tailZ rest ∧ o ≠ 0 ∧ (∀ q ∈ rest, q.2 ≠ 0) ∧ p < m ∧ lastOf es < p := by
      intro l hc
      obtain ⟨rest0, h0⟩ := hcan l hc
      have hne48 : NT.shownT l ≠ [48] := by rw [hc.2]; exact h48
      have ht : t = NT.shownZ (es ++ rest0) := by
        have := NT.shown_ents l
        rw [(ents_nz hne48).1, h0, hc.2] at this
        exact this
      cases rest0 with
      | nil =>
        rw [List.append_nil] at ht
        rw [ht, hlk] at hlt
        omega
      | cons q rest =>
        obtain ⟨p, o⟩ := q
        have hnz : ∀ q ∈ NT.nz l, q.1 < m ∧ q.2 ≠ 0 := fun q hq => by
          obtain ⟨a, b⟩ := q
          have h1 := NT.nz_mem hq
          have h2 := (List.getElem?_eq_some_iff.mp h1.1).1
          rw [hc.1] at h2
          exact ⟨h2, h1.2⟩
        rw [h0] at hnz
        have hincl := nz_inc l
        rw [h0] at hincl
        refine ⟨p, o, rest, h0, ?_, (hnz (p, o) (by simp)).2, fun q hq => (hnz q (by simp [hq])).2, (hnz (p, o) (by simp)).1, ?_⟩
        · rw [shown_split] at ht
          conv => lhs; rw [ht]
          rw [← hlk, List.drop_left]
        · exact lastOf_lt (fun q hq => (List.pairwise_append.mp hincl).2.2 q hq (p, o) (by simp))
    refine sg_seq (sg_asg (x := .d (.int 1)) ev_int ?_)
    refine sg_seq (sg_mid (fun Γ Θ => ∃ (sg : Int) (k2 : Nat) (x6 x7 : Option El), Γ = [some (.d (.int m)), some (.d (.str (S t))), some (.at 0), some (.d (.int (lastOf es))), some (.d (.int k2)), some (.d (.int sg)), x6, x7] ∧ Θ = [.lst (((NT.back es (List.replicate m 0)).map PyData.int).map .d)] ∧ k2 ≤ t.length ∧ k ≤ k2 ∧ (sg = 1 ∨ sg = -1) ∧ t.take k2 = NT.shownZ es ++ (if sg = -1 then [45] else if es = [] then [] else [43]) ∧ ∀ l, Canon m t l → ∃ p o rest, NT.nz l = es ++ (p, o) :: rest ∧ (o < 0 ↔ sg = -1) ∧ t.drop k2 = NT.bodyL p o.natAbs ++ NT.tailZ rest ∧ o ≠ 0 ∧ (∀ q ∈ rest, q.2 ≠ 0) ∧ p < m ∧ lastOf es < p) ?_ ?_)
    · have hdk : t.drop k = c :: t.drop (k + 1) := by
        have := List.drop_eq_getElem_cons hlt
        rw [this]
        congr 1
        rw [List.getElem?_eq_getElem hlt] at hc
        exact Option.some.inj hc
      have htk1 : t.take (k + 1) = NT.shownZ es ++ [c] := by rw [List.take_add_one, hc, htk]; rfl
      apply sg_if (b := decide (c = 45))
      · refine TV.is (tv_test (ev_op (evC rfl rfl) ev_str (rd_l rd_eqS))) ?_
        rw [S_m]
        congr 1
        exact propext ⟨fun z => by have := S_inj.mp z; simpa using this, fun z => by rw [z]⟩
      · intro h
        have h := of_decide_eq_true h
        subst h
        refine sg_seq (sg_asg (x := .d (.int (-1))) (ev_neg ev_int) ?_)
        refine sg_asg (x := .d (.int ((k + 1 : Nat) : Int))) (EV.is (ev_op (ev_var rfl) ev_int (rd_l rd_I0i)) (by push_cast; rfl)) ?_
        refine ⟨-1, k + 1, _, _, rfl, rfl, by omega, by omega, .inr rfl, by rw [htk1, if_pos rfl], fun l hl => ?_⟩
        obtain ⟨p, o, rest, h0, h1, h2, h3, h4, h5⟩ := hX l hl
        rw [hdk] at h1
        have hneg : o < 0 := by
          refine Classical.byContradiction fun hn => ?_
          unfold NT.signed NT.sepL at h1
          rw [if_neg hn, if_pos (show 0 < o by omega), List.nil_append] at h1
          by_cases hee : es = []
          · rw [if_pos hee, List.nil_append] at h1
            cases hb : NT.bodyL p o.natAbs with
            | nil =>
              have := NT.signed_ne p o
              unfold NT.signed at this
              rw [if_neg hn, hb] at this
              exact this rfl
            | cons a b =>
              rw [hb] at h1
              have : 45 = a := by injection h1
              exact NT.body_no (p := p) (n := o.natAbs) (s := 45) (.inl (by decide)) (by decide) (by rw [hb, this]; simp)
          · rw [if_neg hee] at h1
            have : (45 : Nat) = 43 := by injection h1
            cases this
        refine ⟨p, o, rest, h0, ⟨fun _ => rfl, fun _ => hneg⟩, ?_, h2, h3, h4, h5⟩
        unfold NT.signed NT.sepL at h1
        rw [if_pos hneg, if_neg (show ¬ 0 < o by omega)] at h1
        have h1 : 45 :: t.drop (k + 1) = 45 :: (NT.bodyL p o.natAbs ++ NT.tailZ rest) := by
          rw [h1]
          split <;> rfl
        injection h1
      · intro h
        have h45 := of_decide_eq_false h
        apply sg_if (b := decide ((0 : Int) < k) && decide (c = 43))
        · refine tv_and (tv_test (ev_op (ev_var rfl) ev_int rd_I0b)) fun _ => ?_
          refine TV.is (tv_test (ev_op (evC rfl rfl) ev_str (rd_l rd_eqS))) ?_
          rw [S_p]
          congr 1
          exact propext ⟨fun z => by have := S_inj.mp z; simpa using this, fun z => by rw [z]⟩
        · intro h
          rw [Bool.and_eq_true] at h
          have hkp := of_decide_eq_true h.1
          have h43 := of_decide_eq_true h.2
          have hee : es ≠ [] := fun z => by have := hk0.mpr z; omega
          subst h43
          refine sg_asg (x := .d (.int ((k + 1 : Nat) : Int))) (EV.is (ev_op (ev_var rfl) ev_int (rd_l rd_I0i)) (by push_cast; rfl)) ?_
          refine ⟨1, k + 1, _, _, rfl, rfl, by omega, by omega, .inl rfl, by rw [htk1, if_neg (by decide), if_neg hee], fun l hl => ?_⟩
          obtain ⟨p, o, rest, h0, h1, h2, h3, h4, h5⟩ := hX l hl
          rw [hdk, if_neg hee] at h1
          have hpos : ¬ o < 0 := by
            intro hn
            unfold NT.signed NT.sepL at h1
            rw [if_pos hn, if_neg (show ¬ 0 < o by omega)] at h1
            have : (43 : Nat) = 45 := by injection h1
            cases this
          refine ⟨p, o, rest, h0, ⟨fun z => absurd z hpos, fun z => by cases z⟩, ?_, h2, h3, h4, h5⟩
          unfold NT.signed NT.sepL at h1
          rw [if_neg hpos, if_pos (show 0 < o by omega)] at h1
          have h1 : 43 :: t.drop (k + 1) = 43 :: (NT.bodyL p o.natAbs ++ NT.tailZ rest) := h1
          injection h1
        · intro h
          apply sg_if (b := decide ((0 : Int) < k))
          · exact tv_test (ev_op (ev_var rfl) ev_int rd_I0b)
          · intro hkp
            have hee : es ≠ [] := fun z => by have := hk0.mpr z; have := of_decide_eq_true hkp; omega
            have h43 : c ≠ 43 := fun z => by rw [hkp, decide_eq_true z] at h; cases h
            refine sg_retV ev_non ?_
            rw [hno ?_]
            rintro ⟨l, hl⟩
            obtain ⟨p, o, rest, h0, h1, h2, h3, h4, h5⟩ := hX l hl
            rw [hdk, if_neg hee] at h1
            unfold NT.signed NT.sepL at h1
            by_cases hn : o < 0
            · rw [if_pos hn, if_neg (show ¬ 0 < o by omega)] at h1
              have : c = 45 := by injection h1
              exact h45 this
            · rw [if_pos (show 0 < o by omega)] at h1
              have : c = 43 := by injection h1
              exact h43 this
          · intro hkp
            have hk00 : k = 0 := by have := of_decide_eq_false hkp; omega
            have hee : es = [] := hk0.mp hk00
            refine sg_next ⟨1, k, _, _, rfl, rfl, by omega, by omega, .inl rfl, by rw [if_neg (by decide), if_pos hee, List.append_nil]; exact htk, fun l hl => ?_⟩
            obtain ⟨p, o, rest, h0, h1, h2, h3, h4, h5⟩ := hX l hl
            rw [if_pos hee, List.nil_append] at h1
            have hpos : ¬ o < 0 := by
              intro hn
              rw [hdk] at h1
              unfold NT.signed at h1
              rw [if_pos hn] at h1
              have : c = 45 := by injection h1
              exact h45 this
            refine ⟨p, o, rest, h0, ⟨fun z => absurd z hpos, fun z => by cases z⟩, ?_, h2, h3, h4, h5⟩
            rw [h1]
            unfold NT.signed
            rw [if_neg hpos]
            rfl
    rintro Γ Θ ⟨sg, k2, y6, y7, rfl, rfl, hk2, hkk, hsg, htk2, hc2⟩
    refine sg_seq (sg_asg (x := .d (.int (k2 : Nat))) (ev_var rfl) ?_)
    refine sg_seq (sg_mid (fun Γ Θ => Γ = [some (.d (.int m)), some (.d (.str (S t))), some (.at 0), some (.d (.int (lastOf es))), some (.d (.int k2)), some (.d (.int sg)), some (.d (.int (k2 + (pcO (t.drop k2)).length : Nat))), y7] ∧ Θ = [.lst (((NT.back es (List.replicate m 0)).map PyData.int).map .d)]) ?_ ?_)
    · refine sg_while (fun mm Γ Θ => ∃ j : Nat, Γ = [some (.d (.int m)), some (.d (.str (S t))), some (.at 0), some (.d (.int (lastOf es))), some (.d (.int k2)), some (.d (.int sg)), some (.d (.int j)), y7] ∧ Θ = [.lst (((NT.back es (List.replicate m 0)).map PyData.int).map .d)] ∧ k2 ≤ j ∧ j ≤ t.length ∧ mm = t.length - j ∧ ∀ c ∈ (t.drop k2).take (j - k2), notSep c = true) (t.length - k2) ⟨k2, rfl, rfl, Nat.le_refl _, hk2, rfl, by simp⟩ ?_
      rintro mm Γ' Θ' ⟨j, rfl, rfl, hkj, hj, rfl, hall⟩
      by_cases hjl : j < t.length
      · obtain ⟨d, hd⟩ : ∃ d, t[j]? = some d := ⟨_, List.getElem?_eq_getElem hjl⟩
        have hdr : (t.drop k2)[j - k2]? = some d := by rw [List.getElem?_drop, show k2 + (j - k2) = j by omega, hd]
        apply wh_step (b := decide ((j : Int) < (S t).length) && notSep d)
        · refine tv_and (tv_test (ev_op (ev_var rfl) (ev_cb (av_cons (ev_var rfl) av_nil) (cd_r (cd_lenS hSl))) rd_I0b)) fun _ => ?_
          refine TV.is (tv_test (ev_op (ev_op (ev_var rfl) (ev_var rfl) (rd_r (rd_r (rd_ixS (c := d) (ix_at hd) hSl)))) ev_str rd_notin_sign)) ?_
          have e : (Str.ofString "+-").cps.toList = [43, 45] := rfl
          rw [e]
          unfold notSep
          congr 1
          by_cases h1 : d = 43
          · subst h1; rfl
          · by_cases h2 : d = 45
            · subst h2; rfl
            · rw [decide_eq_false h1, decide_eq_false h2, decide_eq_false (by simp [h1, h2])]
              rfl
        · intro h
          rw [Bool.and_eq_true] at h
          refine sg_asg (x := .d (.int ((j + 1 : Nat) : Int))) (EV.is (ev_op (ev_var rfl) ev_int (rd_l rd_I0i)) (by push_cast; rfl)) ?_
          refine ⟨t.length - (j + 1), by omega, j + 1, rfl, rfl, by omega, by omega, rfl, fun c hc => ?_⟩
          rw [show j + 1 - k2 = (j - k2) + 1 by omega, List.take_add_one, hdr] at hc
          rcases List.mem_append.mp hc with q | q
          · exact hall c q
          · have : c = d := by simpa using q
            rw [this]; exact h.2
        · intro h
          have hns : notSep d = false := by
            rw [S_len, decide_eq_true (by omega), Bool.true_and] at h
            exact h
          have e : pcO (t.drop k2) = (t.drop k2).take (j - k2) := takeWhile_take hall (.inr ⟨d, hdr, hns⟩)
          refine ⟨?_, rfl⟩
          rw [e, List.length_take, List.length_drop, show k2 + min (j - k2) (t.length - k2) = j by omega]
      · have hjeq : j = t.length := by omega
        apply wh_step (b := false)
        · exact TV.is (a := decide ((j : Int) < (S t).length) && true) (tv_and (tv_test (ev_op (ev_var rfl) (ev_cb (av_cons (ev_var rfl) av_nil) (cd_r (cd_lenS hSl))) rd_I0b)) fun z => by
            have z := of_decide_eq_true z
            rw [S_len] at z
            omega) (by rw [S_len, decide_eq_false (by omega)]; rfl)
        · intro h; cases h
        · intro _
          have e : pcO (t.drop k2) = (t.drop k2).take (j - k2) := takeWhile_take hall (.inl (by rw [List.length_drop]; omega))
          refine ⟨?_, rfl⟩
          rw [e, List.length_take, List.length_drop, show k2 + min (j - k2) (t.length - k2) = j by omega]
    rintro Γ Θ ⟨rfl, rfl⟩
    generalize hpc : pcO (t.drop k2) = pc
    have hpcp : t.drop k2 = pc ++ (t.drop k2).dropWhile notSep := by rw [← hpc]; exact (List.takeWhile_append_dropWhile).symm
    have hpl : k2 + pc.length ≤ t.length := by
      have := congrArg List.length hpcp
      rw [List.length_append, List.length_drop] at this
      omega
    have hcut : cutS (S t) (some (k2 : Int)) (some ((k2 + pc.length : Nat) : Int)) = S pc := cut_S (by
      rw [tl_cutB _ _ _ (by omega) (by rw [S_len]; exact hpl)]
      show (t.drop k2).take (k2 + pc.length - k2) = pc
      rw [hpcp, show k2 + pc.length - k2 = pc.length by omega, List.take_left])
    have hpclow : lowL pc := fun c hc => hlow c (List.mem_of_mem_drop (i := k2) (by rw [hpcp]; exact List.mem_append_left _ hc))
    have hcp : ∀ l, Canon m t l → ∃ p o rest, NT.nz l = es ++ (p, o) :: rest ∧ (o < 0 ↔ sg = -1) ∧ pc = NT.bodyL p o.natAbs ∧ o ≠ 0 ∧ p < m ∧ lastOf es < p ∧ lawPiece pc = some (p, o.natAbs) := fun l hl => by
      obtain ⟨p, o, rest, h0, h1, h2, h3, h4, h5, h6⟩ := hc2 l hl
      have e : pc = NT.bodyL p o.natAbs := by rw [← hpc, h2, pc_body h4]
      exact ⟨p, o, rest, h0, h1, e, h3, h5, h6, by rw [e]; exact lawPiece_body (by omega)⟩
    refine sg_seq (sg_asg (x := .d (plN (lawPiece pc))) (ev_callX (av_cons (EV.is (ev_slS (ev_var rfl) (ov_some (ev_var rfl)) (ov_some (ev_var rfl)) hSl) (by rw [hcut])) av_nil) ⟨pc, rfl, by omega, hpclow, rfl⟩) ?_)
    refine sg_seq ?_
    cases hq : lawPiece pc with
    | none =>
      apply sg_if (b := true)
      · exact TV.is (a := isNone .none || true) (tv_or (tv_test (ev_isN (ev_var (by rfl)))) fun z => by cases z) rfl
      · intro _
        refine sg_retV ev_non ?_
        rw [hno ?_]
        rintro ⟨l, hl⟩
        obtain ⟨p, o, rest, h0, h1, h2, h3, h4, h5, h6⟩ := hcp l hl
        rw [hq] at h6
        cases h6
      · intro h; cases h
    | some q =>
      obtain ⟨p, n⟩ := q
      have hix : ∀ {Γ : Gm} {Θ : Th}, Γ[7]? = some (some (.d (.tuple [.int p, .int n]))) → EV K (tOp (rIx K) (tVar 7) (tC (V.int 0))) Γ Θ (.d (.int p)) := fun h => ev_op (ev_var h) ev_int (rd_r (rd_l (rd_ixT (by rfl))))
      apply sg_if (b := decide ((p : Int) ≤ lastOf es) || decide ((m : Int) ≤ p))
      · exact TV.is (a := isNone (.tuple [.int p, .int n]) || (decide ((p : Int) ≤ lastOf es) || decide ((m : Int) ≤ p))) (tv_or (tv_test (ev_isN (ev_var (by rfl)))) fun _ => tv_or (tv_test (ev_op (hix rfl) (ev_var rfl) rd_I0b)) fun _ => tv_test (ev_op (hix rfl) (ev_var rfl) rd_I0b)) rfl
      · intro h
        refine sg_retV ev_non ?_
        rw [hno ?_]
        rintro ⟨l, hl⟩
        obtain ⟨p', o, rest, h0, h1, h2, h3, h4, h5, h6⟩ := hcp l hl
        rw [hq] at h6
        cases h6
        rw [Bool.or_eq_true] at h
        rcases h with h | h
        · have := of_decide_eq_true h
          omega
        · have := of_decide_eq_true h
          omega
      · intro h
        rw [Bool.or_eq_false_iff] at h
        have hlast := of_decide_eq_false h.1
        have hpm := of_decide_eq_false h.2
        obtain ⟨hbody, hn1⟩ := lawPiece_some hq
        have hnB : n < NT.BIG := by
          have := body_ge p n
          rw [← hbody] at this
          exact lt_BIG (numL_lt10 n) (by omega)
        have hon : (sg * (n : Int)).natAbs = n ∧ (sg * (n : Int) < 0 ↔ sg = -1) ∧ sg * (n : Int) ≠ 0 := by
          rcases hsg with z | z <;> subst z
          · refine ⟨by omega, by omega, by omega⟩
          · refine ⟨by omega, by omega, by omega⟩
        refine sg_next ?_
        refine sg_seq (sg_asg (x := .d (.int p)) (hix rfl) ?_)
        refine sg_seq (sg_setL (k := 0) (x := .d (.int (sg * (n : Int)))) (i := p) (j := p) (es := ((NT.back es (List.replicate m 0)).map PyData.int).map .d) ?_ (ev_var rfl) (ev_var rfl) rfl ?_ ?_)
        · refine ev_op (ev_var rfl) (ev_op (ev_var (x := .d (.tuple [.int p, .int n])) rfl) ev_int (rd_r (rd_l (rd_ixT (d := .int n) (by rfl))))) (rd_l (rd_Ii (mulB ?_ ?_)))
          · rcases hsg with z | z <;> subst z
            · exact sm_BIG (by decide)
            · exact sm_BIG (by decide)
          · rw [Int.natAbs_natCast]; exact hnB
        · unfold ixN
          rw [List.length_map, List.length_map, NT.back_len, List.length_replicate, if_pos (by omega), if_pos (by omega)]
          rfl
        refine sg_asg (x := .d (.int (k2 + pc.length : Nat))) (ev_var rfl) ?_
        refine ⟨t.length - (k2 + pc.length), ?_, k2 + pc.length, es ++ [(p, sg * (n : Int))], some (.d (.int sg)), some (.d (.int (k2 + pc.length : Nat))), some (.d (plN (some (p, n)))), ?_, ?_, hpl, rfl, ?_, ?_, ?_, fun l hl => ?_⟩
        · have : pc ≠ [] := by
            intro z
            rw [z] at hbody
            have := body_ge p n
            unfold NT.bodyL at hbody
            split at hbody
            · exact TL.numL_ne n hbody.symm
            · simp at hbody
          have := List.length_pos_iff.mpr this
          omega
        · rw [lastOf_snoc]
          rfl
        · show [OD.lst _] = _
          rw [NT.back_snoc, List.map_set, List.map_set]
        · rw [NT.shownZ_snoc]
          have e1 : t.take (k2 + pc.length) = t.take k2 ++ pc := by
            rw [List.take_add, hpcp, List.take_left]
          rw [e1, htk2, hbody, List.append_assoc, List.append_assoc]
          congr 1
          unfold NT.signed NT.sepL
          rw [hon.1]
          rcases hsg with z | z
          · subst z
            rw [if_neg (by decide), if_neg (show ¬ (1 : Int) * n < 0 by omega), if_pos (show (0 : Int) < 1 * n by omega)]
            rfl
          · subst z
            rw [if_pos rfl, if_pos (show (-1 : Int) * n < 0 by omega), if_neg (show ¬ (0 : Int) < -1 * n by omega)]
            split <;> rfl
        · refine List.pairwise_append.mpr ⟨hinc, List.pairwise_singleton _ _, fun a ha b hb => ?_⟩
          rw [List.mem_singleton.mp hb]
          have := lastOf_ge hinc a ha
          show a.1 < p
          omega
        · intro q hq2
          rcases List.mem_append.mp hq2 with z | z
          · exact hes q z
          · rw [List.mem_singleton.mp z]
            exact ⟨by show p < m; omega, hon.2.2⟩
        · obtain ⟨p', o, rest, h0, h1, h2, h3, h4, h5, h6⟩ := hcp l hl
          rw [hq] at h6
          cases h6
          refine ⟨rest, ?_⟩
          rw [h0, List.append_assoc]
          have : o = sg * (o.natAbs : Int) := by
            rcases hsg with z | z
            · subst z
              have : ¬ o < 0 := fun y => by have := h1.mp y; cases this
              omega
            · have : o < 0 := h1.mpr z
              subst z
              omega
          rw [← this]
          rfl
  · intro hge
    have hge := of_decide_eq_false hge
    rw [S_len] at hge
    have hkl : k = t.length := by omega
    rw [hkl, List.take_length] at htk
    by_cases hee : es = []
    · have hno2 : ¬ ∃ l, Canon m t l := by
        rintro ⟨l, hl⟩
        have e := hl.2
        rw [htk, hee] at e
        obtain ⟨p, o, r, he, _⟩ := NT.ents_cons l
        rw [NT.shown_ents, he] at e
        have := NT.shownZ_nil.mp e
        cases this
      refine sg_retV (x := .d .none) ?_ (by rw [hno hno2])
      apply ev_ite (b := false)
      · refine TV.is (tv_test (ev_op (ev_var rfl) ev_int rd_I0b)) ?_
        rw [hee]
        rfl
      · intro h; cases h
      · intro _; exact ev_non
    · have hc : Canon m t (NT.back es (List.replicate m 0)) := by
        refine ⟨by rw [NT.back_len, List.length_replicate], ?_⟩
        unfold NT.shownT
        rw [nz_back m es hinc hes, if_neg hee]
        exact htk.symm
      refine sg_retV (x := .d (.tuple ((NT.back es (List.replicate m 0)).map .int))) ?_ (by rw [hyes _ hc])
      apply ev_ite (b := true)
      · refine TV.is (tv_test (ev_op (ev_var rfl) ev_int rd_I0b)) ?_
        exact decide_eq_true (lastOf_nonneg hee)
      · intro _
        exact ev_cb (av_cons (ev_var rfl) av_nil) (cd_tupO rfl)
      · intro h; cases h
end
end T63

namespace T63
open PySem PySem.Spec PyProof.Rows L2 DL TX
local macro_rules | `(tactic| walk_at "rd") => `(tactic| first
  | exact rd_I0i | exact rd_I0b
  | exact rd_l rd_I0i | apply rd_Ii | (apply rd_l; apply rd_Ii)
  | exact rd_l rd_eqI | exact rd_l rd_neI | exact rd_l rd_eqS | exact rd_l rd_neS | exact rd_l rd_eqB
  | (apply rd_r; apply rd_eq) | (apply rd_r; apply rd_ne)
  | (apply rd_r; apply rd_l; apply rd_strs) | (apply rd_r; apply rd_r; apply rd_l; apply rd_catT)
  | (apply rd_r; apply rd_l; apply rd_ixT) | (apply rd_l; apply rd_ixL) | (apply rd_r; apply rd_r; apply rd_ixS) | (apply rd_l; apply rd_ixO (by rfl))
  | (apply rd_r; apply rd_l; apply rd_repT) | exact ev_in_sign)
local macro_rules | `(tactic| walk_at "cd") => `(tactic| first
  | exact cd_l cd_lenT | exact cd_l cd_lenL | exact cd_l (cd_lenO (by rfl)) | (apply cd_r; apply cd_lenS)
  | (apply cd_l; apply cd_strI) | (apply cd_r; apply cd_intS) | exact cd_l cd_intB | exact cd_abs | exact cd_min | exact cd_max
  | exact cd_all | exact cd_any | apply cd_repr | exact cd_tupL | exact cd_tupT | exact cd_tupO (by rfl))
local macro_rules | `(tactic| walk_at "ev") => `(tactic| repeat' (first
  | exact ev_int | exact ev_str | exact ev_bl | exact ev_non | exact ev_var (by rfl)
  | exact av_nil | with_reducible apply av_cons
  | with_reducible apply ev_op | walk_at "rd" | with_reducible apply ev_neg | with_reducible apply ev_isN | with_reducible apply ev_notN
  | with_reducible apply ev_cb | walk_at "cd"
  | with_reducible apply ev_callX | (show List.map El.d (List.map unD _) = _; rfl) | (show List.length (List.map unD _) = _; rfl) | (show List.length (List.cons _ _) ≤ sizeLine; exact le_sizeLine (by simp only [List.length_cons, List.length_nil]; omega))
  | with_reducible apply ev_tupX | with_reducible apply ev_lstX | with_reducible apply ev_tupY | with_reducible apply ev_lstY | (show _ = List.map El.d _; rfl) | with_reducible apply ev_slS | with_reducible apply ev_slT | exact ov_none | apply ov_some
  | with_reducible apply ev_partition
  | with_reducible apply tv_test | with_reducible apply tv_B | with_reducible apply tv_not))
section
variable {P : Program} {w : World} {K : PySem.W.Frag} {mg : Str → Option Value} {base : Heap}
abbrev s_small_number : Stmt := topS 28
theorem sc_small_number : FnScope ["word", "sign", "found"] ["word"] (defScope s_small_number) := ⟨rfl, rfl, rfl, by decide +kernel, rfl, by decide +kernel, by decide +kernel⟩
theorem c_small_number (D : At K mg "small_number" s_small_number ["word"]) (m_int : mg "int" = none) (m_all : mg "all" = none) (m_len : mg "len" = none) {t_MOST : Tok} (m_MOST : mg "MOST" = some (.int 60 t_MOST)) {t_FIGURES_tabletexts : Tok} (m_FIGURES_tabletexts : mg "FIGURES_tabletexts" = some (.str "0123456789" t_FIGURES_tabletexts)) : Cal P w K mg base CX0 1 "small_number" ["word"] (spP K 1 pf_small_number) := by
  refine cal_mk0 D sc_small_number (fun vs H Q E h => spP_len h) fun f cdv A outer s H vs Q E hg hr h => ?_
  have hu := hu_of hr
  refine ⟨_, (pss_cons (ps_if (PW.pt (pw_or (pt_not (pt_chain op_le op_le pe_int (pe_callB (kx_len (K := K) rfl) (by rfl) m_len (by decide +kernel) (pa_cons (pv 0) pa_nil)) pe_int)) (pw_or (pt_not (pt_val (pe_callB (kx_all (K := K) rfl (by rfl)) (by rfl) m_all (by decide +kernel) (pa_cons (pe_lc (own := [("sign", 1)]) (by rfl) sc_small_number.nd (pi_str (pv 0)) (blkOk_by (N := ["word", "sign", "found"]) (sc := defScope s_small_number) (by decide +kernel)) (fun _ _ _ _ _ => (pg_name (i := 1) sc_small_number.nd rfl (by first | exact Or.inl rfl | exact Or.inr rfl))) (fun _ _ _ _ _ => pts_nil) (fun _ _ _ _ _ => (pe_cmpR op_in_sign (pv 1) (pe_glob (v := .str "0123456789") (by rfl) m_FIGURES_tabletexts (by exact ⟨_, rfl⟩)) (by rfl)))) pa_nil)))) (pw_or1 (pt_cmpR (kx_eq (K := K) rfl hr.units) (pe_ix (kx_ix (K := K) rfl) (pv 0) pe_int (fun _ _ => rfl)) pe_str (nomark _))))))
      (pss_one (ps_ret pe_non))
      pss_nil)
      (pss_cons (ps_set (i := 2) sc_small_number.nd rfl (by first | exact Or.inl rfl | exact Or.inr rfl) (pe_callTy cx_int (by rfl) m_int (by decide +kernel) (pa_cons (pv 0) pa_nil)))
      (pss_cons (ps_if (pt_cmpR op_gt (pv 2) (pe_glob (v := .int 60) (by rfl) m_MOST (by exact ⟨_, rfl⟩)) (nomark _))
      (pss_one (ps_ret pe_non))
      pss_nil)
      (pss_one (ps_ret (pv 2)))))), body_pure h fun ds r hn hp => ?_⟩
  obtain ⟨t, rfl, hl, rfl⟩ := hp
  have hz : (S t).length ≤ sizeLine := by rw [S_len]; exact le_sizeLine (by omega)
  refine sg_seq ?_
  have hall : ∀ c, decide (c ∈ (Str.ofString "0123456789").cps.toList) = digB c := by
    intro c
    have e : (Str.ofString "0123456789").cps.toList = [48,49,50,51,52,53,54,55,56,57] := rfl
    rw [e]
    unfold digB
    congr 1
    simp
    omega
  apply sg_if (b := !(decide (1 ≤ t.length) && decide (t.length ≤ 2)) || (!(t.all digB) || decide (t.head? = some 48)))
  · apply tv_or
    · apply tv_not
      refine TV.is (tv_test (ev_chain (y := .d (.int (S t).length)) ev_int (ev_cb (av_cons (ev_var rfl) av_nil) (cd_r (cd_lenS hz))) rd_I0b (fun _ => ev_int) (fun _ => rd_I0b))) ?_
      rw [S_len]
      congr 1
      · congr 1
        exact propext (by omega)
      · congr 1
        exact propext (by omega)
    · intro h1
      have hlen : 1 ≤ t.length ∧ t.length ≤ 2 := by
        have : (decide (1 ≤ t.length) && decide (t.length ≤ 2)) = true := by
          cases q : (decide (1 ≤ t.length) && decide (t.length ≤ 2)) with
          | true => rfl
          | false => rw [q] at h1; cases h1
        rw [Bool.and_eq_true] at this
        exact ⟨of_decide_eq_true this.1, of_decide_eq_true this.2⟩
      apply tv_or
      · apply tv_not
        apply tv_test
        apply ev_cb
        · apply av_cons
          · apply EN.ev
            apply en_map (f := fun c => PyData.bool (decide (c ∈ (Str.ofString "0123456789").cps.toList)))
            · exact (iv_str (ev_var (by rfl))).is
            · intro a ha
              exact ev_op (ev_var rfl) ev_str ev_in_sign
            · exact lt_sizeLine (by show t.length < _; omega)
          · exact av_nil
        · have e1 : List.map (fun c => PyData.bool (decide (c ∈ (Str.ofString "0123456789").cps.toList))) (S t).cps.toList = (t.map digB).map PyData.bool := by
            rw [List.map_map]
            refine List.map_congr_left fun c _ => ?_
            show PyData.bool (decide (c ∈ (Str.ofString "0123456789").cps.toList)) = PyData.bool (digB c)
            rw [hall]
          have e2 : t.all digB = (t.map digB).all id := by rw [List.all_map]; rfl
          rw [e1, e2]
          exact cd_all
      · intro _
        obtain ⟨c, r, hcr⟩ : ∃ c r, t = c :: r := by
          cases t with
          | nil => exact absurd hlen.1 (by decide)
          | cons c r => exact ⟨c, r, rfl⟩
        refine TV.is (tv_test (ev_op (ev_op (ev_var rfl) ev_int (rd_r (rd_r (rd_ixS (i := 0) (c := c) (atI_nat (j := 0) (by show t[0]? = _; rw [hcr]; rfl)) hz)))) ev_str (rd_l rd_eqS))) ?_
        rw [hcr]
        congr 1
        show ((⟨#[c]⟩ : Str) = Str.ofString "0") = (some c = some 48)
        rw [one_S, show Str.ofString "0" = S [48] from TL.ext_tl rfl]
        exact propext ⟨fun z => by have := S_inj.mp z; simpa using this, fun z => by cases z; rfl⟩
  · intro h0
    refine sg_retV ev_non ?_
    have : smallO t = none := by
      unfold smallO
      cases q : lawFigs t with
      | none => rfl
      | some v =>
        have hv := lawFigs_some q
        have hf : t ≠ [] ∧ t.all digB = true ∧ t.head? ≠ some 48 := by
          unfold lawFigs at q
          split at q
          · assumption
          · cases q
        have h1 : 1 ≤ t.length := by
          cases t with
          | nil => exact absurd rfl hf.1
          | cons c r => simp
        rw [hf.2.1, decide_eq_false hf.2.2, decide_eq_true h1] at h0
        have h2 : ¬ t.length ≤ 2 := by
          intro z
          rw [decide_eq_true z] at h0
          cases h0
        show (if v ≤ 60 then some v else none) = none
        rw [if_neg]
        intro hv60
        have : (TL.numL v).length ≤ 2 := TL.numL_len (k := 2) (by decide) (by omega)
        rw [← hv.1] at this
        exact h2 this
    rw [this]
    rfl
  · intro h0
    refine sg_next ?_
    have hh : (1 ≤ t.length ∧ t.length ≤ 2) ∧ t.all digB = true ∧ t.head? ≠ some 48 := by
      rw [Bool.or_eq_false_iff, Bool.or_eq_false_iff, Bool.not_eq_false', Bool.not_eq_false', Bool.and_eq_true] at h0
      exact ⟨⟨of_decide_eq_true h0.1.1, of_decide_eq_true h0.1.2⟩, h0.2.1, of_decide_eq_false h0.2.2⟩
    have h1 : t ≠ [] := fun z => by rw [z] at hh; exact absurd hh.1.1 (by decide)
    have e : lawFigs t = some (NumText.digitsVal t) := if_pos ⟨h1, hh.2.1, hh.2.2⟩
    refine sg_seq (sg_asg (x := .d (.int (NumText.digitsVal t : Nat))) ?_ ?_)
    · refine ev_cb (av_cons (ev_var rfl) av_nil) (cd_r (cd_intS ?_ ?_))
      · refine PySem.intText_digits (x := S t) (fun c m => ?_) h1 ?_
        · exact of_decide_eq_true (List.all_eq_true.mp hh.2.1 c m)
        · rw [S_len]; omega
      · rw [S_len]; omega
    refine sg_seq ?_
    apply sg_if (b := decide (60 < NumText.digitsVal t))
    · refine TV.is (tv_test (ev_op (ev_var rfl) ev_int rd_I0b)) ?_
      congr 1
      exact propext (by omega)
    · intro h
      have h := of_decide_eq_true h
      refine sg_retV ev_non ?_
      unfold smallO
      rw [e]
      show El.d .none = El.d (optD (if _ then _ else none))
      rw [if_neg (by omega)]
      rfl
    · intro h
      have h := of_decide_eq_false h
      refine sg_next ?_
      refine sg_retV (ev_var rfl) ?_
      unfold smallO
      rw [e]
      show _ = El.d (optD (if _ then _ else none))
      rw [if_pos (by omega)]
      rfl
abbrev s_head_in : Stmt := topS 29
theorem sc_head_in : FnScope ["line", "words", "numbers", "word"] ["line"] (defScope s_head_in) := ⟨rfl, rfl, rfl, by decide +kernel, rfl, by decide +kernel, by decide +kernel⟩
theorem c_head_in (D : At K mg "head_in" s_head_in ["line"]) (m_tuple : mg "tuple" = none) (m_len : mg "len" = none) {t_MOST_CLASSES : Tok} (m_MOST_CLASSES : mg "MOST_CLASSES" = some (.int 16 t_MOST_CLASSES)) (C_small_number : Cal P w K mg base CX0 1 "small_number" ["word"] (spP K 1 pf_small_number)) : Cal P w K mg base CX0 2 "head_in" ["line"] (spP K 1 pf_head_in) := by
  refine cal_mk0 D sc_head_in (fun vs H Q E h => spP_len h) fun f cdv A outer s H vs Q E hg hr h => ?_
  have hu := hu_of hr
  refine ⟨_, (pss_cons (ps_set (i := 1) sc_head_in.nd rfl (by first | exact Or.inl rfl | exact Or.inr rfl) (pe_split (pv 0) pe_str))
      (pss_cons (ps_setLc (i := 2) (own := [("word", 3)]) (by rfl) sc_head_in.nd rfl rfl (sw_true rfl rfl rfl (by decide +kernel)) (pi_or (kx_ilist (K := K) rfl (pe_slice (kx_sl (K := K) rfl) (pv 1) (po_some pe_int) po_none)) (kx_itup (K := K) rfl (pe_slice (kx_sl (K := K) rfl) (pv 1) (po_some pe_int) po_none))) (blkOk_by (N := ["line", "words", "numbers", "word"]) (sc := defScope s_head_in) (by decide +kernel)) (fun _ _ _ _ _ => (pg_name (i := 3) sc_head_in.nd rfl (by first | exact Or.inl rfl | exact Or.inr rfl))) (fun _ _ _ _ _ => pts_nil) (fun _ _ _ _ _ => (pe_callC C_small_number hg hr pass0 (by rfl) (pa_cons (pv 3) pa_nil))))
      (pss_cons (ps_if (PW.pt (pw_or (pt_cmpR (kx_ne (K := K) rfl hr.units) (pe_ix (kx_ix (K := K) rfl) (pv 1) pe_int (fun _ _ => rfl)) pe_str (nomark _)) (pw_or (pt_not (pt_chain op_le op_le pe_int (pe_callB (kx_len (K := K) rfl) (by rfl) m_len (by decide +kernel) (pa_cons (pv 2) pa_nil)) (pe_op (kx_add (K := K) rfl) pe_int (pe_glob (v := .int 16) (by rfl) m_MOST_CLASSES (by exact ⟨_, rfl⟩))))) (pw_or1 (pt_cmpR (kx_in (K := K) rfl hr) pe_non (pv 2) (by rfl))))))
      (pss_one (ps_ret pe_non))
      pss_nil)
      (pss_one (ps_ret (pe_tup (pa_cons (pe_ix (kx_ix (K := K) rfl) (pv 2) pe_int (fun _ _ => rfl)) (pa_cons (pe_callTy (kx_tuple (K := K) rfl) (by rfl) m_tuple (by decide +kernel) (pa_cons (pe_slice (kx_sl (K := K) rfl) (pv 2) (po_some pe_int) po_none) pa_nil)) pa_nil)))))))), body_pure h fun ds r hn hp => ?_⟩
  obtain ⟨t, rfl, ⟨hl, hlow, hw⟩, rfl⟩ := hp
  have hz : (S t).length ≤ sizeLine := by rw [S_len]; exact le_sizeLine (by omega)
  have hne := words_ne t
  have hcnt := words_count t
  unfold headO
  generalize hW : wordsL t = ws at hne hw hcnt
  obtain ⟨w0, ws', rfl⟩ : ∃ a b, ws = a :: b := by
    cases ws with
    | nil => exact absurd rfl hne
    | cons a b => exact ⟨a, b, rfl⟩
  refine sg_seq (sg_asg (x := .d (.list ((w0 :: ws').map fun w => PyData.str (S w)))) ?_ ?_)
  · apply EN.ev
    refine (en_split (a := S t) (b := Str.ofString " ") (ev_var rfl) ev_str (by decide) (by rw [S_len]; exact le_sizeLine (by omega))).is ?_
    rw [split_words, hW]
    simp only [List.map_map]
    rfl
  refine sg_seq (sg_asg (x := .d (.list ((ws'.map smallO).map optD))) ?_ ?_)
  · apply EN.ev
    refine EN.is (en_map (l := ws') (en := fun w => PyData.str (S w)) (f := fun w => optD (smallO w)) ?_ ?_ (lt_sizeLine (by simp at hcnt; omega))) ?_
    · refine IS.cast (IV.is (iv_l (iv_list (EN.ev (en_slL (ds := (w0 :: ws').map fun w => PyData.str (S w)) (ev_var rfl) (ov_some ev_int) ov_none))))) ?_
      rw [cutD_tail]
      rfl
    · intro w hw'
      exact ev_callX (av_cons (ev_var rfl) av_nil) ⟨w, rfl, hw w (List.mem_cons_of_mem _ hw'), rfl⟩
    · simp only [List.map_map]
      rfl
  refine sg_seq ?_
  have hlen : (((ws'.map smallO).map optD).length : Int) = ws'.length := by simp
  apply sg_if (b := !decide (w0 = tabW) || (!(decide (2 ≤ ws'.length) && decide (ws'.length ≤ 17)) || (allO (ws'.map smallO)).isNone))
  · apply tv_or
    · refine TV.is (tv_test (ev_op (ev_op (ev_var rfl) ev_int (rd_l (rd_ixL (i := 0) (d := .str (S w0)) (ix_at (k := 0) rfl)))) ev_str (rd_l rd_neS))) ?_
      rw [S_table, word_eq]
    · intro _
      apply tv_or
      · apply tv_not
        refine TV.is (tv_test (ev_chain (y := .d (.int ((ws'.map smallO).map optD).length)) ev_int (ev_cb (av_cons (ev_var rfl) av_nil) (cd_l cd_lenL)) rd_I0b (fun _ => ev_op ev_int ev_int (rd_l rd_I0i)) (fun _ => rd_I0b))) ?_
        rw [hlen]
        congr 1
        · congr 1
          exact propext (by omega)
        · congr 1
          exact propext (by omega)
      · intro _
        refine TV.is (tv_test (ev_op ev_non (ev_var rfl) (rd_in shaped_none (shaped_optD _)))) ?_
        rw [any_optD]
  · intro h0
    refine sg_retV ev_non ?_
    by_cases h1 : (w0 :: ws').head? = some tabW ∧ 2 ≤ (w0 :: ws').tail.length ∧ (w0 :: ws').tail.length ≤ 17
    · rw [if_pos h1]
      have e1 : w0 = tabW := Option.some.inj h1.1
      have e2 : 2 ≤ ws'.length := h1.2.1
      have e3 : ws'.length ≤ 17 := h1.2.2
      rw [decide_eq_true e1, decide_eq_true e2, decide_eq_true e3] at h0
      show El.d .none = El.d (headD ((allO (ws'.map smallO)).bind _))
      cases q : allO (ws'.map smallO) with
      | none => rfl
      | some z => rw [q] at h0; cases h0
    · rw [if_neg h1]; rfl
  · intro h0
    refine sg_next ?_
    rw [Bool.or_eq_false_iff, Bool.or_eq_false_iff, Bool.not_eq_false', Bool.not_eq_false', Bool.and_eq_true] at h0
    have e1 := of_decide_eq_true h0.1
    have e2 := of_decide_eq_true h0.2.1.1
    have e3 := of_decide_eq_true h0.2.1.2
    rw [if_pos ⟨by rw [e1]; rfl, e2, e3⟩]
    show SG K W0 _ _ _ _
    obtain ⟨ns, hns⟩ : ∃ ns, allO (ws'.map smallO) = some ns := by
      cases q : allO (ws'.map smallO) with
      | none => have := h0.2.2; rw [q] at this; cases this
      | some z => exact ⟨z, rfl⟩
    have hsz : ns.length = ws'.length := by rw [allO_len hns, List.length_map]
    obtain ⟨n, r, rfl⟩ : ∃ n r, ns = n :: r := by
      cases ns with
      | nil => simp at hsz; omega
      | cons n r => exact ⟨n, r, rfl⟩
    have hmap : (ws'.map smallO).map optD = .int n :: r.map fun s : Nat => PyData.int (s : Int) := by
      rw [allO_some hns]
      simp only [List.map_map, List.map_cons]
      rfl
    refine sg_retV (x := .d (headD (some (n, r)))) ?_ ?_
    · refine EV.is (ev_tupY (ds := [.int n, .tuple (r.map fun s : Nat => .int (s : Int))]) (av_cons (ev_op (ev_var rfl) ev_int (rd_l (rd_ixL (i := 0) (d := .int n) (by rw [hmap]; exact ix_at (k := 0) rfl)))) (av_cons (ev_cb (av_cons (EN.ev (en_slL (ds := (ws'.map smallO).map optD) (ev_var rfl) (ov_some ev_int) ov_none)) av_nil) ?_) av_nil)) rfl (by show 2 ≤ sizeLine; decide)) rfl
      rw [cutD_tail, hmap]
      exact cd_tupL
    · show _ = El.d (headD ((allO (ws'.map smallO)).bind _))
      rw [hns]
      rfl
end
end T63

namespace T63
open PySem PySem.Spec PyProof.Rows L2 DL TX
local macro_rules | `(tactic| walk_at "rd") => `(tactic| first
  | exact rd_I0i | exact rd_I0b
  | exact rd_l rd_I0i | apply rd_Ii | (apply rd_l; apply rd_Ii)
  | exact rd_l rd_eqI | exact rd_l rd_neI | exact rd_l rd_eqS | exact rd_l rd_neS | exact rd_l rd_eqB
  | (apply rd_r; apply rd_eq) | (apply rd_r; apply rd_ne)
  | (apply rd_r; apply rd_l; apply rd_strs) | (apply rd_r; apply rd_r; apply rd_l; apply rd_catT)
  | (apply rd_r; apply rd_l; apply rd_ixT) | (apply rd_l; apply rd_ixL) | (apply rd_r; apply rd_r; apply rd_ixS) | (apply rd_l; apply rd_ixO (by rfl))
  | (apply rd_r; apply rd_l; apply rd_repT) | exact ev_in_sign)
local macro_rules | `(tactic| walk_at "cd") => `(tactic| first
  | exact cd_l cd_lenT | exact cd_l cd_lenL | exact cd_l (cd_lenO (by rfl)) | (apply cd_r; apply cd_lenS)
  | (apply cd_l; apply cd_strI) | (apply cd_r; apply cd_intS) | exact cd_l cd_intB | exact cd_abs | exact cd_min | exact cd_max
  | exact cd_all | exact cd_any | apply cd_repr | exact cd_tupL | exact cd_tupT | exact cd_tupO (by rfl))
local macro_rules | `(tactic| walk_at "ev") => `(tactic| repeat' (first
  | exact ev_int | exact ev_str | exact ev_bl | exact ev_non | exact ev_var (by rfl)
  | exact av_nil | with_reducible apply av_cons
  | with_reducible apply ev_op | walk_at "rd" | with_reducible apply ev_neg | with_reducible apply ev_isN | with_reducible apply ev_notN
  | with_reducible apply ev_cb | walk_at "cd"
  | with_reducible apply ev_callX | (show List.map El.d (List.map unD _) = _; rfl) | (show List.length (List.map unD _) = _; rfl) | (show List.length (List.cons _ _) ≤ sizeLine; exact le_sizeLine (by simp only [List.length_cons, List.length_nil]; omega))
  | with_reducible apply ev_tupX | with_reducible apply ev_lstX | with_reducible apply ev_tupY | with_reducible apply ev_lstY | (show _ = List.map El.d _; rfl) | with_reducible apply ev_slS | with_reducible apply ev_slT | exact ov_none | apply ov_some
  | with_reducible apply ev_partition
  | with_reducible apply tv_test | with_reducible apply tv_B | with_reducible apply tv_not))
section
variable {P : Program} {w : World} {K : PySem.W.Frag} {mg : Str → Option Value} {base : Heap}
abbrev s_row_in : Stmt := topS 30
theorem sc_row_in : FnScope ["n", "many", "line", "words", "found", "word"] ["n", "many", "line"] (defScope s_row_in) := ⟨rfl, rfl, rfl, by decide +kernel, rfl, by decide +kernel, by decide +kernel⟩
theorem c_row_in (D : At K mg "row_in" s_row_in ["n", "many", "line"]) (m_tuple : mg "tuple" = none) (m_len : mg "len" = none) {C_NoText : Addr} (X_NoText : ExF K mg "NoText" C_NoText) (g_NoText : mg "NoText" = some (.ref C_NoText)) (x0 : PySem.W.exmOne K (.ref C_NoText) (.ref C_NoText) = some true) (C_read_number : Cal P w K mg base (L2.CX P w) 3 "read_number" ["n", "text"] (spX K mg 2 pf_read_number)) : Cal P w K mg base CX0 4 "row_in" ["n", "many", "line"] (spP K 3 pf_row_in) := by
  refine cal_mk0 D sc_row_in (fun vs H Q E h => spP_len h) fun f cdv A outer s H vs Q E hg hr h => ?_
  have hu := hu_of hr
  refine ⟨_, (pss_cons (ps_set (i := 3) sc_row_in.nd rfl (by first | exact Or.inl rfl | exact Or.inr rfl) (pe_split (pv 2) pe_str))
      (pss_cons (ps_if (PW.pt (pw_or (pt_cmpR (kx_ne (K := K) rfl hr.units) (pe_ix (kx_ix (K := K) rfl) (pv 3) pe_int (fun _ _ => rfl)) pe_str (nomark _)) (pw_or1 (pt_cmpR (kx_ne (K := K) rfl hr.units) (pe_callB (kx_len (K := K) rfl) (by rfl) m_len (by decide +kernel) (pa_cons (pv 3) pa_nil)) (pe_op (kx_add (K := K) rfl) pe_int (pv 1)) (nomark _)))))
      (pss_one (ps_ret pe_non))
      pss_nil)
      (pss_cons (ps_set (i := 4) sc_row_in.nd rfl (by first | exact Or.inl rfl | exact Or.inr rfl) (pe_lst pa_nil))
      (pss_cons (ps_try_only rfl rfl ⟨by rfl, by decide, .inl g_NoText⟩ takes0 (fun W pn xe tk pass => (pss_one (ps_for pass rfl (pi_or (kx_ilist (K := K) rfl (pe_slice (kx_sl (K := K) rfl) (pv 3) (po_some pe_int) po_none)) (kx_itup (K := K) rfl (pe_slice (kx_sl (K := K) rfl) (pv 3) (po_some pe_int) po_none))) (pg_name (i := 5) sc_row_in.nd rfl (by first | exact Or.inl rfl | exact Or.inr rfl))
      (pss_one (ps_expr (kx_bm (K := K) rfl PySem.F.plainAttrs_list PySem.F.slot_list_append PySem.F.type_list_append mt_append (pv 4) (pa_cons (pe_callCS C_read_number hg hr (passAt tk) (by rfl) (pa_cons (pv 0) (pa_cons (pv 5) pa_nil))) pa_nil)))))))
      (fun a oe cls d pn hz hf => pss_whenZ (D := C_NoText) (fun hz => (pss_one (ps_set (i := 4) sc_row_in.nd rfl (by first | exact Or.inl rfl | exact Or.inr rfl) pe_non))) hz))
      (pss_cons (ps_if (pt_cmp (pc_isN (pv 4)))
      (pss_one (ps_ret pe_non))
      pss_nil)
      (pss_one (ps_ret (pe_callTy (kx_tuple (K := K) rfl) (by rfl) m_tuple (by decide +kernel) (pa_cons (pv 4) pa_nil))))))))), body_pure h fun ds r hn hp => ?_⟩
  obtain ⟨n, many, t, rfl, hn1, hn100, hm100, ⟨hl, hlow, hw⟩, rfl⟩ := hp
  have hz : (S t).length ≤ sizeLine := by rw [S_len]; exact le_sizeLine (by omega)
  have hne := words_ne t
  have hcnt := words_count t
  unfold rowO
  generalize hW : wordsL t = ws at hne hw hcnt
  obtain ⟨w0, ws', rfl⟩ : ∃ a b, ws = a :: b := by
    cases ws with
    | nil => exact absurd rfl hne
    | cons a b => exact ⟨a, b, rfl⟩
  refine sg_seq (sg_asg (x := .d (.list ((w0 :: ws').map fun w => PyData.str (S w)))) ?_ ?_)
  · apply EN.ev
    refine (en_split (a := S t) (b := Str.ofString " ") (ev_var rfl) ev_str (by decide) (by rw [S_len]; exact le_sizeLine (by omega))).is ?_
    rw [split_words, hW]
    simp only [List.map_map]
    rfl
  refine sg_seq ?_
  have hlen : (((w0 :: ws').map fun w => PyData.str (S w)).length : Int) = (w0 :: ws').length := by simp
  apply sg_if (b := !decide (w0 = rowW) || !decide ((w0 :: ws').length = 1 + many))
  · apply tv_or
    · refine TV.is (tv_test (ev_op (ev_op (ev_var rfl) ev_int (rd_l (rd_ixL (i := 0) (d := .str (S w0)) (ix_at (k := 0) rfl)))) ev_str (rd_l rd_neS))) ?_
      rw [S_row, word_eq]
    · intro _
      refine TV.is (tv_test (ev_op (x := .d (.int ((w0 :: ws').map fun w => PyData.str (S w)).length)) (ev_cb (av_cons (ev_var rfl) av_nil) (cd_l cd_lenL)) (ev_op ev_int (ev_var rfl) (rd_l rd_I0i)) (rd_l rd_neI))) ?_
      rw [hlen]
      congr 2
      exact propext (by omega)
  · intro h0
    refine sg_retV ev_non ?_
    by_cases h1 : (w0 :: ws').head? = some rowW ∧ (w0 :: ws').length = 1 + many
    · have e1 : w0 = rowW := Option.some.inj h1.1
      rw [decide_eq_true e1, decide_eq_true h1.2] at h0
      cases h0
    · rw [if_neg h1]; rfl
  intro h0
  refine sg_next ?_
  rw [Bool.or_eq_false_iff, Bool.not_eq_false', Bool.not_eq_false'] at h0
  have e1 := of_decide_eq_true h0.1
  have e2 := of_decide_eq_true h0.2
  have e3 : ws'.length = many := by simp at e2; omega
  rw [if_pos ⟨by rw [e1]; rfl, e2⟩]
  show SG K W0 _ _ _ _
  generalize hG : ws'.map (readO (placesN n)) = G
  have hG' : (w0 :: ws').tail.map (readO (placesN n)) = G := hG
  rw [hG']
  refine sg_seq (sg_asgN (od := .lst []) (en_lst av_nil (by decide)) ?_)
  refine sg_seq (sg_mid (fun Γ Θ => ∃ c : El, ((∃ vs : List (List Int), allO G = some vs ∧ c = .at 0 ∧ Θ = [.lst ((vs.map fun l => PyData.tuple (l.map .int)).map .d)]) ∨ (allO G = none ∧ c = .d .none)) ∧ Γ[4]? = some (some c)) ?_ ?_)
  · refine sg_tryOnly (tb := fun W => tFor _ (gName 5) (tDrop (tBM K "list" rAppend (tVar 4) (tCons (tCallS (spX K mg 2 pf_read_number) (WE W) (tCons (tVar 0) (tCons (tVar 5) tNil))) tNil)))) fun W => ?_
    refine sg_for (l := ws') (en := fun w => PyData.str (S w)) ?_ (fun i Γ Θ => ∃ vs : List (List Int), G.take i = vs.map some ∧ Θ = [.lst ((vs.map fun l => PyData.tuple (l.map .int)).map .d)] ∧ ∃ a, Γ = [some (.d (.int n)), some (.d (.int many)), some (.d (.str (S t))), some (.d (.list ((w0 :: ws').map fun w => PyData.str (S w)))), some (.at 0), a]) ?_ ?_ ?_
    · refine IV.cast (iv_l (iv_list (EN.ev (en_slL (ds := (w0 :: ws').map fun w => PyData.str (S w)) (ev_var rfl) (ov_some ev_int) ov_none)))) ?_
      rw [cutD_tail]
      rfl
    · exact ⟨[], by simp, rfl, none, rfl⟩
    · rintro i x Γ' Θ' hx ⟨vs, hvs, rfl, a, rfl⟩
      refine ⟨_, _, gv_name, ?_⟩
      have hxl : x.length ≤ 120 := hw x (List.mem_cons_of_mem _ (List.mem_of_getElem? hx))
      have hi : i < ws'.length := (List.getElem?_eq_some_iff.mp hx).1
      have hGi : G[i]? = some (readO (placesN n) x) := by rw [← hG, List.getElem?_map, hx]; rfl
      have hvl : vs.length ≤ 100 := by
        have := congrArg List.length hvs
        rw [List.length_take, List.length_map] at this
        have : vs.length ≤ i := by omega
        omega
      by_cases hc : ∃ l, Canon (placesN n) x l
      · obtain ⟨l, hl'⟩ := hc
        refine sg_appendX (k := 0) (es := (vs.map fun l => PyData.tuple (l.map .int)).map .d) (ev_var rfl) (ex_call (ds := [.int n, .str (S x)]) (o := .ret (.tuple (l.map .int))) (av_cons (ev_var rfl) (av_cons (ev_var rfl) av_nil)) ⟨n, x, rfl, hn1, hn100, by omega, fun l' h' => by rw [canon_inj hl' h'], fun h => absurd ⟨l, hl'⟩ h⟩ rfl (fun r hr => ?_) (fun z fs hz => by cases hz)) rfl (lt_sizeLine (by simp; omega))
        cases hr
        refine ⟨vs ++ [l], ?_, ?_, _, rfl⟩
        · rw [List.take_add_one, hvs, hGi, readO_some hl']
          simp
        · simp
      · refine sg_appendX (k := 0) (es := (vs.map fun l => PyData.tuple (l.map .int)).map .d) (ev_var rfl) (ex_call (ds := [.int n, .str (S x)]) (o := .exc "NoText" none) (av_cons (ev_var rfl) (av_cons (ev_var rfl) av_nil)) ⟨n, x, rfl, hn1, hn100, by omega, fun l' h' => absurd ⟨l', h'⟩ hc, fun _ => rfl⟩ rfl (fun r hr => by cases hr) (fun z fs hz C hC => ?_)) rfl (lt_sizeLine (by simp; omega))
        cases hz
        have : C = C_NoText := by
          have := hC.symm.trans X_NoText.gC
          cases this
          rfl
        subst this
        refine ⟨x0, fun a d hd => sg_when ⟨rfl, hd rfl⟩ (sg_asg (x := .d .none) ev_non ⟨_, .inr ⟨?_, rfl⟩, rfl⟩)⟩
        cases q : allO G with
        | none => rfl
        | some z =>
          have := allO_some q
          rw [this, List.getElem?_map, readO_none hc] at hGi
          cases hz : z[i]? with
          | none => rw [hz] at hGi; cases hGi
          | some y => rw [hz] at hGi; cases hGi
    · rintro Γ' Θ' ⟨vs, hvs, rfl, a, rfl⟩
      refine ⟨_, .inl ⟨vs, ?_, rfl, rfl⟩, rfl⟩
      rw [List.take_of_length_le (by rw [← hG]; simp)] at hvs
      rw [hvs]
      exact allO_map vs
  rintro Γ Θ ⟨c, hc, hΓ⟩
  refine sg_seq ?_
  rcases hc with ⟨vs, hv, rfl, rfl⟩ | ⟨hv, rfl⟩
  · rw [hv]
    refine sg_if (b := false) (tv_B (ev_isA (ev_var hΓ))) (fun h => by cases h) fun _ => sg_next ?_
    refine sg_retV (x := .d (rowOD (some vs))) ?_ rfl
    exact ev_cb (av_cons (ev_var hΓ) av_nil) (cd_tupO (ds := vs.map fun l => PyData.tuple (l.map .int)) rfl)
  · rw [hv]
    exact sg_if (b := true) (tv_B (ev_isN (ev_var hΓ))) (fun _ => sg_retV ev_non rfl) fun h => by cases h
end
end T63

namespace T63
open PySem PySem.Spec PyProof.Rows L2 DL TX
local macro_rules | `(tactic| walk_at "rd") => `(tactic| first
  | exact rd_I0i | exact rd_I0b
  | exact rd_l rd_I0i | apply rd_Ii | (apply rd_l; apply rd_Ii)
  | exact rd_l rd_eqI | exact rd_l rd_neI | exact rd_l rd_eqS | exact rd_l rd_neS | exact rd_l rd_eqB
  | (apply rd_r; apply rd_eq) | (apply rd_r; apply rd_ne)
  | (apply rd_r; apply rd_l; apply rd_strs) | (apply rd_r; apply rd_r; apply rd_l; apply rd_catT)
  | (apply rd_r; apply rd_l; apply rd_ixT) | (apply rd_l; apply rd_ixL) | (apply rd_r; apply rd_r; apply rd_ixS) | (apply rd_l; apply rd_ixO (by rfl))
  | (apply rd_r; apply rd_l; apply rd_repT) | exact ev_in_sign)
local macro_rules | `(tactic| walk_at "cd") => `(tactic| first
  | exact cd_l cd_lenT | exact cd_l cd_lenL | exact cd_l (cd_lenO (by rfl)) | (apply cd_r; apply cd_lenS)
  | (apply cd_l; apply cd_strI) | (apply cd_r; apply cd_intS) | exact cd_l cd_intB | exact cd_abs | exact cd_min | exact cd_max
  | exact cd_all | exact cd_any | apply cd_repr | exact cd_tupL | exact cd_tupT | exact cd_tupO (by rfl))
local macro_rules | `(tactic| walk_at "ev") => `(tactic| repeat' (first
  | exact ev_int | exact ev_str | exact ev_bl | exact ev_non | exact ev_var (by rfl)
  | exact av_nil | with_reducible apply av_cons
  | with_reducible apply ev_op | walk_at "rd" | with_reducible apply ev_neg | with_reducible apply ev_isN | with_reducible apply ev_notN
  | with_reducible apply ev_cb | walk_at "cd"
  | with_reducible apply ev_callX | (show List.map El.d (List.map unD _) = _; rfl) | (show List.length (List.map unD _) = _; rfl) | (show List.length (List.cons _ _) ≤ sizeLine; exact le_sizeLine (by simp only [List.length_cons, List.length_nil]; omega))
  | with_reducible apply ev_tupX | with_reducible apply ev_lstX | with_reducible apply ev_tupY | with_reducible apply ev_lstY | (show _ = List.map El.d _; rfl) | with_reducible apply ev_slS | with_reducible apply ev_slT | exact ov_none | apply ov_some
  | with_reducible apply ev_partition
  | with_reducible apply tv_test | with_reducible apply tv_B | with_reducible apply tv_not))
section
variable {P : Program} {w : World} {K : PySem.W.Frag} {mg : Str → Option Value} {base : Heap}
abbrev s_read_table : Stmt := topS 31
theorem sc_read_table : FnScope ["lines", "head", "rows", "k", "row"] ["lines"] (defScope s_read_table) := ⟨rfl, rfl, rfl, by decide +kernel, rfl, by decide +kernel, by decide +kernel⟩
theorem c_read_table (D : At K mg "read_table" s_read_table ["lines"]) (m_tuple : mg "tuple" = none) (m_range : mg "range" = none) (m_len : mg "len" = none) {C_NoLines : Addr} (Y_NoLines : CalI P w K mg base 1 "NoLines" C_NoLines ["self", "row"] ["row"] (spI1 K C_NoLines "row")) (C_row_in : Cal P w K mg base CX0 4 "row_in" ["n", "many", "line"] (spP K 3 pf_row_in)) (C_head_in : Cal P w K mg base CX0 4 "head_in" ["line"] (spP K 1 pf_head_in)) : Cal P w K mg base (L2.CX P w) 5 "read_table" ["lines"] (spX K mg 1 pf_read_table) := by
  refine cal_mk D sc_read_table (fun vs H Q E h => spX_len h) fun f cdv A outer s H vs Q E hg hr h => ?_
  have hu := hu_of hr
  refine ⟨_, (pss_cons (ps_set (i := 1) sc_read_table.nd rfl (by first | exact Or.inl rfl | exact Or.inr rfl) pe_non)
      (pss_cons (ps_if (pt_cmpR (kx_ne (K := K) rfl hr.units) (pv 0) (pe_lst pa_nil) (nomark _))
      (pss_one (ps_set (i := 1) sc_read_table.nd rfl (by first | exact Or.inl rfl | exact Or.inr rfl) (pe_callC C_head_in hg hr pass0 (by rfl) (pa_cons (pe_ix (kx_ix (K := K) rfl) (pv 0) pe_int (fun _ _ => rfl)) pa_nil))))
      pss_nil)
      (pss_cons (ps_if (pt_cmp (pc_isN (pv 1)))
      (pss_one (ps_raise (by rfl) (takes_of rfl rfl rfl rfl) (pmk_I Y_NoLines hr (by decide) (by rfl) (pa_cons pe_int pa_nil))))
      pss_nil)
      (pss_cons (ps_set (i := 2) sc_read_table.nd rfl (by first | exact Or.inl rfl | exact Or.inr rfl) (pe_lst pa_nil))
      (pss_cons (ps_for (passes_of rfl) rfl (pi_range2 (by rfl) m_range (pa_cons pe_int (pa_cons (pe_callB (kx_len (K := K) rfl) (by rfl) m_len (by decide +kernel) (pa_cons (pv 0) pa_nil)) pa_nil))) (pg_name (i := 3) sc_read_table.nd rfl (by first | exact Or.inl rfl | exact Or.inr rfl))
      (pss_cons (ps_set (i := 4) sc_read_table.nd rfl (by first | exact Or.inl rfl | exact Or.inr rfl) (pe_callC C_row_in hg hr pass0 (by rfl) (pa_cons (pe_ix (kx_ix (K := K) rfl) (pv 1) pe_int (fun _ _ => rfl)) (pa_cons (pe_callB (kx_len (K := K) rfl) (by rfl) m_len (by decide +kernel) (pa_cons (pe_ix (kx_ix (K := K) rfl) (pv 1) pe_int (fun _ _ => rfl)) pa_nil)) (pa_cons (pe_ix (kx_ix (K := K) rfl) (pv 0) (pv 3) (fun _ _ => rfl)) pa_nil)))))
      (pss_cons (ps_if (pt_cmp (pc_isN (pv 4)))
      (pss_one (ps_raise (by rfl) (takes_of rfl rfl rfl rfl) (pmk_I Y_NoLines hr (by decide) (by rfl) (pa_cons (pv 3) pa_nil))))
      pss_nil)
      (pss_one (ps_expr (pe_bm PySem.F.plainAttrs_list PySem.F.slot_list_append PySem.F.type_list_append mt_append (pv 2) (pa_cons (pv 4) pa_nil)))))))
      (pss_cons (ps_if (pt_cmpR (kx_eq (K := K) rfl hr.units) (pv 2) (pe_lst pa_nil) (nomark _))
      (pss_one (ps_raise (by rfl) (takes_of rfl rfl rfl rfl) (pmk_I Y_NoLines hr (by decide) (by rfl) (pa_cons pe_int pa_nil))))
      pss_nil)
      (pss_one (ps_ret (pe_tup (pa_cons (pe_ix (kx_ix (K := K) rfl) (pv 1) pe_int (fun _ _ => rfl)) (pa_cons (pe_ix (kx_ix (K := K) rfl) (pv 1) pe_int (fun _ _ => rfl)) (pa_cons (pe_callTy (kx_tuple (K := K) rfl) (by rfl) m_tuple (by decide +kernel) (pa_cons (pv 2) pa_nil)) pa_nil)))))))))))), body_X h fun ds o hn hp => ?_⟩
  obtain ⟨ls, rfl, hls, hok, hk, hr'⟩ := hp
  refine sg_seq (sg_asg (x := .d .none) ev_non ?_)
  refine sg_seq (sg_mid (fun Γ Θ => Θ = [] ∧ Γ = [some (.d (linesD ls)), some (.d (headD (ls.head?.bind headO))), none, none, none]) ?_ ?_)
  · apply sg_if (b := !ls.isEmpty)
    · refine TV.is (tv_test (ev_op (ev_var rfl) (ev_lstY (ds := []) av_nil rfl (by decide)) (rd_r (rd_ne (shaped_lines fun t ht => (hok t ht).2.1) (by decide))))) ?_
      unfold linesD
      rw [eqv_nil]
    · intro h
      cases ls with
      | nil => cases h
      | cons t0 ls' =>
        exact sg_asg (x := .d (headD (headO t0))) (ev_callX (av_cons (ev_op (ev_var rfl) ev_int (rd_l (rd_ixL (d := .str (S t0)) (ix_at (k := 0) rfl)))) av_nil) ⟨t0, rfl, hok t0 List.mem_cons_self, rfl⟩) ⟨rfl, rfl⟩
    · intro h
      cases ls with
      | nil => exact sg_next ⟨rfl, rfl⟩
      | cons t0 ls' => cases h
  rintro Γ Θ ⟨rfl, rfl⟩
  refine sg_seq ?_
  cases hh : ls.head?.bind headO with
  | none =>
    refine sg_if (b := true) (tv_B (ev_isN (d := headD none) (ev_var rfl))) (fun _ => sg_raiseI1 (av_cons ev_int av_nil) ⟨"NoLines", C_NoLines, rfl, Y_NoLines.gC, hk 0 ?_⟩) fun h => by cases h
    cases ls with
    | nil => rfl
    | cons t0 ls' =>
      exact table_bad hh
  | some q =>
    obtain ⟨n, sz⟩ := q
    refine sg_if (b := false) (tv_B (ev_isN (d := headD (some (n, sz))) (ev_var rfl))) (fun h => by cases h) fun _ => sg_next ?_
    obtain ⟨t0, ls', rfl⟩ : ∃ a b, ls = a :: b := by
      cases ls with
      | nil => cases hh
      | cons a b => exact ⟨a, b, rfl⟩
    have hh : headO t0 = some (n, sz) := hh
    obtain ⟨b1, b2, b3, b4, b5⟩ := headO_bd hh
    refine sg_seq (sg_asgN (od := .lst []) (en_lst av_nil (by decide)) ?_)
    refine sg_seq ?_
    have hll : (((t0 :: ls').map fun t => PyData.str (S t)).length : Int) = (ls'.length : Int) + 1 := by simp
    have hlz : ls'.length ≤ 1000 := by simp at hls; omega
    refine sg_for (l := List.range ls'.length) (en := fun i : Nat => PyData.int (1 + (i : Int))) ?_ (fun i Γ Θ => ∃ vs : List (List (List Int)), vs.length = i ∧ rowsO n sz.length ls' 1 [] = rowsO n sz.length (ls'.drop i) (1 + i) vs ∧ Θ = [.lst ((vs.map rowD).map .d)] ∧ ∃ a b, Γ = [some (.d (linesD (t0 :: ls'))), some (.d (headD (some (n, sz)))), some (.at 0), a, b]) ?_ ?_ ?_
    · refine IV.cast (iv_rng2 (m := 1) (n := (ls'.length : Int) + 1) (av_cons ev_int (av_cons (EV.is (ev_cb (av_cons (ev_var rfl) av_nil) (cd_l (cd_lenL (ds := (t0 :: ls').map fun t => PyData.str (S t))))) (by rw [hll])) av_nil)) (by omega) (by omega) (by omega) (by omega)) ?_
      rw [show ((ls'.length : Int) + 1 - 1).toNat = ls'.length by omega]
    · exact ⟨[], rfl, rfl, rfl, none, none, rfl⟩
    · rintro i x Γ' Θ' hx ⟨vs, hvl, hvs, rfl, a, b, rfl⟩
      refine ⟨_, _, gv_name, ?_⟩
      have hi : i < ls'.length := by
        have := (List.getElem?_eq_some_iff.mp hx).1
        simpa using this
      obtain rfl : i = x := by
        rw [List.getElem?_range hi] at hx
        exact Option.some.inj hx
      obtain ⟨t, ht⟩ : ∃ t, ls'[i]? = some t := ⟨_, List.getElem?_eq_getElem hi⟩
      have htm : t ∈ ls' := List.mem_of_getElem? ht
      have hdr : ls'.drop i = t :: ls'.drop (i + 1) := by
        rw [List.drop_eq_getElem_cons hi]
        rw [List.getElem?_eq_getElem hi] at ht
        rw [Option.some.inj ht]
      have hix : atI ((t0 :: ls').map fun t => PyData.str (S t)) (1 + (i : Int)) = some (.str (S t)) := by
        have : (1 + (i : Int)) = ((i + 1 : Nat) : Int) := by omega
        rw [this]
        refine ix_at ?_
        rw [List.getElem?_map, List.getElem?_cons_succ, ht]
        rfl
      rw [hdr] at hvs
      refine sg_seq (sg_asg (x := .d (rowOD (rowO n sz.length t))) (ev_callX (av_cons (ev_op (ev_var rfl) ev_int (rd_r (rd_l (rd_ixT (d := .int n) (ix_at (k := 0) rfl))))) (av_cons (ev_cb (av_cons (ev_op (ev_var rfl) ev_int (rd_r (rd_l (rd_ixT (d := .tuple (sz.map fun s : Nat => .int (s : Int))) (ix_at (k := 1) rfl))))) av_nil) (cd_l cd_lenT)) (av_cons (ev_op (ev_var rfl) (ev_var rfl) (rd_l (rd_ixL hix))) av_nil))) ⟨n, sz.length, t, by simp [unD], b1, by omega, by omega, hok t (List.mem_cons_of_mem _ htm), rfl⟩) ?_)
      refine sg_seq ?_
      cases hq : rowO n sz.length t with
      | none =>
        refine sg_if (b := true) (tv_B (ev_isN (d := rowOD none) (ev_var rfl))) (fun _ => sg_raiseI1 (av_cons (ev_var rfl) av_nil) ⟨"NoLines", C_NoLines, rfl, Y_NoLines.gC, ?_⟩) fun h => by cases h
        have : tableO (t0 :: ls') = .inl (1 + i) := table_row hh (hvs.trans (rows_bad hq))
        have := hk _ this
        rw [this]
        simp
      | some row =>
        refine sg_if (b := false) (tv_B (ev_isN (d := rowOD (some row)) (ev_var rfl))) (fun h => by cases h) fun _ => sg_next ?_
        refine sg_drop (eg_append (k := 0) (es := (vs.map rowD).map .d) (x := .d (rowOD (some row))) (ev_var rfl) (ev_var rfl) rfl (lt_sizeLine (by simp; omega)) ?_)
        refine ⟨vs ++ [row], by simp; omega, ?_, ?_, _, _, rfl⟩
        · rw [hvs, rows_ok hq]
          rw [show 1 + i + 1 = 1 + (i + 1) by omega]
        · simp
          rfl
    · rintro Γ' Θ' ⟨vs, hvl, hvs, rfl, a, b, rfl⟩
      rw [List.length_range] at hvl hvs
      rw [List.drop_length] at hvs
      have hvs : rowsO n sz.length ls' 1 [] = .inr vs := hvs
      have hshape : ∀ vs : List (List (List Int)), SeqAt.shaped (.list (vs.map rowD)) = true := fun vs => (shaped_list fun row _ => by
        have h1 : PyData.canLayAll0 (row.map fun l => .tuple (l.map .int)) = true := canLay_map fun l _ => by simp [PyData.canLay0, canLay_ints]
        have h2 : PyData.depthAll (row.map fun l => .tuple (l.map .int)) ≤ 1 := depth_map fun l _ => by simp [PyData.depth, depth_ints]
        unfold rowD
        simp only [PyData.canLay0, PyData.depth, h1]
        exact ⟨trivial, by omega⟩).1
      refine sg_freeze (k := 0) (ds := vs.map rowD) rfl ?_
      show SG K (fun c d x H => E c d H) _ [some (.d (linesD (t0 :: ls'))), some (.d (headD (some (n, sz)))), some (.d (.list (vs.map rowD))), a.map (frz 0 (vs.map rowD)), b.map (frz 0 (vs.map rowD))] [.gone] _
      · skip
        refine sg_seq ?_
        apply sg_if (b := vs.isEmpty)
        · refine TV.is (tv_test (ev_op (ev_var rfl) (ev_lstY (ds := []) av_nil rfl (by decide)) (rd_r (rd_eq (hshape vs) (by decide))))) (eqv_nil rowD vs)
        · intro h
          cases vs with
          | nil => exact sg_raiseI1 (av_cons ev_int av_nil) ⟨"NoLines", C_NoLines, rfl, Y_NoLines.gC, hk 1 (table_none hh hvs)⟩
          | cons x y => cases h
        · intro h
          cases vs with
          | nil => cases h
          | cons x y =>
            refine sg_next (sg_retV (x := .d (tabD n sz (x :: y))) ?_ ⟨_, rfl, hr' _ _ _ (table_all hh hvs)⟩)
            exact ev_tupY (ds := [.int n, .tuple (sz.map fun s : Nat => .int (s : Int)), .tuple ((x :: y).map rowD)]) (av_cons (ev_op (ev_var rfl) ev_int (rd_r (rd_l (rd_ixT (d := .int n) (ix_at (k := 0) rfl))))) (av_cons (ev_op (ev_var rfl) ev_int (rd_r (rd_l (rd_ixT (d := .tuple (sz.map fun s : Nat => .int (s : Int))) (ix_at (k := 1) rfl))))) (av_cons (ev_cb (av_cons (ev_var rfl) av_nil) cd_tupL) av_nil))) rfl (by show 3 ≤ sizeLine; decide)
end
end T63

namespace T63
open PySem PySem.Spec PyProof.Rows L2 DL TX
def initS (i : Nat) : Stmt := match topS i with
  | .ClassDef _ _ _ body .. => body.getD 0 (.Pass ⟨0, 0, 0, 0⟩)
  | s => s
abbrev s_NoLines : Stmt := initS 7
section
variable {P : Program} {w : World} {K : PySem.W.Frag} {mg : Str → Option Value} {base : Heap}
theorem sc_NoLines : FnScope ["self", "row"] ["self", "row"] (defScope s_NoLines) := ⟨rfl, rfl, rfl, by decide +kernel, rfl, by decide +kernel, by decide +kernel⟩
theorem i_NoLines {C_NoLines C_TableError fI : Addr} {fd : FuncData} (T : ExI K mg "NoLines" C_NoLines fI ["row"]) (B : ExB K mg "TableError" C_TableError) (F : FunD K "__init__" "NoLines.__init__" (defArgs s_NoLines) (defBody s_NoLines) (defScope s_NoLines) [] [] fI fd) (hb : Binds K fd ["self", "row"] []) :
    CalI P w K mg base 1 "NoLines" C_NoLines ["self", "row"] ["row"] (spI1 K C_NoLines "row") := by
  refine calI_mk T F sc_NoLines hb (fun vs H Q E h => by obtain ⟨a, v, rfl, _⟩ := h; rfl) fun cdv A outer s H vs Q E hr h => ?_
  exact ⟨_, (pss_cons (ps_expr (pe_oveinit (by rfl) B.gC B.sg B.tm B.rd B.fc (pa_cons (pv 0) (pa_cons pe_str pa_nil)))) (pss_one (ps_ost (pv 0) (pv 1)))), init1_sem rfl T.T (T.no "row" (by simp)) h⟩
end
end T63

namespace T63
open PySem PySem.Spec PyProof.Rows L2 DL TX
local macro_rules | `(tactic| walk_at "rd") => `(tactic| first
  | exact rd_I0i | exact rd_I0b
  | exact rd_l rd_I0i | apply rd_Ii | (apply rd_l; apply rd_Ii)
  | exact rd_l rd_eqI | exact rd_l rd_neI | exact rd_l rd_eqS | exact rd_l rd_neS | exact rd_l rd_eqB
  | (apply rd_r; apply rd_eq) | (apply rd_r; apply rd_ne)
  | (apply rd_r; apply rd_l; apply rd_strs) | (apply rd_r; apply rd_r; apply rd_l; apply rd_catT)
  | (apply rd_r; apply rd_l; apply rd_ixT) | (apply rd_l; apply rd_ixL) | (apply rd_r; apply rd_r; apply rd_ixS) | (apply rd_l; apply rd_ixO (by rfl))
  | (apply rd_r; apply rd_l; apply rd_repT) | exact ev_in_sign)
local macro_rules | `(tactic| walk_at "cd") => `(tactic| first
  | exact cd_l cd_lenT | exact cd_l cd_lenL | exact cd_l (cd_lenO (by rfl)) | (apply cd_r; apply cd_lenS)
  | (apply cd_l; apply cd_strI) | (apply cd_r; apply cd_intS) | exact cd_l cd_intB | exact cd_abs | exact cd_min | exact cd_max
  | exact cd_all | exact cd_any | apply cd_repr | exact cd_tupL | exact cd_tupT | exact cd_tupO (by rfl))
local macro_rules | `(tactic| walk_at "ev") => `(tactic| repeat' (first
  | exact ev_int | exact ev_str | exact ev_bl | exact ev_non | exact ev_var (by rfl)
  | exact av_nil | with_reducible apply av_cons
  | with_reducible apply ev_op | walk_at "rd" | with_reducible apply ev_neg | with_reducible apply ev_isN | with_reducible apply ev_notN
  | with_reducible apply ev_cb | walk_at "cd"
  | with_reducible apply ev_callX | (show List.map El.d (List.map unD _) = _; rfl) | (show List.length (List.map unD _) = _; rfl) | (show List.length (List.cons _ _) ≤ sizeLine; exact le_sizeLine (by simp only [List.length_cons, List.length_nil]; omega))
  | with_reducible apply ev_tupX | with_reducible apply ev_lstX | with_reducible apply ev_tupY | with_reducible apply ev_lstY | (show _ = List.map El.d _; rfl) | with_reducible apply ev_slS | with_reducible apply ev_slT | exact ov_none | apply ov_some
  | with_reducible apply ev_partition
  | with_reducible apply tv_test | with_reducible apply tv_B | with_reducible apply tv_not))
section
variable {P : Program} {w : World} {K : PySem.W.Frag} {mg : Str → Option Value} {base : Heap}
abbrev s__law_due : Stmt := topS 43
theorem sc__law_due : FnScope ["_law_lines_here", "_law_words", "_law_numbers", "_law_word", "_law_wide", "_law_k", "_law_rows", "_law_row"] ["_law_lines_here"] (defScope s__law_due) := ⟨rfl, rfl, rfl, by decide +kernel, rfl, by decide +kernel, by decide +kernel⟩
theorem c__law_due (D : At K mg "_law_due" s__law_due ["_law_lines_here"]) (m_tuple : mg "tuple" = none) (m_range : mg "range" = none) (m_len : mg "len" = none) (m_max : mg "max" = none) (C__law_read : Cal P w K mg base CX0 3 "_law_read" ["_law_wide", "_law_text"] (spP K 2 pf__law_read)) (C__law_alone : Cal P w K mg base CX0 3 "_law_alone" ["_law_k", "_law_n"] (spP K 2 pf__law_alone)) (C__law_figures : Cal P w K mg base CX0 3 "_law_figures" ["_law_text"] (spP K 1 pf__law_figures)) : Cal P w K mg base CX0 4 "_law_due" ["_law_lines_here"] (spP K 1 pf__law_due) := by
  refine cal_mk0 D sc__law_due (fun vs H Q E h => spP_len h) fun f cdv A outer s H vs Q E hg hr h => ?_
  have hu := hu_of hr
  refine ⟨_, (pss_cons (ps_set (i := 1) sc__law_due.nd rfl (by first | exact Or.inl rfl | exact Or.inr rfl) (pe_ifExp (pt_cmpR (kx_ne (K := K) rfl hr.units) (pv 0) (pe_lst pa_nil) (nomark _)) (pe_split (pe_ix (kx_ix (K := K) rfl) (pv 0) pe_int (fun _ _ => rfl)) pe_str) (pe_lst (pa_cons pe_str pa_nil))))
      (pss_cons (ps_set (i := 2) sc__law_due.nd rfl (by first | exact Or.inl rfl | exact Or.inr rfl) (pe_lc (own := [("_law_word", 3)]) (by rfl) sc__law_due.nd (pi_or (kx_ilist (K := K) rfl (pe_slice (kx_sl (K := K) rfl) (pv 1) (po_some pe_int) po_none)) (kx_itup (K := K) rfl (pe_slice (kx_sl (K := K) rfl) (pv 1) (po_some pe_int) po_none))) (blkOk_by (N := ["_law_lines_here", "_law_words", "_law_numbers", "_law_word", "_law_wide", "_law_k", "_law_rows", "_law_row"]) (sc := defScope s__law_due) (by decide +kernel)) (fun _ _ _ _ _ => (pg_name (i := 3) sc__law_due.nd rfl (by first | exact Or.inl rfl | exact Or.inr rfl))) (fun _ _ _ _ _ => pts_nil) (fun _ _ _ _ _ => (pe_callC C__law_figures hg hr pass0 (by rfl) (pa_cons (pv 3) pa_nil)))))
      (pss_cons (ps_if (PW.pt (pw_or (pt_cmpR (kx_ne (K := K) rfl hr.units) (pe_ix (kx_ix (K := K) rfl) (pv 1) pe_int (fun _ _ => rfl)) pe_str (nomark _)) (pw_or (pt_cmpR (kx_in (K := K) rfl hr) pe_non (pv 2) (by rfl)) (pw_or (pt_not (pt_chain op_le op_le pe_int (pe_callB (kx_len (K := K) rfl) (by rfl) m_len (by decide +kernel) (pa_cons (pv 2) pa_nil)) pe_int)) (pw_or1 (pt_cmpR op_gt (pe_callB (kx_maxL (K := K) rfl (by rfl)) (by rfl) m_max (by decide +kernel) (pa_cons (pv 2) pa_nil)) pe_int (nomark _)))))))
      (pss_one (ps_ret pe_int))
      pss_nil)
      (pss_cons (ps_set (i := 4) sc__law_due.nd rfl (by first | exact Or.inl rfl | exact Or.inr rfl) (pe_callB (kx_len (K := K) rfl) (by rfl) m_len (by decide +kernel) (pa_cons (pe_lc (own := [("_law_k", 5)]) (by rfl) sc__law_due.nd (pi_range2 (by rfl) m_range (pa_cons pe_int (pa_cons (pe_op (kx_add (K := K) rfl) (pe_ix (kx_ix (K := K) rfl) (pv 2) pe_int (fun _ _ => rfl)) pe_int) pa_nil))) (blkOk_by (N := ["_law_lines_here", "_law_words", "_law_numbers", "_law_word", "_law_wide", "_law_k", "_law_rows", "_law_row"]) (sc := defScope s__law_due) (by decide +kernel)) (fun _ _ _ _ _ => (pg_name (i := 5) sc__law_due.nd rfl (by first | exact Or.inl rfl | exact Or.inr rfl))) (fun _ _ _ _ _ => (pts_one (pt_val (pe_callC C__law_alone hg hr pass0 (by rfl) (pa_cons (pv 5) (pa_cons (pe_ix (kx_ix (K := K) rfl) (pv 2) pe_int (fun _ _ => rfl)) pa_nil)))))) (fun _ _ _ _ _ => (pv 5))) pa_nil)))
      (pss_cons (ps_set (i := 6) sc__law_due.nd rfl (by first | exact Or.inl rfl | exact Or.inr rfl) (pe_lst pa_nil))
      (pss_cons (ps_for PassesOwn.never rfl (pi_range2 (by rfl) m_range (pa_cons pe_int (pa_cons (pe_callB (kx_len (K := K) rfl) (by rfl) m_len (by decide +kernel) (pa_cons (pv 0) pa_nil)) pa_nil))) (pg_name (i := 5) sc__law_due.nd rfl (by first | exact Or.inl rfl | exact Or.inr rfl))
      (pss_cons (ps_set (i := 1) sc__law_due.nd rfl (by first | exact Or.inl rfl | exact Or.inr rfl) (pe_split (pe_ix (kx_ix (K := K) rfl) (pv 0) (pv 5) (fun _ _ => rfl)) pe_str))
      (pss_cons (ps_setLc (i := 7) (own := [("_law_word", 3)]) (by rfl) sc__law_due.nd rfl rfl (sw_true rfl rfl rfl (by decide +kernel)) (pi_or (kx_ilist (K := K) rfl (pe_slice (kx_sl (K := K) rfl) (pv 1) (po_some pe_int) po_none)) (kx_itup (K := K) rfl (pe_slice (kx_sl (K := K) rfl) (pv 1) (po_some pe_int) po_none))) (blkOk_by (N := ["_law_lines_here", "_law_words", "_law_numbers", "_law_word", "_law_wide", "_law_k", "_law_rows", "_law_row"]) (sc := defScope s__law_due) (by decide +kernel)) (fun _ _ _ _ _ => (pg_name (i := 3) sc__law_due.nd rfl (by first | exact Or.inl rfl | exact Or.inr rfl))) (fun _ _ _ _ _ => pts_nil) (fun _ _ _ _ _ => (pe_callC C__law_read hg hr pass0 (by rfl) (pa_cons (pv 4) (pa_cons (pv 3) pa_nil)))))
      (pss_cons (ps_if (PW.pt (pw_or (pt_cmpR (kx_ne (K := K) rfl hr.units) (pe_ix (kx_ix (K := K) rfl) (pv 1) pe_int (fun _ _ => rfl)) pe_str (nomark _)) (pw_or (pt_cmpR (kx_in (K := K) rfl hr) pe_non (pv 7) (by rfl)) (pw_or1 (pt_cmpR (kx_ne (K := K) rfl hr.units) (pe_callB (kx_len (K := K) rfl) (by rfl) m_len (by decide +kernel) (pa_cons (pv 7) pa_nil)) (pe_op op_sub (pe_callB (kx_len (K := K) rfl) (by rfl) m_len (by decide +kernel) (pa_cons (pv 2) pa_nil)) pe_int) (nomark _))))))
      (pss_one (ps_ret (pv 5)))
      pss_nil)
      (pss_one (ps_expr (pe_bm PySem.F.plainAttrs_list PySem.F.slot_list_append PySem.F.type_list_append mt_append (pv 6) (pa_cons (pe_callTy (kx_tuple (K := K) rfl) (by rfl) m_tuple (by decide +kernel) (pa_cons (pv 7) pa_nil)) pa_nil))))))))
      (pss_one (ps_ret (pe_ifExp (pt_cmpR (kx_ne (K := K) rfl hr.units) (pv 6) (pe_lst pa_nil) (nomark _)) (pe_tup (pa_cons (pe_ix (kx_ix (K := K) rfl) (pv 2) pe_int (fun _ _ => rfl)) (pa_cons (pe_callTy (kx_tuple (K := K) rfl) (by rfl) m_tuple (by decide +kernel) (pa_cons (pe_slice (kx_sl (K := K) rfl) (pv 2) (po_some pe_int) po_none) pa_nil)) (pa_cons (pe_callTy (kx_tuple (K := K) rfl) (by rfl) m_tuple (by decide +kernel) (pa_cons (pv 6) pa_nil)) pa_nil)))) pe_int))))))))), body_pure h fun ds r hn hp => ?_⟩
  obtain ⟨ls, rfl, hls, hok, rfl⟩ := hp
  have hshl := shaped_lines fun t ht => (hok t ht).2.1
  obtain ⟨w0, ws', hw0⟩ : ∃ w0 ws', (match ls with | [] => [[]] | t :: _ => wordsL t) = w0 :: ws' := by
    cases ls with
    | nil => exact ⟨_, _, rfl⟩
    | cons t r =>
      have := words_ne t
      cases q : wordsL t with
      | nil => exact absurd q this
      | cons a b => exact ⟨a, b, q⟩
  have hcnt : ws'.length ≤ 20001 := by
    cases ls with
    | nil => cases hw0; simp
    | cons t r =>
      have := words_count t
      have h2 := (hok t List.mem_cons_self).1
      change wordsL t = _ at hw0
      rw [hw0, List.length_cons] at this
      omega
  have hwl : ∀ w ∈ ws', w.length ≤ 120 ∧ lowL w := by
    cases ls with
    | nil => cases hw0; intro w hw; cases hw
    | cons t r =>
      change wordsL t = _ at hw0
      intro w hw
      have hm : w ∈ wordsL t := by rw [hw0]; exact List.mem_cons_of_mem _ hw
      exact ⟨(hok t List.mem_cons_self).2.2 w hm, words_low (hok t List.mem_cons_self).2.1 w hm⟩
  refine sg_seq (sg_asg (x := .d (.list ((w0 :: ws').map fun w => PyData.str (S w)))) ?_ ?_)
  · apply ev_ite (b := !ls.isEmpty)
    · refine TV.is (tv_test (ev_op (ev_var rfl) (ev_lstY (ds := []) av_nil rfl (by decide)) (rd_r (rd_ne hshl (by decide))))) ?_
      unfold linesD
      rw [eqv_nil]
    · intro h
      cases ls with
      | nil => cases h
      | cons t r =>
        apply EN.ev
        refine (en_split (a := S t) (b := Str.ofString " ") (ev_op (ev_var rfl) ev_int (rd_l (rd_ixL (d := .str (S t)) (ix_at (k := 0) rfl)))) ev_str (by decide) (by rw [S_len]; exact le_sizeLine (by have := (hok t List.mem_cons_self).1; omega))).is ?_
        rw [split_words, show wordsL t = _ from hw0]
        simp only [List.map_map]
        rfl
    · intro h
      cases ls with
      | nil =>
        cases hw0
        exact ev_lstY (ds := [.str (S [])]) (av_cons ev_str av_nil) rfl (by decide)
      | cons t r => cases h
  refine sg_seq (sg_asg (x := .d (.list ((ws'.map lawFigs).map optD))) ?_ ?_)
  · apply EN.ev
    refine EN.is (en_map (l := ws') (en := fun w => PyData.str (S w)) (f := fun w => optD (lawFigs w)) ?_ ?_ (lt_sizeLine (by omega))) ?_
    · refine IS.cast (IV.is (iv_l (iv_list (EN.ev (en_slL (ds := (w0 :: ws').map fun w => PyData.str (S w)) (ev_var rfl) (ov_some ev_int) ov_none))))) ?_
      rw [cutD_tail]
      rfl
    · intro w hw'
      exact ev_callX (av_cons (ev_var rfl) av_nil) ⟨w, rfl, by have := (hwl w hw').1; omega, (hwl w hw').2, rfl⟩
    · simp only [List.map_map]
      rfl
  refine sg_seq ?_
  have hlen : (((ws'.map lawFigs).map optD).length : Int) = ws'.length := by simp
  have hbad : w0 ≠ tabW ∨ allO (ws'.map lawFigs) = none ∨ ¬(2 ≤ ws'.length ∧ ws'.length ≤ 17) ∨ (∃ ns, allO (ws'.map lawFigs) = some ns ∧ ∃ m ∈ ns, 60 < m) → tableO ls = .inl 0 := by
    intro h
    cases ls with
    | nil => rfl
    | cons t r => exact table_bad (head_no hw0 h)
  by_cases h1 : w0 = tabW
  rotate_left
  · refine sg_if (b := true) (TV.is (tv_or (a := true) (b := true) (TV.is (tv_test (ev_op (ev_op (ev_var rfl) ev_int (rd_l (rd_ixL (i := 0) (d := .str (S w0)) (ix_at (k := 0) rfl)))) ev_str (rd_l rd_neS))) ?_) (fun h => by cases h)) rfl) (fun _ => ?_) (fun h => by cases h)
    · rw [S_table, word_eq, decide_eq_false h1]
      rfl
    · refine sg_retV (x := .d (.int 0)) ev_int ?_
      rw [hbad (.inl h1)]
      rfl
  have T1 : ∀ {Γ : Gm} {Θ : Th}, Γ[1]? = some (some (.d (.list ((w0 :: ws').map fun w => PyData.str (S w))))) → TV K (tTest (tOp (fun x y H Q => rNe x y H Q ∨ rNeD K x y H Q) (tOp (rIx K) (tVar 1) (tC (V.int 0))) (tC (V.str (Str.ofString "table"))))) Γ Θ false := fun h => TV.is (tv_test (ev_op (ev_op (ev_var h) ev_int (rd_l (rd_ixL (i := 0) (d := .str (S w0)) (ix_at (k := 0) rfl)))) ev_str (rd_l rd_neS))) (by rw [S_table, word_eq, decide_eq_true h1]; rfl)
  cases q : allO (ws'.map lawFigs) with
  | none =>
    refine sg_if (b := true) (TV.is (tv_or (a := false) (b := true) (T1 rfl) (fun _ => TV.is (tv_or (a := true) (b := true) (TV.is (tv_test (ev_op ev_non (ev_var rfl) (rd_in shaped_none (shaped_optD _)))) (by rw [any_optD, q]; rfl)) (fun h => by cases h)) rfl)) rfl) (fun _ => ?_) (fun h => by cases h)
    refine sg_retV (x := .d (.int 0)) ev_int ?_
    rw [hbad (.inr (.inl q))]
    rfl
  | some ns =>
  have hmap : (ws'.map lawFigs).map optD = (ns.map fun n : Nat => (n : Int)).map .int := by
    rw [allO_some q]
    simp only [List.map_map]
    rfl
  have hsz : ns.length = ws'.length := by rw [allO_len q, List.length_map]
  have T2 : ∀ {Γ : Gm} {Θ : Th}, Γ[2]? = some (some (.d (.list ((ws'.map lawFigs).map optD)))) → TV K (tTest (tOp (rInD K) (tC V.non) (tVar 2))) Γ Θ false := fun h => TV.is (tv_test (ev_op ev_non (ev_var h) (rd_in shaped_none (shaped_optD _)))) (by rw [any_optD, q]; rfl)
  by_cases hl : 2 ≤ ws'.length ∧ ws'.length ≤ 17
  rotate_left
  · refine sg_if (b := true) (TV.is (tv_or (a := false) (b := true) (T1 rfl) (fun _ => TV.is (tv_or (a := false) (b := true) (T2 rfl) (fun _ => TV.is (tv_or (a := true) (b := true) (TV.is (tv_not (tv_test (ev_chain (y := .d (.int ((ws'.map lawFigs).map optD).length)) ev_int (ev_cb (av_cons (ev_var rfl) av_nil) (cd_l cd_lenL)) rd_I0b (fun _ => ev_int) (fun _ => rd_I0b)))) ?_) (fun h => by cases h)) rfl)) rfl)) rfl) (fun _ => ?_) (fun h => by cases h)
    · rw [hlen]
      have : (decide ((2 : Int) ≤ ws'.length) && decide ((ws'.length : Int) ≤ 17)) = false := by
        by_cases a : 2 ≤ ws'.length
        · rw [decide_eq_false (show ¬ ((ws'.length : Int) ≤ 17) by omega), Bool.and_false]
        · rw [decide_eq_false (show ¬ ((2 : Int) ≤ ws'.length) by omega), Bool.false_and]
      rw [this]
      rfl
    · refine sg_retV (x := .d (.int 0)) ev_int ?_
      rw [hbad (.inr (.inr (.inl hl)))]
      rfl
  obtain ⟨hl2, hl17⟩ := hl
  obtain ⟨n, sz, rfl⟩ : ∃ n r, ns = n :: r := by
    cases ns with
    | nil => simp at hsz; omega
    | cons n r => exact ⟨n, r, rfl⟩
  have T3 : ∀ {Γ : Gm} {Θ : Th}, Γ[2]? = some (some (.d (.list ((ws'.map lawFigs).map optD)))) → TV K (tNot (tTest (tChain (rI0 fun i j => V.bl (decide (i ≤ j))) (rI0 fun i j => V.bl (decide (i ≤ j))) (tC (V.int 2)) (tCB (fun xs H Q => (∃ p ys, xs = [V.ref p] ∧ (SqL K H p ys ∨ SqT K H p ys) ∧ Q (V.int ys.length) H) ∨ ∃ z, xs = [V.str z] ∧ z.length ≤ sizeLine ∧ Q (V.int z.length) H) (tCons (tVar 2) tNil)) (tC (V.int 17))))) Γ Θ false := fun h =>
    TV.is (tv_not (tv_test (ev_chain (y := .d (.int ((ws'.map lawFigs).map optD).length)) ev_int (ev_cb (av_cons (ev_var h) av_nil) (cd_l cd_lenL)) rd_I0b (fun _ => ev_int) (fun _ => rd_I0b)))) (by
      rw [hlen, decide_eq_true (show (2 : Int) ≤ ws'.length by omega), decide_eq_true (show (ws'.length : Int) ≤ 17 by omega)]
      rfl)
  obtain ⟨m, hm, hmx⟩ := max_of (ns := n :: sz) (by simp)
  have T4 : ∀ {Γ : Gm} {Θ : Th}, Γ[2]? = some (some (.d (.list ((ws'.map lawFigs).map optD)))) → EV K (tCB (rMax K) (tCons (tVar 2) tNil)) Γ Θ (.d (.int (m : Nat))) := fun h =>
    ev_cb (av_cons (EV.is (ev_var h) (by rw [hmap])) av_nil) (cd_maxL (List.mem_map.mpr ⟨m, hm, rfl⟩) (fun y hy => by
      obtain ⟨x, hx, rfl⟩ := List.mem_map.mp hy
      have := hmx x hx
      omega))
  have TT : ∀ {Γ : Gm} {Θ : Th} {b : Bool}, b = decide (60 < m) → Γ[1]? = some (some (.d (.list ((w0 :: ws').map fun w => PyData.str (S w))))) → Γ[2]? = some (some (.d (.list ((ws'.map lawFigs).map optD)))) → TV K (tOr (tTest (tOp (fun x y H Q => rNe x y H Q ∨ rNeD K x y H Q) (tOp (rIx K) (tVar 1) (tC (V.int 0))) (tC (V.str (Str.ofString "table"))))) (tOr (tTest (tOp (rInD K) (tC V.non) (tVar 2))) (tOr (tNot (tTest (tChain (rI0 fun i j => V.bl (decide (i ≤ j))) (rI0 fun i j => V.bl (decide (i ≤ j))) (tC (V.int 2)) (tCB (fun xs H Q => (∃ p ys, xs = [V.ref p] ∧ (SqL K H p ys ∨ SqT K H p ys) ∧ Q (V.int ys.length) H) ∨ ∃ z, xs = [V.str z] ∧ z.length ≤ sizeLine ∧ Q (V.int z.length) H) (tCons (tVar 2) tNil)) (tC (V.int 17))))) (tTest (tOp (rI0 fun i j => V.bl (decide (j < i))) (tCB (rMax K) (tCons (tVar 2) tNil)) (tC (V.int 60))))))) Γ Θ b := fun hb h1 h2 =>
    TV.is (tv_or (a := false) (T1 h1) (fun _ => tv_or (a := false) (T2 h2) fun _ => tv_or (a := false) (T3 h2) fun _ => tv_test (ev_op (T4 h2) ev_int rd_I0b))) (by
      rw [hb]
      show decide ((60 : Int) < (m : Nat)) = decide (60 < m)
      congr 1
      exact propext (by omega))
  by_cases hm60 : 60 < m
  · refine sg_if (b := true) (TT (decide_eq_true hm60).symm rfl rfl) (fun _ => ?_) (fun h => by cases h)
    refine sg_retV (x := .d (.int 0)) ev_int ?_
    rw [hbad (.inr (.inr (.inr ⟨_, q, m, hm, hm60⟩)))]
    rfl
  refine sg_if (b := false) (TT (decide_eq_false hm60).symm rfl rfl) (fun h => by cases h) (fun _ => sg_next ?_)
  rw [hmap]
  clear T2 T3 T4 TT
  obtain ⟨t0, ls', rfl⟩ : ∃ a b, ls = a :: b := by
    cases ls with
    | nil =>
      cases hw0
      simp at hl2
    | cons a b => exact ⟨a, b, rfl⟩
  have hall : ∀ x ∈ n :: sz, x ≤ 60 := fun x hx => by have := hmx x hx; omega
  have hhead : headO t0 = some (n, sz) := head_yes hw0 h1 q ⟨hl2, hl17⟩ hall
  obtain ⟨b1, b2, b3, b4, b5⟩ := headO_bd hhead
  have hslen : sz.length + 1 = ws'.length := by rw [← hsz]; rfl
  have evN : ∀ {Γ : Gm} {Θ : Th}, Γ[2]? = some (some (.d (.list (((n :: sz).map fun n : Nat => (n : Int)).map .int)))) → EV K (tOp (rIx K) (tVar 2) (tC (V.int 0))) Γ Θ (.d (.int (n : Nat))) := fun h =>
    ev_op (ev_var h) ev_int (rd_l (rd_ixL (d := .int (n : Nat)) (ix_at (k := 0) rfl)))
  refine sg_seq (sg_asg (x := .d (.int (placesN n : Nat))) ?_ ?_)
  · refine ev_cb (xs := [.d (.list (made (List.range n) (fun i => decide (Nat.gcd (1 + i) n = 1)) (fun i : Nat => PyData.int (1 + (i : Int)))))]) (av_cons ?_ av_nil) ?_
    · apply EN.ev
      apply en_filt (l := List.range n) (en := fun i : Nat => PyData.int (1 + (i : Int))) (f := fun i : Nat => PyData.int (1 + (i : Int))) (p := fun i => decide (Nat.gcd (1 + i) n = 1))
      · refine IS.cast (xs := (List.range ((n : Int) + 1 - 1).toNat).map fun i : Nat => PyData.int (1 + (i : Int))) (IV.is (iv_rng2 (m := 1) (n := (n : Int) + 1) (av_cons ev_int (av_cons (ev_op (evN rfl) ev_int (rd_l rd_I0i)) av_nil)) (by decide) (by decide) (by omega) (by omega))) ?_
        rw [show ((n : Int) + 1 - 1).toNat = n by omega]
      · intro b hb
        exact tv_B (ev_callX (av_cons (ev_var rfl) (av_cons (evN rfl) av_nil)) ⟨1 + b, n, by push_cast; rfl, rfl⟩)
      · intro b hb _
        exact ev_var rfl
      · rw [List.length_range]; exact lt_sizeLine (by omega)
    · refine (show (PyData.int (made (List.range n) (fun i => decide (Nat.gcd (1 + i) n = 1)) (fun i : Nat => PyData.int (1 + (i : Int)))).length) = .int (placesN n : Nat) from ?_) ▸ cd_l cd_lenL
      unfold made placesN
      rw [List.length_map]
  have hpl := placesN_le n
  have hpp := placesN_pos n b1
  refine sg_seq (sg_asgN (od := .lst []) (en_lst av_nil (by decide)) ?_)
  have hll : (((t0 :: ls').map fun t => PyData.str (S t)).length : Int) = (ls'.length : Int) + 1 := by simp
  have hlz : ls'.length ≤ 1000 := by simp at hls; omega
  refine sg_seq ?_
  refine sg_for (l := List.range ls'.length) (en := fun i : Nat => PyData.int (1 + (i : Int))) ?_ (fun i Γ Θ => ∃ vs : List (List (List Int)), vs.length = i ∧ rowsO n sz.length ls' 1 [] = rowsO n sz.length (ls'.drop i) (1 + i) vs ∧ Θ = [.lst ((vs.map rowD).map .d)] ∧ ∃ a b c d, Γ = [some (.d (linesD (t0 :: ls'))), a, some (.d (.list (((n :: sz).map fun n : Nat => (n : Int)).map .int))), b, some (.d (.int (placesN n : Nat))), c, some (.at 0), d]) ?_ ?_ ?_
  · refine IV.cast (iv_rng2 (m := 1) (n := (ls'.length : Int) + 1) (av_cons ev_int (av_cons (EV.is (ev_cb (av_cons (ev_var rfl) av_nil) (cd_l (cd_lenL (ds := (t0 :: ls').map fun t => PyData.str (S t))))) (by rw [hll])) av_nil)) (by omega) (by omega) (by omega) (by omega)) ?_
    rw [show ((ls'.length : Int) + 1 - 1).toNat = ls'.length by omega]
  · exact ⟨[], rfl, rfl, rfl, _, _, _, _, rfl⟩
  · rintro i x Γ' Θ' hx ⟨vs, hvl, hvs, rfl, a, b, c, d, rfl⟩
    refine ⟨_, _, gv_name, ?_⟩
    have hi : i < ls'.length := by
      have := (List.getElem?_eq_some_iff.mp hx).1
      simpa using this
    obtain rfl : i = x := by
      rw [List.getElem?_range hi] at hx
      exact Option.some.inj hx
    obtain ⟨t, ht⟩ : ∃ t, ls'[i]? = some t := ⟨_, List.getElem?_eq_getElem hi⟩
    have htm : t ∈ ls' := List.mem_of_getElem? ht
    have hdr : ls'.drop i = t :: ls'.drop (i + 1) := by
      rw [List.drop_eq_getElem_cons hi]
      rw [List.getElem?_eq_getElem hi] at ht
      rw [Option.some.inj ht]
    have hix : atI ((t0 :: ls').map fun t => PyData.str (S t)) (1 + (i : Int)) = some (.str (S t)) := by
      have : (1 + (i : Int)) = ((i + 1 : Nat) : Int) := by omega
      rw [this]
      refine ix_at ?_
      rw [List.getElem?_map, List.getElem?_cons_succ, ht]
      rfl
    rw [hdr] at hvs
    obtain ⟨htl, htlow, htw⟩ := hok t (List.mem_cons_of_mem _ htm)
    obtain ⟨v0, vs', hv0⟩ : ∃ a b, wordsL t = a :: b := by
      have := words_ne t
      cases q : wordsL t with
      | nil => exact absurd q this
      | cons a b => exact ⟨a, b, rfl⟩
    have hcnt2 : vs'.length ≤ 20001 := by
      have := words_count t
      rw [hv0, List.length_cons] at this
      omega
    have hwl2 : ∀ w ∈ vs', w.length ≤ 120 ∧ lowL w := fun w hw => by
      have hm : w ∈ wordsL t := by rw [hv0]; exact List.mem_cons_of_mem _ hw
      exact ⟨htw w hm, words_low htlow w hm⟩
    refine sg_seq (sg_asg (x := .d (.list ((v0 :: vs').map fun w => PyData.str (S w)))) ?_ ?_)
    · apply EN.ev
      refine (en_split (a := S t) (b := Str.ofString " ") (ev_op (ev_var rfl) (ev_var rfl) (rd_l (rd_ixL hix))) ev_str (by decide) (by rw [S_len]; exact le_sizeLine (by omega))).is ?_
      rw [split_words, hv0]
      simp only [List.map_map]
      rfl
    refine sg_seq (sg_asg (x := .d (.list ((vs'.map (readO (placesN n))).map numD))) ?_ ?_)
    · apply EN.ev
      refine EN.is (en_map (l := vs') (en := fun w => PyData.str (S w)) (f := fun w => numD (readO (placesN n) w)) ?_ ?_ (lt_sizeLine (by omega))) ?_
      · refine IS.cast (IV.is (iv_l (iv_list (EN.ev (en_slL (ds := (v0 :: vs').map fun w => PyData.str (S w)) (ev_var rfl) (ov_some ev_int) ov_none))))) ?_
        rw [cutD_tail]
        rfl
      · intro w hw'
        have := hwl2 w hw'
        exact ev_callX (av_cons (ev_var rfl) (av_cons (ev_var rfl) av_nil)) ⟨placesN n, w, rfl, hpp, by omega, by omega, this.2, read_of.1, read_of.2⟩
      · simp only [List.map_map]
        rfl
    refine sg_seq ?_
    have hlen2 : (((vs'.map (readO (placesN n))).map numD).length : Int) = vs'.length := by simp
    apply sg_if (b := !decide (v0 = rowW) || ((allO (vs'.map (readO (placesN n)))).isNone || !decide (vs'.length = sz.length)))
    · apply tv_or
      · refine TV.is (tv_test (ev_op (ev_op (ev_var rfl) ev_int (rd_l (rd_ixL (i := 0) (d := .str (S v0)) (ix_at (k := 0) rfl)))) ev_str (rd_l rd_neS))) ?_
        rw [S_row, word_eq]
      · intro _
        apply tv_or
        · refine TV.is (tv_test (ev_op ev_non (ev_var rfl) (rd_in shaped_none (shaped_numD _)))) ?_
          rw [any_numD]
        · intro _
          refine TV.is (tv_test (ev_op (ev_cb (av_cons (ev_var rfl) av_nil) (cd_l cd_lenL)) (ev_op (x := .d (.int (((n :: sz).map fun n : Nat => (n : Int)).map PyData.int).length)) (ev_cb (av_cons (ev_var rfl) av_nil) (cd_l cd_lenL)) ev_int rd_I0i) (rd_l rd_neI))) ?_
          rw [hlen2]
          congr 2
          rw [List.length_map, List.length_map, List.length_cons]
          exact propext (by omega)
    · intro h
      refine sg_retV (ev_var rfl) ?_
      have : rowO n sz.length t = none := by
        refine row_no hv0 ?_
        by_cases c1 : v0 = rowW
        · by_cases c2 : vs'.length = sz.length
          · rw [decide_eq_true c1, decide_eq_true c2] at h
            right; left
            cases q : allO (vs'.map (readO (placesN n))) with
            | none => rfl
            | some z => rw [q] at h; cases h
          · exact .inr (.inr c2)
        · exact .inl c1
      rw [table_row hhead (hvs.trans (rows_bad this))]
      simp [outD]
    · intro h
      rw [Bool.or_eq_false_iff, Bool.or_eq_false_iff, Bool.not_eq_false', Bool.not_eq_false'] at h
      have c1 := of_decide_eq_true h.1
      have c2 := of_decide_eq_true h.2.2
      obtain ⟨row, hrow⟩ : ∃ row, allO (vs'.map (readO (placesN n))) = some row := by
        cases q : allO (vs'.map (readO (placesN n))) with
        | none => have := h.2.1; rw [q] at this; cases this
        | some z => exact ⟨z, rfl⟩
      have hmr : (vs'.map (readO (placesN n))).map numD = row.map fun l => PyData.tuple (l.map .int) := by
        rw [allO_some hrow]
        simp only [List.map_map]
        rfl
      refine sg_next ?_
      refine sg_drop (eg_append (k := 0) (es := (vs.map rowD).map .d) (x := .d (rowD row)) (ev_var rfl) (ev_cb (av_cons (EV.is (ev_var rfl) (by rw [hmr])) av_nil) cd_tupL) rfl (lt_sizeLine (by simp; omega)) ?_)
      refine ⟨vs ++ [row], by simp; omega, ?_, ?_, _, _, _, _, rfl⟩
      · rw [hvs, rows_ok (row_yes hv0 c1 hrow c2)]
        rw [show 1 + i + 1 = 1 + (i + 1) by omega]
      · simp
  · rintro Γ' Θ' ⟨vs, hvl, hvs, rfl, a, b, c, d, rfl⟩
    rw [List.length_range] at hvl hvs
    rw [List.drop_length] at hvs
    have hvs : rowsO n sz.length ls' 1 [] = .inr vs := hvs
    have hshape : ∀ vs : List (List (List Int)), SeqAt.shaped (.list (vs.map rowD)) = true := fun vs => (shaped_list fun row _ => by
      have h1 : PyData.canLayAll0 (row.map fun l => .tuple (l.map .int)) = true := canLay_map fun l _ => by simp [PyData.canLay0, canLay_ints]
      have h2 : PyData.depthAll (row.map fun l => .tuple (l.map .int)) ≤ 1 := depth_map fun l _ => by simp [PyData.depth, depth_ints]
      unfold rowD
      simp only [PyData.canLay0, PyData.depth, h1]
      exact ⟨trivial, by omega⟩).1
    refine sg_freeze (k := 0) (ds := vs.map rowD) rfl ?_
    show SG K _ _ [some (.d (linesD (t0 :: ls'))), a.map (frz 0 (vs.map rowD)), some (.d (.list (((n :: sz).map fun n : Nat => (n : Int)).map .int))), b.map (frz 0 (vs.map rowD)), some (.d (.int (placesN n : Nat))), c.map (frz 0 (vs.map rowD)), some (.d (.list (vs.map rowD))), d.map (frz 0 (vs.map rowD))] [.gone] _
    refine sg_retV (x := .d (outD (tableO (t0 :: ls')))) ?_ rfl
    apply ev_ite (b := !vs.isEmpty)
    · refine TV.is (tv_test (ev_op (ev_var rfl) (ev_lstY (ds := []) av_nil rfl (by decide)) (rd_r (rd_ne (hshape vs) (by decide))))) (by rw [eqv_nil])
    · intro h
      cases vs with
      | nil => cases h
      | cons x y =>
        rw [table_all hhead hvs]
        exact ev_tupY (ds := [.int n, .tuple (sz.map fun s : Nat => .int (s : Int)), .tuple ((x :: y).map rowD)]) (av_cons (evN rfl) (av_cons (EV.is (ev_cb (av_cons (EN.ev (en_slL (ds := ((n :: sz).map fun n : Nat => (n : Int)).map .int) (ev_var rfl) (ov_some ev_int) ov_none)) av_nil) cd_tupL) (by rw [cutD_tail]; simp only [List.map_map]; rfl)) (av_cons (ev_cb (av_cons (ev_var rfl) av_nil) cd_tupL) av_nil))) rfl (by show 3 ≤ sizeLine; decide)
    · intro h
      cases vs with
      | nil =>
        rw [table_none hhead hvs]
        exact ev_int
      | cons x y => cases h
end
end T63

namespace T63
open PySem PySem.Spec PyProof.Rows L2 DL TX
local macro_rules | `(tactic| walk_at "rd") => `(tactic| first
  | exact rd_I0i | exact rd_I0b
  | exact rd_l rd_I0i | apply rd_Ii | (apply rd_l; apply rd_Ii)
  | exact rd_l rd_eqI | exact rd_l rd_neI | exact rd_l rd_eqS | exact rd_l rd_neS | exact rd_l rd_eqB
  | (apply rd_r; apply rd_eq) | (apply rd_r; apply rd_ne)
  | (apply rd_r; apply rd_l; apply rd_strs) | (apply rd_r; apply rd_r; apply rd_l; apply rd_catT)
  | (apply rd_r; apply rd_l; apply rd_ixT) | (apply rd_l; apply rd_ixL) | (apply rd_r; apply rd_r; apply rd_ixS) | (apply rd_l; apply rd_ixO (by rfl))
  | (apply rd_r; apply rd_l; apply rd_repT) | exact ev_in_sign)
local macro_rules | `(tactic| walk_at "cd") => `(tactic| first
  | exact cd_l cd_lenT | exact cd_l cd_lenL | exact cd_l (cd_lenO (by rfl)) | (apply cd_r; apply cd_lenS)
  | (apply cd_l; apply cd_strI) | (apply cd_r; apply cd_intS) | exact cd_l cd_intB | exact cd_abs | exact cd_min | exact cd_max
  | exact cd_all | exact cd_any | apply cd_repr | exact cd_tupL | exact cd_tupT | exact cd_tupO (by rfl))
local macro_rules | `(tactic| walk_at "ev") => `(tactic| repeat' (first
  | exact ev_int | exact ev_str | exact ev_bl | exact ev_non | exact ev_var (by rfl)
  | exact av_nil | with_reducible apply av_cons
  | with_reducible apply ev_op | walk_at "rd" | with_reducible apply ev_neg | with_reducible apply ev_isN | with_reducible apply ev_notN
  | with_reducible apply ev_cb | walk_at "cd"
  | with_reducible apply ev_callX | (show List.map El.d (List.map unD _) = _; rfl) | (show List.length (List.map unD _) = _; rfl) | (show List.length (List.cons _ _) ≤ sizeLine; exact le_sizeLine (by simp only [List.length_cons, List.length_nil]; omega))
  | with_reducible apply ev_tupX | with_reducible apply ev_lstX | with_reducible apply ev_tupY | with_reducible apply ev_lstY | (show _ = List.map El.d _; rfl) | with_reducible apply ev_slS | with_reducible apply ev_slT | exact ov_none | apply ov_some
  | with_reducible apply ev_partition
  | with_reducible apply tv_test | with_reducible apply tv_B | with_reducible apply tv_not))
section
variable {P : Program} {w : World} {K : PySem.W.Frag} {mg : Str → Option Value} {base : Heap}
abbrev s__law_lines : Stmt := topS 41
theorem sc__law_lines : FnScope ["_law_frame", "_law_lines_here", "_law_one", "_law_row", "_law_number_here"] ["_law_frame"] (defScope s__law_lines) := ⟨rfl, rfl, rfl, by decide +kernel, rfl, by decide +kernel, by decide +kernel⟩
theorem c__law_lines (D : At K mg "_law_lines" s__law_lines ["_law_frame"]) (m_str : mg "str" = none) (C__law_shown : Cal P w K mg base CX0 1 "_law_shown" ["_law_number_here"] (spP K 1 pf__law_shown)) : Cal P w K mg base CX0 2 "_law_lines" ["_law_frame"] (spP K 1 pf__law_lines) := by
  refine cal_mk0 D sc__law_lines (fun vs H Q E h => spP_len h) fun f cdv A outer s H vs Q E hg hr h => ?_
  have hu := hu_of hr
  refine ⟨_, (pss_cons (ps_set (i := 1) sc__law_lines.nd rfl (by first | exact Or.inl rfl | exact Or.inr rfl) (pe_lst (pa_cons (pe_op (kx_add (K := K) rfl) pe_str (kx_join (K := K) rfl pe_str (pe_lc (own := [("_law_one", 2)]) (by rfl) sc__law_lines.nd (pi_or (kx_ilist (K := K) rfl (pe_op (kx_add (K := K) rfl) (pe_tup (pa_cons (pe_ix (kx_ix (K := K) rfl) (pv 0) pe_int (fun _ _ => rfl)) pa_nil)) (pe_ix (kx_ix (K := K) rfl) (pv 0) pe_int (fun _ _ => rfl)))) (kx_itup (K := K) rfl (pe_op (kx_add (K := K) rfl) (pe_tup (pa_cons (pe_ix (kx_ix (K := K) rfl) (pv 0) pe_int (fun _ _ => rfl)) pa_nil)) (pe_ix (kx_ix (K := K) rfl) (pv 0) pe_int (fun _ _ => rfl))))) (blkOk_by (N := ["_law_frame", "_law_lines_here", "_law_one", "_law_row", "_law_number_here"]) (sc := defScope s__law_lines) (by decide +kernel)) (fun _ _ _ _ _ => (pg_name (i := 2) sc__law_lines.nd rfl (by first | exact Or.inl rfl | exact Or.inr rfl))) (fun _ _ _ _ _ => pts_nil) (fun _ _ _ _ _ => (pe_callTy cx_str (by rfl) m_str (by decide +kernel) (pa_cons (pv 2) pa_nil)))))) pa_nil)))
      (pss_cons (ps_for PassesOwn.never rfl (pi_or (kx_ilist (K := K) rfl (pe_ix (kx_ix (K := K) rfl) (pv 0) pe_int (fun _ _ => rfl))) (kx_itup (K := K) rfl (pe_ix (kx_ix (K := K) rfl) (pv 0) pe_int (fun _ _ => rfl)))) (pg_name (i := 3) sc__law_lines.nd rfl (by first | exact Or.inl rfl | exact Or.inr rfl))
      (pss_one (ps_expr (pe_bm PySem.F.plainAttrs_list PySem.F.slot_list_append PySem.F.type_list_append mt_append (pv 1) (pa_cons (pe_op (kx_add (K := K) rfl) pe_str (kx_join (K := K) rfl pe_str (pe_lc (own := [("_law_number_here", 4)]) (by rfl) sc__law_lines.nd (pi_or (kx_ilist (K := K) rfl (pv 3)) (kx_itup (K := K) rfl (pv 3))) (blkOk_by (N := ["_law_frame", "_law_lines_here", "_law_one", "_law_row", "_law_number_here"]) (sc := defScope s__law_lines) (by decide +kernel)) (fun _ _ _ _ _ => (pg_name (i := 4) sc__law_lines.nd rfl (by first | exact Or.inl rfl | exact Or.inr rfl))) (fun _ _ _ _ _ => pts_nil) (fun _ _ _ _ _ => (pe_callC C__law_shown hg hr pass0 (by rfl) (pa_cons (pv 4) pa_nil)))))) pa_nil)))))
      (pss_one (ps_ret (pv 1))))), body_pure h fun ds r hn hp => ?_⟩
  obtain ⟨n, sz, rows, rfl, ⟨⟨hn1, hn6⟩, ⟨hs1, hs17⟩, hs, ⟨hr1, hr4⟩, hrow⟩, rfl⟩ := hp
  have hHW : WordsB ((n :: sz).map TL.numL) := ⟨by simp; omega, fun w hw => by
    obtain ⟨x, hx, rfl⟩ := List.mem_map.mp hw
    refine num_word ?_
    rcases List.mem_cons.mp hx with rfl | hx
    · exact hn6
    · exact (hs x hx).2⟩
  have hHl := (join_ok hHW).1
  refine sg_seq (sg_asgN (od := .lst [.d (.str (S (lineH n sz)))]) ?_ ?_)
  · refine en_lst (av_cons (EV.is (ev_op (y := .d (.str (S (TL.joinL [32] ((n :: sz).map TL.numL))))) ev_str (EV.is (ev_join (a := Str.ofString " ") (ys := ((n :: sz).map TL.numL).map S) ev_str ?_ (join_sz hHW)) (by rw [txt_join])) (rd_r (rd_l (rd_strs ?_)))) ?_) av_nil) (by show 1 ≤ sizeLine; decide)
    · apply EN.ev
      refine EN.is (en_map (l := n :: sz) (en := fun x : Nat => PyData.int (x : Int)) (f := fun x : Nat => PyData.str (S (TL.numL x))) (IV.is (iv_r (iv_tup (ev_op (ev_tupX (av_cons (ev_op (ev_var rfl) ev_int (rd_r (rd_l (rd_ixT (d := .int (n : Int)) (ix_at (k := 0) rfl))))) av_nil) (by show 1 ≤ sizeLine; decide)) (ev_op (ev_var rfl) ev_int (rd_r (rd_l (rd_ixT (d := .tuple (sz.map fun s : Nat => .int (s : Int))) (ix_at (k := 1) rfl))))) (rd_r (rd_r (rd_l (rd_catT (by simp [unD]; exact le_sizeLine (by omega)))))))))) (fun x hx => ?_) (lt_sizeLine (by simp; omega))) ?_
      · refine EV.is (ev_cb (av_cons (ev_var rfl) av_nil) (cd_l (cd_strI (NT.log_of (small_BIG (i := x) ?_))))) ?_
        · rcases List.mem_cons.mp hx with rfl | hx
          · omega
          · have := (hs x hx).2; omega
        · rw [← S_num]
      · simp only [List.map_map]
        rfl
    · rw [S_len]
      exact le_sizeLine (by show 6 + _ ≤ _; omega)
    · show El.d (.str (Str.ofString "table " ++ _)) = _
      rw [show Str.ofString "table " = S (tabW ++ [32]) from TL.ext_tl rfl, S_app, List.append_assoc]
      rfl
  refine sg_seq ?_
  refine sg_for (l := rows) (en := rowD) (iv_r (iv_tup (ev_op (ev_var rfl) ev_int (rd_r (rd_l (rd_ixT (d := .tuple (rows.map rowD)) (ix_at (k := 2) rfl))))))) (fun i Γ Θ => ∃ a b c : Option El, Γ = [some (.d (tabD n sz rows)), some (.at 0), a, b, c] ∧ Θ = [.lst (((lineH n sz :: (rows.take i).map lineR).map fun t => PyData.str (S t)).map .d)]) ?_ ?_ ?_
  · exact ⟨_, _, _, rfl, rfl⟩
  · rintro i row Γ' Θ' hx ⟨a, b, c, rfl, rfl⟩
    refine ⟨_, _, gv_name, ?_⟩
    have hR := hrow row (List.mem_of_getElem? hx)
    have hRW : WordsB (row.map NT.shownT) := ⟨by have := hR.1; simp; omega, fun w hw => by
      obtain ⟨l, hl, rfl⟩ := List.mem_map.mp hw
      obtain ⟨_, p, q, r⟩ := hR.2 l hl
      exact ⟨Nat.le_trans (shown_len2 p q r) (by decide), shownT_low l, shown_no32 l⟩⟩
    have hRl := (join_ok hRW).1
    refine sg_drop (eg_append (k := 0) (es := ((lineH n sz :: (rows.take i).map lineR).map fun t => PyData.str (S t)).map .d) (x := .d (.str (S (lineR row)))) (ev_var rfl) (EV.is (ev_op (y := .d (.str (S (TL.joinL [32] (row.map NT.shownT))))) ev_str (EV.is (ev_join (a := Str.ofString " ") (ys := (row.map NT.shownT).map S) ev_str ?_ (join_sz hRW)) (by rw [txt_join])) (rd_r (rd_l (rd_strs ?_)))) ?_) rfl (lt_sizeLine (by simp; omega)) ?_)
    · apply EN.ev
      refine EN.is (en_map (l := row) (en := fun l : List Int => PyData.tuple (l.map .int)) (f := fun l : List Int => PyData.str (S (NT.shownT l))) (IV.is (iv_r (iv_tup (ev_var rfl)))) (fun l hl => ?_) (lt_sizeLine (by have := hR.1; omega))) ?_
      · obtain ⟨_, p, q, r⟩ := hR.2 l hl
        exact ev_callX (av_cons (ev_var rfl) av_nil) ⟨l, rfl, by omega, fun o ho => lt90_BIG (q o ho), rfl⟩
      · simp only [List.map_map]
        rfl
    · rw [S_len]
      exact le_sizeLine (by show 4 + _ ≤ _; omega)
    · show El.d (.str (Str.ofString "row " ++ _)) = _
      rw [show Str.ofString "row " = S (rowW ++ [32]) from TL.ext_tl rfl, S_app, List.append_assoc]
      have : row.map NT.shownT ≠ [] := by
        intro z
        have := congrArg List.length z
        rw [List.length_map, hR.1, List.length_nil] at this
        omega
      unfold lineR
      cases q : row.map NT.shownT with
      | nil => exact absurd q this
      | cons x y => rfl
    · refine ⟨_, _, _, rfl, ?_⟩
      rw [List.take_add_one, hx]
      simp
  · rintro Γ' Θ' ⟨a, b, c, rfl, rfl⟩
    rw [List.take_length]
    refine sg_freeze (k := 0) (ds := (frameL n sz rows).map fun t => PyData.str (S t)) rfl ?_
    exact sg_retV (x := .d (linesD (frameL n sz rows))) (ev_var rfl) rfl
end
end T63

namespace T63
open PySem PySem.Spec PyProof.Rows L2 DL TX
local macro_rules | `(tactic| walk_at "rd") => `(tactic| first
  | exact rd_I0i | exact rd_I0b
  | exact rd_l rd_I0i | apply rd_Ii | (apply rd_l; apply rd_Ii)
  | exact rd_l rd_eqI | exact rd_l rd_neI | exact rd_l rd_eqS | exact rd_l rd_neS | exact rd_l rd_eqB
  | (apply rd_r; apply rd_eq) | (apply rd_r; apply rd_ne)
  | (apply rd_r; apply rd_l; apply rd_strs) | (apply rd_r; apply rd_r; apply rd_l; apply rd_catT)
  | (apply rd_r; apply rd_l; apply rd_ixT) | (apply rd_l; apply rd_ixL) | (apply rd_r; apply rd_r; apply rd_ixS) | (apply rd_l; apply rd_ixO (by rfl))
  | (apply rd_r; apply rd_l; apply rd_repT) | exact ev_in_sign)
local macro_rules | `(tactic| walk_at "cd") => `(tactic| first
  | exact cd_l cd_lenT | exact cd_l cd_lenL | exact cd_l (cd_lenO (by rfl)) | (apply cd_r; apply cd_lenS)
  | (apply cd_l; apply cd_strI) | (apply cd_r; apply cd_intS) | exact cd_l cd_intB | exact cd_abs | exact cd_min | exact cd_max
  | exact cd_all | exact cd_any | apply cd_repr | exact cd_tupL | exact cd_tupT | exact cd_tupO (by rfl))
local macro_rules | `(tactic| walk_at "ev") => `(tactic| repeat' (first
  | exact ev_int | exact ev_str | exact ev_bl | exact ev_non | exact ev_var (by rfl)
  | exact av_nil | with_reducible apply av_cons
  | with_reducible apply ev_op | walk_at "rd" | with_reducible apply ev_neg | with_reducible apply ev_isN | with_reducible apply ev_notN
  | with_reducible apply ev_cb | walk_at "cd"
  | with_reducible apply ev_callX | (show List.map El.d (List.map unD _) = _; rfl) | (show List.length (List.map unD _) = _; rfl) | (show List.length (List.cons _ _) ≤ sizeLine; exact le_sizeLine (by simp only [List.length_cons, List.length_nil]; omega))
  | with_reducible apply ev_tupX | with_reducible apply ev_lstX | with_reducible apply ev_tupY | with_reducible apply ev_lstY | (show _ = List.map El.d _; rfl) | with_reducible apply ev_slS | with_reducible apply ev_slT | exact ov_none | apply ov_some
  | with_reducible apply ev_partition
  | with_reducible apply tv_test | with_reducible apply tv_B | with_reducible apply tv_not))
section
variable {P : Program} {w : World} {K : PySem.W.Frag} {mg : Str → Option Value} {base : Heap}
abbrev s__law_any : Stmt := topS 42
theorem sc__law_any : FnScope ["_law_feed_here", "_law_n", "_law_wide", "_law_k", "_law_sizes", "_law_rows", "_law_size"] ["_law_feed_here"] (defScope s__law_any) := ⟨rfl, rfl, rfl, by decide +kernel, rfl, by decide +kernel, by decide +kernel⟩
theorem c__law_any (D : At K mg "_law_any" s__law_any ["_law_feed_here"]) (m_tuple : mg "tuple" = none) (m_range : mg "range" = none) (m_min : mg "min" = none) (m_max : mg "max" = none) (m_int : mg "int" = none) (m_len : mg "len" = none) (C__law_draw : Cal P w K mg base CX0 2 "_law_draw" ["_law_feed_here", "_law_many"] (spM K 2 fs_draw)) (C__law_number : Cal P w K mg base CX0 2 "_law_number" ["_law_feed_here", "_law_wide"] (spM K 2 fs_number)) (C__law_alone : Cal P w K mg base CX0 2 "_law_alone" ["_law_k", "_law_n"] (spP K 2 pf__law_alone)) : Cal P w K mg base CX0 3 "_law_any" ["_law_feed_here"] (spM K 1 fs_any) := by
  refine cal_mk0 D sc__law_any (fun vs H Q E h => spM_len h) fun f cdv A outer s H vs Q E hg hr h => ?_
  have hu := hu_of hr
  refine ⟨_, (pss_cons (ps_set (i := 1) sc__law_any.nd rfl (by first | exact Or.inl rfl | exact Or.inr rfl) (pe_op (kx_add (K := K) rfl) pe_int (pe_callC C__law_draw hg hr pass0 (by rfl) (pa_cons (pv 0) (pa_cons pe_int pa_nil)))))
      (pss_cons (ps_set (i := 2) sc__law_any.nd rfl (by first | exact Or.inl rfl | exact Or.inr rfl) (pe_callB (kx_len (K := K) rfl) (by rfl) m_len (by decide +kernel) (pa_cons (pe_lc (own := [("_law_k", 3)]) (by rfl) sc__law_any.nd (pi_range2 (by rfl) m_range (pa_cons pe_int (pa_cons (pe_op (kx_add (K := K) rfl) (pv 1) pe_int) pa_nil))) (blkOk_by (N := ["_law_feed_here", "_law_n", "_law_wide", "_law_k", "_law_sizes", "_law_rows", "_law_size"]) (sc := defScope s__law_any) (by decide +kernel)) (fun _ _ _ _ _ => (pg_name (i := 3) sc__law_any.nd rfl (by first | exact Or.inl rfl | exact Or.inr rfl))) (fun _ _ _ _ _ => (pts_one (pt_val (pe_callC C__law_alone hg hr pass0 (by rfl) (pa_cons (pv 3) (pa_cons (pv 1) pa_nil)))))) (fun _ _ _ _ _ => (pv 3))) pa_nil)))
      (pss_cons (ps_set (i := 4) sc__law_any.nd rfl (by first | exact Or.inl rfl | exact Or.inr rfl) (pe_callTy (kx_tuple (K := K) rfl) (by rfl) m_tuple (by decide +kernel) (pa_cons (pe_lc (own := [("_law_k", 3)]) (by rfl) sc__law_any.nd (pi_range1 (by rfl) m_range (pa_cons (pe_op (kx_add (K := K) rfl) pe_int (pe_callC C__law_draw hg hr pass0 (by rfl) (pa_cons (pv 0) (pa_cons (pe_ix (kx_ix (K := K) rfl) (pe_lst (pa_cons pe_int (pa_cons pe_int pa_nil))) (pe_callTy cx_int (by rfl) m_int (by decide +kernel) (pa_cons (pe_cmpR (kx_eq (K := K) rfl hr.units) (pe_callC C__law_draw hg hr pass0 (by rfl) (pa_cons (pv 0) (pa_cons pe_int pa_nil))) pe_int (nomark _)) pa_nil)) (fun _ _ => rfl)) pa_nil)))) pa_nil)) (blkOk_by (N := ["_law_feed_here", "_law_n", "_law_wide", "_law_k", "_law_sizes", "_law_rows", "_law_size"]) (sc := defScope s__law_any) (by decide +kernel)) (fun _ _ _ _ _ => (pg_name (i := 3) sc__law_any.nd rfl (by first | exact Or.inl rfl | exact Or.inr rfl))) (fun _ _ _ _ _ => pts_nil) (fun _ _ _ _ _ => (pe_op (kx_add (K := K) rfl) pe_int (pe_callC C__law_draw hg hr pass0 (by rfl) (pa_cons (pv 0) (pa_cons pe_int pa_nil)))))) pa_nil)))
      (pss_cons (ps_set (i := 5) sc__law_any.nd rfl (by first | exact Or.inl rfl | exact Or.inr rfl) (pe_lst pa_nil))
      (pss_cons (ps_for PassesOwn.never rfl (pi_range1 (by rfl) m_range (pa_cons (pe_op (kx_add (K := K) rfl) pe_int (pe_callC C__law_draw hg hr pass0 (by rfl) (pa_cons (pv 0) (pa_cons pe_int pa_nil)))) pa_nil)) (pg_name (i := 3) sc__law_any.nd rfl (by first | exact Or.inl rfl | exact Or.inr rfl))
      (pss_one (ps_expr (pe_bm PySem.F.plainAttrs_list PySem.F.slot_list_append PySem.F.type_list_append mt_append (pv 5) (pa_cons (pe_callTy (kx_tuple (K := K) rfl) (by rfl) m_tuple (by decide +kernel) (pa_cons (pe_lc (own := [("_law_size", 6)]) (by rfl) sc__law_any.nd (pi_or (kx_ilist (K := K) rfl (pv 4)) (kx_itup (K := K) rfl (pv 4))) (blkOk_by (N := ["_law_feed_here", "_law_n", "_law_wide", "_law_k", "_law_sizes", "_law_rows", "_law_size"]) (sc := defScope s__law_any) (by decide +kernel)) (fun _ _ _ _ _ => (pg_name (i := 6) sc__law_any.nd rfl (by first | exact Or.inl rfl | exact Or.inr rfl))) (fun _ _ _ _ _ => pts_nil) (fun _ _ _ _ _ => (pe_op (kx_add (K := K) rfl) (pe_callC C__law_number hg hr pass0 (by rfl) (pa_cons (pv 0) (pa_cons (pe_callB (call_min2 (by rfl)) (by rfl) m_min (by decide +kernel) (pa_cons pe_int (pa_cons (pv 2) pa_nil))) pa_nil))) (pe_op (kx_mul (K := K) rfl) (pe_tup (pa_cons pe_int pa_nil)) (pe_callB (call_max2 (by rfl)) (by rfl) m_max (by decide +kernel) (pa_cons pe_int (pa_cons (pe_op op_sub (pv 2) pe_int) pa_nil))))))) pa_nil)) pa_nil)))))
      (pss_one (ps_ret (pe_tup (pa_cons (pv 1) (pa_cons (pv 4) (pa_cons (pe_callTy (kx_tuple (K := K) rfl) (by rfl) m_tuple (by decide +kernel) (pa_cons (pv 5) pa_nil)) pa_nil))))))))))), body_M h fun es Θ R hn hp => ?_⟩
  obtain ⟨cells, a0, left0, rfl, rfl, ha0, hc, hR⟩ := hp
  refine sg_seq (sg_asgG (eg_op (EV.eg ev_int ⟨_, rfl, eg_draw (m := 60) (k := 0) (av_cons (ev_var rfl) (av_cons ev_int av_nil)) rfl (by decide) (by decide) (by omega) hc fun v a1 left1 hv ha1 => ⟨_, _, rfl, rd_l rd_I0i, ?_⟩⟩)))
  obtain ⟨n, hn, hn1, hn6⟩ : ∃ n : Nat, (1 : Int) + v = n ∧ 1 ≤ n ∧ n ≤ 60 := ⟨1 + v, by push_cast; rfl, by omega, by omega⟩
  rw [hn]
  have hpl := placesN_le n
  have hpp := placesN_pos n hn1
  refine sg_seq (sg_asg (x := .d (.int (placesN n : Nat))) ?_ ?_)
  · refine ev_cb (xs := [.d (.list (made (List.range n) (fun i => decide (Nat.gcd (1 + i) n = 1)) (fun i : Nat => PyData.int (1 + (i : Int)))))]) (av_cons ?_ av_nil) ?_
    · apply EN.ev
      apply en_filt (l := List.range n) (en := fun i : Nat => PyData.int (1 + (i : Int))) (f := fun i : Nat => PyData.int (1 + (i : Int))) (p := fun i => decide (Nat.gcd (1 + i) n = 1))
      · refine IS.cast (xs := (List.range ((n : Int) + 1 - 1).toNat).map fun i : Nat => PyData.int (1 + (i : Int))) (IV.is (iv_rng2 (m := 1) (n := (n : Int) + 1) (av_cons ev_int (av_cons (ev_op (ev_var rfl) ev_int (rd_l rd_I0i)) av_nil)) (by decide) (by decide) (by omega) (by omega))) ?_
        rw [show ((n : Int) + 1 - 1).toNat = n by omega]
      · intro b hb
        exact tv_B (ev_callX (av_cons (ev_var rfl) (av_cons (ev_var rfl) av_nil)) ⟨1 + b, n, by push_cast; rfl, rfl⟩)
      · intro b hb _
        exact ev_var rfl
      · rw [List.length_range]; exact lt_sizeLine (by omega)
    · refine (show (PyData.int (made (List.range n) (fun i => decide (Nat.gcd (1 + i) n = 1)) (fun i : Nat => PyData.int (1 + (i : Int)))).length) = .int (placesN n : Nat) from ?_) ▸ cd_l cd_lenL
      unfold made placesN
      rw [List.length_map]
  have hal : ∀ {u3 u4 : Option El} {c : List Int} {a : Nat} {left : Int} {Θr : Th}, (∀ k, u3 ≠ some (.at k)) → (∀ k, u4 ≠ some (.at k)) → Alive [some (.at 0), some (.d (.int (n : Int))), some (.d (.int (placesN n : Nat))), u3, u4, none, none] (feedO c a left :: Θr) := fun h3 h4 k hk => by
    simp only [List.mem_cons, List.not_mem_nil, or_false] at hk
    rcases hk with h | h | h | h | h | h | h
    · cases h
      exact ⟨_, rfl, by intro z; cases z⟩
    · cases h
    · cases h
    · exact absurd h.symm (h3 k)
    · exact absurd h.symm (h4 k)
    · cases h
    · cases h
  refine sg_seq (sg_mid (fun Γ Θ => ∃ (sz : List Nat) (a : Nat) (left : Int), (1 ≤ sz.length ∧ sz.length ≤ 17) ∧ (∀ s ∈ sz, 1 ≤ s ∧ s ≤ 60) ∧ a ≤ a1 + 30 ∧ Γ = [some (.at 0), some (.d (.int (n : Int))), some (.d (.int (placesN n : Nat))), none, some (.d (.tuple (sz.map fun s : Nat => .int (s : Int)))), none, none] ∧ Θ = [feedO cells a left]) ?_ ?_)
  · refine sg_asgG (eg_cb (ag_cons (eg_lcG (α := Nat) (ig_rng1 (ag_cons (eg_op (EV.eg ev_int ⟨_, rfl, eg_lendX (k := 0) (ax_at (ev_var rfl) (ax_d (eg_op (EV.eg (ev_lstX (av_cons ev_int (av_cons ev_int av_nil))) ⟨_, rfl, eg_cb (ag_cons (eg_op (eg_draw (m := 4) (k := 0) (av_cons (ev_var rfl) (av_cons ev_int av_nil)) rfl (by decide) (by decide) (by omega) hc fun v2 a2 left2 hv2 ha2 => ⟨_, rfl, EV.eg ev_int ⟨_, _, rfl, rd_l rd_eqI, _, rfl, ag_nil ⟨_, cd_l cd_intB, ?_⟩⟩⟩)))⟩))))⟩)))))))
    obtain ⟨m, hm, hm1, hm17⟩ : ∃ m : Nat, atI [PyData.int 4, .int 17] (if decide ((v2 : Int) = 0) = true then 1 else 0) = some (.int (m : Int)) ∧ 1 ≤ m ∧ m ≤ 17 := by
      split
      · exact ⟨17, rfl, by decide, by decide⟩
      · exact ⟨4, rfl, by decide, by decide⟩
    refine ⟨_, _, rfl, rd_l (rd_ixL hm), _, rfl, ax_nil ⟨⟨_, rfl, feed_flat _ _ _⟩, [.at 0, .d (.int (m : Int))], feedO cells a2 left2, .own (.d .nil), rfl, feed_flat _ _ _, by simp, rfl, m, cells, a2, left2, rfl, rfl, hm1, by omega, by omega, hc, fun v3 a3 left3 hv3 ha3 => ⟨trivial, _, [], rfl, feed_flat _ _ _, _, _, rfl, rd_l rd_I0i, _, rfl, ag_nil ⟨1 + v3, by push_cast; rfl, by omega, List.range (1 + v3), fun i : Nat => .int (i : Int), fun i acc Θ' => ∃ (sz : List Nat) (a : Nat) (left : Int), acc = sz.map (fun s : Nat => .int (s : Int)) ∧ sz.length = i ∧ (∀ s ∈ sz, 1 ≤ s ∧ s ≤ 60) ∧ a ≤ a3 + i ∧ Θ' = [feedO cells a left], rfl, ?_, ?_, ?_, ?_, ?_⟩⟩⟩⟩
    · rw [List.length_range]; exact lt_sizeLine (by omega)
    · exact hal (by intro k z; cases z) (by intro k z; cases z)
    · exact ⟨[], a3, left3, rfl, rfl, by simp, by omega, rfl⟩
    · rintro i x acc Θ' hx ⟨sz, a, left, rfl, hsl, hsb, ha, rfl⟩
      have hi : i < 1 + v3 := by
        have := (List.getElem?_eq_some_iff.mp hx).1
        rwa [List.length_range] at this
      refine eg_op (EV.eg ev_int ⟨_, rfl, eg_draw (m := 60) (k := 0) (av_cons (ev_var rfl) (av_cons ev_int av_nil)) rfl (by decide) (by decide) (by omega) hc fun v4 a4 left4 hv4 ha4 => ⟨_, _, rfl, rd_l rd_I0i, _, rfl, hal (by intro k z; cases z) (by intro k z; cases z), sz ++ [1 + v4], a4, left4, ?_, by simp; omega, fun s hs => ?_, by omega, rfl⟩⟩)
      · simp
      · rcases List.mem_append.mp hs with m | m
        · exact hsb s m
        · rw [List.mem_singleton.mp m]; omega
    · rintro acc Θ' hl ⟨sz, a, left, rfl, hsl, hsb, ha, rfl⟩
      rw [List.length_range] at hsl ha
      exact ⟨_, rfl, ag_nil ⟨_, cd_tupL, sz, a, left, ⟨by omega, by omega⟩, hsb, by omega, rfl, rfl⟩⟩
  rintro Γ Θ ⟨sz, a2, left2, ⟨hs1, hs17⟩, hsb, ha2, rfl, rfl⟩
  refine sg_seq (sg_asgN (od := .lst []) (en_lst av_nil (by decide)) ?_)
  refine sg_seq ?_
  refine sg_forG (α := Nat) (ig_rng1 (ag_cons (eg_op (EV.eg ev_int ⟨_, rfl, eg_draw (m := 4) (k := 0) (av_cons (ev_var rfl) (av_cons ev_int av_nil)) rfl (by decide) (by decide) (by omega) hc fun v3 a3 left3 hv3 ha3 => ⟨_, _, rfl, rd_l rd_I0i, _, rfl, ag_nil ⟨1 + v3, by push_cast; rfl, by omega, List.range (1 + v3), fun i : Nat => .int (i : Int), fun i Γ Θ => ∃ (rows : List (List (List Int))) (a : Nat) (left : Int) (u : Option El), rows.length = i ∧ (∀ row ∈ rows, RowB sz.length row) ∧ a ≤ a3 + 80 * i ∧ Γ = [some (.at 0), some (.d (.int (n : Int))), some (.d (.int (placesN n : Nat))), u, some (.d (.tuple (sz.map fun s : Nat => .int (s : Int)))), some (.at 1), none] ∧ Θ = [feedO cells a left, .lst ((rows.map rowD).map .d)], rfl, ?_, ?_, ?_⟩⟩⟩))))
  · exact ⟨[], a3, left3, _, rfl, by simp, by omega, rfl, rfl⟩
  · rintro i x Γ' Θ' hx ⟨rows, a, left, u, hrl, hrb, ha, rfl, rfl⟩
    have hi : i < 1 + v3 := by
      have := (List.getElem?_eq_some_iff.mp hx).1
      rwa [List.length_range] at this
    refine ⟨_, _, gv_name, ?_⟩
    refine sg_appendG (k := 1) (es0 := (rows.map rowD).map .d) (ev_var rfl) rfl (eg_cb (ag_cons (eg_lcE (l := sz) (en := fun s : Nat => PyData.int (s : Int)) (iv_r (iv_tup (ev_var rfl))) (lt_sizeLine (by omega)) ?_ (fun j acc Θ' => ∃ (row : List (List Int)) (a' : Nat) (left' : Int), acc = row.map (fun l => .tuple (l.map .int)) ∧ row.length = j ∧ (∀ l ∈ row, l ≠ [] ∧ l.length ≤ 60 ∧ (∀ o ∈ l, o.natAbs < 2 ^ 90) ∧ (NT.nz l).length ≤ 2) ∧ a' ≤ a + 4 * j ∧ Θ' = [feedO cells a' left', .lst ((rows.map rowD).map .d)]) ?_ ?_ ?_)))
    · intro k hk
      simp only [List.mem_cons, List.not_mem_nil, or_false, List.set_cons_succ, List.set_cons_zero] at hk
      rcases hk with h | h | h | h | h | h | h
      · cases h
        exact ⟨_, rfl, by intro z; cases z⟩
      · cases h
      · cases h
      · cases h
      · cases h
      · cases h
        exact ⟨_, rfl, by intro z; cases z⟩
      · cases h
    · exact ⟨[], a, left, rfl, rfl, by simp, by omega, rfl⟩
    · rintro j s acc Θ' hs ⟨row, a', left', rfl, hrow, hlb, ha', rfl⟩
      have hj : j < sz.length := (List.getElem?_eq_some_iff.mp hs).1
      have hmin : (if ((placesN n : Nat) : Int) < 2 then ((placesN n : Nat) : Int) else 2) = ((min 2 (placesN n) : Nat) : Int) := by
        split <;> omega
      have hmax : (if ((placesN n : Nat) : Int) - 2 > 0 then ((placesN n : Nat) : Int) - 2 else 0) = ((placesN n - 2 : Nat) : Int) := by
        split <;> omega
      refine eg_op (eg_number (wide := min 2 (placesN n)) (k := 0) (av_cons (ev_var rfl) (av_cons (EV.is (ev_cb (av_cons ev_int (av_cons (ev_var rfl) av_nil)) cd_min) (by rw [hmin])) av_nil)) rfl (by omega) (by omega) hc fun l a4 left4 hl hb ha4 => ⟨_, rfl, EV.eg (ev_op (ev_tupX (av_cons ev_int av_nil) (by show 1 ≤ sizeLine; decide)) (EV.is (ev_cb (av_cons ev_int (av_cons (ev_op (ev_var rfl) ev_int rd_I0i) av_nil)) cd_max) (by rw [hmax])) (rd_r (rd_l (rd_repT (by omega) (by omega) (by decide))))) ⟨_, _, rfl, rd_r (rd_r (rd_l (rd_catT ?_))), _, rfl, ?_, row ++ [l ++ List.replicate (placesN n - 2) 0], a4, left4, ?_, by simp; omega, fun l' hl' => ?_, by omega, rfl⟩⟩)
      · have : ((List.replicate ((placesN n - 2 : Nat) : Int).toNat ([El.d (PyData.int 0)].map unD)).flatten).length = placesN n - 2 := by
          rw [Int.toNat_natCast]
          simp [List.length_flatten]
        rw [this, List.length_map]
        exact le_sizeLine (by omega)
      · intro k hk
        simp only [List.mem_cons, List.not_mem_nil, or_false, List.set_cons_succ, List.set_cons_zero] at hk
        rcases hk with h | h | h | h | h | h | h
        · cases h
          exact ⟨_, rfl, by intro z; cases z⟩
        · cases h
        · cases h
        · cases h
        · cases h
        · cases h
          exact ⟨_, rfl, by intro z; cases z⟩
        · cases h
      · have hrep : ∀ k, (List.replicate k [PyData.int 0]).flatten = (List.replicate k (0 : Int)).map .int := by
          intro k
          induction k with
          | zero => rfl
          | succ k ih => rw [List.replicate_succ, List.flatten_cons, ih]; rfl
        rw [Int.toNat_natCast]
        show _ ++ [PyData.tuple (l.map .int ++ (List.replicate (placesN n - 2) [PyData.int 0]).flatten)] = _
        rw [hrep, List.map_append]
        simp
      · rcases List.mem_append.mp hl' with m | m
        · exact hlb l' m
        · rw [List.mem_singleton.mp m]
          refine ⟨?_, ?_, ?_, ?_⟩
          · intro z
            have := congrArg List.length z
            rw [List.length_append, hl, List.length_nil] at this
            omega
          · rw [List.length_append, hl, List.length_replicate]
            omega
          · intro o ho
            rcases List.mem_append.mp ho with m | m
            · exact hb o m
            · rw [(List.mem_replicate.mp m).2]; decide
          · rw [nz_zeros]
            have := NT.nz_le l
            omega
    · rintro acc Θ' hal' ⟨row, a', left', rfl, hrow, hlb, ha', rfl⟩
      refine ⟨_, rfl, ag_nil ⟨_, cd_tupL, (rows.map rowD).map .d, rfl, lt_sizeLine (by simp; omega), rows ++ [row], a', left', _, by simp; omega, fun r hr => ?_, by omega, rfl, ?_⟩⟩
      · rcases List.mem_append.mp hr with m | m
        · exact hrb r m
        · rw [List.mem_singleton.mp m]
          exact ⟨hrow, hlb⟩
      · simp [rowD]
  · rintro Γ' Θ' ⟨rows, a, left, u, hrl, hrb, ha, rfl, rfl⟩
    rw [List.length_range] at hrl ha
    refine sg_retV (x := .d (tabD n sz rows)) (ev_tupY (ds := [.int n, .tuple (sz.map fun s : Nat => .int (s : Int)), .tuple (rows.map rowD)]) (av_cons (ev_var rfl) (av_cons (ev_var rfl) (av_cons (ev_cb (av_cons (ev_var rfl) av_nil) (cd_tupO (ds := rows.map rowD) rfl)) av_nil))) rfl (by show 3 ≤ sizeLine; decide)) ?_
    exact hR n sz rows a left _ ⟨⟨hn1, hn6⟩, ⟨hs1, hs17⟩, hsb, ⟨by omega, by omega⟩, hrb⟩ (by omega)
end
end T63

namespace T63
open PySem PySem.Spec PyProof.Rows L2 DL TX
local macro_rules | `(tactic| walk_at "rd") => `(tactic| first
  | exact rd_I0i | exact rd_I0b
  | exact rd_l rd_I0i | apply rd_Ii | (apply rd_l; apply rd_Ii)
  | exact rd_l rd_eqI | exact rd_l rd_neI | exact rd_l rd_eqS | exact rd_l rd_neS | exact rd_l rd_eqB
  | (apply rd_r; apply rd_eq) | (apply rd_r; apply rd_ne)
  | (apply rd_r; apply rd_l; apply rd_strs) | (apply rd_r; apply rd_r; apply rd_l; apply rd_catT)
  | (apply rd_r; apply rd_l; apply rd_ixT) | (apply rd_l; apply rd_ixL) | (apply rd_r; apply rd_r; apply rd_ixS) | (apply rd_l; apply rd_ixO (by rfl))
  | (apply rd_r; apply rd_l; apply rd_repT) | exact ev_in_sign)
local macro_rules | `(tactic| walk_at "cd") => `(tactic| first
  | exact cd_l cd_lenT | exact cd_l cd_lenL | exact cd_l (cd_lenO (by rfl)) | (apply cd_r; apply cd_lenS)
  | (apply cd_l; apply cd_strI) | (apply cd_r; apply cd_intS) | exact cd_l cd_intB | exact cd_abs | exact cd_min | exact cd_max
  | exact cd_all | exact cd_any | apply cd_repr | exact cd_tupL | exact cd_tupT | exact cd_tupO (by rfl))
local macro_rules | `(tactic| walk_at "ev") => `(tactic| repeat' (first
  | exact ev_int | exact ev_str | exact ev_bl | exact ev_non | exact ev_var (by rfl)
  | exact av_nil | with_reducible apply av_cons
  | with_reducible apply ev_op | walk_at "rd" | with_reducible apply ev_neg | with_reducible apply ev_isN | with_reducible apply ev_notN
  | with_reducible apply ev_cb | walk_at "cd"
  | with_reducible apply ev_callX | (show List.map El.d (List.map unD _) = _; rfl) | (show List.length (List.map unD _) = _; rfl) | (show List.length (List.cons _ _) ≤ sizeLine; exact le_sizeLine (by simp only [List.length_cons, List.length_nil]; omega))
  | with_reducible apply ev_tupX | with_reducible apply ev_lstX | with_reducible apply ev_tupY | with_reducible apply ev_lstY | (show _ = List.map El.d _; rfl) | with_reducible apply ev_slS | with_reducible apply ev_slT | exact ov_none | apply ov_some
  | with_reducible apply ev_partition
  | with_reducible apply tv_test | with_reducible apply tv_B | with_reducible apply tv_not))
section
variable {P : Program} {w : World} {K : PySem.W.Frag} {mg : Str → Option Value} {base : Heap}
abbrev s__law_told : Stmt := topS 44
theorem sc__law_told : FnScope ["_law_lines_here", "_law_found", "e"] ["_law_lines_here"] (defScope s__law_told) := ⟨rfl, rfl, rfl, by decide +kernel, rfl, by decide +kernel, by decide +kernel⟩
theorem c__law_told (D : At K mg "_law_told" s__law_told ["_law_lines_here"]) (m_isinstance : mg "isinstance" = none) (m_ValueError : mg "ValueError" = none) {C_TableError : Addr} (g_TableError : mg "TableError" = some (.ref C_TableError)) {C_NoLines : Addr} (g_NoLines : mg "NoLines" = some (.ref C_NoLines)) {C_TooMany : Addr} (g_TooMany : mg "TooMany" = some (.ref C_TooMany)) {C_NoText : Addr} (g_NoText : mg "NoText" = some (.ref C_NoText)) {C_NoTable : Addr} (g_NoTable : mg "NoTable" = some (.ref C_NoTable)) {C_NoShares : Addr} (g_NoShares : mg "NoShares" = some (.ref C_NoShares)) {C_NoRow : Addr} (g_NoRow : mg "NoRow" = some (.ref C_NoRow)) {C_NoPerm : Addr} (g_NoPerm : mg "NoPerm" = some (.ref C_NoPerm)) {C_NoPart : Addr} (g_NoPart : mg "NoPart" = some (.ref C_NoPart)) {C_NoOrder : Addr} (g_NoOrder : mg "NoOrder" = some (.ref C_NoOrder)) {C_NoName : Addr} (g_NoName : mg "NoName" = some (.ref C_NoName)) {C_NoGroup : Addr} (g_NoGroup : mg "NoGroup" = some (.ref C_NoGroup)) {C_NoAlike : Addr} (g_NoAlike : mg "NoAlike" = some (.ref C_NoAlike)) (E_NoLines : ExcC K C_NoLines) {f_NoLines : Addr} (T_NoLines : ExI K mg "NoLines" C_NoLines f_NoLines ["row"]) (x1 : PySem.W.exmOne K (.ref C_NoLines) (.ref C_TableError) = some true) (x2 : PySem.W.kitOne K (.ref C_NoLines) (.type "ValueError") = some true) (x3 : PySem.W.kitAny K (.ref C_NoLines) [.ref C_NoAlike, .ref C_NoGroup, .ref C_NoName, .ref C_NoOrder, .ref C_NoPart, .ref C_NoPerm] = some false) (x4 : PySem.W.kitAny K (.ref C_NoLines) [.ref C_NoRow, .ref C_NoShares, .ref C_NoTable, .ref C_NoText, .ref C_TooMany] = some false) (C_read_table : Cal P w K mg base (L2.CX P w) 5 "read_table" ["lines"] (spX K mg 1 pf_read_table)) : Cal P w K mg base CX0 6 "_law_told" ["_law_lines_here"] (spP K 1 pf__law_due) := by
  refine cal_mk0 D sc__law_told (fun vs H Q E h => spP_len h) fun f cdv A outer s H vs Q E hg hr h => ?_
  have hu := hu_of hr
  refine ⟨_, (pss_cons (ps_set (i := 1) sc__law_told.nd rfl (by first | exact Or.inl rfl | exact Or.inr rfl) pe_non)
      (pss_cons (ps_try_as (i := 2) rfl rfl sc__law_told.nd rfl rfl ⟨by rfl, by decide, .inl g_TableError⟩ takes0 (fun W pn xe tk pass => (pss_one (ps_set (i := 1) sc__law_told.nd rfl (by first | exact Or.inl rfl | exact Or.inr rfl) (pe_callCS C_read_table hg hr (passAt tk) (by rfl) (pa_cons (pv 0) pa_nil)))))
      (fun a oe cls d pn hz hf => pss_whenY (D := C_NoLines) (fun hz => (pss_cons (ps_set (i := 1) sc__law_told.nd rfl (by first | exact Or.inl rfl | exact Or.inr rfl) pe_str)
      (pss_cons (ps_if (PW.pt (pw_and (pt_val (pe_callB (call_isED E_NoLines hz hf) (by rfl) m_isinstance (by decide +kernel) (pa_cons (pv 2) (pa_cons (pe_glob (v := .ref C_NoLines) (by rfl) g_NoLines rfl) pa_nil)))) (pw_and1 (pt_val (pe_callB (call_isED E_NoLines hz hf) (by rfl) m_isinstance (by decide +kernel) (pa_cons (pv 2) (pa_cons (pe_bltn (v := .ty "ValueError") (by rfl) m_ValueError (by decide +kernel) rfl) pa_nil)))))))
      (pss_one (ps_set (i := 1) sc__law_told.nd rfl (by first | exact Or.inl rfl | exact Or.inr rfl) (pe_excF T_NoLines (by decide) hz hf (pv 2))))
      pss_nil)
      (pss_cons (ps_if (pt_val (pe_callB (call_isETD E_NoLines hz hf) (by rfl) m_isinstance (by decide +kernel) (pa_cons (pv 2) (pa_cons (pe_tup (pa_cons (pe_glob (v := .ref C_NoAlike) (by rfl) g_NoAlike rfl) (pa_cons (pe_glob (v := .ref C_NoGroup) (by rfl) g_NoGroup rfl) (pa_cons (pe_glob (v := .ref C_NoName) (by rfl) g_NoName rfl) (pa_cons (pe_glob (v := .ref C_NoOrder) (by rfl) g_NoOrder rfl) (pa_cons (pe_glob (v := .ref C_NoPart) (by rfl) g_NoPart rfl) (pa_cons (pe_glob (v := .ref C_NoPerm) (by rfl) g_NoPerm rfl) pa_nil))))))) pa_nil))))
      (pss_one (ps_set (i := 1) sc__law_told.nd rfl (by first | exact Or.inl rfl | exact Or.inr rfl) pe_str))
      pss_nil)
      (pss_one (ps_if (pt_val (pe_callB (call_isETD E_NoLines hz hf) (by rfl) m_isinstance (by decide +kernel) (pa_cons (pv 2) (pa_cons (pe_tup (pa_cons (pe_glob (v := .ref C_NoRow) (by rfl) g_NoRow rfl) (pa_cons (pe_glob (v := .ref C_NoShares) (by rfl) g_NoShares rfl) (pa_cons (pe_glob (v := .ref C_NoTable) (by rfl) g_NoTable rfl) (pa_cons (pe_glob (v := .ref C_NoText) (by rfl) g_NoText rfl) (pa_cons (pe_glob (v := .ref C_TooMany) (by rfl) g_TooMany rfl) pa_nil)))))) pa_nil))))
      (pss_one (ps_set (i := 1) sc__law_told.nd rfl (by first | exact Or.inl rfl | exact Or.inr rfl) pe_str))
      pss_nil)))))) hz))
      (pss_one (ps_ret (pv 1))))), body_pure h fun ds r hn hp => ?_⟩
  obtain ⟨ls, rfl, hls, hok, rfl⟩ := hp
  refine sg_seq (sg_asg (x := .d .none) ev_non ?_)
  refine sg_seq (sg_mid (fun Γ Θ => Γ[1]? = some (some (.d (outD (tableO ls))))) ?_ ?_)
  · refine sg_tryAs (tb := fun W => tAsg (tCallS (spX K mg 1 pf_read_table) (WE W) (tCons (tVar 0) tNil)) (gName 1)) fun W => ?_
    obtain ⟨o, ho, hcase⟩ : ∃ o, pf_read_table [linesD ls] o ∧ ((∃ k, tableO ls = .inl k ∧ o = .exc "NoLines" (some [("row", .int k)])) ∨ ∃ n sz rows, tableO ls = .inr (n, sz, rows) ∧ o = .ret (tabD n sz rows)) := by
      cases q : tableO ls with
      | inl k =>
        refine ⟨.exc "NoLines" (some [("row", .int (k : Int))]), ⟨ls, rfl, hls, hok, ?_, ?_⟩, .inl ⟨k, rfl, rfl⟩⟩
        · intro k' h
          rw [q] at h
          cases h
          rfl
        · intro n sz rows h
          rw [q] at h
          cases h
      | inr p =>
        obtain ⟨n, sz, rows⟩ := p
        refine ⟨.ret (tabD n sz rows), ⟨ls, rfl, hls, hok, ?_, ?_⟩, .inr ⟨n, sz, rows, rfl, rfl⟩⟩
        · intro k' h
          rw [q] at h
          cases h
        · intro n sz rows h
          rw [q] at h
          cases h
          rfl
    refine sg_asgX (ex_call (ds := [linesD ls]) (o := o) (av_cons (ev_var rfl) av_nil) ho rfl (fun r hr => ?_) (fun z fs hz C hC => ?_))
    · rcases hcase with ⟨k, _, h2⟩ | ⟨n, sz, rows, h1, h2⟩
      · rw [h2] at hr; cases hr
      · rw [h2] at hr
        cases hr
        rw [h1]
        rfl
    · rcases hcase with ⟨k, h1, h2⟩ | ⟨n, sz, rows, h1, h2⟩
      · rw [h2] at hz
        cases hz
        have : C = C_NoLines := by
          have := hC.symm.trans T_NoLines.gC
          cases this
          rfl
        subst this
        refine ⟨x1, fun a d hd => sg_when rfl ?_⟩
        refine sg_seq (sg_asg (x := .d (.str (Str.ofString "other"))) ev_str ?_)
        refine sg_seq ?_
        apply sg_if (b := true)
        · refine TV.is (tv_and (tv_test (ev_isED (b := true) (fs := [("row", .int (k : Int))]) rfl ev_raw (fun u h => h) (by unfold PySem.W.kitOne; rw [if_pos (beq_self_eq_true _)]))) fun _ => tv_test (ev_isED (fs := [("row", .int (k : Int))]) rfl ev_raw (fun u h => h) x2)) rfl
        · intro _
          refine sg_asg (x := .d (.int (k : Int))) (ev_excF (fs := [("row", .int (k : Int))]) rfl rfl) ?_
          refine sg_seq ?_
          apply sg_if (b := false)
          · exact tv_test (ev_isETD (fs := [("row", .int (k : Int))]) (cs := [.ref C_NoAlike, .ref C_NoGroup, .ref C_NoName, .ref C_NoOrder, .ref C_NoPart, .ref C_NoPerm]) rfl (av_cons ev_raw (av_cons ev_raw (av_cons ev_raw (av_cons ev_raw (av_cons ev_raw (av_cons ev_raw (av_nil))))))) (by show 6 ≤ 100; decide) (.cons (.own _) (.cons (.own _) (.cons (.own _) (.cons (.own _) (.cons (.own _) (.cons (.own _) (.nil))))))) x3)
          · intro h; cases h
          · intro _
            refine sg_next ?_
            apply sg_if (b := false)
            · exact tv_test (ev_isETD (fs := [("row", .int (k : Int))]) (cs := [.ref C_NoRow, .ref C_NoShares, .ref C_NoTable, .ref C_NoText, .ref C_TooMany]) rfl (av_cons ev_raw (av_cons ev_raw (av_cons ev_raw (av_cons ev_raw (av_cons ev_raw (av_nil)))))) (by show 5 ≤ 100; decide) (.cons (.own _) (.cons (.own _) (.cons (.own _) (.cons (.own _) (.cons (.own _) (.nil)))))) x4)
            · intro h; cases h
            · intro _
              refine sg_next ?_
              rw [h1]
              rfl
        · intro h; cases h
      · rw [h2] at hz; cases hz
  · intro Γ Θ hΓ
    exact sg_retV (ev_var hΓ) rfl
end
end T63

namespace T63
open PySem PySem.Spec PyProof.Rows L2 DL TX
local macro_rules | `(tactic| walk_at "rd") => `(tactic| first
  | exact rd_I0i | exact rd_I0b
  | exact rd_l rd_I0i | apply rd_Ii | (apply rd_l; apply rd_Ii)
  | exact rd_l rd_eqI | exact rd_l rd_neI | exact rd_l rd_eqS | exact rd_l rd_neS | exact rd_l rd_eqB
  | (apply rd_r; apply rd_eq) | (apply rd_r; apply rd_ne)
  | (apply rd_r; apply rd_l; apply rd_strs) | (apply rd_r; apply rd_r; apply rd_l; apply rd_catT)
  | (apply rd_r; apply rd_l; apply rd_ixT) | (apply rd_l; apply rd_ixL) | (apply rd_r; apply rd_r; apply rd_ixS) | (apply rd_l; apply rd_ixO (by rfl))
  | (apply rd_r; apply rd_l; apply rd_repT) | exact ev_in_sign)
local macro_rules | `(tactic| walk_at "cd") => `(tactic| first
  | exact cd_l cd_lenT | exact cd_l cd_lenL | exact cd_l (cd_lenO (by rfl)) | (apply cd_r; apply cd_lenS)
  | (apply cd_l; apply cd_strI) | (apply cd_r; apply cd_intS) | exact cd_l cd_intB | exact cd_abs | exact cd_min | exact cd_max
  | exact cd_all | exact cd_any | apply cd_repr | exact cd_tupL | exact cd_tupT | exact cd_tupO (by rfl))
local macro_rules | `(tactic| walk_at "ev") => `(tactic| repeat' (first
  | exact ev_int | exact ev_str | exact ev_bl | exact ev_non | exact ev_var (by rfl)
  | exact av_nil | with_reducible apply av_cons
  | with_reducible apply ev_op | walk_at "rd" | with_reducible apply ev_neg | with_reducible apply ev_isN | with_reducible apply ev_notN
  | with_reducible apply ev_cb | walk_at "cd"
  | with_reducible apply ev_callX | (show List.map El.d (List.map unD _) = _; rfl) | (show List.length (List.map unD _) = _; rfl) | (show List.length (List.cons _ _) ≤ sizeLine; exact le_sizeLine (by simp only [List.length_cons, List.length_nil]; omega))
  | with_reducible apply ev_tupX | with_reducible apply ev_lstX | with_reducible apply ev_tupY | with_reducible apply ev_lstY | (show _ = List.map El.d _; rfl) | with_reducible apply ev_slS | with_reducible apply ev_slT | exact ov_none | apply ov_some
  | with_reducible apply ev_partition
  | with_reducible apply tv_test | with_reducible apply tv_B | with_reducible apply tv_not))
section
variable {P : Program} {w : World} {K : PySem.W.Frag} {mg : Str → Option Value} {base : Heap}
abbrev s__law_bent : Stmt := topS 45
theorem sc__law_bent : FnScope ["_law_feed_here", "_law_lines_here", "_law_at", "_law_words", "_law_spot", "_law_some", "_law_word", "_law_way"] ["_law_feed_here", "_law_lines_here"] (defScope s__law_bent) := ⟨rfl, rfl, rfl, by decide +kernel, rfl, by decide +kernel, by decide +kernel⟩
theorem c__law_bent (D : At K mg "_law_bent" s__law_bent ["_law_feed_here", "_law_lines_here"]) (m_len : mg "len" = none) (m_int : mg "int" = none) (C__law_draw : Cal P w K mg base CX0 1 "_law_draw" ["_law_feed_here", "_law_many"] (spM K 2 fs_draw)) : Cal P w K mg base CX0 2 "_law_bent" ["_law_feed_here", "_law_lines_here"] (spM K 2 fs_bentL) := by
  refine cal_mk0 D sc__law_bent (fun vs H Q E h => spM_len h) fun f cdv A outer s H vs Q E hg hr h => ?_
  have hu := hu_of hr
  refine ⟨_, (pss_cons (ps_set (i := 2) sc__law_bent.nd rfl (by first | exact Or.inl rfl | exact Or.inr rfl) (pe_ix (kx_ix (K := K) rfl) (pe_lst (pa_cons pe_int (pa_cons (pe_callC C__law_draw hg hr pass0 (by rfl) (pa_cons (pv 0) (pa_cons (pe_callB (kx_len (K := K) rfl) (by rfl) m_len (by decide +kernel) (pa_cons (pv 1) pa_nil)) pa_nil))) pa_nil))) (pe_callTy cx_int (by rfl) m_int (by decide +kernel) (pa_cons (pe_cmpR op_gt (pe_callC C__law_draw hg hr pass0 (by rfl) (pa_cons (pv 0) (pa_cons pe_int pa_nil))) pe_int (nomark _)) pa_nil)) (fun _ _ => rfl)))
      (pss_cons (ps_set (i := 3) sc__law_bent.nd rfl (by first | exact Or.inl rfl | exact Or.inr rfl) (pe_split (pe_ix (kx_ix (K := K) rfl) (pv 1) (pv 2) (fun _ _ => rfl)) pe_str))
      (pss_cons (ps_set (i := 4) sc__law_bent.nd rfl (by first | exact Or.inl rfl | exact Or.inr rfl) (pe_callC C__law_draw hg hr pass0 (by rfl) (pa_cons (pv 0) (pa_cons (pe_callB (kx_len (K := K) rfl) (by rfl) m_len (by decide +kernel) (pa_cons (pv 3) pa_nil)) pa_nil))))
      (pss_cons (ps_set (i := 5) sc__law_bent.nd rfl (by first | exact Or.inl rfl | exact Or.inr rfl) (pe_lst (pa_cons pe_str (pa_cons pe_str (pa_cons pe_str (pa_cons pe_str (pa_cons pe_str (pa_cons pe_str (pa_cons pe_str (pa_cons pe_str (pa_cons pe_str (pa_cons pe_str (pa_cons pe_str (pa_cons pe_str (pa_cons pe_str (pa_cons pe_str (pa_cons pe_str (pa_cons pe_str (pa_cons pe_str (pa_cons pe_str pa_nil))))))))))))))))))))
      (pss_cons (ps_set (i := 6) sc__law_bent.nd rfl (by first | exact Or.inl rfl | exact Or.inr rfl) (pe_ix (kx_ix (K := K) rfl) (pv 5) (pe_callC C__law_draw hg hr pass0 (by rfl) (pa_cons (pv 0) (pa_cons (pe_callB (kx_len (K := K) rfl) (by rfl) m_len (by decide +kernel) (pa_cons (pv 5) pa_nil)) pa_nil))) (fun _ _ => rfl)))
      (pss_cons (ps_set (i := 7) sc__law_bent.nd rfl (by first | exact Or.inl rfl | exact Or.inr rfl) (pe_callC C__law_draw hg hr pass0 (by rfl) (pa_cons (pv 0) (pa_cons pe_int pa_nil))))
      (pss_cons (ps_if (pt_cmpR op_lt (pv 7) pe_int (nomark _))
      (pss_one (ps_set (i := 3) sc__law_bent.nd rfl (by first | exact Or.inl rfl | exact Or.inr rfl) (pe_op (kx_add (K := K) rfl) (pe_op (kx_add (K := K) rfl) (pe_slice (kx_sl (K := K) rfl) (pv 3) po_none (po_some (pv 4))) (pe_lst (pa_cons (pv 6) pa_nil))) (pe_slice (kx_sl (K := K) rfl) (pv 3) (po_some (pe_op op_sub (pe_op (kx_add (K := K) rfl) (pv 4) pe_int) (pv 7))) po_none))))
      pss_nil)
      (pss_cons (ps_if (pt_cmpR (kx_eq (K := K) rfl hr.units) (pv 7) pe_int (nomark _))
      (pss_one (ps_set (i := 3) sc__law_bent.nd rfl (by first | exact Or.inl rfl | exact Or.inr rfl) (pe_op (kx_add (K := K) rfl) (pe_slice (kx_sl (K := K) rfl) (pv 3) po_none (po_some (pv 4))) (pe_slice (kx_sl (K := K) rfl) (pv 3) (po_some (pe_op (kx_add (K := K) rfl) (pv 4) pe_int)) po_none))))
      pss_nil)
      (pss_cons (ps_if (pt_cmpR (kx_eq (K := K) rfl hr.units) (pv 7) pe_int (nomark _))
      (pss_one (ps_set (i := 3) sc__law_bent.nd rfl (by first | exact Or.inl rfl | exact Or.inr rfl) (pe_op (kx_add (K := K) rfl) (pe_slice (kx_sl (K := K) rfl) (pv 3) po_none (po_some (pe_op (kx_add (K := K) rfl) (pv 4) pe_int))) (pe_slice (kx_sl (K := K) rfl) (pv 3) (po_some (pv 4)) po_none))))
      pss_nil)
      (pss_cons (ps_if (pt_cmpR op_lt (pv 7) pe_int (nomark _))
      (pss_one (ps_ret (pe_op (kx_add (K := K) rfl) (pe_op (kx_add (K := K) rfl) (pe_slice (kx_sl (K := K) rfl) (pv 1) po_none (po_some (pv 2))) (pe_lst (pa_cons (kx_join (K := K) rfl pe_str (pv 3)) pa_nil))) (pe_slice (kx_sl (K := K) rfl) (pv 1) (po_some (pe_op (kx_add (K := K) rfl) (pv 2) pe_int)) po_none))))
      pss_nil)
      (pss_cons (ps_if (pt_cmpR (kx_eq (K := K) rfl hr.units) (pv 7) pe_int (nomark _))
      (pss_one (ps_ret (pe_op (kx_add (K := K) rfl) (pe_slice (kx_sl (K := K) rfl) (pv 1) po_none (po_some (pv 2))) (pe_slice (kx_sl (K := K) rfl) (pv 1) (po_some (pe_op (kx_add (K := K) rfl) (pv 2) pe_int)) po_none))))
      pss_nil)
      (pss_cons (ps_if (pt_cmpR (kx_eq (K := K) rfl hr.units) (pv 7) pe_int (nomark _))
      (pss_one (ps_ret (pe_op (kx_add (K := K) rfl) (pe_op (kx_add (K := K) rfl) (pe_slice (kx_sl (K := K) rfl) (pv 1) po_none (po_some (pv 2))) (pe_lst (pa_cons (pe_ix (kx_ix (K := K) rfl) (pv 1) (pv 2) (fun _ _ => rfl)) pa_nil))) (pe_slice (kx_sl (K := K) rfl) (pv 1) (po_some (pv 2)) po_none))))
      pss_nil)
      (pss_cons (ps_if (pt_cmpR (kx_eq (K := K) rfl hr.units) (pv 7) pe_int (nomark _))
      (pss_one (ps_ret (pe_slice (kx_sl (K := K) rfl) (pv 1) po_none (po_some (pv 2)))))
      pss_nil)
      (pss_cons (ps_if (pt_cmpR (kx_eq (K := K) rfl hr.units) (pv 7) pe_int (nomark _))
      (pss_one (ps_ret (pe_op (kx_add (K := K) rfl) (pe_op (kx_add (K := K) rfl) (pe_slice (kx_sl (K := K) rfl) (pv 1) po_none (po_some (pv 2))) (pe_lst (pa_cons pe_str pa_nil))) (pe_slice (kx_sl (K := K) rfl) (pv 1) (po_some (pv 2)) po_none))))
      pss_nil)
      (pss_one (ps_ret (pe_op (kx_add (K := K) rfl) (pe_slice (kx_sl (K := K) rfl) (pv 1) (po_some (pv 2)) po_none) (pe_slice (kx_sl (K := K) rfl) (pv 1) po_none (po_some (pv 2)))))))))))))))))))), body_M h fun es Θ R hn hp => ?_⟩
  obtain ⟨ls, cells, a0, left0, rfl, rfl, hne, h8, hls, ha0, hc, hR⟩ := hp
  have hlp : 1 ≤ ls.length := List.length_pos_iff.mpr hne
  refine sg_seq (sg_mid (fun Γ Θ => ∃ (p : Nat) (a : Nat) (left : Int), p < ls.length ∧ a ≤ a0 + 2 ∧ Γ = [some (.at 0), some (.d (linesD ls)), some (.d (.int (p : Int))), none, none, none, none, none] ∧ Θ = [feedO cells a left]) ?_ ?_)
  · refine sg_asgG (eg_op (eg_lst (ag_cons (EV.eg ev_int ⟨_, rfl, ag_cons (eg_draw (m := ls.length) (k := 0) (av_cons (ev_var rfl) (av_cons (EV.is (ev_cb (av_cons (ev_var rfl) av_nil) (cd_l cd_lenL)) (by rw [List.length_map])) av_nil)) rfl hlp (by omega) (by omega) hc fun v a1 left1 hv ha1 => ⟨_, rfl, ag_nil ⟨by show 2 ≤ sizeLine; decide, _, rfl, eg_cb (ag_cons (eg_op (eg_draw (m := 3) (k := 0) (av_cons (ev_var rfl) (av_cons ev_int av_nil)) rfl (by decide) (by decide) (by omega) hc fun v2 a2 left2 hv2 ha2 => ⟨_, rfl, EV.eg ev_int ⟨_, _, rfl, rd_I0b, _, rfl, ag_nil ⟨_, cd_l cd_intB, ?_⟩⟩⟩)))⟩⟩)⟩))))
    obtain ⟨m, hm, hml⟩ : ∃ m : Nat, atI [PyData.int 0, .int (v : Int)] (if decide ((0 : Int) < v2) = true then 1 else 0) = some (.int (m : Int)) ∧ m < ls.length := by
      split
      · exact ⟨v, rfl, hv⟩
      · exact ⟨0, rfl, hlp⟩
    exact ⟨_, _, rfl, rd_l (rd_ixL hm), m, a2, left2, hml, by omega, rfl, rfl⟩
  rintro Γ Θ ⟨p, a1, left1, hpl, ha1, rfl, rfl⟩
  obtain ⟨t, ht⟩ : ∃ t, ls[p]? = some t := ⟨_, List.getElem?_eq_getElem hpl⟩
  have htm : t ∈ ls := List.mem_of_getElem? ht
  obtain ⟨hwn, hw20, _, hwk⟩ := (hls t htm).words
  have hwk : ∀ w ∈ wordsL t, WOk w := hwk
  have htl := (hls t htm).ok.1
  have hix : atI (ls.map wD) (p : Int) = some (.str (S t)) := ix_at (by rw [List.getElem?_map, ht]; rfl)
  have evL : ∀ {Γ : Gm} {Θ : Th}, Γ[1]? = some (some (.d (linesD ls))) → EV K (tVar 1) Γ Θ (.d (.list (ls.map wD))) := fun h => ev_var h
  generalize hW : wordsL t = ws at hwn hw20 hwk
  refine sg_seq (sg_asg (x := .d (.list (ws.map wD))) ?_ ?_)
  · apply EN.ev
    refine (en_split (a := S t) (b := Str.ofString " ") (ev_op (evL rfl) (ev_var rfl) (rd_l (rd_ixL hix))) ev_str (by decide) (by rw [S_len]; exact le_sizeLine (by omega))).is ?_
    rw [split_words, hW]
    simp only [List.map_map]
    rfl
  have hwp : 1 ≤ ws.length := List.length_pos_iff.mpr hwn
  refine sg_seq (sg_asgG (eg_draw (m := ws.length) (k := 0) (av_cons (ev_var rfl) (av_cons (EV.is (ev_cb (av_cons (ev_var rfl) av_nil) (cd_l cd_lenL)) (by rw [List.length_map])) av_nil)) rfl hwp (by omega) (by omega) hc fun spot a2 left2 hspot ha2 => ?_))
  refine sg_seq (sg_asg (x := .d (.list (oddW.map .str))) (EN.ev ((en_lst (av_cons ev_str (av_cons ev_str (av_cons ev_str (av_cons ev_str (av_cons ev_str (av_cons ev_str (av_cons ev_str (av_cons ev_str (av_cons ev_str (av_cons ev_str (av_cons ev_str (av_cons ev_str (av_cons ev_str (av_cons ev_str (av_cons ev_str (av_cons ev_str (av_cons ev_str (av_cons ev_str (av_nil))))))))))))))))))) (by show 18 ≤ sizeLine; decide)).is rfl)) ?_)
  refine sg_seq (sg_mid (fun Γ Θ => ∃ (w : List Nat) (a : Nat) (left : Int), WOk w ∧ a ≤ a0 + 4 ∧ Γ = [some (.at 0), some (.d (linesD ls)), some (.d (.int (p : Int))), some (.d (.list (ws.map wD))), some (.d (.int (spot : Int))), some (.d (.list (oddW.map .str))), some (.d (wD w)), none] ∧ Θ = [feedO cells a left]) ?_ ?_)
  · refine sg_asgG (eg_op (EV.eg (ev_var (x := .d (.list (oddW.map .str))) rfl) ⟨_, rfl, eg_draw (m := 18) (k := 0) (av_cons (ev_var rfl) (av_cons (EV.is (ev_cb (av_cons (ev_var (x := .d (.list (oddW.map .str))) rfl) av_nil) (cd_l cd_lenL)) rfl) av_nil)) rfl (by decide) (by decide) (by omega) hc fun v a3 left3 hv ha3 => ?_⟩))
    obtain ⟨s, hs⟩ : ∃ s, oddW[v]? = some s := ⟨_, List.getElem?_eq_getElem (show v < oddW.length from hv)⟩
    exact ⟨_, _, rfl, rd_l (rd_ixL (d := .str s) (ix_at (by rw [List.getElem?_map, hs]; rfl))), TL.tl s, a3, left3, oddW_ok s (List.mem_of_getElem? hs), by omega, by rw [wD, S_tl]; rfl, rfl⟩
  rintro Γ Θ ⟨w, a3, left3, hwok, ha3, rfl, rfl⟩
  refine sg_seq (sg_asgG (eg_draw (m := 9) (k := 0) (av_cons (ev_var rfl) (av_cons ev_int av_nil)) rfl (by decide) (by decide) (by omega) hc fun way a4 left4 hway ha4 => ?_))
  have step : ∀ {u : List (List Nat)} {j : Nat}, (∀ x ∈ u, WOk x) → ∀ x ∈ u.take j, WOk x := fun h x m => h x (List.mem_of_mem_take m)
  have stepD : ∀ {u : List (List Nat)} {j : Nat}, (∀ x ∈ u, WOk x) → ∀ x ∈ u.drop j, WOk x := fun h x m => h x (List.mem_of_mem_drop m)
  have app : ∀ {u v : List (List Nat)}, (∀ x ∈ u, WOk x) → (∀ x ∈ v, WOk x) → ∀ x ∈ u ++ v, WOk x := fun h1 h2 x m => (List.mem_append.mp m).elim (h1 x) (h2 x)
  refine sg_seq (sg_mid (fun Γ Θ => ∃ v : List (List Nat), v.length ≤ 21 ∧ (∀ x ∈ v, WOk x) ∧ Γ = [some (.at 0), some (.d (linesD ls)), some (.d (.int (p : Int))), some (.d (.list (v.map wD))), some (.d (.int (spot : Int))), some (.d (.list (oddW.map .str))), some (.d (wD w)), some (.d (.int (way : Int)))] ∧ Θ = [feedO cells a4 left4]) ?_ ?_)
  · apply sg_if (tv_test (ev_op (ev_var rfl) ev_int rd_I0b))
    · intro h
      have h := of_decide_eq_true h
      refine sg_asg (x := .d (.list ((ws.take spot ++ [w] ++ ws.drop (spot + 1 - way)).map wD))) (EN.ev (en_catW (en_catW (en_takeW (ev_var rfl) (ev_var rfl)) (en_oneW (ev_var rfl)) ?_) (en_dropW (ev_var rfl) (EV.is (ev_op (ev_op (ev_var rfl) ev_int (rd_l rd_I0i)) (ev_var rfl) rd_I0i) ?_)) ?_)) ⟨_, ?_, ?_, rfl, rfl⟩
      · simp only [List.length_take, List.length_cons, List.length_nil]; omega
      · congr 2; omega
      · simp only [List.length_append, List.length_take, List.length_drop, List.length_cons, List.length_nil]; omega
      · simp only [List.length_append, List.length_take, List.length_drop, List.length_cons, List.length_nil]; omega
      · exact app (app (step hwk) fun x m => by rw [List.mem_singleton.mp m]; exact hwok) (stepD hwk)
    · intro _
      exact sg_next ⟨ws, by omega, hwk, rfl, rfl⟩
  rintro Γ Θ ⟨v, hv21, hvk, rfl, rfl⟩
  refine sg_seq (sg_mid (fun Γ Θ => ∃ v : List (List Nat), v.length ≤ 21 ∧ (∀ x ∈ v, WOk x) ∧ Γ = [some (.at 0), some (.d (linesD ls)), some (.d (.int (p : Int))), some (.d (.list (v.map wD))), some (.d (.int (spot : Int))), some (.d (.list (oddW.map .str))), some (.d (wD w)), some (.d (.int (way : Int)))] ∧ Θ = [feedO cells a4 left4]) ?_ ?_)
  · apply sg_if (tv_test (ev_op (ev_var rfl) ev_int (rd_l rd_eqI)))
    · intro h
      refine sg_asg (x := .d (.list ((v.take spot ++ v.drop (spot + 1)).map wD))) (EN.ev (en_catW (en_takeW (ev_var rfl) (ev_var rfl)) (en_dropW (ev_var rfl) (EV.is (ev_op (ev_var rfl) ev_int (rd_l rd_I0i)) (by push_cast; rfl))) ?_)) ⟨_, ?_, ?_, rfl, rfl⟩
      · simp only [List.length_append, List.length_take, List.length_drop]; omega
      · simp only [List.length_append, List.length_take, List.length_drop]; omega
      · exact app (step hvk) (stepD hvk)
    · intro _
      exact sg_next ⟨v, hv21, hvk, rfl, rfl⟩
  clear hv21 hvk v
  rintro Γ Θ ⟨v, hv21, hvk, rfl, rfl⟩
  refine sg_seq (sg_mid (fun Γ Θ => ∃ v : List (List Nat), v.length ≤ 22 ∧ (∀ x ∈ v, WOk x) ∧ Γ = [some (.at 0), some (.d (linesD ls)), some (.d (.int (p : Int))), some (.d (.list (v.map wD))), some (.d (.int (spot : Int))), some (.d (.list (oddW.map .str))), some (.d (wD w)), some (.d (.int (way : Int)))] ∧ Θ = [feedO cells a4 left4]) ?_ ?_)
  · apply sg_if (tv_test (ev_op (ev_var rfl) ev_int (rd_l rd_eqI)))
    · intro h
      refine sg_asg (x := .d (.list ((v.take (spot + 1) ++ v.drop spot).map wD))) (EN.ev (en_catW (en_takeW (ev_var rfl) (EV.is (ev_op (ev_var rfl) ev_int (rd_l rd_I0i)) (by push_cast; rfl))) (en_dropW (ev_var rfl) (ev_var rfl)) ?_)) ⟨_, ?_, ?_, rfl, rfl⟩
      · simp only [List.length_append, List.length_take, List.length_drop]; omega
      · simp only [List.length_append, List.length_take, List.length_drop]; omega
      · exact app (step hvk) (stepD hvk)
    · intro _
      exact sg_next ⟨v, by omega, hvk, rfl, rfl⟩
  clear hv21 hvk v
  rintro Γ Θ ⟨v, hv22, hvk, rfl, rfl⟩
  have lk : ∀ x ∈ ls, LineOk x := fun x m => (hls x m).ok
  have ltk : ∀ j, ∀ x ∈ ls.take j, LineOk x := fun j x m => lk x (List.mem_of_mem_take m)
  have ldk : ∀ j, ∀ x ∈ ls.drop j, LineOk x := fun j x m => lk x (List.mem_of_mem_drop m)
  have lap : ∀ {u v : List (List Nat)}, (∀ x ∈ u, LineOk x) → (∀ x ∈ v, LineOk x) → ∀ x ∈ u ++ v, LineOk x := fun h1 h2 x m => (List.mem_append.mp m).elim (h1 x) (h2 x)
  have l1k : ∀ {u : List Nat}, LineOk u → ∀ x ∈ [u], LineOk x := fun h x m => by rw [List.mem_singleton.mp m]; exact h
  have fin : ∀ u : List (List Nat), u.length ≤ 20 → (∀ x ∈ u, LineOk x) → R (.d (linesD u)) [feedO cells a4 left4] := fun u h1 h2 => hR u a4 left4 h1 h2 (by omega)
  have evP1 : ∀ {Γ : Gm} {Θ : Th}, Γ[2]? = some (some (.d (.int (p : Int)))) → EV K (tOp (rAddX K) (tVar 2) (tC (V.int 1))) Γ Θ (.d (.int ((p + 1 : Nat) : Int))) := fun h => EV.is (ev_op (ev_var h) ev_int (rd_l rd_I0i)) (by push_cast; rfl)
  have hvB : WordsB v := ⟨by omega, hvk⟩
  refine sg_seq ?_
  apply sg_if (tv_test (ev_op (ev_var rfl) ev_int rd_I0b))
  · intro _
    refine sg_retV (x := .d (linesD (ls.take p ++ [TL.joinL [32] v] ++ ls.drop (p + 1)))) (EN.ev (en_catW (en_catW (en_takeW (evL rfl) (ev_var rfl)) (en_oneW (ev_joinW (ev_var rfl) hvB)) ?_) (en_dropW (evL rfl) (evP1 rfl)) ?_)) (fin _ ?_ (lap (lap (ltk p) (l1k (join_ok hvB))) (ldk _)))
    · simp only [List.length_take, List.length_cons, List.length_nil]; omega
    · simp only [List.length_append, List.length_take, List.length_drop, List.length_cons, List.length_nil]; omega
    · simp only [List.length_append, List.length_take, List.length_drop, List.length_cons, List.length_nil]; omega
  intro _
  refine sg_next (sg_seq ?_)
  apply sg_if (tv_test (ev_op (ev_var rfl) ev_int (rd_l rd_eqI)))
  · intro _
    refine sg_retV (x := .d (linesD (ls.take p ++ ls.drop (p + 1)))) (EN.ev (en_catW (en_takeW (evL rfl) (ev_var rfl)) (en_dropW (evL rfl) (evP1 rfl)) ?_)) (fin _ ?_ (lap (ltk p) (ldk _)))
    · simp only [List.length_append, List.length_take, List.length_drop]; omega
    · simp only [List.length_append, List.length_take, List.length_drop]; omega
  intro _
  refine sg_next (sg_seq ?_)
  apply sg_if (tv_test (ev_op (ev_var rfl) ev_int (rd_l rd_eqI)))
  · intro _
    refine sg_retV (x := .d (linesD (ls.take p ++ [t] ++ ls.drop p))) (EN.ev (en_catW (en_catW (en_takeW (evL rfl) (ev_var rfl)) (en_oneW (ev_op (evL rfl) (ev_var rfl) (rd_l (rd_ixL hix)))) ?_) (en_dropW (evL rfl) (ev_var rfl)) ?_)) (fin _ ?_ (lap (lap (ltk p) (l1k (lk t htm))) (ldk _)))
    · simp only [List.length_take, List.length_cons, List.length_nil]; omega
    · simp only [List.length_append, List.length_take, List.length_drop, List.length_cons, List.length_nil]; omega
    · simp only [List.length_append, List.length_take, List.length_drop, List.length_cons, List.length_nil]; omega
  intro _
  refine sg_next (sg_seq ?_)
  apply sg_if (tv_test (ev_op (ev_var rfl) ev_int (rd_l rd_eqI)))
  · intro _
    refine sg_retV (x := .d (linesD (ls.take p))) (EN.ev (en_takeW (evL rfl) (ev_var rfl))) (fin _ ?_ (ltk p))
    simp only [List.length_take]; omega
  intro _
  refine sg_next (sg_seq ?_)
  apply sg_if (tv_test (ev_op (ev_var rfl) ev_int (rd_l rd_eqI)))
  · intro _
    refine sg_retV (x := .d (linesD (ls.take p ++ [[]] ++ ls.drop p))) (EN.ev (en_catW (en_catW (en_takeW (evL rfl) (ev_var rfl)) (en_oneW (x := []) ev_str) ?_) (en_dropW (evL rfl) (ev_var rfl)) ?_)) (fin _ ?_ (lap (lap (ltk p) (l1k line_nil)) (ldk _)))
    · simp only [List.length_take, List.length_cons, List.length_nil]; omega
    · simp only [List.length_append, List.length_take, List.length_drop, List.length_cons, List.length_nil]; omega
    · simp only [List.length_append, List.length_take, List.length_drop, List.length_cons, List.length_nil]; omega
  intro _
  refine sg_next ?_
  refine sg_retV (x := .d (linesD (ls.drop p ++ ls.take p))) (EN.ev (en_catW (en_dropW (evL rfl) (ev_var rfl)) (en_takeW (evL rfl) (ev_var rfl)) ?_)) (fin _ ?_ (lap (ldk p) (ltk p)))
  · simp only [List.length_append, List.length_take, List.length_drop]; omega
  · simp only [List.length_append, List.length_take, List.length_drop]; omega
end
end T63

namespace T63
open PySem PySem.Spec PyProof.Rows L2 DL TX
local macro_rules | `(tactic| walk_at "rd") => `(tactic| first
  | exact rd_I0i | exact rd_I0b
  | exact rd_l rd_I0i | apply rd_Ii | (apply rd_l; apply rd_Ii)
  | exact rd_l rd_eqI | exact rd_l rd_neI | exact rd_l rd_eqS | exact rd_l rd_neS | exact rd_l rd_eqB
  | (apply rd_r; apply rd_eq) | (apply rd_r; apply rd_ne)
  | (apply rd_r; apply rd_l; apply rd_strs) | (apply rd_r; apply rd_r; apply rd_l; apply rd_catT)
  | (apply rd_r; apply rd_l; apply rd_ixT) | (apply rd_l; apply rd_ixL) | (apply rd_r; apply rd_r; apply rd_ixS) | (apply rd_l; apply rd_ixO (by rfl))
  | (apply rd_r; apply rd_l; apply rd_repT) | exact ev_in_sign)
local macro_rules | `(tactic| walk_at "cd") => `(tactic| first
  | exact cd_l cd_lenT | exact cd_l cd_lenL | exact cd_l (cd_lenO (by rfl)) | (apply cd_r; apply cd_lenS)
  | (apply cd_l; apply cd_strI) | (apply cd_r; apply cd_intS) | exact cd_l cd_intB | exact cd_abs | exact cd_min | exact cd_max
  | exact cd_all | exact cd_any | apply cd_repr | exact cd_tupL | exact cd_tupT | exact cd_tupO (by rfl))
local macro_rules | `(tactic| walk_at "ev") => `(tactic| repeat' (first
  | exact ev_int | exact ev_str | exact ev_bl | exact ev_non | exact ev_var (by rfl)
  | exact av_nil | with_reducible apply av_cons
  | with_reducible apply ev_op | walk_at "rd" | with_reducible apply ev_neg | with_reducible apply ev_isN | with_reducible apply ev_notN
  | with_reducible apply ev_cb | walk_at "cd"
  | with_reducible apply ev_callX | (show List.map El.d (List.map unD _) = _; rfl) | (show List.length (List.map unD _) = _; rfl) | (show List.length (List.cons _ _) ≤ sizeLine; exact le_sizeLine (by simp only [List.length_cons, List.length_nil]; omega))
  | with_reducible apply ev_tupX | with_reducible apply ev_lstX | with_reducible apply ev_tupY | with_reducible apply ev_lstY | (show _ = List.map El.d _; rfl) | with_reducible apply ev_slS | with_reducible apply ev_slT | exact ov_none | apply ov_some
  | with_reducible apply ev_partition
  | with_reducible apply tv_test | with_reducible apply tv_B | with_reducible apply tv_not))
section
variable {P : Program} {w : World} {K : PySem.W.Frag} {mg : Str → Option Value} {base : Heap}
abbrev s_law : Stmt := topS 46
theorem sc_law : FnScope ["_law_script", "_law_feed_here", "_law_turn", "_law_lines_here", "_law_k", "_law_handed", "_law_kept"] ["_law_script"] (defScope s_law) := ⟨rfl, rfl, rfl, by decide +kernel, rfl, by decide +kernel, by decide +kernel⟩
theorem c_law (D : At K mg "law" s_law ["_law_script"]) (m_range : mg "range" = none) (m_repr : mg "repr" = none) (m_list : mg "list" = none) (C__law_told : Cal P w K mg base CX0 6 "_law_told" ["_law_lines_here"] (spP K 1 pf__law_due)) (C__law_due : Cal P w K mg base CX0 6 "_law_due" ["_law_lines_here"] (spP K 1 pf__law_due)) (C__law_bent : Cal P w K mg base CX0 6 "_law_bent" ["_law_feed_here", "_law_lines_here"] (spM K 2 fs_bentL)) (C__law_lines : Cal P w K mg base CX0 6 "_law_lines" ["_law_frame"] (spP K 1 pf__law_lines)) (C__law_any : Cal P w K mg base CX0 6 "_law_any" ["_law_feed_here"] (spM K 1 fs_any)) (C__law_feed : Cal P w K mg base CX0 6 "_law_feed" ["_law_script"] (spN K 1 pf__law_feed)) : Cal P w K mg base CX0 7 "law" ["_law_script"] (spP K 1 pf_lawL) := by
  refine cal_mk0 D sc_law (fun vs H Q E h => spP_len h) fun f cdv A outer s H vs Q E hg hr h => ?_
  have hu := hu_of hr
  refine ⟨_, (pss_cons (ps_set (i := 1) sc_law.nd rfl (by first | exact Or.inl rfl | exact Or.inr rfl) (pe_callC C__law_feed hg hr pass0 (by rfl) (pa_cons (pv 0) pa_nil)))
      (pss_cons (ps_if (pt_cmpR (kx_ne (K := K) rfl hr.units) (pe_callC C__law_told hg hr pass0 (by rfl) (pa_cons (pe_lst pa_nil) pa_nil)) pe_int (nomark _))
      (pss_one (ps_ret pe_bl))
      pss_nil)
      (pss_cons (ps_for PassesOwn.never rfl (pi_range1 (by rfl) m_range (pa_cons pe_int pa_nil)) (pg_name (i := 2) sc_law.nd rfl (by first | exact Or.inl rfl | exact Or.inr rfl))
      (pss_cons (ps_set (i := 3) sc_law.nd rfl (by first | exact Or.inl rfl | exact Or.inr rfl) (pe_callC C__law_lines hg hr pass0 (by rfl) (pa_cons (pe_callC C__law_any hg hr pass0 (by rfl) (pa_cons (pv 1) pa_nil)) pa_nil)))
      (pss_one (ps_for PassesOwn.never rfl (pi_range1 (by rfl) m_range (pa_cons pe_int pa_nil)) (pg_name (i := 4) sc_law.nd rfl (by first | exact Or.inl rfl | exact Or.inr rfl))
      (pss_cons (ps_set (i := 5) sc_law.nd rfl (by first | exact Or.inl rfl | exact Or.inr rfl) (pe_ifExp (pt_cmpR (kx_eq (K := K) rfl hr.units) (pv 4) pe_int (nomark _)) (pv 3) (pe_callC C__law_bent hg hr pass0 (by rfl) (pa_cons (pv 1) (pa_cons (pv 3) pa_nil)))))
      (pss_cons (ps_set (i := 6) sc_law.nd rfl (by first | exact Or.inl rfl | exact Or.inr rfl) (pe_callTy (kx_list (K := K) rfl) (by rfl) m_list (by decide +kernel) (pa_cons (pv 5) pa_nil)))
      (pss_one (ps_if (PW.pt (pw_or (pt_cmpR (kx_ne (K := K) rfl hr.units) (pe_callB (kx_repr (K := K) rfl hg hr.units) (by rfl) m_repr (by decide +kernel) (pa_cons (pe_callC C__law_told hg hr pass0 (by rfl) (pa_cons (pv 5) pa_nil)) pa_nil)) (pe_callB (kx_repr (K := K) rfl hg hr.units) (by rfl) m_repr (by decide +kernel) (pa_cons (pe_callC C__law_due hg hr pass0 (by rfl) (pa_cons (pv 6) pa_nil)) pa_nil)) (nomark _)) (pw_or1 (pt_cmpR (kx_ne (K := K) rfl hr.units) (pv 5) (pv 6) (nomark _)))))
      (pss_one (ps_ret pe_bl))
      pss_nil))))))))
      (pss_one (ps_ret pe_bl))))), body_pure h fun ds r hn hp => ?_⟩
  obtain ⟨c, rfl, hc, rfl⟩ := hp
  refine sg_seq (sg_asgN (od := feedO c 0 0) (en_callF (av_cons (ev_var rfl) av_nil) ⟨c, rfl, hc, rfl⟩ (feed_flat _ _ _)) ?_)
  refine sg_seq ?_
  apply sg_if (b := false)
  · refine TV.is (tv_test (ev_op (ev_callX (r := .int 0) (av_cons (ev_lstY (ds := []) av_nil rfl (by decide)) av_nil) ⟨[], rfl, by simp, by simp, rfl⟩) ev_int (rd_l rd_neI))) rfl
  · intro h; cases h
  intro _
  refine sg_next (sg_seq ?_)
  refine sg_for (l := List.range 3) (en := fun i : Nat => .int (i : Int)) (iv_rng1 (n := 3) (av_cons ev_int av_nil) (by decide) (by decide)) (fun i Γ Θ => ∃ (a : Nat) (left : Int) (u2 u3 u4 u5 u6 : Option El), Γ = [some (.d (.list (c.map .int))), some (.at 0), u2, u3, u4, u5, u6] ∧ Θ = [feedO c a left] ∧ a ≤ 1000 * i) ?_ ?_ ?_
  · exact ⟨0, 0, _, _, _, _, _, rfl, rfl, by omega⟩
  · rintro i x Γ' Θ' hx ⟨a, left, u2, u3, u4, u5, u6, rfl, rfl, ha⟩
    have hi : i < 3 := by
      have := (List.getElem?_eq_some_iff.mp hx).1
      rwa [List.length_range] at this
    refine ⟨_, _, gv_name, ?_⟩
    refine sg_seq (sg_asgG (eg_callP (ag_cons (eg_any (k := 0) (av_cons (ev_var rfl) av_nil) rfl (by omega) hc fun n sz rows a1 left1 hA ha1 => ⟨_, rfl, ag_nil ⟨rfl, linesD (frameL n sz rows), ⟨n, sz, rows, rfl, hA, rfl⟩, ?_⟩⟩))))
    have hfl : (frameL n sz rows).length ≤ 8 := by
      have := hA.2.2.2.1.2
      simp [frameL]; omega
    have hfn : frameL n sz rows ≠ [] := by simp [frameL]
    have hfo := frame_ok hA
    generalize frameL n sz rows = fl at hfl hfn hfo
    refine sg_for (l := List.range 5) (en := fun i : Nat => .int (i : Int)) (iv_rng1 (n := 5) (av_cons ev_int av_nil) (by decide) (by decide)) (fun j Γ Θ => ∃ (a : Nat) (left : Int) (u2 u4 u5 u6 : Option El), Γ = [some (.d (.list (c.map .int))), some (.at 0), u2, some (.d (linesD fl)), u4, u5, u6] ∧ Θ = [feedO c a left] ∧ a ≤ 1000 * i + 400 + 20 * j) ?_ ?_ ?_
    · exact ⟨a1, left1, _, _, _, _, rfl, rfl, by omega⟩
    · rintro j y Γ' Θ' hy ⟨a, left, u2, u4, u5, u6, rfl, rfl, ha⟩
      have hj : j < 5 := by
        have := (List.getElem?_eq_some_iff.mp hy).1
        rwa [List.length_range] at this
      refine ⟨_, _, gv_name, ?_⟩
      refine sg_seq (sg_mid (fun Γ Θ => ∃ (hd : List (List Nat)) (a : Nat) (left : Int), hd.length ≤ 20 ∧ (∀ t ∈ hd, LineOk t) ∧ a ≤ 1000 * i + 400 + 20 * j + 10 ∧ Γ = [some (.d (.list (c.map .int))), some (.at 0), u2, some (.d (linesD fl)), some (.d (.int (y : Int))), some (.d (linesD hd)), u6] ∧ Θ = [feedO c a left]) ?_ ?_)
      · refine sg_asgG (eg_if (tv_test (ev_op (ev_var rfl) ev_int (rd_l rd_eqI))) (fun _ => ?_) fun _ => ?_)
        · exact EV.eg (ev_var rfl) ⟨fl, a, left, by omega, fun t m => (hfo t m).ok, by omega, rfl, rfl⟩
        · exact eg_bentL (k := 0) (av_cons (ev_var rfl) (av_cons (ev_var rfl) av_nil)) rfl hfn hfl hfo (by omega) hc fun ls' a' left' h1 h2 h3 => ⟨ls', a', left', h1, h2, by omega, rfl, rfl⟩
      rintro Γ Θ ⟨hd, a, left, hdl, hdk, ha, rfl, rfl⟩
      refine sg_seq (sg_asg (x := .d (linesD hd)) (EN.ev (en_listL (av_cons (ev_var rfl) av_nil))) ?_)
      have hpf : pf__law_due [linesD hd] (outD (tableO hd)) := ⟨hd, rfl, by omega, hdk, rfl⟩
      have hsh := shaped_lines fun t m => (hdk t m).2.1
      apply sg_if (b := false)
      · refine TV.is (tv_or (a := false) (b := false) (TV.is (tv_test (ev_op (ev_cb (av_cons (ev_callX (r := outD (tableO hd)) (av_cons (ev_var rfl) av_nil) hpf) av_nil) (cd_rp (rp_out hdl hdk) (by decide))) (ev_cb (av_cons (ev_callX (r := outD (tableO hd)) (av_cons (ev_var rfl) av_nil) hpf) av_nil) (cd_rp (rp_out hdl hdk) (by decide))) (rd_l rd_neS))) (by simp)) (fun _ => TV.is (tv_test (ev_op (ev_var rfl) (ev_var rfl) (rd_r (rd_ne hsh hsh)))) (by rw [SeqAt.eqv_refl _ (Bool.and_eq_true_iff.mp hsh).1]; rfl))) rfl
      · intro h; cases h
      · intro _
        exact sg_next ⟨a, left, _, _, _, _, rfl, rfl, by omega⟩
    · rintro Γ' Θ' ⟨a, left, u2, u4, u5, u6, rfl, rfl, ha⟩
      rw [List.length_range] at ha
      exact ⟨a, left, _, _, _, _, _, rfl, rfl, by omega⟩
  · rintro Γ' Θ' ⟨a, left, u2, u3, u4, u5, u6, rfl, rfl, ha⟩
    exact sg_retV (x := .d (.bool true)) ev_bl rfl
end
end T63

namespace T63
open PySem PySem.Spec PyProof.Rows L2 DL TX
def iD (x : Str) (q : Str) (st : Stmt) : He.DefD := ⟨(x, some "__init__"), "__init__", q, defArgs st, defBody st, defScope st, [], []⟩
def fn : List He.DefD := [dD "shared" s_shared, dD "places" s_places, dD "shown_place" s_shown_place, dD "shown_number" s_shown_number, dD "figures_in" s_figures_in, dD "place_in" s_place_in, dD "read_number" s_read_number, dD "small_number" s_small_number, dD "head_in" s_head_in, dD "row_in" s_row_in, dD "read_table" s_read_table, dD "_law_feed" s__law_feed, dD "_law_draw" s__law_draw, dD "_law_alone" s__law_alone, dD "_law_shown" s__law_shown, dD "_law_number" s__law_number, dD "_law_figures" s__law_figures, dD "_law_piece" s__law_piece, dD "_law_read" s__law_read, dD "_law_lines" s__law_lines, dD "_law_any" s__law_any, dD "_law_due" s__law_due, dD "_law_told" s__law_told, dD "_law_bent" s__law_bent, dD "law" s_law, iD "NoLines" "NoLines.__init__" s_NoLines]
def fa : List He.Fa := [.glo "shared", .glo "places", .glo "shown_place", .glo "shown_number", .glo "figures_in", .glo "place_in", .glo "read_number", .glo "small_number", .glo "head_in", .glo "row_in", .glo "read_table", .glo "_law_feed", .glo "_law_draw", .glo "_law_alone", .glo "_law_shown", .glo "_law_number", .glo "_law_figures", .glo "_law_piece", .glo "_law_read", .glo "_law_lines", .glo "_law_any", .glo "_law_due", .glo "_law_told", .glo "_law_bent", .glo "law", .free "len", .free "range", .free "str", .free "enumerate", .free "int", .free "all", .free "tuple", .free "list", .free "abs", .free "min", .free "max", .free "isinstance", .free "ValueError", .free "repr", .str "FIGURES_numbertexts" "0123456789", .int "MOST" 60, .str "FIGURES_tabletexts" "0123456789", .int "MOST_CLASSES" 16, .glo "NoText", .glo "TableError", .glo "NoLines", .glo "TooMany", .glo "NoTable", .glo "NoShares", .glo "NoRow", .glo "NoPerm", .glo "NoPart", .glo "NoOrder", .glo "NoName", .glo "NoGroup", .glo "NoAlike", .exc "NoText"]
def exB (K : PySem.W.Frag) : Bool := (excCB K (He.ga K "NoLines")) && ((exIB K (He.ga K "NoLines") (He.fAd K ("NoLines", some "__init__")) ["row"]) && ((exBB K (He.ga K "TableError")) && ((decide (PySem.W.exmOne K (.ref (He.ga K "NoText")) (.ref (He.ga K "NoText")) = some true)) && ((decide (PySem.W.exmOne K (.ref (He.ga K "NoLines")) (.ref (He.ga K "TableError")) = some true)) && ((decide (PySem.W.kitOne K (.ref (He.ga K "NoLines")) (.type "ValueError") = some true)) && ((decide (PySem.W.kitAny K (.ref (He.ga K "NoLines")) [.ref (He.ga K "NoAlike"), .ref (He.ga K "NoGroup"), .ref (He.ga K "NoName"), .ref (He.ga K "NoOrder"), .ref (He.ga K "NoPart"), .ref (He.ga K "NoPerm")] = some false)) && ((decide (PySem.W.kitAny K (.ref (He.ga K "NoLines")) [.ref (He.ga K "NoRow"), .ref (He.ga K "NoShares"), .ref (He.ga K "NoTable"), .ref (He.ga K "NoText"), .ref (He.ga K "TooMany")] = some false)))))))))
abbrev R : PySem.W.OpenRow := PySem.W.OpenLaw.row PySem.Challenge.rw_classtab_k63_lines_of_no_table
abbrev hk : PySem.W.Hook := DL.hookY 4 fa fn exB
def ob (s : PySem.W.SharedT) : Bool × He.AlD := DL.obY 4 fa fn exB (HandSHeadRun.getT s)
theorem ob_eq (s : PySem.W.SharedT) : ob s = hk.obs s.abs := DL.obY_eq (HandSHeadRun.getT_eq s)
def names0 : List PySem.Str := ["TableError", "NoGroup", "NoPerm", "NoTable", "NoShares", "NoAlike", "NoLines", "NoName", "TooMany", "NoOrder", "NoPart", "NoText", "NoRow", "shared", "places", "FIGURES_numbertexts", "shown_place", "shown_number", "figures_in", "place_in", "read_number", "FIGURES_tabletexts", "MOST", "MOST_CLASSES", "small_number"]
def names1 : List PySem.Str := ["head_in", "row_in", "read_table", "_law_feed", "_law_draw", "_law_alone", "_law_shown", "_law_number", "_law_figures", "_law_piece", "_law_read", "_law_lines", "_law_any", "_law_due", "_law_told", "_law_bent"]
def names : List PySem.Str := List.append names0 (names1)
set_option maxHeartbeats 0 in
theorem run (w : World) : HandSHeadRun.RunEq R (PySem.W.view R.prog [46]) hk ob 6000 names w := by
  intro os
  kernel_rfl
set_option maxHeartbeats 0 in
theorem facts {P : Program} {w : World} {K : PySem.W.Frag} {h base : Heap} {mg : Str → Option Value} (X : K.In h) (G : h.Ns mainGlobals mg) (c : He.SaysD fa fn K) (e : exB K = true) : Cal P w K mg base CX0 7 "law" ["_law_script"] (spP K 1 TX.pf_lawL) := by
  have m_len := He.free_ok X G (c.fact 25 (f := .free "len") rfl)
  have m_range := He.free_ok X G (c.fact 26 (f := .free "range") rfl)
  have m_str := He.free_ok X G (c.fact 27 (f := .free "str") rfl)
  have m_enumerate := He.free_ok X G (c.fact 28 (f := .free "enumerate") rfl)
  have m_int := He.free_ok X G (c.fact 29 (f := .free "int") rfl)
  have m_all := He.free_ok X G (c.fact 30 (f := .free "all") rfl)
  have m_tuple := He.free_ok X G (c.fact 31 (f := .free "tuple") rfl)
  have m_list := He.free_ok X G (c.fact 32 (f := .free "list") rfl)
  have m_abs := He.free_ok X G (c.fact 33 (f := .free "abs") rfl)
  have m_min := He.free_ok X G (c.fact 34 (f := .free "min") rfl)
  have m_max := He.free_ok X G (c.fact 35 (f := .free "max") rfl)
  have m_isinstance := He.free_ok X G (c.fact 36 (f := .free "isinstance") rfl)
  have m_ValueError := He.free_ok X G (c.fact 37 (f := .free "ValueError") rfl)
  have m_repr := He.free_ok X G (c.fact 38 (f := .free "repr") rfl)
  obtain ⟨t_FIGURES_numbertexts, m_FIGURES_numbertexts⟩ := He.str_ok X G (c.fact 39 (f := .str "FIGURES_numbertexts" "0123456789") rfl)
  obtain ⟨t_MOST, m_MOST⟩ := He.int_ok X G (c.fact 40 (f := .int "MOST" 60) rfl)
  obtain ⟨t_FIGURES_tabletexts, m_FIGURES_tabletexts⟩ := He.str_ok X G (c.fact 41 (f := .str "FIGURES_tabletexts" "0123456789") rfl)
  obtain ⟨t_MOST_CLASSES, m_MOST_CLASSES⟩ := He.int_ok X G (c.fact 42 (f := .int "MOST_CLASSES" 16) rfl)
  have g_NoText := He.glo_ok X G (c.fact 43 (f := .glo "NoText") rfl)
  have g_TableError := He.glo_ok X G (c.fact 44 (f := .glo "TableError") rfl)
  have g_NoLines := He.glo_ok X G (c.fact 45 (f := .glo "NoLines") rfl)
  have g_TooMany := He.glo_ok X G (c.fact 46 (f := .glo "TooMany") rfl)
  have g_NoTable := He.glo_ok X G (c.fact 47 (f := .glo "NoTable") rfl)
  have g_NoShares := He.glo_ok X G (c.fact 48 (f := .glo "NoShares") rfl)
  have g_NoRow := He.glo_ok X G (c.fact 49 (f := .glo "NoRow") rfl)
  have g_NoPerm := He.glo_ok X G (c.fact 50 (f := .glo "NoPerm") rfl)
  have g_NoPart := He.glo_ok X G (c.fact 51 (f := .glo "NoPart") rfl)
  have g_NoOrder := He.glo_ok X G (c.fact 52 (f := .glo "NoOrder") rfl)
  have g_NoName := He.glo_ok X G (c.fact 53 (f := .glo "NoName") rfl)
  have g_NoGroup := He.glo_ok X G (c.fact 54 (f := .glo "NoGroup") rfl)
  have g_NoAlike := He.glo_ok X G (c.fact 55 (f := .glo "NoAlike") rfl)
  have X_NoText := DL.exF_of X G (c.fact 43 (f := .glo "NoText") rfl) (c.fact 56 (f := .exc "NoText") rfl)
  unfold exB at e
  obtain ⟨q0, e⟩ := Bool.and_eq_true_iff.mp e
  have E_NoLines := excC_of q0
  obtain ⟨q1, e⟩ := Bool.and_eq_true_iff.mp e
  have T_NoLines := exI_of g_NoLines q1
  obtain ⟨q2, e⟩ := Bool.and_eq_true_iff.mp e
  have B_TableError := exB_of g_TableError q2
  obtain ⟨q3, e⟩ := Bool.and_eq_true_iff.mp e
  have x0 := of_decide_eq_true q3
  obtain ⟨q4, e⟩ := Bool.and_eq_true_iff.mp e
  have x1 := of_decide_eq_true q4
  obtain ⟨q5, e⟩ := Bool.and_eq_true_iff.mp e
  have x2 := of_decide_eq_true q5
  obtain ⟨q6, e⟩ := Bool.and_eq_true_iff.mp e
  have x3 := of_decide_eq_true q6
  have q7 := e
  have x4 := of_decide_eq_true q7
  have D_shared : At K mg "shared" s_shared ["one", "other"] := at_of X G c 0 0 rfl rfl (fun _ _ _ _ _ _ us hl => match us, hl with | [_, _], _ => rfl)
  have D_places : At K mg "places" s_places ["n"] := at_of X G c 1 1 rfl rfl (fun _ _ _ _ _ _ us hl => match us, hl with | [_], _ => rfl)
  have D_shown_place : At K mg "shown_place" s_shown_place ["power", "often"] := at_of X G c 2 2 rfl rfl (fun _ _ _ _ _ _ us hl => match us, hl with | [_, _], _ => rfl)
  have D_shown_number : At K mg "shown_number" s_shown_number ["one"] := at_of X G c 3 3 rfl rfl (fun _ _ _ _ _ _ us hl => match us, hl with | [_], _ => rfl)
  have D_figures_in : At K mg "figures_in" s_figures_in ["text"] := at_of X G c 4 4 rfl rfl (fun _ _ _ _ _ _ us hl => match us, hl with | [_], _ => rfl)
  have D_place_in : At K mg "place_in" s_place_in ["text"] := at_of X G c 5 5 rfl rfl (fun _ _ _ _ _ _ us hl => match us, hl with | [_], _ => rfl)
  have D_read_number : At K mg "read_number" s_read_number ["n", "text"] := at_of X G c 6 6 rfl rfl (fun _ _ _ _ _ _ us hl => match us, hl with | [_, _], _ => rfl)
  have D_small_number : At K mg "small_number" s_small_number ["word"] := at_of X G c 7 7 rfl rfl (fun _ _ _ _ _ _ us hl => match us, hl with | [_], _ => rfl)
  have D_head_in : At K mg "head_in" s_head_in ["line"] := at_of X G c 8 8 rfl rfl (fun _ _ _ _ _ _ us hl => match us, hl with | [_], _ => rfl)
  have D_row_in : At K mg "row_in" s_row_in ["n", "many", "line"] := at_of X G c 9 9 rfl rfl (fun _ _ _ _ _ _ us hl => match us, hl with | [_, _, _], _ => rfl)
  have D_read_table : At K mg "read_table" s_read_table ["lines"] := at_of X G c 10 10 rfl rfl (fun _ _ _ _ _ _ us hl => match us, hl with | [_], _ => rfl)
  have D__law_feed : At K mg "_law_feed" s__law_feed ["_law_script"] := at_of X G c 11 11 rfl rfl (fun _ _ _ _ _ _ us hl => match us, hl with | [_], _ => rfl)
  have D__law_draw : At K mg "_law_draw" s__law_draw ["_law_feed_here", "_law_many"] := at_of X G c 12 12 rfl rfl (fun _ _ _ _ _ _ us hl => match us, hl with | [_, _], _ => rfl)
  have D__law_alone : At K mg "_law_alone" s__law_alone ["_law_k", "_law_n"] := at_of X G c 13 13 rfl rfl (fun _ _ _ _ _ _ us hl => match us, hl with | [_, _], _ => rfl)
  have D__law_shown : At K mg "_law_shown" s__law_shown ["_law_number_here"] := at_of X G c 14 14 rfl rfl (fun _ _ _ _ _ _ us hl => match us, hl with | [_], _ => rfl)
  have D__law_number : At K mg "_law_number" s__law_number ["_law_feed_here", "_law_wide"] := at_of X G c 15 15 rfl rfl (fun _ _ _ _ _ _ us hl => match us, hl with | [_, _], _ => rfl)
  have D__law_figures : At K mg "_law_figures" s__law_figures ["_law_text"] := at_of X G c 16 16 rfl rfl (fun _ _ _ _ _ _ us hl => match us, hl with | [_], _ => rfl)
  have D__law_piece : At K mg "_law_piece" s__law_piece ["_law_text"] := at_of X G c 17 17 rfl rfl (fun _ _ _ _ _ _ us hl => match us, hl with | [_], _ => rfl)
  have D__law_read : At K mg "_law_read" s__law_read ["_law_wide", "_law_text"] := at_of X G c 18 18 rfl rfl (fun _ _ _ _ _ _ us hl => match us, hl with | [_, _], _ => rfl)
  have D__law_lines : At K mg "_law_lines" s__law_lines ["_law_frame"] := at_of X G c 19 19 rfl rfl (fun _ _ _ _ _ _ us hl => match us, hl with | [_], _ => rfl)
  have D__law_any : At K mg "_law_any" s__law_any ["_law_feed_here"] := at_of X G c 20 20 rfl rfl (fun _ _ _ _ _ _ us hl => match us, hl with | [_], _ => rfl)
  have D__law_due : At K mg "_law_due" s__law_due ["_law_lines_here"] := at_of X G c 21 21 rfl rfl (fun _ _ _ _ _ _ us hl => match us, hl with | [_], _ => rfl)
  have D__law_told : At K mg "_law_told" s__law_told ["_law_lines_here"] := at_of X G c 22 22 rfl rfl (fun _ _ _ _ _ _ us hl => match us, hl with | [_], _ => rfl)
  have D__law_bent : At K mg "_law_bent" s__law_bent ["_law_feed_here", "_law_lines_here"] := at_of X G c 23 23 rfl rfl (fun _ _ _ _ _ _ us hl => match us, hl with | [_, _], _ => rfl)
  have D_law : At K mg "law" s_law ["_law_script"] := at_of X G c 24 24 rfl rfl (fun _ _ _ _ _ _ us hl => match us, hl with | [_], _ => rfl)
  obtain ⟨fd_NoLines, F_NoLines⟩ := c.def_ 25 rfl
  have F_NoLines : FunD K "__init__" "NoLines.__init__" (defArgs s_NoLines) (defBody s_NoLines) (defScope s_NoLines) [] [] (He.fAd K ("NoLines", some "__init__")) fd_NoLines := F_NoLines
  have Bn_NoLines : Binds K fd_NoLines ["self", "row"] [] := FunD.bindsN F_NoLines (fun _ _ _ _ _ _ us hl => match us, hl with | [_, _], _ => rfl)
  have Y_NoLines := i_NoLines (P := P) (w := w) (base := base) T_NoLines B_TableError F_NoLines Bn_NoLines
  have C_shared := c_shared (P := P) (w := w) (base := base) D_shared
  have C_places := c_places (P := P) (w := w) (base := base) D_places m_len m_range C_shared
  have C_shown_place := c_shown_place (P := P) (w := w) (base := base) D_shown_place m_str
  have C_shown_number := c_shown_number (P := P) (w := w) (base := base) D_shown_number m_enumerate C_shown_place
  have C_figures_in := c_figures_in (P := P) (w := w) (base := base) D_figures_in m_int m_all m_FIGURES_numbertexts
  have C_place_in := c_place_in (P := P) (w := w) (base := base) D_place_in C_figures_in
  have C_read_number := c_read_number (P := P) (w := w) (base := base) D_read_number m_range m_tuple m_len X_NoText C_places C_shown_number C_place_in
  have C_small_number := c_small_number (P := P) (w := w) (base := base) D_small_number m_int m_all m_len m_MOST m_FIGURES_tabletexts
  have C_head_in := c_head_in (P := P) (w := w) (base := base) D_head_in m_tuple m_len m_MOST_CLASSES C_small_number
  have C_row_in := c_row_in (P := P) (w := w) (base := base) D_row_in m_tuple m_len X_NoText g_NoText x0 C_read_number
  have C_read_table := c_read_table (P := P) (w := w) (base := base) D_read_table m_tuple m_range m_len Y_NoLines C_row_in (C_head_in.mono (by decide))
  have C__law_feed := c__law_feed (P := P) (w := w) (base := base) D__law_feed m_list
  have C__law_draw := c__law_draw (P := P) (w := w) (base := base) D__law_draw m_len
  have C__law_alone := c__law_alone (P := P) (w := w) (base := base) D__law_alone
  have C__law_shown := c__law_shown (P := P) (w := w) (base := base) D__law_shown m_range m_len m_abs m_int m_str m_min
  have C__law_number := c__law_number (P := P) (w := w) (base := base) D__law_number m_tuple m_range C__law_draw
  have C__law_figures := c__law_figures (P := P) (w := w) (base := base) D__law_figures m_int
  have C__law_piece := c__law_piece (P := P) (w := w) (base := base) D__law_piece C__law_figures
  have C__law_read := c__law_read (P := P) (w := w) (base := base) D__law_read m_tuple m_len C__law_piece
  have C__law_lines := c__law_lines (P := P) (w := w) (base := base) D__law_lines m_str C__law_shown
  have C__law_any := c__law_any (P := P) (w := w) (base := base) D__law_any m_tuple m_range m_min m_max m_int m_len (C__law_draw.mono (by decide)) C__law_number (C__law_alone.mono (by decide))
  have C__law_due := c__law_due (P := P) (w := w) (base := base) D__law_due m_tuple m_range m_len m_max C__law_read (C__law_alone.mono (by decide)) (C__law_figures.mono (by decide))
  have C__law_told := c__law_told (P := P) (w := w) (base := base) D__law_told m_isinstance m_ValueError g_TableError g_NoLines g_TooMany g_NoText g_NoTable g_NoShares g_NoRow g_NoPerm g_NoPart g_NoOrder g_NoName g_NoGroup g_NoAlike E_NoLines T_NoLines x1 x2 x3 x4 C_read_table
  have C__law_bent := c__law_bent (P := P) (w := w) (base := base) D__law_bent m_len m_int C__law_draw
  exact c_law (P := P) (w := w) (base := base) D_law m_range m_repr m_list C__law_told (C__law_due.mono (by decide)) (C__law_bent.mono (by decide)) (C__law_lines.mono (by decide)) (C__law_any.mono (by decide)) (C__law_feed.mono (by decide))
end T63
open PySem PySem.W PySem.Calls PyProof.Rows
set_option maxHeartbeats 0 in
theorem PySem.Challenge.cw_classtab_k63_lines_of_no_table_holds : PySem.Challenge.rw_classtab_k63_lines_of_no_table.Holds := by
  w_on; o_law
  refine HandSHeadRun.head_any (r := OpenLaw.row PySem.Challenge.rw_classtab_k63_lines_of_no_table) (q := view (OpenLaw.row PySem.Challenge.rw_classtab_k63_lines_of_no_table).prog [46]) (H := T63.hk) (ob := T63.ob) (M := 6000) (loose := T63.names) (d := HandSHeadRun.topDef (OpenLaw.row PySem.Challenge.rw_classtab_k63_lines_of_no_table).prog 46) (kwd := []) T63.ob_eq
    (by kernel_rfl) (fun s => by kernel_rfl) T63.run (by kernel_rfl) (by kernel_rfl) (by kernel_rfl) (by rfl) (by first | assumption | decide +kernel) (by decide +kernel) ⟨rfl, rfl, rfl, rfl, rfl, by decide +kernel⟩ ?hw ?hc
  case hw => w_witness2
  case hc =>
    refine DL.walk_ofG (l := PySem.Challenge.rw_classtab_k63_lines_of_no_table) (n := 63) (k := 7) (x0 := "law") (x := "_law_script") (pf := TX.pf_lawL) rfl (by decide) (by kernel_rfl) (by kernel_rfl) ⟨rfl, by decide, by decide⟩ (fun ns hl => ⟨ns, rfl, hl, rfl⟩) ?F
    intro w mg h Y G
    obtain ⟨K, KX, c, e⟩ := Y
    exact ⟨K, KX, fun base _ _ => T63.facts KX G c e⟩
