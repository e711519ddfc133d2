import PyProof.Rows.All
import HandS.TupAny
import HandS.Deep
import KE.DataCmp
import HandS.ExcValue
import HandS.More
import KE.GoesMore
import PyProof.Draws
import PyProof.EnumMake
import HandS.ExcInit
import HandS.ExcField
import HandS.Conv
import HandS.SortRule
import Wide.All
import OpenK.AllK
import Wide.FinOn
import HandS.ForMost
import HandS.ForExc
import HandS.Comp
import HandS.Wide
import HandS.SortInts
import HandS.IsInst
import HandS.TryOnly
import HandS.ExcIs
import HandS.SetFor
import HandS.Small
import HandS.NoneIn
import HandS.EndBits
import HandS.RaiseMore
import HandS.Strs
import PyProof.Rows.SetFrom
import KE.KEqNest
import PyProof.EqKinds
import HandS.Style
import PyProof.NeKinds
import HandS.Rev
import HandS.Iter
import HandS.RevTup
import PyProof.ListNew
import KE.OsRunLaw
import PySem.Challenge.RW_stillheap_k71_papers_judged
set_option Elab.async false
set_option linter.all false
set_option maxRecDepth 100000
set_option maxHeartbeats 4000000
set_option autoImplicit false
namespace Mi
open PySem PySem.Spec L2
/-- an object of the store; a reference in it is a place of the store -/
inductive Ob where
  | lst (xs : List V) | tup (xs : List V) | dK (kvs : List (Key × V)) | dT (kvs : List (List Key × V))
  | ins (c : Nat) (fs : List (Option V)) | exc (c : Nat) (d : Option V) | lck (o : Ob)
  deriving DecidableEq
abbrev Sto := List Ob
/-- how an expression ends -/
inductive R (α : Type) where
  | ok (a : α) (S : Sto) | exc (c : Nat) (d : Option V) (S : Sto) | bad
/-- how a statement ends -/
inductive RS where
  | nx (σ : St) (S : Sto) | rt (v : V) (S : Sto) | bk (σ : St) (S : Sto) | ct (σ : St) (S : Sto) | exc (c : Nat) (d : Option V) (σ : St) (S : Sto) | bad
abbrev ME := St → Sto → R V
abbrev MT := St → Sto → R Bool
abbrev MA := St → Sto → R (List V)
abbrev MS := St → Sto → RS
def VR (ρ : List Addr) : V → V → Prop
  | .ref i, w => ∃ a, ρ[i]? = some a ∧ w = .ref a
  | v, w => w = v
def OR (ρ : List Addr) : Option V → Option V → Prop
  | none, _ => True
  | some v, some w => VR ρ v w
  | some _, none => False
abbrev VsR (ρ : List Addr) : List V → List V → Prop := Paired (VR ρ)
abbrev LR (ρ : List Addr) : St → St → Prop := Paired (OR ρ)
abbrev FR {κ : Type} (ρ : List Addr) : List (κ × V) → List (κ × V) → Prop := Paired fun p q => p.1 = q.1 ∧ VR ρ p.2 q.2
/-- what is fixed: the written part, the module's names; the classes with their attributes' names in order; the classes of exceptions -/
structure Gm where
  K : PySem.W.Frag
  mg : Str → Option Value
  cs : List (Str × List Str)
  xs : List Str
def Gm.cls (G : Gm) (c : Nat) (C : Addr) : Prop := ∃ x L, G.cs[c]? = some (x, L) ∧ G.mg x = some (.ref C)
def Gm.xcls (G : Gm) (c : Nat) (C : Addr) : Prop := ∃ x, G.xs[c]? = some x ∧ G.mg x = some (.ref C)
/-- the attributes of an instance, in the class's order -/
structure AR (ρ : List Addr) (L : List Str) (fs : List (Option V)) (gs : List (Str × V)) : Prop where
  len : fs.length = L.length
  at_ : ∀ (j : Nat) (x : Str) (v : V), L[j]? = some x → fs[j]? = some (some v) → ∃ w, gs.lookup x = some w ∧ VR ρ v w
  nd : (gs.map (·.1)).Nodup
  sub : ∀ x ∈ gs.map (·.1), x ∈ L
/-- what is told of an exception object -/
def ExK (C : Addr) (d : Option Addr) (a : Addr) : HO := .ext fun h => ∃ (oe : Obj) (vs : Array Value), h.get? a = some oe ∧ oe.cls = .ref C ∧ oe.dict = d ∧ oe.data = .fields vs
/-- an exception's own dict: none, or its one field "row" -/
def DR (ρ : List Addr) (H : Hp) : Option V → Option Addr → Prop
  | none, d => d = none
  | some v, d => ∃ a w, d = some a ∧ VR ρ v w ∧ H a = some (.xd [(("row" : Str), w)])
def ObU (G : Gm) (ρ : List Addr) (H : Hp) (a : Addr) : Ob → HO → Prop
  | .lst xs, u => ∃ ys, u = .lst ys ∧ VsR ρ xs ys
  | .tup xs, u => ∃ ys, u = .tup ys ∧ VsR ρ xs ys
  | .dK kvs, u => ∃ vs, u = .dK vs ∧ FR ρ kvs vs
  | .dT kvs, u => ∃ vs, u = .dT vs ∧ FR ρ kvs vs
  | .ins c fs, u => ∃ x L C dx gs, G.cs[c]? = some (x, L) ∧ G.mg x = some (.ref C) ∧ u = .ins C dx gs ∧ AR ρ L fs gs
  | .exc c d, u => ∃ C dd, G.xcls c C ∧ u = ExK C dd a ∧ DR ρ H d dd
  | .lck o, u => ∃ ob u', u = .frz ob u' ∧ ObU G ρ H a o u'
structure Rep (G : Gm) (ρ : List Addr) (S : Sto) (H : Hp) : Prop where
  nd : ρ.Nodup
  len : ρ.length = S.length
  at_ : ∀ (i : Nat) (o : Ob) (a : Addr), S[i]? = some o → ρ[i]? = some a → ∃ u, H a = some u ∧ ObU G ρ H a o u
section
variable {G : Gm} {ρ ρ' : List Addr} {S S' : Sto} {H H' : Hp} {v w : V} {a : Addr} {o : Ob} {u : HO} {i : Nat}
theorem VR.mono (h : VR ρ v w) (p : ρ <+: ρ') : VR ρ' v w := by
  cases v with
  | ref i =>
    obtain ⟨a, e, r⟩ := h
    exact ⟨a, (List.prefix_iff_getElem?.mp p i (List.getElem?_eq_some_iff.mp e).1).trans (by rw [List.getElem?_eq_getElem (List.getElem?_eq_some_iff.mp e).1] at e; exact e), r⟩
  | _ => exact h
theorem OR.mono {x y : Option V} (h : OR ρ x y) (p : ρ <+: ρ') : OR ρ' x y := by
  cases x with
  | none => trivial
  | some v =>
    cases y with
    | none => exact h
    | some w => exact VR.mono (v := v) (w := w) h p
theorem VsR.mono {xs ys : List V} (h : VsR ρ xs ys) (p : ρ <+: ρ') : VsR ρ' xs ys := Paired.mapP h fun _ _ r => r.mono p
theorem LR.mono {xs ys : St} (h : LR ρ xs ys) (p : ρ <+: ρ') : LR ρ' xs ys := Paired.mapP h fun _ _ r => r.mono p
theorem FR.mono {κ : Type} {xs ys : List (κ × V)} (h : FR ρ xs ys) (p : ρ <+: ρ') : FR ρ' xs ys := Paired.mapP h fun _ _ r => ⟨r.1, r.2.mono p⟩
theorem DR.mono {d : Option V} {dd : Option Addr} (h : DR ρ H d dd) (p : ρ <+: ρ') (k : ∀ b fs, H b = some (.xd fs) → H' b = some (.xd fs)) : DR ρ' H' d dd := by
  cases d with
  | none => exact h
  | some v =>
    obtain ⟨b, w, e, r, q⟩ := h
    exact ⟨b, w, e, r.mono p, k _ _ q⟩
theorem AR.mono {L : List Str} {fs : List (Option V)} {gs : List (Str × V)} (h : AR ρ L fs gs) (p : ρ <+: ρ') : AR ρ' L fs gs :=
  ⟨h.len, fun j x v e1 e2 => let ⟨w, e, r⟩ := h.at_ j x v e1 e2; ⟨w, e, r.mono p⟩, h.nd, h.sub⟩
theorem ObU.mono (p : ρ <+: ρ') (k : ∀ b fs, H b = some (.xd fs) → H' b = some (.xd fs)) : ∀ {o : Ob} {u : HO}, ObU G ρ H a o u → ObU G ρ' H' a o u
  | .lst _, _, ⟨ys, e, r⟩ => ⟨ys, e, VsR.mono r p⟩
  | .tup _, _, ⟨ys, e, r⟩ => ⟨ys, e, VsR.mono r p⟩
  | .dK _, _, ⟨ys, e, r⟩ => ⟨ys, e, FR.mono r p⟩
  | .dT _, _, ⟨ys, e, r⟩ => ⟨ys, e, FR.mono r p⟩
  | .ins _ _, _, ⟨x, L, C, dx, gs, m, n, e, r⟩ => ⟨x, L, C, dx, gs, m, n, e, r.mono p⟩
  | .exc _ _, _, ⟨C, dd, m, e, r⟩ => ⟨C, dd, m, e, DR.mono r p k⟩
  | .lck _, _, ⟨ob, u', e, r⟩ => ⟨ob, u', e, ObU.mono p k r⟩
theorem pre_get (p : ρ <+: ρ') (e : ρ[i]? = some a) : ρ'[i]? = some a := by
  have h := (VR.mono (v := .ref i) (w := .ref a) ⟨a, e, rfl⟩ p)
  obtain ⟨b, e', r⟩ := h
  cases r
  exact e'
theorem Rep.addr (r : Rep G ρ S H) (h : S[i]? = some o) : ∃ a, ρ[i]? = some a := by
  have := (List.getElem?_eq_some_iff.mp h).1
  exact ⟨_, List.getElem?_eq_getElem (by rw [r.len]; exact this)⟩
theorem Rep.obj (r : Rep G ρ S H) (e : ρ[i]? = some a) : ∃ o, S[i]? = some o := by
  have := (List.getElem?_eq_some_iff.mp e).1
  exact ⟨_, List.getElem?_eq_getElem (by rw [← r.len]; exact this)⟩
theorem Rep.tracked (r : Rep G ρ S H) (e : a ∈ ρ) : ∃ u, H a = some u := by
  obtain ⟨i, hi, e⟩ := List.mem_iff_getElem.mp e
  have e' : ρ[i]? = some a := by rw [List.getElem?_eq_getElem hi, e]
  obtain ⟨o, ho⟩ := r.obj e'
  obtain ⟨u, h, _⟩ := r.at_ i o a ho e'
  exact ⟨u, h⟩
theorem Rep.fresh (r : Rep G ρ S H) (n : H a = none) : a ∉ ρ := fun h => by
  obtain ⟨u, e⟩ := r.tracked h
  rw [n] at e
  cases e
/-- what is in the store stands in another heap -/
theorem Rep.heap (r : Rep G ρ S H) (k : ∀ b u, H b = some u → H' b = some u) : Rep G ρ S H' :=
  ⟨r.nd, r.len, fun i o a h e => by
    obtain ⟨u, q, x⟩ := r.at_ i o a h e
    exact ⟨u, k _ _ q, x.mono (List.prefix_refl _) fun b fs z => k _ _ z⟩⟩
/-- something new beside the store -/
theorem Rep.beside (r : Rep G ρ S H) (n : H a = none) : Rep G ρ S (upd H a u) := r.heap fun b u q => by rw [upd_ne (ne_of_none q n)]; exact q
/-- a new object -/
theorem Rep.alloc (r : Rep G ρ S H) (n : H a = none) (x : ObU G (ρ ++ [a]) (upd H a u) a o u) : Rep G (ρ ++ [a]) (S ++ [o]) (upd H a u) := by
  refine ⟨?_, by simp [r.len], fun i o' a' h e => ?_⟩
  · rw [List.nodup_append]
    exact ⟨r.nd, by simp, fun b hb c hc => by
      rw [List.mem_singleton] at hc
      subst hc
      exact fun z => r.fresh n (z ▸ hb)⟩
  · by_cases hi : i < S.length
    · rw [List.getElem?_append_left hi] at h
      rw [List.getElem?_append_left (by rw [r.len]; exact hi)] at e
      obtain ⟨u', q, y⟩ := r.at_ i o' a' h e
      refine ⟨u', by rw [upd_ne (ne_of_none q n)]; exact q, y.mono (List.prefix_append _ _) fun b fs z => by rw [upd_ne (ne_of_none z n)]; exact z⟩
    · rw [List.getElem?_append_right (by omega)] at h
      rw [List.getElem?_append_right (by rw [r.len]; omega)] at e
      have e0 : i - S.length = 0 := by
        have := (List.getElem?_eq_some_iff.mp h).1
        simp at this
        omega
      rw [e0] at h
      rw [r.len, e0] at e
      cases h
      cases e
      exact ⟨u, upd_same, x⟩
/-- an object written -/
theorem Rep.write (r : Rep G ρ S H) (h : S[i]? = some o) (e : ρ[i]? = some a) (nx : ∀ fs, H a ≠ some (.xd fs)) {o' : Ob} {u' : HO} (x : ObU G ρ (upd H a u') a o' u') : Rep G ρ (S.set i o') (upd H a u') := by
  refine ⟨r.nd, by rw [List.length_set]; exact r.len, fun j oj b hj ej => ?_⟩
  by_cases z : j = i
  · subst z
    rw [List.getElem?_set_self (List.getElem?_eq_some_iff.mp h).1] at hj
    cases hj
    rw [e] at ej
    cases ej
    exact ⟨u', upd_same, x⟩
  · rw [List.getElem?_set_ne (Ne.symm z)] at hj
    have ne : b ≠ a := fun q => z (by
      subst q
      have h1 := List.getElem?_eq_some_iff.mp ej
      have h2 := List.getElem?_eq_some_iff.mp e
      exact (List.getElem_inj r.nd).mp (h1.2.trans h2.2.symm))
    obtain ⟨u, q, y⟩ := r.at_ j oj b hj ej
    exact ⟨u, by rw [upd_ne ne]; exact q, y.mono (List.prefix_refl _) fun c fs z' => by rw [upd_ne (fun q => nx fs (by rw [← q]; exact z'))]; exact z'⟩
theorem Rep.ref (r : Rep G ρ S H) (h : S[i]? = some o) (x : VR ρ (.ref i) w) : ∃ a u, w = .ref a ∧ ρ[i]? = some a ∧ H a = some u ∧ ObU G ρ H a o u := by
  obtain ⟨a, e, q⟩ := x
  obtain ⟨u, hu, y⟩ := r.at_ i o a h e
  exact ⟨a, u, q, e, hu, y⟩
end
/-- Paired's parts -/
theorem prd_get {α β : Type} {F : α → β → Prop} : ∀ {xs : List α} {ys : List β} {i : Nat} {x : α}, Paired F xs ys → xs[i]? = some x → ∃ y, ys[i]? = some y ∧ F x y
  | _, _, _, _, .nil, e => by simp at e
  | _, _, 0, _, .cons r _, e => by simp at e; subst e; exact ⟨_, rfl, r⟩
  | _, _, i + 1, x, .cons _ t, e => by
    obtain ⟨u, h1, h2⟩ := prd_get (i := i) (x := x) t (by simpa using e)
    exact ⟨u, by simpa using h1, h2⟩
theorem prd_len {α β : Type} {F : α → β → Prop} : ∀ {xs : List α} {ys : List β}, Paired F xs ys → xs.length = ys.length
  | _, _, .nil => rfl
  | _, _, .cons _ t => by rw [List.length_cons, List.length_cons, prd_len t]
theorem prd_set {α β : Type} {F : α → β → Prop} {x : α} {y : β} (r : F x y) : ∀ {xs : List α} {ys : List β} (i : Nat), Paired F xs ys → Paired F (xs.set i x) (ys.set i y)
  | _, _, _, .nil => .nil
  | _, _, 0, .cons _ t => .cons r t
  | _, _, i + 1, .cons q t => .cons q (prd_set r i t)
theorem prd_app {α β : Type} {F : α → β → Prop} : ∀ {xs xs' : List α} {ys ys' : List β}, Paired F xs ys → Paired F xs' ys' → Paired F (xs ++ xs') (ys ++ ys')
  | _, _, _, _, .nil, s => s
  | _, _, _, _, .cons r t, s => .cons r (prd_app t s)
theorem prd_take {α β : Type} {F : α → β → Prop} : ∀ {xs : List α} {ys : List β} (n : Nat), Paired F xs ys → Paired F (xs.take n) (ys.take n)
  | _, _, 0, _ => .nil
  | _, _, _ + 1, .nil => .nil
  | _, _, n + 1, .cons r t => .cons r (prd_take n t)
theorem prd_drop {α β : Type} {F : α → β → Prop} : ∀ {xs : List α} {ys : List β} (n : Nat), Paired F xs ys → Paired F (xs.drop n) (ys.drop n)
  | _, _, 0, r => r
  | _, _, _ + 1, .nil => .nil
  | _, _, n + 1, .cons _ t => prd_drop n t
theorem prd_rev {α β : Type} {F : α → β → Prop} {xs : List α} {ys : List β} (r : Paired F xs ys) : Paired F xs.reverse ys.reverse := by
  induction r with
  | nil => exact .nil
  | cons r t ih => rw [List.reverse_cons, List.reverse_cons]; exact prd_app ih (.cons r .nil)
theorem prd_rep {α β : Type} {F : α → β → Prop} {x : α} {y : β} (r : F x y) : ∀ n, Paired F (List.replicate n x) (List.replicate n y)
  | 0 => .nil
  | n + 1 => .cons r (prd_rep r n)
def R.bind {α β : Type} : R α → (α → Sto → R β) → R β
  | .ok a S, f => f a S
  | .exc c d S, _ => .exc c d S
  | .bad, _ => .bad
/-- a later moment: more objects; what was locked is locked as it was -/
structure Ext (ρ : List Addr) (H : Hp) (ρ' : List Addr) (H' : Hp) : Prop where
  pre : ρ <+: ρ'
  kp : ∀ b o u, H b = some (.frz o u) → H' b = some (.frz o u)
theorem Ext.refl {ρ : List Addr} {H : Hp} : Ext ρ H ρ H := ⟨List.prefix_refl _, fun _ _ _ h => h⟩
theorem Ext.trans {ρ ρ1 ρ2 : List Addr} {H H1 H2 : Hp} (a : Ext ρ H ρ1 H1) (b : Ext ρ1 H1 ρ2 H2) : Ext ρ H ρ2 H2 := ⟨a.pre.trans b.pre, fun c o u h => b.kp c o u (a.kp c o u h)⟩
theorem Ext.new {ρ : List Addr} {H : Hp} {p : Addr} {u : HO} (n : H p = none) : Ext ρ H (ρ ++ [p]) (upd H p u) := ⟨List.prefix_append _ _, fun b o u h => by rw [upd_ne (ne_of_none h n)]; exact h⟩
theorem Ext.aside {ρ : List Addr} {H : Hp} {p : Addr} {u : HO} (n : H p = none) : Ext ρ H ρ (upd H p u) := ⟨List.prefix_refl _, fun b o u h => by rw [upd_ne (ne_of_none h n)]; exact h⟩
theorem Ext.put {ρ : List Addr} {H : Hp} {p : Addr} {u u' : HO} (n : H p = some u) (k : ∀ o u', u ≠ .frz o u') : Ext ρ H ρ (upd H p u') := ⟨List.prefix_refl _, fun b o u h => by
  rw [upd_ne (fun q => by rw [q, n] at h; cases h; exact k _ _ rfl)]; exact h⟩
/-- what is wanted behind an end -/
def Post {α β : Type} (G : Gm) (W : WX) (rel : List Addr → α → β → Prop) (ρ : List Addr) (H : Hp) (σ : St) (Q : β → Hp → Prop) : R α → Prop
  | .ok v S2 => ∀ (ρ2 : List Addr) (H2 : Hp) (w : β), Ext ρ H ρ2 H2 → Rep G ρ2 S2 H2 → rel ρ2 v w → Q w H2
  | .exc c d S2 => ∀ (ρ2 : List Addr) (H2 : Hp) (C : Addr) (dd : Option Addr), Ext ρ H ρ2 H2 → Rep G ρ2 S2 H2 → G.xcls c C → DR ρ2 H2 d dd → W (.ref C) dd σ H2
  | .bad => False
def den {α β : Type} (G : Gm) (W : WX) (rel : List Addr → α → β → Prop) (m : St → Sto → R α) : St → Hp → (β → Hp → Prop) → Prop := fun σ H Q => ∃ ρ S τ, Rep G ρ S H ∧ LR ρ τ σ ∧ Post G W rel ρ H σ Q (m τ S)
abbrev BR : List Addr → Bool → Bool → Prop := fun _ a b => b = a
def PostS (G : Gm) (W : WX) (ρ : List Addr) (H : Hp) (D : Ends) : RS → Prop
  | .nx τ2 S2 => ∀ (ρ2 : List Addr) (H2 : Hp) (σ2 : St), Ext ρ H ρ2 H2 → Rep G ρ2 S2 H2 → LR ρ2 τ2 σ2 → D.nx σ2 H2
  | .rt v S2 => ∀ (ρ2 : List Addr) (H2 : Hp) (w : V), Ext ρ H ρ2 H2 → Rep G ρ2 S2 H2 → VR ρ2 v w → D.rt w H2
  | .bk τ2 S2 => ∀ (ρ2 : List Addr) (H2 : Hp) (σ2 : St), Ext ρ H ρ2 H2 → Rep G ρ2 S2 H2 → LR ρ2 τ2 σ2 → D.bk σ2 H2
  | .ct τ2 S2 => ∀ (ρ2 : List Addr) (H2 : Hp) (σ2 : St), Ext ρ H ρ2 H2 → Rep G ρ2 S2 H2 → LR ρ2 τ2 σ2 → D.ct σ2 H2
  | .exc c d τ2 S2 => ∀ (ρ2 : List Addr) (H2 : Hp) (σ2 : St) (C : Addr) (dd : Option Addr), Ext ρ H ρ2 H2 → Rep G ρ2 S2 H2 → LR ρ2 τ2 σ2 → G.xcls c C → DR ρ2 H2 d dd → W (.ref C) dd σ2 H2
  | .bad => False
def denS (G : Gm) (W : WX) (m : MS) : TS := fun D σ H => ∃ ρ S τ, Rep G ρ S H ∧ LR ρ τ σ ∧ PostS G W ρ H D (m τ S)
/-- the tables of a program: its classes, its exceptions -/
structure Tab where
  cs : List (Str × List Str)
  xs : List Str
abbrev gm (T : Tab) (X : Cx) : Gm := ⟨X.K, X.mg, T.cs, T.xs⟩
abbrev DE (T : Tab) (X : Cx) (W : WX) (e : Expr) (m : ME) : Prop := PE X e (den (gm T X) W VR m)
abbrev DT (T : Tab) (X : Cx) (W : WX) (e : Expr) (m : MT) : Prop := PT X e (den (gm T X) W BR m)
abbrev DA (T : Tab) (X : Cx) (W : WX) (es : List Expr) (m : MA) : Prop := PA X es (den (gm T X) W VsR m)
abbrev DS (T : Tab) (X : Cx) (W : WX) (st : Stmt) (m : MS) : Prop := PS X st (denS (gm T X) W m)
abbrev DSs (T : Tab) (X : Cx) (W : WX) (st : List Stmt) (m : MS) : Prop := PSs X st (denS (gm T X) W m)
theorem _root_.L2.PE.imp {X : Cx} {e : Expr} {t t' : TE} (h : PE X e t) (k : ∀ σ H Q, t' σ H Q → t σ H Q) : PE X e t' := ⟨fun pins s σ H Q I q => h.run pins s σ H Q I (k _ _ _ q)⟩
theorem _root_.L2.PT.imp {X : Cx} {e : Expr} {t t' : TT} (h : PT X e t) (k : ∀ σ H Q, t' σ H Q → t σ H Q) : PT X e t' := ⟨fun pins s σ H Q I q => h.run pins s σ H Q I (k _ _ _ q)⟩
theorem _root_.L2.PA.imp {X : Cx} {e : List Expr} {t t' : TA} (h : PA X e t) (k : ∀ σ H Q, t' σ H Q → t σ H Q) : PA X e t' := ⟨fun pos pins s σ H Q I q => h.run pos pins s σ H Q I (k _ _ _ q)⟩
theorem _root_.L2.PS.imp {X : Cx} {e : Stmt} {t t' : TS} (h : PS X e t) (k : ∀ D σ H, t' D σ H → t D σ H) : PS X e t' := ⟨fun pins s σ H D I q => h.run pins s σ H D I (k _ _ _ q)⟩
theorem _root_.L2.PSs.imp {X : Cx} {e : List Stmt} {t t' : TS} (h : PSs X e t) (k : ∀ D σ H, t' D σ H → t D σ H) : PSs X e t' := ⟨fun pins s σ H D I q => h.run pins s σ H D I (k _ _ _ q)⟩
section
variable {G : Gm} {W : WX} {α β γ δ : Type} {rel1 : List Addr → α → β → Prop} {rel2 : List Addr → γ → δ → Prop} {ρ ρ' : List Addr} {H H' : Hp} {σ : St}
theorem Post.mono {Q : δ → Hp → Prop} {r : R γ} (h : Post G W rel2 ρ H σ Q r) (p : Ext ρ H ρ' H') : Post G W rel2 ρ' H' σ Q r := by
  cases r with
  | ok v S2 => exact fun ρ2 H2 w p2 => h ρ2 H2 w (p.trans p2)
  | exc c d S2 => exact fun ρ2 H2 C dd p2 => h ρ2 H2 C dd (p.trans p2)
  | bad => exact h
theorem Post.imp {Q Q' : δ → Hp → Prop} {r : R γ} (h : Post G W rel2 ρ H σ Q r) (k : ∀ w H, Q w H → Q' w H) : Post G W rel2 ρ H σ Q' r := by
  cases r with
  | ok v S2 => exact fun ρ2 H2 w p2 r2 x => k _ _ (h ρ2 H2 w p2 r2 x)
  | exc c d S2 => exact h
  | bad => exact h
/-- one part, then another -/
theorem Post.bind {Q : δ → Hp → Prop} {T : β → Hp → Prop} {r : R α} {f : α → Sto → R γ} (h : Post G W rel2 ρ H σ Q (r.bind f))
    (hf : ∀ (ρ1 : List Addr) (S1 : Sto) (H1 : Hp) (a : α) (b : β), Ext ρ H ρ1 H1 → Rep G ρ1 S1 H1 → rel1 ρ1 a b → Post G W rel2 ρ1 H1 σ Q (f a S1) → T b H1) : Post G W rel1 ρ H σ T r := by
  cases r with
  | ok v S2 => exact fun ρ2 H2 w p2 r2 x => hf ρ2 S2 H2 v w p2 r2 x (Post.mono (show Post G W rel2 ρ H σ Q (f v S2) from h) p2)
  | exc c d S2 => exact h
  | bad => exact h
end
theorem PostS.mono {G : Gm} {W : WX} {ρ ρ' : List Addr} {H H' : Hp} {D : Ends} {r : RS} (h : PostS G W ρ H D r) (p : Ext ρ H ρ' H') : PostS G W ρ' H' D r := by
  cases r with
  | nx τ S2 => exact fun ρ2 H2 w p2 => h ρ2 H2 w (p.trans p2)
  | rt v S2 => exact fun ρ2 H2 w p2 => h ρ2 H2 w (p.trans p2)
  | bk τ S2 => exact fun ρ2 H2 w p2 => h ρ2 H2 w (p.trans p2)
  | ct τ S2 => exact fun ρ2 H2 w p2 => h ρ2 H2 w (p.trans p2)
  | exc c d τ S2 => exact fun ρ2 H2 w C dd p2 => h ρ2 H2 w C dd (p.trans p2)
  | bad => exact h
def mVar (i : Nat) : ME := fun σ S => match σ[i]? with
  | some (some v) => .ok v S
  | _ => .bad
def mC (v : V) : ME := fun _ S => .ok v S
def mUn (o : V → Sto → R V) (a : ME) : ME := fun σ S => (a σ S).bind o
def mBin (o : V → V → Sto → R V) (a b : ME) : ME := fun σ S => (a σ S).bind fun x S1 => (b σ S1).bind fun y S2 => o x y S2
def mNil : MA := fun _ S => .ok [] S
def mCons (a : ME) (r : MA) : MA := fun σ S => (a σ S).bind fun x S1 => (r σ S1).bind fun xs S2 => .ok (x :: xs) S2
/-- a call by values -/
def mCall (f : List V → Sto → R V) (a : MA) : ME := fun σ S => (a σ S).bind f
/-- a value as a test: a bool -/
def mB (a : ME) : MT := fun σ S => (a σ S).bind fun x S1 => match x with
  | .bl b => .ok b S1
  | _ => .bad
def mNot (a : MT) : MT := fun σ S => (a σ S).bind fun b S1 => .ok (!b) S1
def mAnd (a b : MT) : MT := fun σ S => (a σ S).bind fun x S1 => if x = true then b σ S1 else .ok false S1
def mOr (a b : MT) : MT := fun σ S => (a σ S).bind fun x S1 => if x = true then .ok true S1 else b σ S1
def mIf (c : MT) (a b : ME) : ME := fun σ S => (c σ S).bind fun x S1 => if x = true then a σ S1 else b σ S1
section
variable {T : Tab} {W : WX} {X : Cx} {a b c : Expr} {ma mb : ME} {mt mu : MT} {pos : Pos} {rest : List Expr}
theorem de_var (i : Nat) {x : Str} (hN : X.N[i]? = some x := by rfl) (hv : Vis X.env.scope x := by first | exact Or.inl rfl | exact Or.inr (Or.inl rfl) | exact Or.inr (Or.inr rfl)) (hd : (x == ("__debug__" : Str)) = false := by decide)
    (hcd : (x == ("__classdict__" : Str)) = false := by decide) : DE T X W (.Name x pos) (mVar i) := by
  refine (pe_var hN hv hd hcd).imp fun σ H Q h => ?_
  obtain ⟨ρ, S, τ, r, l, h⟩ := h
  unfold mVar at h
  cases e : τ[i]? with
  | none => rw [e] at h; exact h.elim
  | some o =>
    rw [e] at h
    cases o with
    | none => exact h.elim
    | some v =>
      obtain ⟨y, ey, ry⟩ := prd_get l e
      cases y with
      | none => exact ry.elim
      | some w => exact ⟨w, ey, h ρ H w (Ext.refl) r ry⟩
theorem de_c {v : V} (h : PE X a (tC v)) (hv : ∀ i, v ≠ .ref i) : DE T X W a (mC v) := by
  refine h.imp fun σ H Q h => ?_
  obtain ⟨ρ, S, τ, r, l, h⟩ := h
  refine h ρ H v (Ext.refl) r ?_
  cases v with
  | ref i => exact absurd rfl (hv i)
  | _ => rfl
theorem de_int {i : Int} {j} : DE T X W (.Constant (.int i) j pos) (mC (.int i)) := de_c pe_int (fun _ h => by cases h)
theorem de_bl {i : Bool} {j} : DE T X W (.Constant (.bool i) j pos) (mC (.bl i)) := de_c pe_bl (fun _ h => by cases h)
theorem de_non {j} : DE T X W (.Constant .none j pos) (mC .non) := de_c pe_non (fun _ h => by cases h)
/-- an operation of two values in the store: what its function tells is what the machine does -/
def denR (G : Gm) (o : V → V → Sto → R V) : R2 := fun x y H Q => ∃ ρ S v u σ, Rep G ρ S H ∧ VR ρ v x ∧ VR ρ u y ∧ Post G (fun _ _ _ _ => False) VR ρ H σ Q (o v u S)
def denU (G : Gm) (o : V → Sto → R V) : V → Hp → VK → Prop := fun x H Q => ∃ ρ S v σ, Rep G ρ S H ∧ VR ρ v x ∧ Post G (fun _ _ _ _ => False) VR ρ H σ Q (o v S)
def denC (G : Gm) (o : List V → Sto → R V) : List V → Hp → VK → Prop := fun xs H Q => ∃ ρ S vs σ, Rep G ρ S H ∧ VsR ρ vs xs ∧ Post G (fun _ _ _ _ => False) VR ρ H σ Q (o vs S)
/-- an operation that lets no exception out -/
def R.quiet {α : Type} : R α → Prop
  | .exc _ _ _ => False
  | _ => True
theorem Post.still {α β : Type} {G : Gm} {W W' : WX} {rel : List Addr → α → β → Prop} {ρ : List Addr} {H : Hp} {σ σ' : St} {Q : β → Hp → Prop} {r : R α} (h : Post G W rel ρ H σ Q r) (k : r.quiet) : Post G W' rel ρ H σ' Q r := by
  cases r with
  | ok v S2 => exact h
  | exc c d S2 => exact k.elim
  | bad => exact h
abbrev Op2 (T : Tab) (X : Cx) (f : Value → Value → Sem Value) (o : V → V → Sto → R V) : Prop := OpR X f (denR (gm T X) o) ∧ ∀ x y S, (o x y S).quiet
theorem den_bin {G : Gm} {o : V → V → Sto → R V} {σ : St} {H : Hp} {Q : VK} (ho : ∀ x y S, (o x y S).quiet) (h : den G W VR (mBin o ma mb) σ H Q) : tOp (denR G o) (den G W VR ma) (den G W VR mb) σ H Q := by
  obtain ⟨ρ, S, τ, r, l, h⟩ := h
  refine ⟨ρ, S, τ, r, l, Post.bind h fun ρ1 S1 H1 x w p1 r1 x1 h1 => ?_⟩
  refine ⟨ρ1, S1, τ, r1, l.mono p1.pre, Post.bind h1 fun ρ2 S2 H2 y u p2 r2 y2 h2 => ?_⟩
  exact ⟨ρ2, S2, x, y, σ, r2, x1.mono p2.pre, y2, h2.still (ho _ _ _)⟩
theorem de_bin {op : Operator} {o : V → V → Sto → R V} (ho : Op2 T X (binaryOp op) o) (ha : DE T X W a ma) (hb : DE T X W b mb) : DE T X W (.BinOp a op b pos) (mBin o ma mb) := (pe_op ho.1 ha hb).imp fun _ _ _ h => den_bin ho.2 h
theorem de_cmp {op : CmpOp} {o : V → V → Sto → R V} (ho : Op2 T X (compareOp op) o) (ha : DE T X W a ma) (hb : DE T X W b mb) (hm : behindInMarks op b = false) : DE T X W (.Compare a [op] [b] pos) (mBin o ma mb) := (pe_cmpR ho.1 ha hb hm).imp fun _ _ _ h => den_bin ho.2 h
theorem Post.toB {G : Gm} {ρ : List Addr} {H : Hp} {σ : St} {Q : Bool → Hp → Prop} {r : R V} (h : Post G W BR ρ H σ Q (r.bind fun x S1 => match x with
  | .bl b => .ok b S1
  | _ => .bad)) : Post G W VR ρ H σ (fun x H' => ∃ k, x = .bl k ∧ Q k H') r := Post.bind h fun ρ1 S1 H1 x w p1 r1 x1 h1 => by
  cases x with
  | bl b =>
    cases x1
    exact ⟨b, rfl, h1 ρ1 H1 b (Ext.refl) r1 rfl⟩
  | _ => exact h1.elim
theorem den_toB {G : Gm} {m : ME} {σ : St} {H : Hp} {Q : Bool → Hp → Prop} (h : den G W BR (mB m) σ H Q) : den G W VR m σ H (fun x H' => ∃ k, x = .bl k ∧ Q k H') := by
  obtain ⟨ρ, S, τ, r, l, h⟩ := h
  exact ⟨ρ, S, τ, r, l, Post.toB h⟩
theorem dt_cmp {op : CmpOp} {o : V → V → Sto → R V} (ho : Op2 T X (compareOp op) o) (ha : DE T X W a ma) (hb : DE T X W b mb) (hm : behindInMarks op b = false) : DT T X W (.Compare a [op] [b] pos) (mB (mBin o ma mb)) :=
  (pt_cmpR ho.1 ha hb hm).imp fun σ H Q h => den_bin ho.2 (den_toB h)
theorem dt_val (h : DE T X W a ma) (he : ∀ whole, isTrue a X.env whole = (do let v ← whole; standAt a.pos; holding [v] (truthy v)) := by intro _; rfl) : DT T X W a (mB ma) := (pt_val h he).imp fun _ _ _ h => den_toB h
theorem dt_not (ha : DT T X W a mt) : DT T X W (.UnaryOp .Not a pos) (mNot mt) := (pt_not ha).imp fun σ H Q h => by
  obtain ⟨ρ, S, τ, r, l, h⟩ := h
  refine ⟨ρ, S, τ, r, l, Post.bind h fun ρ1 S1 H1 x w p1 r1 x1 h1 => ?_⟩
  cases x1
  exact h1 ρ1 H1 _ (Ext.refl) r1 rfl
abbrev DW (T : Tab) (X : Cx) (W : WX) (e : Expr) (m : MT) : Prop := PW X e (den (gm T X) W BR m)
theorem _root_.L2.PW.imp {e : Expr} {t t' : TT} (h : PW X e t) (k : ∀ σ H Q, t' σ H Q → t σ H Q) : PW X e t' := ⟨fun wh pins s σ H Q I q => h.run wh pins s σ H Q I (k _ _ _ q)⟩
theorem dw_and1 (ha : DT T X W a mt) : DW T X W (.BoolOp .And [a] pos) mt := pw_and1 ha
theorem dw_or1 (ha : DT T X W a mt) : DW T X W (.BoolOp .Or [a] pos) mt := pw_or1 ha
theorem dw_and (ha : DT T X W a mt) (hb : DW T X W (.BoolOp .And (b :: rest) pos) mu) : DW T X W (.BoolOp .And (a :: b :: rest) pos) (mAnd mt mu) := (pw_and ha hb).imp fun σ H Q h => by
  obtain ⟨ρ, S, τ, r, l, h⟩ := h
  refine ⟨ρ, S, τ, r, l, Post.bind h fun ρ1 S1 H1 x w p1 r1 x1 h1 => ?_⟩
  cases x1
  cases x with
  | true => exact ⟨ρ1, S1, τ, r1, l.mono p1.pre, h1⟩
  | false => exact h1 ρ1 H1 _ (Ext.refl) r1 rfl
theorem dw_or (ha : DT T X W a mt) (hb : DW T X W (.BoolOp .Or (b :: rest) pos) mu) : DW T X W (.BoolOp .Or (a :: b :: rest) pos) (mOr mt mu) := (pw_or ha hb).imp fun σ H Q h => by
  obtain ⟨ρ, S, τ, r, l, h⟩ := h
  refine ⟨ρ, S, τ, r, l, Post.bind h fun ρ1 S1 H1 x w p1 r1 x1 h1 => ?_⟩
  cases x1
  cases x with
  | true => exact h1 ρ1 H1 _ (Ext.refl) r1 rfl
  | false => exact ⟨ρ1, S1, τ, r1, l.mono p1.pre, h1⟩
theorem dt_w (h : DW T X W a mt) : DT T X W a mt := h.pt
end
end Mi
namespace Mi
open PySem PySem.Spec L2
open PyProof.Rows hiding St
def mAndV (a b : ME) : ME := fun σ S => (a σ S).bind fun x S1 => match x with
  | .bl true => b σ S1
  | .bl false => .ok (.bl false) S1
  | _ => .bad
def mOrV (a b : ME) : ME := fun σ S => (a σ S).bind fun x S1 => match x with
  | .bl true => .ok (.bl true) S1
  | .bl false => b σ S1
  | _ => .bad
def mNotV (a : ME) : ME := fun σ S => (a σ S).bind fun x S1 => match x with
  | .bl b => .ok (.bl (!b)) S1
  | _ => .bad
def mTup (a : MA) : ME := fun σ S => (a σ S).bind fun xs S1 => if xs.length ≤ sizeLine then .ok (.ref S1.length) (S1 ++ [.tup xs]) else .bad
def mLst (a : MA) : ME := fun σ S => (a σ S).bind fun xs S1 => if xs.length ≤ sizeLine then .ok (.ref S1.length) (S1 ++ [.lst xs]) else .bad
section
variable {T : Tab} {W : WX} {X : Cx} {a b c : Expr} {ma mb : ME} {mt mu : MT} {ms : MA} {pos : Pos} {rest es : List Expr}
theorem de_one {op : BoolOp} (ha : DE T X W a ma) : DE T X W (.BoolOp op [a] pos) ma := pe_one ha
theorem de_and (ha : DE T X W a ma) (hb : DE T X W (.BoolOp .And (b :: rest) pos) mb) : DE T X W (.BoolOp .And (a :: b :: rest) pos) (mAndV ma mb) := (pe_and ha hb).imp fun σ H Q h => by
  obtain ⟨ρ, S, τ, r, l, h⟩ := h
  refine ⟨ρ, S, τ, r, l, Post.bind h fun ρ1 S1 H1 x w p1 r1 x1 h1 => ?_⟩
  cases x with
  | bl k =>
    cases x1
    refine ⟨k, rfl, ?_⟩
    cases k with
    | true => exact ⟨ρ1, S1, τ, r1, l.mono p1.pre, h1⟩
    | false => exact h1 ρ1 H1 _ (Ext.refl) r1 rfl
  | _ => exact h1.elim
theorem da_nil : DA T X W [] mNil := pa_nil.imp fun σ H Q h => by
  obtain ⟨ρ, S, τ, r, l, h⟩ := h
  exact h ρ H [] (Ext.refl) r .nil
theorem da_cons (ha : DE T X W a ma) (hr : DA T X W es ms) (hs : starEach (a :: es) X.env = (false, eval a X.env) :: starEach es X.env := by rfl) : DA T X W (a :: es) (mCons ma ms) := (pa_cons ha hr hs).imp fun σ H Q h => by
  obtain ⟨ρ, S, τ, r, l, h⟩ := h
  refine ⟨ρ, S, τ, r, l, Post.bind h fun ρ1 S1 H1 x w p1 r1 x1 h1 => ?_⟩
  refine ⟨ρ1, S1, τ, r1, l.mono p1.pre, Post.bind h1 fun ρ2 S2 H2 xs ws p2 r2 x2 h2 => ?_⟩
  exact h2 ρ2 H2 _ (Ext.refl) r2 (.cons (x1.mono p2.pre) x2)
theorem new_ref {ρ : List Addr} {S : Sto} {p : Addr} (h : ρ.length = S.length) : VR (ρ ++ [p]) (.ref S.length) (.ref p) := ⟨p, by rw [← h, List.getElem?_append_right (Nat.le_refl _), Nat.sub_self]; rfl, rfl⟩
theorem de_tup {k} (h : DA T X W es ms) : DE T X W (.Tuple es k pos) (mTup ms) := (pe_tup h).imp fun σ H Q h => by
  obtain ⟨ρ, S, τ, r, l, h⟩ := h
  refine ⟨ρ, S, τ, r, l, Post.bind h fun ρ1 S1 H1 xs ws p1 r1 x1 h1 => ?_⟩
  by_cases z : xs.length ≤ sizeLine
  · rw [if_pos z] at h1
    refine ⟨by rw [← prd_len x1]; exact z, fun p np => h1 (ρ1 ++ [p]) _ _ (Ext.new np) (r1.alloc np ⟨ws, rfl, VsR.mono x1 (List.prefix_append _ _)⟩) (new_ref r1.len)⟩
  · rw [if_neg z] at h1
    exact h1.elim
theorem de_lst (h : DA T X W es ms) : DE T X W (.List es pos) (mLst ms) := (pe_lst h).imp fun σ H Q h => by
  obtain ⟨ρ, S, τ, r, l, h⟩ := h
  refine ⟨ρ, S, τ, r, l, Post.bind h fun ρ1 S1 H1 xs ws p1 r1 x1 h1 => ?_⟩
  by_cases z : xs.length ≤ sizeLine
  · rw [if_pos z] at h1
    refine ⟨by rw [← prd_len x1]; exact z, fun p np => h1 (ρ1 ++ [p]) _ _ (Ext.new np) (r1.alloc np ⟨ws, rfl, VsR.mono x1 (List.prefix_append _ _)⟩) (new_ref r1.len)⟩
  · rw [if_neg z] at h1
    exact h1.elim
end
structure Ctx (X : Cx) (W : WX) (k : Nat) : Prop where
  calm : X.calm = true
  nd : X.N.Nodup
  room : Room k X.A
  tk : Takes X W ∨ ∀ c d σ H, ¬ W c d σ H
  own : PassesOwn (model X.prog X.w) X.A X.env X.xe
theorem Ctx.pass {X : Cx} {W : WX} {k : Nat} (C : Ctx X W k) : ∀ σ, PassesAt (L2.CX X.prog X.w) X σ (WE W σ) := fun σ => by
  rcases C.tk with h | h
  · exact passAt h σ
  · intro _ _ _ _ _ _ c
    obtain ⟨_, _, _, _, _, _, _, _, _, _, _, _, z⟩ := c
    exact (h _ _ _ _ z).elim
/-- .. of a statement: what is raised is taken -/
structure CtS (X : Cx) (W : WX) (k : Nat) : Prop extends Ctx X W k where
  takes : Takes X W
  stk : X.stack = X.env :: X.outer
  frm : X.env.frame = some X.env.locals
  ex : X.ex = []
abbrev Fn := List V → Sto → R V
/-- a def keeps to its function -/
def spOf (G : Gm) (n : Nat) (f : Fn) : Sp := fun vs H Q E => vs.length = n ∧ ∃ ρ S args σ, Rep G ρ S H ∧ VsR ρ args vs ∧ Post G (fun cls d _ H => E cls d H) VR ρ H σ Q (f args S)
/-- the module's def x is the function f -/
def FnF (T : Tab) (P : Program) (w : World) (K : PySem.W.Frag) (mg : Str → Option Value) (base : Heap) (x : Str) (n k : Nat) (f : Fn) : Prop :=
  ∃ (a : Addr) (fd : FuncData) (ps : List Str), mg x = some (.ref a) ∧ PySem.W.keepIn K (.ref a) = true ∧ Binds K fd ps [] ∧ FnOk P w K mg base (L2.CX P w) k a fd ps (spOf ⟨K, mg, T.cs, T.xs⟩ n f)
abbrev FnX (T : Tab) (X : Cx) (x : Str) (n k : Nat) (f : Fn) : Prop := FnF T X.prog X.w X.K X.mg X.base x n k f
/-- the method m of the class c is the function f -/
def MeF (T : Tab) (P : Program) (w : World) (K : PySem.W.Frag) (mg : Str → Option Value) (base : Heap) (c : Nat) (m : Str) (n k : Nat) (f : Fn) : Prop :=
  ∃ (x : Str) (L : List Str) (C a : Addr) (fd : FuncData) (ps : List Str), T.cs[c]? = some (x, L) ∧ mg x = some (.ref C) ∧ Cls K C ∧ Meth K C m a ∧ m ∉ L ∧ Binds K fd ps [] ∧ FnOk P w K mg base (L2.CX P w) k a fd ps (spOf ⟨K, mg, T.cs, T.xs⟩ n f)
abbrev MeX (T : Tab) (X : Cx) (c : Nat) (m : Str) (n k : Nat) (f : Fn) : Prop := MeF T X.prog X.w X.K X.mg X.base c m n k f
section
variable {T : Tab} {W : WX} {X : Cx} {e o : Expr} {ma : ME} {ms : MA} {x m : Str} {p pos apos : Pos} {es : List Expr} {n j k : Nat} {f : Fn}
theorem run_f {a : Addr} {fd : FuncData} {ps : List Str} {pins : List (Addr × Obj)} {σ : St} {H : Hp} {s : Shared} {Q : VK} {us : List Value} {vs : List V} {S : Sto} {ρ : List Addr} {args : List V} (C : Ctx X W k)
    (F : FnOk X.prog X.w X.K X.mg X.base (L2.CX X.prog X.w) j a fd ps (spOf (gm T X) n f)) (hj : j ≤ k) (hb : Binds X.K fd ps []) (I : Inv X pins σ H s) (r : Vals vs us) (hn : vs.length = n)
    (rp : Rep (gm T X) ρ S H) (ra : VsR ρ args vs) (h : Post (gm T X) W VR ρ H σ Q (f args S)) : wpAny (model X.prog X.w) X.A (call (.ref a) us) (EP X pins σ Q) X.xe s := by
  refine run_fnS (E := WE W) (F.mono hj) C.room hb (C.pass σ) I r ⟨hn, ρ, S, args, σ, rp, ra, ?_⟩
  cases e : f args S with
  | ok v S2 => rw [e] at h; exact h
  | exc c d S2 => rw [e] at h; exact h
  | bad => rw [e] at h; exact h.elim
theorem args_len {xs ws : List V} {ρ : List Addr} (h : VsR ρ xs ws) : ws.length = xs.length := (prd_len h).symm
/-- f(..): the number of arguments is looked at -/
def mApp (n : Nat) (f : Fn) (a : MA) : ME := fun σ S => (a σ S).bind fun xs S1 => if xs.length = n then f xs S1 else .bad
theorem de_call (C : Ctx X W k) (F : FnX T X x n j f) (hj : j ≤ k) (ha : DA T X W (e :: es) ms) (hg : Gl X x := by rfl) (hdb : (x == ("__debug__" : Str)) = false := by decide)
    (he : starEach (e :: es) X.env = (false, eval e X.env) :: starEach es X.env := by rfl) (hpl : (backTo pos (starEach es X.env)).any (·.1) = false := by rfl) : DE T X W (.Call (.Name x p) (e :: es) [] pos) (mApp n f ms) := by
  obtain ⟨a, fd, ps, hm, hk, hb, F⟩ := F
  refine ⟨fun pins s σ H Q I h => ?_⟩
  obtain ⟨ρ, S, τ, r, l, h⟩ := h
  refine wpAny_Call_Name_kw (ld_glob I hg hm ?_ hdb)
  have h' : den (gm T X) W VsR ms σ H (fun vs H1 => vs.length = n ∧ ∃ ρ1 S1 args, Rep (gm T X) ρ1 S1 H1 ∧ VsR ρ1 args vs ∧ Post (gm T X) W VR ρ1 H1 σ Q (f args S1)) := by
    refine ⟨ρ, S, τ, r, l, Post.bind h fun ρ1 S1 H1 xs ws p1 r1 x1 h1 => ?_⟩
    by_cases z : xs.length = n
    · rw [if_pos z] at h1
      exact ⟨(args_len x1).trans z, ρ1, S1, xs, r1, x1, h1⟩
    · rw [if_neg z] at h1
      exact h1.elim
  refine PySem.W.callWith_K (h₀ := X.base) I.ok.mod.kin hk (thn (ha.run pos pins s σ H _ I h') fun us s1 ⟨vs, H1, I1, r, q⟩ => ⟨I1.kIn, ?_⟩) he hpl
  obtain ⟨hn, ρ1, S1, args, r1, x1, h1⟩ := q
  exact run_f C F hj hb I1 r hn r1 x1 h1
def look {α : Type} : List (Nat × α) → Nat → Option α
  | [], _ => none
  | (c, f) :: r, d => if c = d then some f else look r d
def MTabF (T : Tab) (P : Program) (w : World) (K : PySem.W.Frag) (mg : Str → Option Value) (base : Heap) (m : Str) (n k : Nat) : List (Nat × Fn) → Prop
  | [] => True
  | (c, f) :: r => MeF T P w K mg base c m n k f ∧ MTabF T P w K mg base m n k r
abbrev MTab (T : Tab) (X : Cx) (m : Str) (n k : Nat) (tab : List (Nat × Fn)) : Prop := MTabF T X.prog X.w X.K X.mg X.base m n k tab
theorem MTab.get {tab : List (Nat × Fn)} : ∀ {tab : List (Nat × Fn)} {c : Nat}, MTab T X m n k tab → look tab c = some f → MeX T X c m n k f
  | [], _, _, e => by cases e
  | (d, g) :: r, c, h, e => by
    unfold look at e
    by_cases z : d = c
    · rw [if_pos z] at e
      cases e
      rw [← z]
      exact h.1
    · rw [if_neg z] at e
      exact MTab.get (tab := tab) h.2 e
theorem AR.no {ρ : List Addr} {L : List Str} {fs : List (Option V)} {gs : List (Str × V)} (h : AR ρ L fs gs) (n : m ∉ L) : gs.lookup m = none := by
  cases e : gs.lookup m with
  | none => rfl
  | some v =>
    have := PySem.mem_of_lookup e
    exact absurd (h.sub m (List.mem_map_of_mem (f := (·.1)) this)) n
/-- the classes of the table have the attribute at its place -/
def FTabF (T : Tab) (K : PySem.W.Frag) (mg : Str → Option Value) (f : Str) : List (Nat × Nat) → Prop
  | [] => True
  | (c, j) :: r => (∃ x L C, T.cs[c]? = some (x, L) ∧ L[j]? = some f ∧ L.Nodup ∧ L.length < 1000 ∧ mg x = some (.ref C) ∧ Cls K C ∧ NoAttr K C f) ∧ FTabF T K mg f r
abbrev FTab (T : Tab) (X : Cx) (f : Str) (tab : List (Nat × Nat)) : Prop := FTabF T X.K X.mg f tab
theorem FTab.get : ∀ {tab : List (Nat × Nat)} {c i : Nat}, FTab T X m tab → look tab c = some i → ∃ x L C, T.cs[c]? = some (x, L) ∧ L[i]? = some m ∧ L.Nodup ∧ L.length < 1000 ∧ X.mg x = some (.ref C) ∧ Cls X.K C ∧ NoAttr X.K C m
  | [], _, _, _, e => by cases e
  | (d, g) :: r, c, i, h, e => by
    unfold look at e
    by_cases z : d = c
    · rw [if_pos z] at e
      cases e
      rw [← z]
      exact h.1
    · rw [if_neg z] at e
      exact FTab.get h.2 e
end
end Mi
namespace Mi
open PySem PySem.Spec L2
open PyProof.Rows hiding St
def R.lift {α : Type} : R α → St → (α → Sto → RS) → RS
  | .ok a S, _, f => f a S
  | .exc c d S, σ, _ => .exc c d σ S
  | .bad, _, _ => .bad
def RS.seq : RS → (St → Sto → RS) → RS
  | .nx σ S, f => f σ S
  | r, _ => r
def mSkip : MS := fun σ S => .nx σ S
def mSeq (a b : MS) : MS := fun σ S => (a σ S).seq b
def mExpr (a : ME) : MS := fun σ S => (a σ S).lift σ fun _ S1 => .nx σ S1
def mSet (i : Nat) (a : ME) : MS := fun σ S => (a σ S).lift σ fun v S1 => .nx (σ.set i (some v)) S1
def mRet (a : ME) : MS := fun σ S => (a σ S).lift σ fun v S1 => .rt v S1
def mRetN : MS := fun _ S => .rt .non S
def mBrk : MS := fun σ S => .bk σ S
def mIfS (c : MT) (a b : MS) : MS := fun σ S => (c σ S).lift σ fun x S1 => if x = true then a σ S1 else b σ S1
def mAug (i : Nat) (o : V → V → Sto → R V) (a : ME) : MS := fun σ S => (mVar i σ S).lift σ fun x S0 => (a σ S0).lift σ fun y S1 => (o x y S1).lift σ fun z S2 => .nx (σ.set i (some z)) S2
/-- o[i] = e by a store's function -/
abbrev Op3 := V → V → V → Sto → R Unit
def mSetI (t : Op3) (o i a : ME) : MS := fun σ S => (a σ S).lift σ fun v S1 => (o σ S1).lift σ fun x S2 => (i σ S2).lift σ fun y S3 => (t x y v S3).lift σ fun _ S4 => .nx σ S4
section
variable {G : Gm} {W : WX} {α β : Type} {rel : List Addr → α → β → Prop} {ρ : List Addr} {H : Hp} {σ τ : St} {D : Ends}
theorem PostS.lift {T : β → Hp → Prop} {r : R α} {f : α → Sto → RS} (h : PostS G W ρ H D (r.lift τ f)) (l : LR ρ τ σ)
    (hf : ∀ (ρ1 : List Addr) (S1 : Sto) (H1 : Hp) (a : α) (b : β), Ext ρ H ρ1 H1 → Rep G ρ1 S1 H1 → rel ρ1 a b → LR ρ1 τ σ → PostS G W ρ1 H1 D (f a S1) → T b H1) : Post G W rel ρ H σ T r := by
  cases r with
  | ok v S2 => exact fun ρ2 H2 w p2 r2 x => hf ρ2 S2 H2 v w p2 r2 x (l.mono p2.pre) (PostS.mono (show PostS G W ρ H D (f v S2) from h) p2)
  | exc c d S2 => exact fun ρ2 H2 C dd p2 r2 => h ρ2 H2 σ C dd p2 r2 (l.mono p2.pre)
  | bad => exact h
end
section
variable {T : Tab} {W : WX} {X : Cx} {e o c i : Expr} {ma mb mo mi : ME} {mt : MT} {ms mu : MS} {x m : Str} {p pos pos' apos : Pos} {st : Stmt} {sts sts' : List Stmt} {n j k : Nat} {f : Fn}
theorem ds_nil : DSs T X W [] mSkip := pss_nil.imp fun D σ H h => by
  obtain ⟨ρ, S, τ, r, l, h⟩ := h
  exact h ρ H σ (Ext.refl) r l
theorem ds_one (h : DS T X W st ms) : DSs T X W [st] ms := pss_one h
theorem ds_cons (h : DS T X W st ms) (hr : DSs T X W sts mu) : DSs T X W (st :: sts) (mSeq ms mu) := (pss_cons h hr).imp fun D σ H h => by
  obtain ⟨ρ, S, τ, r, l, h⟩ := h
  refine ⟨ρ, S, τ, r, l, ?_⟩
  unfold mSeq at h
  cases e : ms τ S with
  | nx τ2 S2 =>
    rw [e] at h
    exact fun ρ2 H2 σ2 p2 r2 l2 => ⟨ρ2, S2, τ2, r2, l2, PostS.mono (show PostS _ W ρ H D (mu τ2 S2) from h) p2⟩
  | rt v S2 => rw [e] at h; exact h
  | bk τ2 S2 => rw [e] at h; exact h
  | ct τ2 S2 => rw [e] at h; exact h
  | exc c d τ2 S2 => rw [e] at h; exact h
  | bad => rw [e] at h; exact h.elim
theorem ds_expr (he : DE T X W e ma) (hs : swapsWith e none pos.line X.env = pure false := by rfl) : DS T X W (.Expr e pos) (mExpr ma) := (ps_expr he hs).imp fun D σ H h => by
  obtain ⟨ρ, S, τ, r, l, h⟩ := h
  refine ⟨ρ, S, τ, r, l, PostS.lift h l fun ρ1 S1 H1 v w p1 r1 x1 l1 h1 => ?_⟩
  exact h1 ρ1 H1 σ (Ext.refl) r1 l1
theorem ds_ret (he : DE T X W e ma) : DS T X W (.Return (some e) pos) (mRet ma) := (ps_ret he).imp fun D σ H h => by
  obtain ⟨ρ, S, τ, r, l, h⟩ := h
  refine ⟨ρ, S, τ, r, l, PostS.lift h l fun ρ1 S1 H1 v w p1 r1 x1 l1 h1 => ?_⟩
  exact h1 ρ1 H1 w (Ext.refl) r1 x1
theorem ds_if (hc : DT T X W c mt) (ha : DSs T X W sts ms) (hb : DSs T X W sts' mu) : DS T X W (.If c sts sts' pos) (mIfS mt ms mu) := (ps_if hc ha hb).imp fun D σ H h => by
  obtain ⟨ρ, S, τ, r, l, h⟩ := h
  refine ⟨ρ, S, τ, r, l, PostS.lift h l fun ρ1 S1 H1 v w p1 r1 x1 l1 h1 => ?_⟩
  cases x1
  cases v with
  | true => exact ⟨ρ1, S1, τ, r1, l1, h1⟩
  | false => exact ⟨ρ1, S1, τ, r1, l1, h1⟩
theorem lr_set {ρ : List Addr} {τ σ : St} {v w : V} (l : LR ρ τ σ) (h : VR ρ v w) (i : Nat) : LR ρ (τ.set i (some v)) (σ.set i (some w)) := prd_set (F := OR ρ) (x := some v) (y := some w) h i l
theorem ds_set {i : Nat} (C : X.N.Nodup) (he : DE T X W e ma) (hi : X.N[i]? = some x := by rfl) (hx : Loc X.env.scope x := by first | exact Or.inl rfl | exact Or.inr rfl) (hs : swapsWith e (some (.Name x pos')) pos.line X.env = pure false := by rfl)
    (hf : X.fn x = true ∨ X.env.scope.names.lookup x = some .local := by first | exact .inl rfl | exact .inr rfl) : DS T X W (.Assign [.Name x pos'] e pos) (mSet i ma) := (ps_set (i := i) C hi hx he hs hf).imp fun D σ H h => by
  obtain ⟨ρ, S, τ, r, l, h⟩ := h
  refine ⟨ρ, S, τ, r, l, PostS.lift h l fun ρ1 S1 H1 v w p1 r1 x1 l1 h1 => ?_⟩
  exact h1 ρ1 H1 _ (Ext.refl) r1 (lr_set l1 x1 i)
theorem AR.put {ρ : List Addr} {L : List Str} {fs : List (Option V)} {gs : List (Str × V)} {j : Nat} {v w : V} (h : AR ρ L fs gs) (hn : L.Nodup) (hj : L[j]? = some m) (r : VR ρ v w) : AR ρ L (fs.set j (some v)) (putF m w gs) := by
  have keys : ∀ gs : List (Str × V), (putF m w gs).map (·.1) = if m ∈ gs.map (·.1) then gs.map (·.1) else gs.map (·.1) ++ [m] := by
    intro gs
    induction gs with
    | nil => rfl
    | cons q gs ih =>
      obtain ⟨g, y⟩ := q
      show (if g = m then (g, w) :: gs else (g, y) :: putF m w gs).map (·.1) = _
      by_cases z : g = m
      · rw [if_pos z, if_pos (by rw [List.map_cons, ← z]; exact List.mem_cons_self)]
        rfl
      · rw [if_neg z, List.map_cons, ih, List.map_cons]
        by_cases z2 : m ∈ gs.map (·.1)
        · rw [if_pos z2, if_pos (List.mem_cons_of_mem _ z2)]
        · rw [if_neg z2, if_neg (fun q => by
            rcases List.mem_cons.mp q with e | e
            · exact z e.symm
            · exact z2 e)]
          rfl
  refine ⟨by rw [List.length_set]; exact h.len, fun i y u hi hu => ?_, ?_, fun y hy => ?_⟩
  · rw [lookup_putF]
    by_cases z : i = j
    · subst z
      rw [hj] at hi
      cases hi
      have hlt : i < fs.length := by rw [h.len]; exact (List.getElem?_eq_some_iff.mp hj).1
      rw [List.getElem?_set_self hlt] at hu
      cases hu
      rw [if_pos rfl]
      exact ⟨w, rfl, r⟩
    · rw [List.getElem?_set_ne (Ne.symm z)] at hu
      have ne : y ≠ m := fun q => z (by
        subst q
        have h1 := List.getElem?_eq_some_iff.mp hi
        have h2 := List.getElem?_eq_some_iff.mp hj
        exact (List.getElem_inj hn).mp (h1.2.trans h2.2.symm))
      rw [if_neg ne]
      exact h.at_ i y u hi hu
  · rw [keys]
    by_cases z : m ∈ gs.map (·.1)
    · rw [if_pos z]; exact h.nd
    · rw [if_neg z, List.nodup_append]
      exact ⟨h.nd, by simp, fun a ha b hb q => by
        rw [List.mem_singleton] at hb
        exact z (by rw [← hb, ← q]; exact ha)⟩
  · rw [keys] at hy
    by_cases z : m ∈ gs.map (·.1)
    · rw [if_pos z] at hy; exact h.sub y hy
    · rw [if_neg z] at hy
      rcases List.mem_append.mp hy with q | q
      · exact h.sub y q
      · rw [List.mem_singleton] at q
        rw [q]
        exact List.mem_iff_getElem?.mpr ⟨j, hj⟩
/-- a store o[i] = v in the store, as its function tells -/
def denI3 (G : Gm) (t : Op3) : TSet := fun o i v H Q => ∃ ρ S x y z σ, Rep G ρ S H ∧ VR ρ x o ∧ VR ρ y i ∧ VR ρ z v ∧ Post G (fun _ _ _ _ => False) (fun _ (_ : Unit) (_ : Unit) => True) ρ H σ (fun _ H' => Q H') (t x y z S)
abbrev St3 (T : Tab) (X : Cx) (t : Op3) : Prop := PSet X (denI3 (gm T X) t) ∧ ∀ x y z S, (t x y z S).quiet
theorem ds_setI {t : Op3} (ht : St3 T X t) (ho : DE T X W o mo) (hi : DE T X W i mi) (he : DE T X W e ma)
    (ha : ∀ v, assign (.Subscript o i pos') X.env v = (do
      let ov ← holding [v] (eval o X.env)
      let iv ← holding [v, ov] (eval i X.env)
      standAt pos'
      holding [v, ov, iv] (setItem ov iv v)
      release [v, ov, iv] []) := by intro _; rfl)
    (hs : swapsWithSole [.Subscript o i pos'] e pos.line X.env = pure false := by rfl) (hw : swappedStores [.Subscript o i pos'] e X.env = pure none := by rfl)
    (h1 : (assignEach [.Subscript o i pos'] X.env).map (·.2) = [assign (.Subscript o i pos') X.env] := by rfl) : DS T X W (.Assign [.Subscript o i pos'] e pos) (mSetI t mo mi ma) :=
  (ps_asg he (pg_sub ho hi ht.1 ha) hs hw h1).imp fun D σ H h => by
    obtain ⟨ρ, S, τ, r, l, h⟩ := h
    refine ⟨ρ, S, τ, r, l, PostS.lift h l fun ρ1 S1 H1 v w p1 r1 x1 l1 h1 => ?_⟩
    refine ⟨ρ1, S1, τ, r1, l1, PostS.lift h1 l1 fun ρ2 S2 H2 ov ow p2 r2 x2 l2 h2 => ?_⟩
    refine ⟨ρ2, S2, τ, r2, l2, PostS.lift h2 l2 fun ρ3 S3 H3 iv iw p3 r3 x3 l3 h3 => ?_⟩
    refine ⟨ρ3, S3, ov, iv, v, σ, r3, x2.mono p3.pre, x3, x1.mono (p2.trans p3).pre, Post.still (PostS.lift (rel := fun _ _ _ => True) h3 l3 fun ρ4 S4 H4 a b p4 r4 x4 l4 h4 => ?_) (ht.2 _ _ _ _)⟩
    exact h4 ρ4 H4 σ (Ext.refl) r4 l4
end
def mWhile (c : MT) (b : MS) : Nat → MS
  | 0 => fun _ _ => .bad
  | n + 1 => fun σ S => (c σ S).lift σ fun x S1 => if x = true then (match b σ S1 with
      | .nx σ2 S2 => mWhile c b n σ2 S2
      | .ct σ2 S2 => mWhile c b n σ2 S2
      | .bk σ2 S2 => .nx σ2 S2
      | r => r) else .nx σ S1
section
variable {T : Tab} {W : WX} {X : Cx} {c : Expr} {mt : MT} {ms : MS} {pos : Pos} {sts : List Stmt} {k : Nat}
theorem ds_while (n : Nat) (C : Ctx X W k) (hc : DT T X W c mt) (hb : DSs T X W sts ms) : DS T X W (.While c sts [] pos) (mWhile mt ms n) := (ps_while C.own hc hb).imp fun D σ H h => by
  obtain ⟨ρ, S, τ, r, l, h⟩ := h
  refine ⟨fun m σ H => ∃ ρ S τ, Rep (gm T X) ρ S H ∧ LR ρ τ σ ∧ PostS (gm T X) W ρ H D (mWhile mt ms m τ S), ⟨n, ρ, S, τ, r, l, h⟩, fun m σ H hW => ?_⟩
  obtain ⟨ρ, S, τ, r, l, h⟩ := hW
  cases m with
  | zero => exact h.elim
  | succ m =>
    refine ⟨ρ, S, τ, r, l, PostS.lift h l fun ρ1 S1 H1 v w p1 r1 x1 l1 h1 => ?_⟩
    cases x1
    cases v with
    | false => exact h1 ρ1 H1 σ (Ext.refl) r1 l1
    | true =>
      refine ⟨fun σ' H' => ∃ ρ S τ, Rep (gm T X) ρ S H' ∧ LR ρ τ σ' ∧ PostS (gm T X) W ρ H' D (mWhile mt ms m τ S), fun σ' H' hN => ⟨m, Nat.lt_succ_self _, hN⟩, ρ1, S1, τ, r1, l1, ?_⟩
      have h1 : PostS (gm T X) W ρ1 H1 D (match ms τ S1 with
      | .nx σ2 S2 => mWhile mt ms m σ2 S2
      | .ct σ2 S2 => mWhile mt ms m σ2 S2
      | .bk σ2 S2 => .nx σ2 S2
      | r => r) := h1
      cases e : ms τ S1 with
      | nx τ2 S2 => rw [e] at h1; exact fun ρ2 H2 σ2 p2 r2 l2 => ⟨ρ2, S2, τ2, r2, l2, PostS.mono h1 p2⟩
      | ct τ2 S2 => rw [e] at h1; exact fun ρ2 H2 σ2 p2 r2 l2 => ⟨ρ2, S2, τ2, r2, l2, PostS.mono h1 p2⟩
      | bk τ2 S2 => rw [e] at h1; exact h1
      | rt v S2 => rw [e] at h1; exact h1
      | exc c d τ2 S2 => rw [e] at h1; exact h1
      | bad => rw [e] at h1; exact h1
end
/-- an item of a walk: a value; or a new tuple of some values -/
inductive Itv where
  | v (x : V) | t (xs : List V)
def ItvR (ρ : List Addr) (H : Hp) : Itv → V → Prop
  | .v x, w => VR ρ x w
  | .t xs, w => ∃ p ws, w = .ref p ∧ H p = some (.tup ws) ∧ VsR ρ xs ws
abbrev Tg := Itv → St → Sto → Option St
def tgName (i : Nat) : Tg := fun it σ _ => match it with
  | .v x => some (σ.set i (some x))
  | .t _ => none
def setAll : List Nat → List V → St → Option St
  | [], [], σ => some σ
  | i :: is, x :: xs, σ => setAll is xs (σ.set i (some x))
  | _, _, _ => none
def rdT (S : Sto) : V → Option (List V)
  | .ref i => match S[i]? with
    | some (.tup xs) => some xs
    | _ => none
  | _ => none
def tgTup (is : List Nat) : Tg := fun it σ S => match it with
  | .t xs => setAll is xs σ
  | .v x => match rdT S x with
    | some xs => setAll is xs σ
    | none => none
/-- but for the places of a list as it was -/
def Bt (is : List Nat) (σ σ2 : St) : Prop := σ2.length = σ.length ∧ ∀ j, j ∉ is → σ2[j]? = σ[j]?
theorem Bt.refl (is : List Nat) (σ : St) : Bt is σ σ := ⟨rfl, fun _ _ => rfl⟩
theorem Bt.set {is : List Nat} {σ σ2 : St} {i : Nat} {v : Option V} (h : Bt is (σ.set i v) σ2) : Bt (i :: is) σ σ2 := ⟨by rw [h.1, List.length_set], fun j hj => by
  rw [h.2 j fun z => hj (List.mem_cons_of_mem _ z), List.getElem?_set_ne fun z => hj (by rw [z]; exact List.mem_cons_self)]⟩
def TgOk (G : Gm) (g : TG) (is : List Nat) (tg : Tg) : Prop := ∀ (ρ : List Addr) (S : Sto) (H : Hp) (τ σ : St) (it : Itv) (w : V) (τ2 : St) (Q : St → Hp → Prop), Rep G ρ S H → LR ρ τ σ → ItvR ρ H it w → tg it τ S = some τ2 → (∀ σ2, LR ρ τ2 σ2 → Bt is σ σ2 → Q σ2 H) → g w σ H Q
def DG (T : Tab) (X : Cx) (e : Expr) (is : List Nat) (tg : Tg) : Prop := ∃ g : TG, PG X e g ∧ TgOk (gm T X) g is tg
theorem Rep.rdT {G : Gm} {ρ : List Addr} {S : Sto} {H : Hp} {v w : V} {xs : List V} (r : Rep G ρ S H) (h : rdT S v = some xs) (x : VR ρ v w) : ∃ a ws, w = .ref a ∧ H a = some (.tup ws) ∧ VsR ρ xs ws := by
  unfold Mi.rdT at h
  split at h
  · split at h
    · rename_i i _ ys es
      cases h
      obtain ⟨a, u, ew, _, eh, ys, eu, vr⟩ := r.ref es x
      subst eu
      exact ⟨a, ys, ew, eh, vr⟩
    · cases h
  · cases h
section
variable {T : Tab} {W : WX} {X : Cx} {x : Str} {pos : Pos} {k : Nat}
theorem tgok_name {G : Gm} {i : Nat} : TgOk G (gName i) [i] (tgName i) := fun ρ S H τ σ it w τ2 Q r l x e q => by
  cases it with
  | v y => cases e; exact q _ (lr_set l x i) (Bt.refl [] _).set
  | t ys => cases e
def gAll : List Nat → TGs
  | [] => gNil
  | i :: is => gCons (gName i) (gAll is)
theorem gAll_of {ρ : List Addr} {H : Hp} : ∀ {is : List Nat} {τ σ : St} {xs ws : List V} {τ2 : St} {Q : St → Hp → Prop}, LR ρ τ σ → VsR ρ xs ws → setAll is xs τ = some τ2 → (∀ σ2, LR ρ τ2 σ2 → Bt is σ σ2 → Q σ2 H) → gAll is ws σ H Q
  | [], _, _, _, _, _, _, l, .nil, e, q => by cases e; exact ⟨rfl, q _ l (Bt.refl _ _)⟩
  | [], _, _, _, _, _, _, l, .cons _ _, e, q => by cases e
  | _ :: _, _, _, _, _, _, _, l, .nil, e, q => by cases e
  | i :: is, _, _, _, _, _, _, l, .cons r rr, e, q => ⟨_, _, rfl, gAll_of (lr_set l r i) rr e fun σ2 l2 b2 => q σ2 l2 b2.set⟩
theorem setAll_len : ∀ {is : List Nat} {xs : List V} {σ τ : St}, setAll is xs σ = some τ → xs.length = is.length
  | [], [], _, _, _ => rfl
  | [], _ :: _, _, _, h => by cases h
  | _ :: _, [], _, _, h => by cases h
  | i :: is, x :: xs, σ, τ, h => by
    have := setAll_len (is := is) (xs := xs) (show setAll is xs (σ.set i (some x)) = some τ from h)
    rw [List.length_cons, List.length_cons, this]
theorem tgok_tup {G : Gm} {is : List Nat} : TgOk G (gTup G.K is.length (gAll is)) is (tgTup is) := fun ρ S H τ σ it w τ2 Q r l x e q => by
  cases it with
  | t xs =>
    obtain ⟨p, ws, ew, hp, vr⟩ := x
    refine ⟨p, ws, ew, .inl (.inl hp), ?_, gAll_of l vr e q⟩
    rw [← prd_len vr]
    exact setAll_len e
  | v y =>
    unfold tgTup at e
    dsimp only at e
    cases er : Mi.rdT S y with
    | none => rw [er] at e; cases e
    | some xs =>
      rw [er] at e
      obtain ⟨a, ws, ew, hp, vr⟩ := r.rdT er x
      refine ⟨a, ws, ew, .inl (.inl hp), ?_, gAll_of l vr e q⟩
      rw [← prd_len vr]
      exact setAll_len e
theorem dg_name {i : Nat} (C : X.N.Nodup) (hi : X.N[i]? = some x := by rfl) (hx : Loc X.env.scope x := by first | exact Or.inl rfl | exact Or.inr rfl) (hf : X.fn x = true ∨ X.env.scope.names.lookup x = some .local := by first | exact .inl rfl | exact .inr rfl) : DG T X (.Name x pos) [i] (tgName i) :=
  ⟨gName i, pg_name C hi hx hf, tgok_name⟩
theorem dg_tup {es : List Expr} {is : List Nat} {kk : Nat} (hc : X.calm = true) (h : PGs X es (gAll is)) (hn : (assignEach es X.env).length = is.length := by rfl) (hst : (assignEach es X.env).findIdx? (·.1) = none := by rfl) : DG T X (.Tuple es kk pos) is (tgTup is) :=
  ⟨_, pg_tup hc h hn hst, tgok_tup⟩
end
/-- items and a look at the store that must hold at each turn -/
structure Src where
  its : List Itv
  chk : Sto → Bool
def IsIt (G : Gm) (H : Hp) (ρ : List Addr) (s : Src) (J : It) : Prop := ∀ ρ2 S2 H2, Ext ρ H ρ2 H2 → Rep G ρ2 S2 H2 → s.chk S2 = true → J.stop s.its.length H2 ∧ ∀ i it, s.its[i]? = some it → J.go i H2 ∧ ∀ x H3, J.yld i H2 x H3 → Ext ρ2 H2 ρ2 H3 ∧ Rep G ρ2 S2 H3 ∧ ItvR ρ2 H3 it x
def denI (G : Gm) (W : WX) (m : St → Sto → R Src) : TI := fun σ H Q => den G W (fun ρ1 (a : Src) (b : List Addr × Src) => b = (ρ1, a)) m σ H fun b H1 => ∀ J, IsIt G H1 b.1 b.2 J → Q J H1
abbrev DI (T : Tab) (X : Cx) (W : WX) (tg e : Expr) (m : St → Sto → R Src) : Prop := PI X tg e (denI (gm T X) W m)
def mFor1 (chk : Sto → Bool) (tg : Tg) (b : MS) : List Itv → MS
  | [], σ, S => if chk S = true then .nx σ S else .bad
  | it :: r, σ, S => if chk S = true then (match tg it σ S with
    | some σ1 => (match b σ1 S with
      | .nx σ2 S2 => mFor1 chk tg b r σ2 S2
      | .ct σ2 S2 => mFor1 chk tg b r σ2 S2
      | .bk σ2 S2 => .nx σ2 S2
      | r => r)
    | none => .bad) else .bad
def mFor (src : St → Sto → R Src) (tg : Tg) (b : MS) : MS := fun σ S => (src σ S).lift σ fun s S1 => mFor1 s.chk tg b s.its σ S1
section
variable {T : Tab} {W : WX} {X : Cx} {tge iter : Expr} {is : List Nat} {tg : Tg} {src : St → Sto → R Src} {ms : MS} {pos : Pos} {sts : List Stmt} {k : Nat}
theorem ds_for (C : Ctx X W k) (hi : DI T X W tge iter src) (hg : DG T X tge is tg) (hb : DSs T X W sts ms) (hs : ∀ x, foldedSetIterable iter X.env x = pure x := by intro _; rfl) : DS T X W (.For tge iter sts [] pos) (mFor src tg ms) := by
  obtain ⟨g, hg, hq⟩ := hg
  refine (ps_for C.own C.calm hi hg hb hs).imp fun D σ H h => ?_
  obtain ⟨ρ, S, τ, r, l, h⟩ := h
  refine ⟨ρ, S, τ, r, l, PostS.lift h l fun ρ1 S1 H1 s b p1 r1 xb l1 h1 => ?_⟩
  subst xb
  intro J x1
  refine ⟨fun i m σ H => m = s.its.length - i ∧ i ≤ s.its.length ∧ ∃ ρ S τ, Ext ρ1 H1 ρ H ∧ Rep (gm T X) ρ S H ∧ LR ρ τ σ ∧ PostS (gm T X) W ρ H D (mFor1 s.chk tg ms (s.its.drop i) τ S), ⟨_, rfl, Nat.zero_le _, ρ1, S1, τ, Ext.refl, r1, l1, h1⟩, fun i m σ H hW => ?_⟩
  obtain ⟨em, hi, ρ2, S2, τ2, p2, r2, l2, h2⟩ := hW
  by_cases z : i < s.its.length
  · rw [List.drop_eq_getElem_cons z] at h2
    unfold mFor1 at h2
    by_cases hc : s.chk S2 = true
    · rw [if_pos hc] at h2
      obtain ⟨hgo, hy⟩ := (x1 ρ2 S2 H p2 r2 hc).2 i _ (List.getElem?_eq_getElem z)
      refine .inr ⟨hgo, fun σ' H' => ∃ ρ S τ, Ext ρ1 H1 ρ H' ∧ Rep (gm T X) ρ S H' ∧ LR ρ τ σ' ∧ PostS (gm T X) W ρ H' D (mFor1 s.chk tg ms (s.its.drop (i + 1)) τ S), fun σ' H' hN => ⟨s.its.length - (i + 1), by omega, rfl, z, hN⟩, fun x H3 hy3 => ?_⟩
      obtain ⟨p3, r3, x3⟩ := hy x H3 hy3
      cases et : tg s.its[i] τ2 S2 with
      | none => rw [et] at h2; exact h2.elim
      | some τ3 =>
        rw [et] at h2
        refine hq ρ2 S2 H3 τ2 σ _ x τ3 _ r3 l2 x3 et fun σ3 l3 _ => ⟨ρ2, S2, τ3, r3, l3, ?_⟩
        have h2 : PostS (gm T X) W ρ2 H D (match ms τ3 S2 with
          | .nx σ2 S2 => mFor1 s.chk tg ms (s.its.drop (i + 1)) σ2 S2
          | .ct σ2 S2 => mFor1 s.chk tg ms (s.its.drop (i + 1)) σ2 S2
          | .bk σ2 S2 => .nx σ2 S2
          | r => r) := h2
        have h2 := PostS.mono h2 p3
        cases e : ms τ3 S2 with
        | nx τ4 S4 => rw [e] at h2; exact fun ρ4 H4 σ4 p4 r4 l4 => ⟨ρ4, S4, τ4, (p2.trans p3).trans p4, r4, l4, PostS.mono h2 p4⟩
        | ct τ4 S4 => rw [e] at h2; exact fun ρ4 H4 σ4 p4 r4 l4 => ⟨ρ4, S4, τ4, (p2.trans p3).trans p4, r4, l4, PostS.mono h2 p4⟩
        | bk τ4 S4 => rw [e] at h2; exact h2
        | rt v S4 => rw [e] at h2; exact h2
        | exc c d τ4 S4 => rw [e] at h2; exact h2
        | bad => rw [e] at h2; exact h2
    · rw [if_neg hc] at h2
      exact h2.elim
  · have ei : i = s.its.length := by omega
    rw [ei, List.drop_length] at h2
    unfold mFor1 at h2
    by_cases hc : s.chk S2 = true
    · rw [if_pos hc] at h2
      rw [ei]
      exact .inl ⟨(x1 ρ2 S2 H p2 r2 hc).1, h2 ρ2 H σ (Ext.refl) r2 l2⟩
    · rw [if_neg hc] at h2
      exact h2.elim
end
end Mi
namespace Mi
open PySem PySem.Spec L2
open PyProof.Rows hiding St
def rdL (S : Sto) : V → Option (List V)
  | .ref i => match S[i]? with
    | some (.lst xs) => some xs
    | some (.lck (.lst xs)) => some xs
    | _ => none
  | _ => none
def rdK (S : Sto) : V → Option (List (Key × V))
  | .ref i => match S[i]? with
    | some (.dK kvs) => some kvs
    | some (.lck (.dK kvs)) => some kvs
    | _ => none
  | _ => none
section
variable {G : Gm} {ρ : List Addr} {S : Sto} {H : Hp} {v w : V}
theorem Rep.rdL {xs : List V} (r : Rep G ρ S H) (h : rdL S v = some xs) (x : VR ρ v w) : ∃ a ws, w = .ref a ∧ Rd H a (.lst ws) ∧ VsR ρ xs ws := by
  unfold Mi.rdL at h
  split at h
  · split at h
    · rename_i i _ ys es
      cases h
      obtain ⟨a, u, ew, _, eh, ys, eu, vr⟩ := r.ref es x
      subst eu
      exact ⟨a, ys, ew, .inl eh, vr⟩
    · rename_i i _ ys es
      cases h
      obtain ⟨a, u, ew, _, eh, ob, u', eu, ys, eu', vr⟩ := r.ref es x
      subst eu
      subst eu'
      exact ⟨a, ys, ew, .inr ⟨ob, eh⟩, vr⟩
    · cases h
  · cases h
theorem Rep.rdK {xs : List (Key × V)} (r : Rep G ρ S H) (h : rdK S v = some xs) (x : VR ρ v w) : ∃ a ws, w = .ref a ∧ Rd H a (.dK ws) ∧ FR ρ xs ws := by
  unfold Mi.rdK at h
  split at h
  · split at h
    · rename_i i _ ys es
      cases h
      obtain ⟨a, u, ew, _, eh, ys, eu, vr⟩ := r.ref es x
      subst eu
      exact ⟨a, ys, ew, .inl eh, vr⟩
    · rename_i i _ ys es
      cases h
      obtain ⟨a, u, ew, _, eh, ob, u', eu, ys, eu', vr⟩ := r.ref es x
      subst eu
      subst eu'
      exact ⟨a, ys, ew, .inr ⟨ob, eh⟩, vr⟩
    · cases h
  · cases h
end
theorem pe_or2 {X : Cx} {e : Expr} {t t' : TE} (h : PE X e t) (h' : PE X e t') : PE X e (fun σ H R => t σ H R ∨ t' σ H R) := ⟨fun pins s σ H R I q => q.elim (h.run pins s σ H R I) (h'.run pins s σ H R I)⟩
theorem _root_.L2.PI.imp {X : Cx} {tg e : Expr} {t t' : TI} (h : PI X tg e t) (k : ∀ σ H Q, t' σ H Q → t σ H Q) : PI X tg e t' := ⟨fun pins s σ H Q I q => h.run pins s σ H Q I (k _ _ _ q)⟩
def walkOf (S : Sto) : V → Option Src
  | .ref i => match S[i]? with
    | some (.lst xs) => some ⟨xs.map .v, fun S' => decide (S'[i]? = some (.lst xs))⟩
    | some (.lck (.lst xs)) => some ⟨xs.map .v, fun S' => decide (S'[i]? = some (.lck (.lst xs)))⟩
    | some (.tup xs) => some ⟨xs.map .v, fun S' => decide (S'[i]? = some (.tup xs))⟩
    | some (.lck (.dK kvs)) => some ⟨kvs.map fun p => .v (kV p.1), fun S' => decide (S'[i]? = some (.lck (.dK kvs)))⟩
    | _ => none
  | .str z => some ⟨z.cps.toList.map fun c => .v (.str ⟨#[c]⟩), fun _ => true⟩
  | _ => none
def mWalk (m : ME) : St → Sto → R Src := fun σ S => (m σ S).bind fun v S1 => match walkOf S1 v with
  | some s => .ok s S1
  | none => .bad
section
variable {T : Tab} {W : WX} {X : Cx} {tg e e2 : Expr} {m : ME} {ms : MA} {pos p : Pos} {es : List Expr}
theorem kv_vr {ρ : List Addr} {k : Key} : VR ρ (kV k) (kV k) := by
  cases k <;> rfl
theorem map_get {α β : Type} {f : α → β} {xs : List α} {i : Nat} {y : β} (h : (xs.map f)[i]? = some y) : ∃ x, xs[i]? = some x ∧ f x = y := by
  rw [List.getElem?_map] at h
  cases e : xs[i]? with
  | none => rw [e] at h; cases h
  | some x => rw [e] at h; exact ⟨x, rfl, Option.some.inj h⟩
theorem isIt_vals {G : Gm} {H : Hp} {ρ : List Addr} {J : It} {chk : Sto → Bool} {xs : List V}
    (ho : ∀ (ρ2 : List Addr) (S2 : Sto) (H2 : Hp), Ext ρ H ρ2 H2 → Rep G ρ2 S2 H2 → chk S2 = true → ∃ ws, VsR ρ2 xs ws ∧ J.stop ws.length H2 ∧ ∀ (i : Nat) (w : V), ws[i]? = some w → J.go i H2 ∧ ∀ x H3, J.yld i H2 x H3 → H3 = H2 ∧ x = w) : IsIt G H ρ ⟨xs.map .v, chk⟩ J := by
  intro ρ2 S2 H2 p2 r2 hc
  obtain ⟨ws, vr, hs, hw⟩ := ho ρ2 S2 H2 p2 r2 hc
  refine ⟨by show J.stop (xs.map Itv.v).length H2; rw [List.length_map, prd_len vr]; exact hs, fun j it hj => ?_⟩
  obtain ⟨x, hx, ex⟩ := map_get hj
  subst ex
  obtain ⟨w, hw2, rw'⟩ := prd_get vr hx
  obtain ⟨g, y⟩ := hw j w hw2
  refine ⟨g, fun y' H3 hy => ?_⟩
  obtain ⟨e1, e2⟩ := y y' H3 hy
  subst e1
  subst e2
  exact ⟨Ext.refl, r2, rw'⟩
theorem itl_of {K : PySem.W.Frag} {H : Hp} {a : Addr} {ws : List V} (h : SqL K H a ws) : (Itl K a).stop ws.length H ∧ ∀ (i : Nat) (w : V), ws[i]? = some w → (Itl K a).go i H ∧ ∀ x H3, (Itl K a).yld i H x H3 → H3 = H ∧ x = w :=
  ⟨⟨ws, h, Nat.le_refl _⟩, fun i w hw => ⟨⟨ws, w, h, hw⟩, fun x H3 hy => ⟨hy.1, by have := hy.2 ws h; rw [hw] at this; cases this; rfl⟩⟩⟩
theorem itt_of {K : PySem.W.Frag} {H : Hp} {a : Addr} {ws : List V} (h : SqT K H a ws) : (Itt K a).stop ws.length H ∧ ∀ (i : Nat) (w : V), ws[i]? = some w → (Itt K a).go i H ∧ ∀ x H3, (Itt K a).yld i H x H3 → H3 = H ∧ x = w :=
  ⟨⟨ws, h, Nat.le_refl _⟩, fun i w hw => ⟨⟨ws, w, h, hw⟩, fun x H3 hy => ⟨hy.1, by have := hy.2 ws h; rw [hw] at this; cases this; rfl⟩⟩⟩
theorem fr_keys {ρ : List Addr} : ∀ {kvs ws : List (Key × V)}, FR ρ kvs ws → ws.map (·.1) = kvs.map (·.1)
  | _, _, .nil => rfl
  | _, _, .cons r t => by rw [List.map_cons, List.map_cons, fr_keys t, r.1]
theorem keys_vsr {ρ : List Addr} : ∀ ks : List Key, VsR ρ (ks.map kV) (ks.map kV)
  | [] => .nil
  | _ :: r => .cons kv_vr (keys_vsr r)
theorem mapmap {α β γ : Type} (f : α → β) (g : β → γ) (xs : List α) : (xs.map fun x => g (f x)) = (xs.map f).map g := by rw [List.map_map]; rfl
theorem sgn_vsr {ρ : List Addr} : ∀ cs : List Nat, VsR ρ (cs.map fun c => V.str ⟨#[c]⟩) (cs.map fun c => V.str ⟨#[c]⟩)
  | [] => .nil
  | _ :: r => .cons rfl (sgn_vsr r)
/-- by the way of the value -/
theorem di_walk (he : DE T X W e m) : DI T X W tg e (mWalk m) := by
  refine ⟨fun pins s σ H R I h => ?_⟩
  obtain ⟨ρ, S, τ, r, l, h⟩ := h
  unfold mWalk at h
  cases ee : m τ S with
  | exc c d S1 =>
    rw [ee] at h
    exact (pi_list he).run pins s σ H R I ⟨ρ, S, τ, r, l, by rw [ee]; exact h⟩
  | bad => rw [ee] at h; exact h.elim
  | ok v S1 =>
    rw [ee] at h
    have h : Post (gm T X) W (fun ρ1 (a : Src) (b : List Addr × Src) => b = (ρ1, a)) ρ H σ (fun b H1 => ∀ J, IsIt (gm T X) H1 b.1 b.2 J → R J H1) (match walkOf S1 v with
      | some s => .ok s S1
      | none => .bad) := h
    cases ew : walkOf S1 v with
    | none => rw [ew] at h; exact h.elim
    | some s0 =>
      rw [ew] at h
      have h : ∀ ρ1 H1, Ext ρ H ρ1 H1 → Rep (gm T X) ρ1 S1 H1 → ∀ J, IsIt (gm T X) H1 ρ1 s0 J → R J H1 := fun ρ1 H1 p1 r1 J hJ => h ρ1 H1 _ p1 r1 rfl J hJ
      unfold walkOf at ew
      split at ew
      · rename_i i
        split at ew
        · rename_i xs es
          cases ew
          refine (pi_list he).run pins s σ H R I ⟨ρ, S, τ, r, l, ?_⟩
          rw [ee]
          intro ρ1 H1 w p1 r1 x1
          obtain ⟨a, u, e1, e2, eh, ws, eu, vr⟩ := r1.ref es x1
          subst eu
          refine ⟨a, e1, ⟨ws, .inl (.inl eh)⟩, h ρ1 H1 p1 r1 _ (isIt_vals fun ρ2 S2 H2 p2 r2 hc => ?_)⟩
          obtain ⟨a', u', e1', e2', eh', ws', eu', vr'⟩ := r2.ref (of_decide_eq_true hc) (show VR ρ2 (.ref i) (.ref a) from ⟨a, pre_get p2.pre e2, rfl⟩)
          cases e1'
          subst eu'
          exact ⟨ws', vr', itl_of (.inl (.inl eh'))⟩
        · rename_i xs es
          cases ew
          refine (pi_list he).run pins s σ H R I ⟨ρ, S, τ, r, l, ?_⟩
          rw [ee]
          intro ρ1 H1 w p1 r1 x1
          obtain ⟨a, u, e1, e2, eh, ob, u', eu, ws, eu', vr⟩ := r1.ref es x1
          subst eu
          subst eu'
          refine ⟨a, e1, ⟨ws, .inl (.inr ⟨ob, eh⟩)⟩, h ρ1 H1 p1 r1 _ (isIt_vals fun ρ2 S2 H2 p2 r2 hc => ?_)⟩
          obtain ⟨a', u', e1', e2', eh', ob', u'', eu', ws', eu'', vr'⟩ := r2.ref (of_decide_eq_true hc) (show VR ρ2 (.ref i) (.ref a) from ⟨a, pre_get p2.pre e2, rfl⟩)
          cases e1'
          subst eu'
          subst eu''
          exact ⟨ws', vr', itl_of (.inl (.inr ⟨_, eh'⟩))⟩
        · rename_i xs es
          cases ew
          refine (pi_tup he).run pins s σ H R I ⟨ρ, S, τ, r, l, ?_⟩
          rw [ee]
          intro ρ1 H1 w p1 r1 x1
          obtain ⟨a, u, e1, e2, eh, ws, eu, vr⟩ := r1.ref es x1
          subst eu
          refine ⟨a, e1, ⟨ws, .inl (.inl eh)⟩, h ρ1 H1 p1 r1 _ (isIt_vals fun ρ2 S2 H2 p2 r2 hc => ?_)⟩
          obtain ⟨a', u', e1', e2', eh', ws', eu', vr'⟩ := r2.ref (of_decide_eq_true hc) (show VR ρ2 (.ref i) (.ref a) from ⟨a, pre_get p2.pre e2, rfl⟩)
          cases e1'
          subst eu'
          exact ⟨ws', vr', itt_of (.inl (.inl eh'))⟩
        · rename_i kvs es
          cases ew
          refine (pi_keys he).run pins s σ H R I ⟨ρ, S, τ, r, l, ?_⟩
          rw [ee]
          intro ρ1 H1 w p1 r1 x1
          obtain ⟨a, u, e1, e2, eh, ob, u', eu, ws, eu', vr⟩ := r1.ref es x1
          subst eu
          subst eu'
          refine ⟨a, ob, e1, .inl ⟨ws, eh, h ρ1 H1 p1 r1 _ ?_⟩⟩
          rw [mapmap (fun p : Key × V => kV p.1) Itv.v]
          refine isIt_vals fun ρ2 S2 H2 p2 r2 hc => ?_
          have eh2 := p2.kp _ _ _ eh
          refine ⟨ws.map fun q => kV q.1, ?_, ⟨eh2, by rw [List.length_map]; exact Nat.le_refl _⟩, fun j w hw => ?_⟩
          · rw [mapmap (fun p : Key × V => p.1) kV, mapmap (fun p : Key × V => p.1) kV, fr_keys vr]
            exact keys_vsr _
          · obtain ⟨q, hq, eq⟩ := map_get hw
            subst eq
            refine ⟨⟨eh2, (List.getElem?_eq_some_iff.mp hq).1⟩, fun x H3 hy => ⟨hy.1, ?_⟩⟩
            obtain ⟨k, v, h1, h2⟩ := hy.2
            rw [hq] at h1
            cases h1
            exact h2
        · cases ew
      · rename_i z
        cases ew
        refine (pi_str he).run pins s σ H R I ⟨ρ, S, τ, r, l, ?_⟩
        rw [ee]
        intro ρ1 H1 w p1 r1 x1
        cases x1
        refine ⟨z, rfl, h ρ1 H1 p1 r1 _ ?_⟩
        rw [mapmap (fun c : Nat => V.str ⟨#[c]⟩) Itv.v]
        refine isIt_vals fun ρ2 S2 H2 p2 r2 hc => ⟨_, sgn_vsr _, by show z.cps.size ≤ _; rw [List.length_map]; exact Nat.le_refl _, fun j w hw => ?_⟩
        obtain ⟨c, hx, ex⟩ := map_get hw
        subst ex
        have hx : z.cps[j]? = some c := by rw [← Array.getElem?_toList]; exact hx
        refine ⟨(Array.getElem?_eq_some_iff.mp hx).1, fun y H3 hy => ⟨hy.1, ?_⟩⟩
        obtain ⟨c', hc', ey⟩ := hy.2
        rw [hx] at hc'
        cases hc'
        exact ey
      · cases ew
/-- range(n), range(a, b) -/
def intsFrom (lo : Int) (n : Nat) : List Itv := (List.range n).map fun k => .v (.int (lo + (k : Nat)))
def mRange1 (ms : MA) : St → Sto → R Src := fun σ S => (ms σ S).bind fun vs S1 => match vs with
  | [.int j] => if -(2 ^ 62) ≤ j ∧ j < 2 ^ 62 then .ok ⟨intsFrom 0 j.toNat, fun _ => true⟩ S1 else .bad
  | _ => .bad
theorem isIt_range {G : Gm} {H : Hp} {ρ : List Addr} {lo : Int} {n : Nat} : IsIt G H ρ ⟨intsFrom lo n, fun _ => true⟩ (Itr lo n) := by
  have e : intsFrom lo n = ((List.range n).map fun k => V.int (lo + (k : Nat))).map Itv.v := mapmap (fun k : Nat => V.int (lo + (k : Nat))) Itv.v _
  rw [e]
  refine isIt_vals fun ρ2 S2 H2 p2 r2 hc => ⟨(List.range n).map fun k => V.int (lo + (k : Nat)), ?_, by show n ≤ _; rw [List.length_map, List.length_range]; exact Nat.le_refl _, fun j w hw => ?_⟩
  · generalize List.range n = l
    induction l with
    | nil => exact .nil
    | cons a l ih => exact .cons rfl ih
  · obtain ⟨k, hk, ek⟩ := map_get hw
    subst ek
    have h1 := List.getElem?_eq_some_iff.mp hk
    obtain ⟨h1, h2⟩ := h1
    rw [List.getElem_range] at h2
    rw [List.length_range] at h1
    subst h2
    exact ⟨h1, fun x H3 hy => hy⟩
theorem di_range1 (hm : X.mg "range" = none) (ha : DA T X W [e] ms) (hg : Gl X "range" := by rfl) (hs : starEach [e] X.env = [(false, eval e X.env)] := by rfl) : DI T X W tg (.Call (.Name "range" p) [e] [] pos) (mRange1 ms) := (pi_range1 hg hm ha hs).imp fun σ H R h => by
  obtain ⟨ρ, S, τ, r, l, h⟩ := h
  refine ⟨ρ, S, τ, r, l, Post.bind h fun ρ1 S1 H1 vs ws p1 r1 x1 h1 => ?_⟩
  split at h1
  · rename_i j
    split at h1
    · rename_i hj
      cases x1 with
      | cons a b =>
        cases b
        cases a
        exact ⟨j, rfl, hj.1, hj.2, h1 ρ1 H1 _ Ext.refl r1 rfl _ isIt_range⟩
    · exact h1.elim
  · exact h1.elim
end
end Mi
namespace Mi
open PySem PySem.Spec L2
open PyProof.Rows hiding St
abbrev W0 : WX := fun _ _ _ _ => False
theorem Ctx.blk {X : Cx} {W : WX} {k : Nat} (C : Ctx X W k) {s : Shared} {H : Hp} {scope : Scope} {cenv : Env} {fp : List Addr} : Ctx (X.blk s H scope cenv fp) W0 k :=
  ⟨C.calm, C.nd, C.room, .inr fun _ _ _ _ h => h, PassesOwn.never⟩
def lcGo (n : Nat) (chk : Sto → Bool) (tg : Tg) (c : MT) (e : ME) (σ : St) : List Itv → Sto → Option Sto
  | [], S => if chk S = true then some S else none
  | it :: r, S => if chk S = true then (match tg it σ S with
    | some σ1 => (match c σ1 S with
      | .ok b S1 => if b = true then (match e σ1 S1 with
        | .ok v S2 => (match S2[n]? with
          | some (.lst acc) => if acc.length < sizeLine then lcGo n chk tg c e σ r (S2.set n (.lst (acc ++ [v]))) else none
          | _ => none)
        | _ => none) else lcGo n chk tg c e σ r S1
      | _ => none)
    | none => none) else none
def mLc (src : St → Sto → R Src) (own : List Nat) (tg : Tg) (c : MT) (e : ME) : ME := fun σ S => (src σ S).bind fun s S1 => match lcGo S1.length s.chk tg c e (wipe σ own) s.its (S1 ++ [.lst []]) with
  | some S2 => .ok (.ref S1.length) S2
  | none => .bad
def mYes : MT := fun _ S => .ok true S
theorem lr_wipe {ρ : List Addr} {τ σ : St} (l : LR ρ τ σ) : ∀ vs : List Nat, LR ρ (wipe τ vs) (wipe σ vs)
  | [] => l
  | v :: vs => prd_set (F := OR ρ) (x := none) (y := none) trivial v (lr_wipe l vs)
theorem wipe_get {σ : St} {j : Nat} : ∀ {vs : List Nat}, j ∉ vs → (wipe σ vs)[j]? = σ[j]?
  | [], _ => rfl
  | v :: vs, h => by
    show ((wipe σ vs).set v none)[j]? = _
    rw [List.getElem?_set_ne (fun z => h (by rw [z]; exact List.mem_cons_self)), wipe_get fun z => h (List.mem_cons_of_mem _ z)]
theorem wipe_in {σ : St} {j : Nat} : ∀ {vs : List Nat}, j ∈ vs → (wipe σ vs)[j]? = if j < σ.length then some none else none
  | [], h => by cases h
  | v :: vs, h => by
    show ((wipe σ vs).set v none)[j]? = _
    by_cases z : v = j
    · subst z
      rw [List.getElem?_set]
      simp [wipe_length]
    · rw [List.getElem?_set_ne z]
      rcases List.mem_cons.mp h with e | e
      · exact absurd e.symm z
      · exact wipe_in e
theorem bt_wipe {is own : List Nat} {σ σ2 : St} (h : Bt is (wipe σ own) σ2) (hs : ∀ i ∈ is, i ∈ own) : wipe σ2 own = wipe σ own := by
  apply List.ext_getElem?
  intro j
  by_cases z : j ∈ own
  · rw [wipe_in z, wipe_in z, h.1, wipe_length]
  · rw [wipe_get z, h.2 j (fun q => z (hs j q))]
section
variable {T : Tab} {W : WX} {X : Cx} {tg0 elt iter : Expr} {ifs : List Expr} {scope : Scope} {own : List (Str × Nat)} {is : List Nat} {src : St → Sto → R Src} {tg : Tg} {c : MT} {e : ME} {pos : Pos} {k : Nat}
abbrev DTs (T : Tab) (X : Cx) (ifs : List Expr) (m : MT) : Prop := PTs X ifs (den (gm T X) W0 BR m)
theorem dts_nil : DTs T X [] mYes := ⟨fun pins s σ H Q I h => pts_nil.run pins s σ H Q I (by
  obtain ⟨ρ, S, τ, r, l, h⟩ := h
  exact h ρ H true Ext.refl r rfl)⟩
theorem dts_one {e : Expr} (h : DT T X W0 e c) : DTs T X [e] c := pts_one h
theorem tLc_of {Q : VK} {σ : St} {H : Hp} {g : TG}
    (hq : TgOk (gm T X) g is tg)
    (his : ∀ i ∈ is, i ∈ own.map (·.2)) (h : den (gm T X) W VR (mLc src (own.map (·.2)) tg c e) σ H Q) :
    tLc (denI (gm T X) W src) g (den (gm T X) W0 BR c) (den (gm T X) W0 VR e) (own.map (·.2)) σ H Q := by
  obtain ⟨ρ, S, τ, r, l, h⟩ := h
  refine ⟨ρ, S, τ, r, l, Post.bind h fun ρ1 S1 H1 s b p1 r1 xb h1 => ?_⟩
  subst xb
  intro J hJ D nD
  cases eg : lcGo S1.length s.chk tg c e (wipe τ (own.map (·.2))) s.its (S1 ++ [.lst []]) with
  | none => rw [eg] at h1; exact h1.elim
  | some Sf =>
    rw [eg] at h1
    have r1' : Rep (gm T X) (ρ1 ++ [D]) (S1 ++ [.lst []]) (upd H1 D (.lst [])) := r1.alloc nD ⟨[], rfl, .nil⟩
    have eD : VR (ρ1 ++ [D]) (.ref S1.length) (.ref D) := new_ref r1.len
    refine ⟨fun i m H => m = s.its.length - i ∧ i ≤ s.its.length ∧ ∃ ρ S, Ext (ρ1 ++ [D]) (upd H1 D (.lst [])) ρ H ∧ Rep (gm T X) ρ S H ∧ lcGo S1.length s.chk tg c e (wipe τ (own.map (·.2))) (s.its.drop i) S = some Sf,
      ⟨_, rfl, Nat.zero_le _, _, _, Ext.refl, r1', eg⟩, fun i m H hW => ?_⟩
    obtain ⟨em, hi, ρ2, S2, p2, r2, e2⟩ := hW
    have pH : Ext ρ1 H1 ρ2 H := (Ext.new nD).trans p2
    by_cases z : i < s.its.length
    · rw [List.drop_eq_getElem_cons z] at e2
      unfold lcGo at e2
      split at e2
      · rename_i hc
        obtain ⟨hgo, hy⟩ := (hJ ρ2 S2 H pH r2 hc).2 i _ (List.getElem?_eq_getElem z)
        refine .inr ⟨hgo, fun H' => ∃ ρ S, Ext (ρ1 ++ [D]) (upd H1 D (.lst [])) ρ H' ∧ Rep (gm T X) ρ S H' ∧ lcGo S1.length s.chk tg c e (wipe τ (own.map (·.2))) (s.its.drop (i + 1)) S = some Sf, fun H' hN => ⟨s.its.length - (i + 1), by omega, rfl, z, hN⟩, fun x H3 hy3 => ?_⟩
        obtain ⟨p3, r3, x3⟩ := hy x H3 hy3
        split at e2
        · rename_i τ3 et
          refine hq ρ2 S2 H3 _ _ _ x τ3 _ r3 (lr_wipe (l.mono (p1.trans pH).pre) _) x3 et fun σ3 l3 b3 => ⟨bt_wipe b3 his, ?_⟩
          refine ⟨ρ2, S2, τ3, r3, l3, ?_⟩
          split at e2
          · rename_i bb S4 ec
            rw [ec]
            intro ρ4 H4 b4 p4 r4 x4
            cases x4
            split at e2
            · rename_i hb
              rw [if_pos hb]
              refine ⟨ρ4, S4, τ3, r4, l3.mono p4.pre, ?_⟩
              split at e2
              · rename_i v S5 ee
                rw [ee]
                intro ρ5 H5 w p5 r5 x5
                split at e2
                · rename_i acc ea
                  split at e2
                  · rename_i hz
                    have pp := ((p2.trans p3).trans p4).trans p5
                    obtain ⟨a, u, e1, e3, eh, ws, eu, vr⟩ := r5.ref ea (eD.mono pp.pre)
                    cases e1
                    subst eu
                    refine ⟨ws, eh, by rw [← prd_len vr]; exact hz, ρ5, _, pp.trans (Ext.put eh fun _ _ q => nomatch q), r5.write ea e3 (fun fs q => by rw [eh] at q; cases q) (o' := .lst (acc ++ [v])) ⟨_, rfl, prd_app vr (.cons x5 .nil)⟩, e2⟩
                  · cases e2
                · cases e2
              · cases e2
            · rename_i hb
              rw [if_neg hb]
              exact ⟨ρ4, S4, (p2.trans p3).trans p4, r4, e2⟩
          · cases e2
        · cases e2
      · cases e2
    · have ei : i = s.its.length := by omega
      rw [ei, List.drop_length] at e2
      unfold lcGo at e2
      split at e2
      · rename_i hc
        cases e2
        rw [ei]
        refine .inl ⟨(hJ ρ2 _ H pH r2 hc).1, ?_⟩
        exact h1 ρ2 H (.ref D) pH r2 (eD.mono p2.pre)
      · cases e2
theorem de_lc {g : TG} (C : Ctx X W k) (hi : DI T X W tg0 iter src) (ok : BlkOk X.N X.env.scope scope own)
    (hg : ∀ (s : Shared) (H : Hp) (cC : Addr) (cl : List (Str × Addr)) (fp : List Addr), PG (X.blk s H scope (compEnvC scope cl cC X.env) fp) tg0 g) (hq : TgOk (gm T X) g is tg) (his : ∀ i ∈ is, i ∈ own.map (·.2))
    (ht : ∀ (s : Shared) (H : Hp) (cC : Addr) (cl : List (Str × Addr)) (fp : List Addr), Ctx (X.blk s H scope (compEnvC scope cl cC X.env) fp) W0 k → DTs T (X.blk s H scope (compEnvC scope cl cC X.env) fp) ifs c)
    (he : ∀ (s : Shared) (H : Hp) (cC : Addr) (cl : List (Str × Addr)) (fp : List Addr), Ctx (X.blk s H scope (compEnvC scope cl cC X.env) fp) W0 k → DE T (X.blk s H scope (compEnvC scope cl cC X.env) fp) W0 elt e)
    (hs : ∀ x, foldedSetIterable iter X.env x = pure x := by intro _; rfl) : DE T X W (.ListComp elt [⟨tg0, iter, ifs, 0⟩] scope pos) (mLc src (own.map (·.2)) tg c e) :=
  (pe_lc C.calm C.nd hi ok hg (fun s H cC cl fp => ht s H cC cl fp C.blk) (fun s H cC cl fp => he s H cC cl fp C.blk) hs).imp fun σ H Q h => tLc_of hq his h
theorem ds_setLc {g : TG} {i : Nat} {y : Str} {py spos : Pos} (C : Ctx X W k) (hi : DI T X W tg0 iter src) (ok : BlkOk X.N X.env.scope scope own)
    (hg : ∀ (s : Shared) (H : Hp) (cC : Addr) (cl : List (Str × Addr)) (fp : List Addr), PG (X.blk s H scope (compEnvC scope cl cC X.env) fp) tg0 g) (hq : TgOk (gm T X) g is tg) (his : ∀ i ∈ is, i ∈ own.map (·.2))
    (ht : ∀ (s : Shared) (H : Hp) (cC : Addr) (cl : List (Str × Addr)) (fp : List Addr), Ctx (X.blk s H scope (compEnvC scope cl cC X.env) fp) W0 k → DTs T (X.blk s H scope (compEnvC scope cl cC X.env) fp) ifs c)
    (he : ∀ (s : Shared) (H : Hp) (cC : Addr) (cl : List (Str × Addr)) (fp : List Addr), Ctx (X.blk s H scope (compEnvC scope cl cC X.env) fp) W0 k → DE T (X.blk s H scope (compEnvC scope cl cC X.env) fp) W0 elt e)
    (hy : X.N[i]? = some y := by rfl) (hyl : X.env.scope.names.lookup y = some .local := by rfl)
    (hsw : swapsWith (.ListComp elt [⟨tg0, iter, ifs, 0⟩] scope pos) (some (.Name y py)) spos.line X.env = pure true := by exact sw_true rfl rfl rfl (by decide +kernel))
    (hs : ∀ x, foldedSetIterable iter X.env x = pure x := by intro _; rfl) : DS T X W (.Assign [.Name y py] (.ListComp elt [⟨tg0, iter, ifs, 0⟩] scope pos) spos) (mSet i (mLc src (own.map (·.2)) tg c e)) :=
  (ps_setLc C.calm C.nd hy hyl hsw hi ok hg (fun s H cC cl fp => ht s H cC cl fp C.blk) (fun s H cC cl fp => he s H cC cl fp C.blk) hs).imp fun D σ H h => by
    refine tLc_of (c := c) (e := e) hq his ?_
    obtain ⟨ρ, S, τ, r, l, h⟩ := h
    refine ⟨ρ, S, τ, r, l, PostS.lift h l fun ρ1 S1 H1 v w p1 r1 x1 l1 h1 => ?_⟩
    exact h1 ρ1 H1 _ Ext.refl r1 (lr_set l1 x1 i)
end
def Wl (W : WX) (dd : Addr) (od : Obj) (u : HO) : WX := fun cls d σ H' => H' dd = some (.frz od u) ∧ W cls d σ (upd H' dd u)
theorem XE.unlock {X : Cx} {W : WX} {dd : Addr} {od : Obj} {u : HO} (hn : ∀ o' u', X.H_0 dd ≠ some (.frz o' u')) {v : Value} {s' : Shared} (x : XE X (Wl W dd od u) v s') : XE X W v s' := by
  obtain ⟨a, B, sI, pins, σ, H, cls, d, e, I, nb, up, sky, na, os, ag, hl, w⟩ := x
  exact ⟨a, B, sI, pins, σ, upd H dd u, cls, d, e, I.unlock hl hn, nb, up, sky, by rw [upd_ne (fun z => by rw [z, hl] at na; cases na)]; exact na, os, ag, w⟩
theorem Ctx.lock {X : Cx} {W : WX} {k : Nat} (C : Ctx X W k) {dd : Addr} {od : Obj} {u : HO} (hn : ∀ o' u', X.H_0 dd ≠ some (.frz o' u')) : Ctx X (Wl W dd od u) k :=
  ⟨C.calm, C.nd, C.room, C.tk.elim (fun h => .inl fun v s' x => h v s' (XE.unlock hn x)) (fun h => .inr fun c d σ H q => h _ _ _ _ q.2), C.own⟩
theorem CtS.lock {X : Cx} {W : WX} {k : Nat} (C : CtS X W k) {dd : Addr} {od : Obj} {u : HO} (hn : ∀ o' u', X.H_0 dd ≠ some (.frz o' u')) : CtS X (Wl W dd od u) k :=
  ⟨C.toCtx.lock hn, fun v s' x => C.takes v s' (XE.unlock hn x), C.stk, C.frm, C.ex⟩
/-- which object is locked -/
def pick (m : ME) : St → Sto → Option Nat := fun σ S => match m σ S with
  | .ok (.ref i) _ => some i
  | _ => none
def unl (i : Nat) (kvs : List (Key × V)) (S : Sto) : Option Sto := if S[i]? = some (.lck (.dK kvs)) then some (S.set i (.dK kvs)) else none
def unlS (i : Nat) (kvs : List (Key × V)) : RS → RS
  | .nx σ S => match unl i kvs S with
    | some S' => .nx σ S'
    | none => .bad
  | .rt v S => match unl i kvs S with
    | some S' => .rt v S'
    | none => .bad
  | .bk σ S => match unl i kvs S with
    | some S' => .bk σ S'
    | none => .bad
  | .ct σ S => match unl i kvs S with
    | some S' => .ct σ S'
    | none => .bad
  | .exc c d σ S => match unl i kvs S with
    | some S' => .exc c d σ S'
    | none => .bad
  | .bad => .bad
def mLock (p : St → Sto → Option Nat) (st : MS) : MS := fun σ S => match p σ S with
  | some i => (match S[i]? with
    | some (.dK kvs) => unlS i kvs (st σ (S.set i (.lck (.dK kvs))))
    | _ => st σ S)
  | none => st σ S
def unlR {α : Type} (i : Nat) (kvs : List (Key × V)) : R α → R α
  | .ok v S => match unl i kvs S with
    | some S' => .ok v S'
    | none => .bad
  | .exc c d S => match unl i kvs S with
    | some S' => .exc c d S'
    | none => .bad
  | .bad => .bad
def mLockE (p : St → Sto → Option Nat) (m : ME) : ME := fun σ S => match p σ S with
  | some i => (match S[i]? with
    | some (.dK kvs) => unlR i kvs (m σ (S.set i (.lck (.dK kvs))))
    | _ => m σ S)
  | none => m σ S
section
variable {T : Tab} {W : WX} {X : Cx} {k : Nat}
theorem unl_some {i : Nat} {kvs : List (Key × V)} {S S' : Sto} (h : unl i kvs S = some S') : S[i]? = some (.lck (.dK kvs)) ∧ S' = S.set i (.dK kvs) := by
  unfold unl at h
  split at h
  · rename_i h'
    cases h
    exact ⟨h', rfl⟩
  · cases h
/-- what the lock's end brings -/
theorem lock_end {G : Gm} {ρ ρ2 : List Addr} {H H2 : Hp} {i : Nat} {a : Addr} {od : Obj} {kvs ws : List (Key × V)} {S2 S3 : Sto} (hH : H a = some (.dK ws)) (vr : FR ρ kvs ws) (ea : ρ[i]? = some a) (p2 : Ext ρ (upd H a (.frz od (.dK ws))) ρ2 H2) (r2 : Rep G ρ2 S2 H2) (h : unl i kvs S2 = some S3) :
    H2 a = some (.frz od (.dK ws)) ∧ Ext ρ H ρ2 (upd H2 a (.dK ws)) ∧ Rep G ρ2 S3 (upd H2 a (.dK ws)) := by
  obtain ⟨e1, e2⟩ := unl_some h
  have h2 := p2.kp a od (.dK ws) upd_same
  have ea2 := pre_get p2.pre ea
  refine ⟨h2, ⟨p2.pre, fun b o u hb => ?_⟩, ?_⟩
  · have ne : b ≠ a := fun z => by rw [z, hH] at hb; cases hb
    rw [upd_ne ne]
    exact p2.kp b o u (by rw [upd_ne ne]; exact hb)
  · rw [e2]
    exact r2.write e1 ea2 (fun fs q => by rw [h2] at q; cases q) ⟨ws, rfl, FR.mono vr p2.pre⟩
theorem lock_start {G : Gm} {ρ : List Addr} {H : Hp} {S : Sto} {i : Nat} {a : Addr} {od : Obj} {kvs ws : List (Key × V)} (r : Rep G ρ S H) (es : S[i]? = some (.dK kvs)) (ea : ρ[i]? = some a) (hH : H a = some (.dK ws)) (vr : FR ρ kvs ws) :
    Rep G ρ (S.set i (.lck (.dK kvs))) (upd H a (.frz od (.dK ws))) := r.write es ea (fun fs q => by rw [hH] at q; cases q) ⟨od, _, rfl, ws, rfl, vr⟩
theorem ds_lock {st : Stmt} {ms : MS} {p : St → Sto → Option Nat} (C : CtS X W k) (h : ∀ W', CtS X W' k → DS T X W' st ms) : DS T X W st (mLock p ms) := by
  refine ⟨fun pins s σ H D I hw => ?_⟩
  obtain ⟨ρ, S, τ, r, l, hw⟩ := hw
  unfold mLock at hw
  split at hw
  · rename_i i _
    split at hw
    · rename_i kvs es
      obtain ⟨a, ea⟩ := r.addr es
      obtain ⟨u, eh, ws, eu, vr⟩ := r.at_ i _ a es ea
      subst eu
      have hn := I.nofrz eh trivial
      obtain ⟨od, I1⟩ := I.lock eh trivial
      refine thn ((h (Wl W a od (.dK ws)) (C.lock hn)).run pins s σ _ ⟨fun σ' H' => H' a = some (.frz od (.dK ws)) ∧ D.nx σ' (upd H' a (.dK ws)), fun v H' => H' a = some (.frz od (.dK ws)) ∧ D.rt v (upd H' a (.dK ws)), fun σ' H' => H' a = some (.frz od (.dK ws)) ∧ D.bk σ' (upd H' a (.dK ws)), fun σ' H' => H' a = some (.frz od (.dK ws)) ∧ D.ct σ' (upd H' a (.dK ws))⟩ I1 ?_) fun f s1 q => ?_
      · refine ⟨ρ, _, τ, lock_start r es ea eh vr, l, ?_⟩
        cases e : ms τ (S.set i (.lck (.dK kvs))) with
        | nx τ2 S2 =>
          rw [e] at hw
          intro ρ2 H2 σ2 p2 r2 l2
          dsimp only [unlS] at hw
          cases eu : unl i kvs S2 with
          | none => rw [eu] at hw; exact hw.elim
          | some S3 =>
            rw [eu] at hw
            obtain ⟨h2, p3, r3⟩ := lock_end eh vr ea p2 r2 eu
            exact ⟨h2, hw ρ2 _ σ2 p3 r3 l2⟩
        | rt v S2 =>
          rw [e] at hw
          intro ρ2 H2 w p2 r2 l2
          dsimp only [unlS] at hw
          cases eu : unl i kvs S2 with
          | none => rw [eu] at hw; exact hw.elim
          | some S3 =>
            rw [eu] at hw
            obtain ⟨h2, p3, r3⟩ := lock_end eh vr ea p2 r2 eu
            exact ⟨h2, hw ρ2 _ w p3 r3 l2⟩
        | bk τ2 S2 =>
          rw [e] at hw
          intro ρ2 H2 σ2 p2 r2 l2
          dsimp only [unlS] at hw
          cases eu : unl i kvs S2 with
          | none => rw [eu] at hw; exact hw.elim
          | some S3 =>
            rw [eu] at hw
            obtain ⟨h2, p3, r3⟩ := lock_end eh vr ea p2 r2 eu
            exact ⟨h2, hw ρ2 _ σ2 p3 r3 l2⟩
        | ct τ2 S2 =>
          rw [e] at hw
          intro ρ2 H2 σ2 p2 r2 l2
          dsimp only [unlS] at hw
          cases eu : unl i kvs S2 with
          | none => rw [eu] at hw; exact hw.elim
          | some S3 =>
            rw [eu] at hw
            obtain ⟨h2, p3, r3⟩ := lock_end eh vr ea p2 r2 eu
            exact ⟨h2, hw ρ2 _ σ2 p3 r3 l2⟩
        | exc c d τ2 S2 =>
          rw [e] at hw
          intro ρ2 H2 σ2 Cx dd p2 r2 l2 xc dr
          dsimp only [unlS] at hw
          cases eu : unl i kvs S2 with
          | none => rw [eu] at hw; exact hw.elim
          | some S3 =>
            rw [eu] at hw
            obtain ⟨h2, p3, r3⟩ := lock_end eh vr ea p2 r2 eu
            refine ⟨h2, hw ρ2 _ σ2 Cx dd p3 r3 l2 xc (dr.mono (List.prefix_refl _) fun b fs z => ?_)⟩
            rw [upd_ne (fun q => by rw [q, h2] at z; cases z)]
            exact z
        | bad => rw [e] at hw; exact hw.elim
      · cases f with
        | next => obtain ⟨σ', H', I2, e, q⟩ := q; exact ⟨σ', _, I2.unlock e hn, q⟩
        | brk => obtain ⟨σ', H', I2, e, q⟩ := q; exact ⟨σ', _, I2.unlock e hn, q⟩
        | cont => obtain ⟨σ', H', I2, e, q⟩ := q; exact ⟨σ', _, I2.unlock e hn, q⟩
        | ret v => obtain ⟨x, σ', H', I2, r, e, q⟩ := q; exact ⟨x, σ', _, I2.unlock e hn, r, q⟩
    · exact (h W C).run pins s σ H D I ⟨ρ, S, τ, r, l, hw⟩
  · exact (h W C).run pins s σ H D I ⟨ρ, S, τ, r, l, hw⟩
theorem de_lock {e : Expr} {m : ME} {p : St → Sto → Option Nat} (C : Ctx X W k) (h : ∀ W', Ctx X W' k → DE T X W' e m) : DE T X W e (mLockE p m) := by
  refine ⟨fun pins s σ H Q I hw => ?_⟩
  obtain ⟨ρ, S, τ, r, l, hw⟩ := hw
  unfold mLockE at hw
  split at hw
  · rename_i i _
    split at hw
    · rename_i kvs es
      obtain ⟨a, ea⟩ := r.addr es
      obtain ⟨u, eh, ws, eu, vr⟩ := r.at_ i _ a es ea
      subst eu
      have hn := I.nofrz eh trivial
      obtain ⟨od, I1⟩ := I.lock eh trivial
      refine thn ((h (Wl W a od (.dK ws)) (C.lock hn)).run pins s σ _ (fun v H' => H' a = some (.frz od (.dK ws)) ∧ Q v (upd H' a (.dK ws))) I1 ?_) fun v s1 q => ?_
      · refine ⟨ρ, _, τ, lock_start r es ea eh vr, l, ?_⟩
        cases e : m τ (S.set i (.lck (.dK kvs))) with
        | ok v S2 =>
          rw [e] at hw
          intro ρ2 H2 w p2 r2 l2
          dsimp only [unlR] at hw
          cases eu : unl i kvs S2 with
          | none => rw [eu] at hw; exact hw.elim
          | some S3 =>
            rw [eu] at hw
            obtain ⟨h2, p3, r3⟩ := lock_end eh vr ea p2 r2 eu
            exact ⟨h2, hw ρ2 _ w p3 r3 l2⟩
        | exc c d S2 =>
          rw [e] at hw
          intro ρ2 H2 Cx dd p2 r2 xc dr
          dsimp only [unlR] at hw
          cases eu : unl i kvs S2 with
          | none => rw [eu] at hw; exact hw.elim
          | some S3 =>
            rw [eu] at hw
            obtain ⟨h2, p3, r3⟩ := lock_end eh vr ea p2 r2 eu
            refine ⟨h2, hw ρ2 _ Cx dd p3 r3 xc (dr.mono (List.prefix_refl _) fun b fs z => ?_)⟩
            rw [upd_ne (fun q => by rw [q, h2] at z; cases z)]
            exact z
        | bad => rw [e] at hw; exact hw.elim
      · obtain ⟨x, H', I2, r, e, q⟩ := q
        exact ⟨x, _, I2.unlock e hn, r, q⟩
    · exact (h W C).run pins s σ H Q I ⟨ρ, S, τ, r, l, hw⟩
  · exact (h W C).run pins s σ H Q I ⟨ρ, S, τ, r, l, hw⟩
end
/-- the class of exceptions at the place c: without an own __init__ -/
def XcF (T : Tab) (K : PySem.W.Frag) (mg : Str → Option Value) (c : Nat) (x : Str) : Prop := T.xs[c]? = some x ∧ ∃ C, mg x = some (.ref C) ∧ PySem.W.excIn K C [.type "ValueError", .type "Exception", .type "BaseException", .type "object"] "ValueError.__new__" = true ∧
  PySem.W.keepIn K (.ref C) = true ∧ PySem.W.subIn K (.ref C) (.type "BaseException") = some true ∧ PySem.W.typeIn K (.ref C) = some (.type "type")
def mRaise (c : Nat) : MS := fun σ S => .exc c none σ S
section
variable {T : Tab} {W : WX} {X : Cx} {k : Nat} {pos p p2 pos' : Pos} {x m : Str}
theorem ds_raise {c : Nat} {j} (C : CtS X W k) (F : XcF T X.K X.mg c x) (hg : Gl X x := by rfl) (hdb : (x == ("__debug__" : Str)) = false := by decide) : DS T X W (.Raise (some (.Call (.Name x p) [.Constant (.str m) j p2] [] pos)) none pos') (mRaise c) := by
  obtain ⟨hx, Ca, gC, q, kC, sC, tC⟩ := F
  refine (ps_raise C.calm C.takes (pmk_own PySem.F.excBase_ValueError q gC kC (raises_own sC tC) hg hdb)).imp fun D σ H h => ?_
  obtain ⟨ρ, S, τ, r, l, h⟩ := h
  exact h ρ H σ Ca none Ext.refl r l ⟨x, hx, gC⟩ rfl
end
def fnOf (n : Nat) (m : MS) : Fn := fun args S => match m (args.map some ++ List.replicate (n - args.length) none) S with
  | .rt v S1 => .ok v S1
  | .nx _ S1 => .ok .non S1
  | .exc c d _ S1 => .exc c d S1
  | _ => .bad
theorem start_lr {ρ : List Addr} {args vs : List V} {N : List Str} (h : VsR ρ args vs) : LR ρ (args.map some ++ List.replicate (N.length - args.length) none) (L2.start N vs) := by
  unfold L2.start
  rw [← prd_len h]
  refine prd_app ?_ (prd_rep (F := OR ρ) (x := none) (y := none) trivial _)
  induction h with
  | nil => exact .nil
  | cons r t ih => exact .cons r ih
section
variable {T : Tab} {P : Program} {w : World} {K : PySem.W.Frag} {mg : Str → Option Value} {base : Heap}
theorem fnOk_of {x qual : Str} {st : Stmt} {a : Addr} {fd : FuncData} {N ps : List Str} {k nn np : Nat} {m : MS} (F : Fun K x qual st a fd) (Sc : FnScope N ps (defScope st)) (hN : N.length = nn) (hp : ps.length = np)
    (hbody : ∀ (X : Cx) (cdv : Value) (A : Around) (outer : List Env) (s : Shared) (H : Hp) (E : XK), X = cxOf (L2.CX P w) P w K mg base N qual (defScope st) a cdv A outer s H E → CtS X (fun cls d _ H => E cls d H) k → DSs T X (fun cls d _ H => E cls d H) (defBody st) m) :
    FnOk P w K mg base (L2.CX P w) (k + 1) a fd ps (spOf ⟨K, mg, T.cs, T.xs⟩ np (fnOf nn m)) := by
  refine F.okX Sc (fun vs H Q E h => by rw [hp]; exact h.1) (fun cdv A outer s H vs Q E hr h => ?_)
  obtain ⟨hl, ρ, S, args, σ, r, va, h⟩ := h
  have tk : Takes (cxOf (L2.CX P w) P w K mg base N qual (defScope st) a cdv A outer s H E) (fun cls d _ H => E cls d H) := takes_of rfl rfl rfl rfl
  refine ⟨_, hbody _ cdv A outer s H E rfl ⟨⟨rfl, Sc.nd, hr, .inl tk, passes_of rfl⟩, tk, rfl, rfl, rfl⟩, ρ, S, _, r, start_lr va, ?_⟩
  unfold fnOf at h
  rw [hN]
  cases e : m (args.map some ++ List.replicate (nn - args.length) none) S with
  | rt v S1 => rw [e] at h; exact h
  | nx τ S1 => rw [e] at h; exact fun ρ2 H2 σ2 p2 r2 l2 => h ρ2 H2 .non p2 r2 rfl
  | exc c d τ S1 => rw [e] at h; exact fun ρ2 H2 σ2 C dd p2 r2 l2 => h ρ2 H2 C dd p2 r2
  | bk τ S1 => rw [e] at h; exact h.elim
  | ct τ S1 => rw [e] at h; exact h.elim
  | bad => rw [e] at h; exact h.elim
end
end Mi
namespace Mi
open PySem PySem.Spec L2
open PyProof.Rows hiding St
instance mulDec (a b : Int) : Decidable (IntMulOk a b) := by unfold IntMulOk; infer_instance
/-- a divisor of the size that is looked at -/
def DivOk (j : Int) : Prop := 0 < j ∧ j < 2 ^ 256
instance (j : Int) : Decidable (DivOk j) := by unfold DivOk; infer_instance
def oAdd : V → V → Sto → R V := fun x y S => match x, y with
  | .int i, .int j => .ok (.int (i + j)) S
  | .str i, .str j => if i.length + j.length ≤ sizeLine then .ok (.str (i ++ j)) S else .bad
  | .ref i, .ref j => match rdL S (.ref i), rdL S (.ref j) with
    | some xs, some ys => if xs.length + ys.length ≤ sizeLine then .ok (.ref S.length) (S ++ [.lst (xs ++ ys)]) else .bad
    | _, _ => match rdT S (.ref i), rdT S (.ref j) with
      | some xs, some ys => if xs ≠ [] ∧ ys ≠ [] ∧ xs.length + ys.length ≤ sizeLine then .ok (.ref S.length) (S ++ [.tup (xs ++ ys)]) else .bad
      | _, _ => .bad
  | _, _ => .bad
def oSub : V → V → Sto → R V := fun x y S => match x, y with
  | .int i, .int j => .ok (.int (i - j)) S
  | _, _ => .bad
def oMul : V → V → Sto → R V := fun x y S => match x, y with
  | .int i, .int j => if IntMulOk i j then .ok (.int (i * j)) S else .bad
  | .ref i, .int k => match S[i]? with
    | some (.lst xs) => if -(2 ^ 63) ≤ k ∧ k < 2 ^ 63 ∧ xs.length * k.toNat ≤ sizeLine then .ok (.ref S.length) (S ++ [.lst (List.replicate k.toNat xs).flatten]) else .bad
    | _ => .bad
  | _, _ => .bad
def oDiv : V → V → Sto → R V := fun x y S => match x, y with
  | .int i, .int j => if DivOk j then .ok (.int (i / j)) S else .bad
  | _, _ => .bad
def oMod : V → V → Sto → R V := fun x y S => match x, y with
  | .int i, .int j => if 0 < j then .ok (.int (i % j)) S else .bad
  | _, _ => .bad
def oPow : V → V → Sto → R V := fun x y S => match x, y with
  | .int i, .int j => if 0 ≤ j ∧ j ≤ 1000000 ∧ i.natAbs < 2 ^ 64 then .ok (.int (i ^ j.toNat)) S else .bad
  | _, _ => .bad
def oNeg : V → Sto → R V := fun x S => match x with
  | .int i => .ok (.int (-i)) S
  | _ => .bad
section
variable {T : Tab} {X : Cx}
/-- an operation's rule at the values at hand -/
theorem opR_of {f : Value → Value → Sem Value} {o : V → V → Sto → R V}
    (h : ∀ (pins : List (Addr × Obj)) (s : Shared) (σ : St) (H : Hp) (x y : V) (v u : Value) (Q : VK) (ρ : List Addr) (S : Sto) (a b : V) (τ : St), Inv X pins σ H s → RelV x v → RelV y u → Rep (gm T X) ρ S H → VR ρ a x → VR ρ b y → Post (gm T X) W0 VR ρ H τ Q (o a b S) →
      wpAny (model X.prog X.w) X.A (f v u) (EP X pins σ Q) X.xe s) : OpR X f (denR (gm T X) o) := fun pins s σ H x y v u Q I rx ry ⟨ρ, S, a, b, τ, r, va, vb, q⟩ => h pins s σ H x y v u Q ρ S a b τ I rx ry r va vb q
theorem cat_any (pins : List (Addr × Obj)) (s : Shared) (σ : St) (H : Hp) (l b : Addr) (xs zs : List V) (Q : VK) (I : Inv X pins σ H s) (hl : SqL X.K H l xs) (hb : SqL X.K H b zs) (hz : xs.length + zs.length ≤ sizeLine)
    (q : ∀ p, H p = none → Q (.ref p) (upd H p (.lst (xs ++ zs)))) : wpAny (model X.prog X.w) X.A (binaryOp .Add (.ref l) (.ref b)) (EP X pins σ Q) X.xe s := by
  obtain ⟨its, r, ⟨⟨cls, dd, data, sl⟩, n, ho, hc, hd, hs⟩, _⟩ := I.list hl
  obtain ⟨its2, r2, ⟨⟨cls2, dd2, data2, sl2⟩, n2, ho2, hc2, hd2, hs2⟩, _⟩ := I.list hb
  have hl1 := r.length
  have hl2 := r2.length
  simp only at hc hd hs hc2 hd2 hs2
  subst hc hd hs hc2 hd2 hs2
  refine concat_meets ⟨_, ho, rfl⟩ ⟨_, ho2, rfl⟩ noFill_list_add seq_list_add PySem.F.slot_list_add PySem.F.entry_list_add (PySem.F.args_list_add_2 _ _) (list_addW l b its.toArray its2.toArray n n2 none none sl sl2 (by rw [List.size_toArray, List.size_toArray]; omega)) ⟨ho, ho2, ?_⟩
  rw [show its.toArray ++ its2.toArray = (its ++ its2).toArray by simp]
  exact ⟨.ref _, _, I.lnew (t' := s.toks) (r.append r2) (by rw [List.length_append]; omega), rfl, q _ I.fresh⟩
theorem op2_add : Op2 T X (binaryOp .Add) oAdd := by
  refine ⟨opR_of fun pins s σ H x y v u Q ρ S a b τ I rx ry r va vb h => ?_, fun x y S => ?_⟩
  · unfold oAdd at h
    split at h
    · cases va
      cases vb
      exact op_add pins s σ H _ _ v u Q I rx ry ⟨_, _, rfl, rfl, h ρ H _ Ext.refl r rfl⟩
    · cases va
      cases vb
      split at h
      · rename_i hz
        exact op_add_str pins s σ H _ _ v u Q I rx ry ⟨_, _, rfl, rfl, hz, h ρ H _ Ext.refl r rfl⟩
      · exact h.elim
    · rename_i i j
      split at h
      · rename_i xs ys e1 e2
        split at h
        · rename_i hz
          obtain ⟨a1, ws1, ew1, eh1, vr1⟩ := r.rdL e1 va
          obtain ⟨a2, ws2, ew2, eh2, vr2⟩ := r.rdL e2 vb
          subst ew1
          subst ew2
          cases rx
          cases ry
          refine cat_any pins s σ H a1 a2 ws1 ws2 Q I (.inl eh1) (.inl eh2) (by rw [← prd_len vr1, ← prd_len vr2]; exact hz) fun p np => ?_
          exact h _ _ _ (Ext.new np) (r.alloc np ⟨_, rfl, VsR.mono (prd_app vr1 vr2) (List.prefix_append _ _)⟩) (new_ref r.len)
        · exact h.elim
      · split at h
        · rename_i xs ys e1 e2
          split at h
          · rename_i hz
            obtain ⟨a1, ws1, ew1, eh1, vr1⟩ := r.rdT e1 va
            obtain ⟨a2, ws2, ew2, eh2, vr2⟩ := r.rdT e2 vb
            subst ew1
            subst ew2
            have ne : ∀ {xs ws : List V}, VsR ρ xs ws → xs ≠ [] → ws ≠ [] := fun t n q => by
              subst q
              cases t
              exact n rfl
            refine op_catT pins s σ H _ _ v u Q I rx ry ⟨a1, a2, ws1, ws2, rfl, rfl, .inl (.inl eh1), .inl (.inl eh2), ne vr1 hz.1, by rw [← prd_len vr1, ← prd_len vr2]; exact hz.2.2, fun q => absurd q (ne vr2 hz.2.1), fun _ p np => ?_⟩
            exact h _ _ _ (Ext.new np) (r.alloc np ⟨_, rfl, VsR.mono (prd_app vr1 vr2) (List.prefix_append _ _)⟩) (new_ref r.len)
          · exact h.elim
        · exact h.elim
    · exact h.elim
  · unfold oAdd
    repeat' split
    all_goals trivial
def oIAdd : V → V → Sto → R V := fun x y S => match x, y with
  | .int i, .int j => .ok (.int (i + j)) S
  | _, _ => .bad
theorem op2_mul : Op2 T X (binaryOp .Mult) oMul := by
  refine ⟨opR_of fun pins s σ H x y v u Q ρ S a b τ I rx ry r va vb h => ?_, fun x y S => ?_⟩
  · unfold oMul at h
    split at h
    · cases va
      cases vb
      split at h
      · rename_i hz
        have om : OpR X (binaryOp .Mult) (rI IntMulOk fun i j => .int (i * j)) := opI fun _ _ _ _ _ _ _ hc q => mul_int q hc
        exact om pins s σ H _ _ v u Q I rx ry ⟨_, _, rfl, rfl, hz, h ρ H _ Ext.refl r rfl⟩
      · exact h.elim
    · cases vb
      split at h
      · rename_i xs e1
        split at h
        · rename_i hz
          obtain ⟨a1, u1, ew1, er1, eh1, ws1, eu1, vr1⟩ := r.ref e1 va
          subst ew1
          subst eu1
          refine op_rep pins s σ H _ _ v u Q I rx ry ⟨a1, _, ws1, rfl, rfl, eh1, hz.1, hz.2.1, by rw [← prd_len vr1]; exact hz.2.2, fun p np => ?_⟩
          refine h _ _ _ (Ext.new np) (r.alloc np ⟨_, rfl, VsR.mono ?_ (List.prefix_append _ _)⟩) (new_ref r.len)
          rename_i k _
          generalize k.toNat = n
          induction n with
          | zero => exact .nil
          | succ n ih => rw [List.replicate_succ, List.replicate_succ, List.flatten_cons, List.flatten_cons]; exact prd_app vr1 ih
        · exact h.elim
      · exact h.elim
    · exact h.elim
  · unfold oMul
    repeat' split
    all_goals trivial
theorem DivOk.wide {i j : Int} (h : DivOk j) : CDivW i j := by
  have : j.natAbs < 2 ^ 256 := by have := h.2; have := h.1; omega
  exact wide_div h.1 this (by decide) (by decide)
theorem op2_div : Op2 T X (binaryOp .FloorDiv) oDiv := by
  refine ⟨opR_of fun pins s σ H x y v u Q ρ S a b τ I rx ry r va vb h => ?_, fun x y S => ?_⟩
  · unfold oDiv at h
    split at h
    · cases va
      cases vb
      split at h
      · rename_i hz
        exact op_fdivW pins s σ H _ _ v u Q I rx ry ⟨_, _, rfl, rfl, hz.wide, h ρ H _ Ext.refl r rfl⟩
      · exact h.elim
    · exact h.elim
  · unfold oDiv
    repeat' split
    all_goals trivial
theorem op2_mod : Op2 T X (binaryOp .Mod) oMod := by
  refine ⟨opR_of fun pins s σ H x y v u Q ρ S a b τ I rx ry r va vb h => ?_, fun x y S => ?_⟩
  · unfold oMod at h
    split at h
    · cases va
      cases vb
      split at h
      · rename_i hz
        exact op_mod pins s σ H _ _ v u Q I rx ry ⟨_, _, rfl, rfl, hz, h ρ H _ Ext.refl r rfl⟩
      · exact h.elim
    · exact h.elim
  · unfold oMod
    repeat' split
    all_goals trivial
theorem op2_pow : Op2 T X (binaryOp .Pow) oPow := by
  refine ⟨opR_of fun pins s σ H x y v u Q ρ S a b τ I rx ry r va vb h => ?_, fun x y S => ?_⟩
  · unfold oPow at h
    split at h
    · cases va
      cases vb
      split at h
      · rename_i hz
        exact op_pow pins s σ H _ _ v u Q I rx ry ⟨_, _, rfl, rfl, hz, h ρ H _ Ext.refl r rfl⟩
      · exact h.elim
    · exact h.elim
  · unfold oPow
    repeat' split
    all_goals trivial
abbrev Op1 (T : Tab) (X : Cx) (f : Value → Sem Value) (o : V → Sto → R V) : Prop := UnR X f (denU (gm T X) o) ∧ ∀ x S, (o x S).quiet
theorem op1_neg : Op1 T X (unaryOp .USub) oNeg := by
  refine ⟨fun pins s σ H x v Q I rx h => ?_, fun x S => ?_⟩
  · obtain ⟨ρ, S, a, τ, r, va, h⟩ := h
    unfold oNeg at h
    split at h
    · cases va
      exact un_neg pins s σ H _ v Q I rx ⟨_, rfl, h ρ H _ Ext.refl r rfl⟩
    · exact h.elim
  · unfold oNeg
    split <;> trivial
theorem de_un {W : WX} {op : UnaryOp} {o : V → Sto → R V} {a : Expr} {ma : ME} {pos : Pos} (ho : Op1 T X (unaryOp op) o) (ha : DE T X W a ma) : DE T X W (.UnaryOp op a pos) (mUn o ma) := (pe_un ho.1 ha).imp fun σ H Q h => by
  obtain ⟨ρ, S, τ, r, l, h⟩ := h
  refine ⟨ρ, S, τ, r, l, Post.bind h fun ρ1 S1 H1 x w p1 r1 x1 h1 => ?_⟩
  exact ⟨ρ1, S1, x, σ, r1, x1, h1.still (ho.2 _ _)⟩
def oCmp (p : Int → Int → Bool) : V → V → Sto → R V := fun x y S => match x, y with
  | .int i, .int j => .ok (.bl (p i j)) S
  | _, _ => .bad
theorem op2_cmp {f : Value → Value → Sem Value} {p : Int → Int → Bool} (h0 : OpR X f (rI0 fun i j => .bl (p i j))) : Op2 T X f (oCmp p) := by
  refine ⟨opR_of fun pins s σ H x y v u Q ρ S a b τ I rx ry r va vb h => ?_, fun x y S => ?_⟩
  · unfold oCmp at h
    split at h
    · cases va
      cases vb
      exact h0 pins s σ H _ _ v u Q I rx ry ⟨_, _, rfl, rfl, h ρ H _ Ext.refl r rfl⟩
    · exact h.elim
  · unfold oCmp
    repeat' split
    all_goals trivial
abbrev oLt := oCmp fun i j => decide (i < j)
abbrev oLe := oCmp fun i j => decide (i ≤ j)
abbrev oGt := oCmp fun i j => decide (j < i)
theorem op2_lt : Op2 T X (compareOp .Lt) oLt := op2_cmp op_lt
theorem op2_le : Op2 T X (compareOp .LtE) oLe := op2_cmp op_le
theorem op2_gt : Op2 T X (compareOp .Gt) oGt := op2_cmp op_gt
def isNon : V → Bool
  | .non => true
  | _ => false
def oIs : V → V → Sto → R V := fun x y S => match y with
  | .non => .ok (.bl (isNon x)) S
  | _ => .bad
def oIsN : V → V → Sto → R V := fun x y S => match y with
  | .non => .ok (.bl (!isNon x)) S
  | _ => .bad
theorem isNon_vr {ρ : List Addr} {v w : V} (h : VR ρ v w) : decide (w = .non) = isNon v := by
  cases v with
  | ref i => obtain ⟨a, _, e⟩ := h; subst e; rfl
  | _ => cases h; rfl
theorem op2_is : Op2 T X (compareOp .Is) oIs := by
  refine ⟨opR_of fun pins s σ H x y v u Q ρ S a b τ I rx ry r va vb h => ?_, fun x y S => ?_⟩
  · unfold oIs at h
    split at h
    · cases vb
      exact op_isN pins s σ H _ _ v u Q I rx ry ⟨rfl, h ρ H _ Ext.refl r (by rw [isNon_vr va]; rfl)⟩
    · exact h.elim
  · unfold oIs
    split <;> trivial
theorem op2_isN : Op2 T X (compareOp .IsNot) oIsN := by
  refine ⟨opR_of fun pins s σ H x y v u Q ρ S a b τ I rx ry r va vb h => ?_, fun x y S => ?_⟩
  · unfold oIsN at h
    split at h
    · cases vb
      exact op_notN pins s σ H _ _ v u Q I rx ry ⟨rfl, h ρ H _ Ext.refl r (by rw [isNon_vr va]; rfl)⟩
    · exact h.elim
  · unfold oIsN
    split <;> trivial
end
end Mi
namespace Mi
open PySem PySem.Spec L2
open PyProof.Rows hiding St
structure CtH (X : Cx) (k : Nat) : Prop where
  nd : X.N.Nodup
  dp : X.A.depth + 3 * k + 5 < recursionLimit
  un : X.A.units + 16 * k + 200 < cLine
/-- try: body / except K (as n): suite -/
def mTry (body : MS) (sub : Nat → Bool) (i : Option Nat) (suite : MS) : MS := fun σ S => match body σ S with
  | .exc c d σ1 S1 => if sub c = true then (match i with
    | some j => (match suite (σ1.set j (some (.ref S1.length))) (S1 ++ [.exc c d]) with
      | .nx σ2 S2 => .nx (σ2.set j none) S2
      | .rt v S2 => .rt v S2
      | .bk σ2 S2 => .bk (σ2.set j none) S2
      | .ct σ2 S2 => .ct (σ2.set j none) S2
      | _ => .bad)
    | none => (match suite σ1 S1 with
      | .exc _ _ _ _ => .bad
      | r => r)) else .exc c d σ1 S1
  | r => r
section
variable {T : Tab} {W : WX} {X : Cx} {k : Nat} {body suite : List Stmt} {b₀ : Stmt} {np pos pos' : Pos} {x n : Str} {cv : Value} {mb ms : MS} {sub : Nat → Bool} {i : Nat}
theorem CtS.tr (C : CtS X W k) {W' : WX} {pn : List (Addr × Obj)} {xe : Value → Shared → Prop} (tk : Takes (X.tr pn xe) W') (ow : PassesOwn (model X.prog X.w) X.A X.env xe) : CtS (X.tr pn xe) W' k :=
  ⟨⟨C.calm, C.nd, C.room, .inl tk, ow⟩, tk, C.stk, C.frm, C.ex⟩
end
end Mi
namespace Mi
open PySem PySem.Spec L2
open PyProof.Rows hiding St
inductive Tag where
  | non | bl | int | str | lst | tup | dct | exc (c : Nat) | ins (c : Nat)
  deriving DecidableEq
def tagOf (S : Sto) : V → Option Tag
  | .non => some .non
  | .bl _ => some .bl
  | .int _ => some .int
  | .str _ => some .str
  | .ref i => match S[i]? with
    | some (.lst _) => some .lst
    | some (.lck (.lst _)) => some .lst
    | some (.tup _) => some .tup
    | some (.dK _) => some .dct
    | some (.lck (.dK _)) => some .dct
    | some (.exc c none) => some (.exc c)
    | some (.ins c _) => some (.ins c)
    | _ => none
  | _ => none
def lookT : List (Tag × Bool) → Tag → Option Bool
  | [], _ => none
  | (t, b) :: r, u => if t = u then some b else lookT r u
def mIsi (tab : List (Tag × Bool)) (a : ME) : ME := fun σ S => (a σ S).bind fun v S1 => match tagOf S1 v with
  | some t => match lookT tab t with
    | some b => .ok (.bl b) S1
    | none => .bad
  | none => .bad
/-- what a tag's class is to the machine -/
def TagV (T : Tab) (K : PySem.W.Frag) (mg : Str → Option Value) : Tag → Value → Prop
  | .non, t => t = .type "NoneType"
  | .bl, t => t = .type "bool"
  | .int, t => t = .type "int"
  | .str, t => t = .type "str"
  | .lst, t => t = .type "list"
  | .tup, t => t = .type "tuple"
  | .dct, t => t = .type "dict"
  | .exc c, t => ∃ x C, T.xs[c]? = some x ∧ mg x = some (.ref C) ∧ t = .ref C ∧ ExcC K C
  | .ins c, t => ∃ x L C, T.cs[c]? = some (x, L) ∧ mg x = some (.ref C) ∧ t = .ref C ∧ Cls K C ∧ PySem.W.findIn K (.ref C) "__class__" = some (some (.builtin "object.__class__")) ∧
      PySem.W.specialIn K (.builtin "object.__class__") "__get__" = some (some (.builtin "getset_descriptor.__get__")) ∧ PySem.W.takesIn K (.builtin "object.__class__") = some true ∧ PySem.W.mroIn K C (.type "object") = some true
/-- the table tells what the machine's look at the classes cs tells -/
def ITab (T : Tab) (K : PySem.W.Frag) (mg : Str → Option Value) (cs : List Value) : List (Tag × Bool) → Prop
  | [] => True
  | (t, b) :: r => (∃ u, TagV T K mg t u ∧ PySem.W.kitAny K u cs = some b) ∧ ITab T K mg cs r
section
variable {T : Tab} {W : WX} {X : Cx} {pins : List (Addr × Obj)} {σ : St} {H : Hp} {s : Shared} {k : Nat}
theorem ITab.get {cs : List Value} : ∀ {tab : List (Tag × Bool)} {t : Tag} {b : Bool}, ITab T X.K X.mg cs tab → lookT tab t = some b → ∃ u, TagV T X.K X.mg t u ∧ PySem.W.kitAny X.K u cs = some b
  | [], _, _, _, e => by cases e
  | (d, g) :: r, t, b, h, e => by
    unfold lookT at e
    by_cases z : d = t
    · rw [if_pos z] at e
      cases e
      rw [← z]
      exact h.1
    · rw [if_neg z] at e
      exact ITab.get h.2 e
theorem exK_inst {a C : Addr} {d : Option Addr} (I : Inv X pins σ H s) (h : H a = some (ExK C d a)) : ∃ oe vs, s.heap.get? a = some oe ∧ oe.cls = .ref C ∧ oe.dict = d ∧ oe.data = .fields vs := by
  obtain ⟨⟨oe, vs, h1, h2, h3, h4⟩, _⟩ := (show ObjOk X.prog X.w H s.heap a (ExK C d a) from I.hok a _ h)
  exact ⟨oe, vs, h1, h2, h3, h4⟩
theorem kit_tag {ρ : List Addr} {S : Sto} {v w : V} {u t : Value} {g : Tag} (I : Inv X pins σ H s) (r : Rep (gm T X) ρ S H) (x : VR ρ v w) (rw' : RelV w u) (e : tagOf S v = some g) (ht : TagV T X.K X.mg g t) :
    ∃ P : Heap → Prop, PySem.W.KitX X.K u t P ∧ P s.heap ∧ u ≠ .builtin "__main__.__loader__#opaque" := by
  unfold tagOf at e
  split at e
  · cases e; cases x; cases ht; exact kit_of I rw' (.base .non)
  · cases e; cases x; cases ht; exact kit_of I rw' (.base (.bl _))
  · cases e; cases x; cases ht; exact kit_of I rw' (.base (.int _))
  · cases e; cases x; cases ht; exact kit_of I rw' (.base (.str _))
  · rename_i i
    split at e
    · rename_i es; cases e; cases ht
      obtain ⟨a, u', ew, er, eh, ws, eu, vr⟩ := r.ref es x
      subst ew; subst eu
      exact kit_of I rw' (.base (.lst eh))
    · rename_i es; cases e; cases ht
      obtain ⟨a, u', ew, er, eh, ob, u2, eu, ws, eu2, vr⟩ := r.ref es x
      subst ew; subst eu; subst eu2
      exact kit_of I rw' (.base (.frz eh))
    · rename_i es; cases e; cases ht
      obtain ⟨a, u', ew, er, eh, ws, eu, vr⟩ := r.ref es x
      subst ew; subst eu
      exact kit_of I rw' (.base (.tup eh))
    · rename_i es; cases e; cases ht
      obtain ⟨a, u', ew, er, eh, ws, eu, vr⟩ := r.ref es x
      subst ew; subst eu
      exact kit_of I rw' (.base (.dK eh))
    · rename_i es; cases e; cases ht
      obtain ⟨a, u', ew, er, eh, ob, u2, eu, ws, eu2, vr⟩ := r.ref es x
      subst ew; subst eu; subst eu2
      exact kit_of I rw' (.fDict eh)
    · rename_i c es; cases e
      obtain ⟨y, C, hx, hm, et, xc⟩ := ht
      subst et
      obtain ⟨a, u', ew, er, eh, C2, dd, xc2, eu, dr⟩ := r.ref es x
      subst ew
      obtain ⟨y2, hx2, hm2⟩ := xc2
      have q1 : some y = some y2 := hx.symm.trans hx2
      cases q1
      have q2 : some (Value.ref C) = some (Value.ref C2) := hm.symm.trans hm2
      cases q2
      have dn : dd = none := dr
      subst dn
      subst eu
      obtain ⟨oe, vs, h1, h2, h3, h4⟩ := exK_inst I eh
      cases rw'
      refine ⟨_, PySem.W.handS_kitx_exc (ox := oe) xc.hg xc.hk xc.hs xc.hd xc.ha xc.hn xc.ht xc.hm, ⟨h1, h2, by unfold PySem.W.notCls; rw [h4] <;> rfl, by rw [h3]; trivial⟩, fun z => nomatch z⟩
    · rename_i c fs es; cases e
      obtain ⟨y, L, C, hc, hm, et, cl, q1, q2, q3, q4⟩ := ht
      subst et
      obtain ⟨a, u', ew, er, eh, y2, L2', C2, dx, gs, hc2, hm2, eu, ar⟩ := r.ref es x
      subst ew
      have z1 : some (y, L) = some (y2, L2') := hc.symm.trans hc2
      cases z1
      have z2 : some (Value.ref C) = some (Value.ref C2) := hm.symm.trans hm2
      cases z2
      subst eu
      exact kit_of I rw' (.base (.ins eh cl q1 q2 q3 q4))
    · cases e
  · cases e
variable {e ce : Expr} {ces : List Expr} {m : ME} {p pos tpos : Pos}
/-- isinstance(e, K) -/
theorem de_isi {cw : V} {cv : Value} {tab : List (Tag × Bool)} (hm : X.mg "isinstance" = none) (he : DE T X W e m) (hc : PE X ce (tC cw)) (hcv : ClsV cw cv) (ht : ITab T X.K X.mg [cv] tab) (hg : Gl X "isinstance" := by rfl)
    (hs1 : starEach [e, ce] X.env = (false, eval e X.env) :: starEach [ce] X.env := by rfl) (hs2 : starEach [ce] X.env = (false, eval ce X.env) :: starEach [] X.env := by rfl) (hpl : (backTo pos (starEach [ce] X.env)).any (·.1) = false := by rfl) :
    DE T X W (.Call (.Name "isinstance" p) [e, ce] [] pos) (mIsi tab m) := by
  have hcall : CallR X (.builtin "isinstance") (fun xs H Q => ∃ ρ S v x g b, xs = [x, cw] ∧ Rep (gm T X) ρ S H ∧ VR ρ v x ∧ tagOf S v = some g ∧ lookT tab g = some b ∧ Q (.bl b) H) := by
    intro pins s σ H xs us Q I r h
    obtain ⟨ρ, S, v, x, g, b, rfl, rp, vx, eg, el, q⟩ := h
    obtain ⟨u1, u2, rfl, r1, r2⟩ := vals2 r
    have e2 := hcv.eq r2
    subst e2
    obtain ⟨t, tv, ka⟩ := ht.get el
    obtain ⟨P, Z, pp, hx⟩ := kit_tag I rp vx r1 eg tv
    have ko : PySem.W.kitOne X.K t u2 = some b := by
      unfold PySem.W.kitAny at ka
      cases h1 : PySem.W.kitOne X.K t u2 with
      | none => rw [h1] at ka; cases ka
      | some c =>
        rw [h1] at ka
        cases c with
        | true => exact ka
        | false => exact ka
    exact PySem.W.kia_one Z I.kIn pp ko hx fun tk => ⟨.bl b, H, I.tok tk, rfl, q⟩
  refine (pe_callB hcall hg hm (by decide +kernel) (pa_cons he (pa_cons hc pa_nil hs2) hs1) (by decide) (by decide) hs1 hpl).imp fun σ H Q h => ?_
  obtain ⟨ρ, S, τ, r, l, h⟩ := h
  refine ⟨ρ, S, τ, r, l, Post.bind h fun ρ1 S1 H1 v w p1 r1 x1 h1 => ?_⟩
  split at h1
  · rename_i g eg
    split at h1
    · rename_i b eb
      exact ⟨ρ1, S1, v, w, g, b, rfl, r1, x1, eg, eb, h1 ρ1 H1 _ Ext.refl r1 rfl⟩
    · exact h1.elim
  · exact h1.elim
end
end Mi
namespace Mi
open PySem PySem.Spec L2
open PyProof.Rows hiding St
def allSome {α : Type} : List (Option α) → Option (List α)
  | [] => some []
  | none :: _ => none
  | some a :: r => (allSome r).map (a :: ·)
def rdD (S : Sto) : Nat → V → Option PyData
  | 0, _ => none
  | n + 1, v => match v with
    | .non => some .none
    | .bl b => some (.bool b)
    | .int i => some (.int i)
    | .str x => some (.str x)
    | .ref i => match S[i]? with
      | some (.lst xs) => (allSome (xs.map (rdD S n))).map .list
      | some (.lck (.lst xs)) => (allSome (xs.map (rdD S n))).map .list
      | some (.tup xs) => (allSome (xs.map (rdD S n))).map .tuple
      | _ => none
    | _ => none
def eqDepth : Nat := 12
def oEqD (neg : Bool) : V → V → Sto → R V := fun x y S => match rdD S eqDepth x, rdD S eqDepth y with
  | some d, some e => if SeqAt.shaped d = true ∧ SeqAt.shaped e = true then .ok (.bl (neg != PyData.eqv d e)) S else .bad
  | _, _ => .bad
abbrev oEq := oEqD false
abbrev oNe := oEqD true
section
variable {T : Tab} {X : Cx} {G : Gm} {ρ : List Addr} {S : Sto} {H : Hp}
theorem rdD_all (n : Nat) (ih : ∀ v w d, VR ρ v w → rdD S n v = some d → Dp G.K H w d) : ∀ {xs ws : List V} {ds : List PyData}, VsR ρ xs ws → allSome (xs.map (rdD S n)) = some ds → DpAll G.K H ws ds
  | _, _, _, .nil, e => by cases e; exact .nil
  | _, _, ds, .cons (l₁ := xs) r t, e => by
    rw [List.map_cons] at e
    unfold allSome at e
    split at e
    · rename_i h; cases h
    · cases e
    · rename_i a' r' h
      injection h with h1 h2
      subst h2
      cases e2 : allSome (xs.map (rdD S n)) with
      | none => rw [e2] at e; cases e
      | some es =>
        rw [e2] at e
        cases e
        exact .cons (ih _ _ _ r h1) (rdD_all n ih t e2)
theorem rdD_dp (r : Rep G ρ S H) : ∀ (n : Nat) (v w : V) (d : PyData), VR ρ v w → rdD S n v = some d → Dp G.K H w d
  | 0, _, _, _, _, e => by cases e
  | n + 1, v, w, d, x, e => by
    have ih := rdD_dp r n
    unfold rdD at e
    split at e
    · cases e; cases x; exact .non
    · cases e; cases x; exact .bl _
    · cases e; cases x; exact .int _
    · cases e; cases x; exact .str _
    · split at e
      · rename_i xs es
        obtain ⟨a, u, ew, _, eh, ws, eu, vr⟩ := r.ref es x
        subst ew; subst eu
        cases e2 : allSome (xs.map (rdD S n)) with
        | none => rw [e2] at e; cases e
        | some ds =>
          rw [e2] at e
          cases e
          exact .lst (.inl (.inl eh)) (rdD_all n ih vr e2)
      · rename_i xs es
        obtain ⟨a, u, ew, _, eh, ob, u2, eu, ws, eu2, vr⟩ := r.ref es x
        subst ew; subst eu; subst eu2
        cases e2 : allSome (xs.map (rdD S n)) with
        | none => rw [e2] at e; cases e
        | some ds =>
          rw [e2] at e
          cases e
          exact .lst (.inl (.inr ⟨ob, eh⟩)) (rdD_all n ih vr e2)
      · rename_i xs es
        obtain ⟨a, u, ew, _, eh, ws, eu, vr⟩ := r.ref es x
        subst ew; subst eu
        cases e2 : allSome (xs.map (rdD S n)) with
        | none => rw [e2] at e; cases e
        | some ds =>
          rw [e2] at e
          cases e
          exact .tup (.inl (.inl eh)) (rdD_all n ih vr e2)
      · cases e
    · cases e
theorem op2_eqD {op : CmpOp} {neg : Bool} (rule : OpR X (compareOp op) (fun x y H Q => ∃ d e, Dp X.K H x d ∧ Dp X.K H y e ∧ SeqAt.shaped d = true ∧ SeqAt.shaped e = true ∧ Q (.bl (neg != PyData.eqv d e)) H)) : Op2 T X (compareOp op) (oEqD neg) := by
  refine ⟨opR_of fun pins s σ H x y v u Q ρ S a b τ I rx ry r va vb h => ?_, fun x y S => ?_⟩
  · unfold oEqD at h
    split at h
    · rename_i d e ed ee
      split at h
      · rename_i hz
        exact rule pins s σ H _ _ v u Q I rx ry ⟨d, e, rdD_dp r _ _ _ _ va ed, rdD_dp r _ _ _ _ vb ee, hz.1, hz.2, h ρ H _ Ext.refl r rfl⟩
      · exact h.elim
    · exact h.elim
  · unfold oEqD
    repeat' split
    all_goals trivial
theorem op2_eq (hu : X.A.units + 64 < cLine) : Op2 T X (compareOp .Eq) oEq := op2_eqD fun pins s σ H x y v u Q I rx ry ⟨d, e, h1, h2, h3, h4, q⟩ => op_eqD hu pins s σ H x y v u Q I rx ry ⟨d, e, h1, h2, h3, h4, by simpa using q⟩
theorem op2_ne (hu : X.A.units + 64 < cLine) : Op2 T X (compareOp .NotEq) oNe := op2_eqD fun pins s σ H x y v u Q I rx ry ⟨d, e, h1, h2, h3, h4, q⟩ => op_neD hu pins s σ H x y v u Q I rx ry ⟨d, e, h1, h2, h3, h4, by simpa using q⟩
end
end Mi
namespace Mi
open PySem PySem.Spec L2
open PyProof.Rows hiding St
def mAlt (a b : ME) : ME := fun σ S => match a σ S with
  | .bad => b σ S
  | r => r
section
variable {T : Tab} {W : WX} {X : Cx} {e : Expr} {ma mb : ME}
theorem de_alt (ha : DE T X W e ma) (hb : DE T X W e mb) : DE T X W e (mAlt ma mb) := (pe_or2 ha hb).imp fun σ H Q h => by
  obtain ⟨ρ, S, τ, r, l, h⟩ := h
  unfold mAlt at h
  cases e : ma τ S with
  | bad => rw [e] at h; exact .inr ⟨ρ, S, τ, r, l, h⟩
  | ok v S2 => rw [e] at h; exact .inl ⟨ρ, S, τ, r, l, by rw [e]; exact h⟩
  | exc c d S2 => rw [e] at h; exact .inl ⟨ρ, S, τ, r, l, by rw [e]; exact h⟩
end
def keyOf : V → Option Key
  | .int i => some (.inl i)
  | .str x => some (.inr x)
  | _ => none
theorem keyOf_kV {v : V} {k : Key} (h : keyOf v = some k) : v = kV k := by
  unfold keyOf at h
  split at h <;> first | (cases h; rfl) | cases h
section
variable {ρ : List Addr} {kvs ws : List (Key × V)} {k : Key}
theorem fr_val {κ : Type} [DecidableEq κ] {kvs ws : List (κ × V)} {k : κ} (h : FR ρ kvs ws) : OR ρ (valV kvs k) (valV ws k) ∧ (valV kvs k = none → valV ws k = none) := by
  induction h with
  | nil => exact ⟨trivial, fun _ => rfl⟩
  | @cons p q ps qs r t ih =>
    by_cases z : p.1 = k
    · rw [valV_pos z, valV_pos (r.1.symm.trans z)]
      exact ⟨r.2, fun e => by cases e⟩
    · rw [valV_neg z, valV_neg (fun q => z (r.1.trans q))]
      exact ih
theorem fr_get {κ : Type} [DecidableEq κ] {kvs ws : List (κ × V)} {k : κ} {v : V} (h : FR ρ kvs ws) (e : valV kvs k = some v) : ∃ w, valV ws k = some w ∧ VR ρ v w := by
  have q := (fr_val (k := k) h).1
  rw [e] at q
  cases e2 : valV ws k with
  | none => rw [e2] at q; exact q.elim
  | some w => rw [e2] at q; exact ⟨w, rfl, q⟩
theorem fr_has {κ : Type} [DecidableEq κ] {kvs ws : List (κ × V)} {k : κ} (h : FR ρ kvs ws) : (valV ws k).isSome = (valV kvs k).isSome := by
  cases e : valV kvs k with
  | none => rw [(fr_val h).2 e]
  | some v => obtain ⟨w, e2, _⟩ := fr_get h e; rw [e2]; rfl
theorem fr_put {κ : Type} [DecidableEq κ] {kvs ws : List (κ × V)} {k : κ} {v w : V} (h : FR ρ kvs ws) (r : VR ρ v w) : FR ρ (putK kvs k v) (putK ws k w) := by
  unfold putK
  rw [valV_any, valV_any, fr_has h]
  by_cases z : (valV kvs k).isSome = true
  · rw [if_pos z, if_pos z]
    clear z
    induction h with
    | nil => exact .nil
    | @cons p q ps qs hr t ih =>
      refine .cons ?_ ih
      dsimp only
      by_cases z : p.1 = k
      · rw [if_pos z, if_pos (hr.1.symm.trans z)]
        exact ⟨hr.1, r⟩
      · rw [if_neg z, if_neg (fun q => z (hr.1.trans q))]
        exact hr
  · rw [if_neg z, if_neg z]
    exact prd_app h (.cons ⟨rfl, r⟩ .nil)
theorem fr_drop {κ : Type} [DecidableEq κ] {kvs ws : List (κ × V)} {k : κ} (h : FR ρ kvs ws) : FR ρ (dropK kvs k) (dropK ws k) := by
  unfold dropK
  induction h with
  | nil => exact .nil
  | @cons p q ps qs hr t ih =>
    rw [List.filter_cons, List.filter_cons]
    by_cases z : p.1 = k
    · have z2 := hr.1.symm.trans z
      rw [if_neg (by simp [z]), if_neg (by simp [z2])]
      exact ih
    · have z2 : ¬ q.1 = k := fun e => z (hr.1.trans e)
      rw [if_pos (by simp [z]), if_pos (by simp [z2])]
      exact .cons hr ih
theorem key_vr {v w : V} (h : keyOf v = some k) (x : VR ρ v w) : w = kV k := by
  rw [keyOf_kV h] at x
  cases k <;> exact x
end
def oIx : V → V → Sto → R V := fun x y S => match x, y with
  | .str z, .int i => if z.length ≤ sizeLine then (match atI z.cps.toList i with
    | some c => .ok (.str ⟨#[c]⟩) S
    | none => .bad) else .bad
  | x, .int i => match rdL S x with
    | some xs => (match atI xs i with
      | some v => .ok v S
      | none => .bad)
    | none => match rdT S x with
      | some xs => (match atI xs i with
        | some v => .ok v S
        | none => .bad)
      | none => .bad
  | _, _ => .bad
def oDGet : V → V → Sto → R V := fun x y S => match rdK S x, keyOf y with
  | some kvs, some k => (match valV kvs k with
    | some v => .ok v S
    | none => .bad)
  | _, _ => .bad
theorem atI_vr {ρ : List Addr} {xs ws : List V} {i : Int} {v : V} (h : VsR ρ xs ws) (e : atI xs i = some v) : ∃ w, atI ws i = some w ∧ VR ρ v w := by
  unfold atI at e ⊢
  rw [← prd_len h]
  cases e1 : ixN xs.length i with
  | none => rw [e1] at e; cases e
  | some j =>
    rw [e1] at e
    exact prd_get h e
section
variable {T : Tab} {W : WX} {X : Cx} {a b : Expr} {ma mb : ME} {pos : Pos}
theorem de_ix (ha : DE T X W a ma) (hb : DE T X W b mb) (hs : PlainIx b := by exact fun _ _ => rfl) : DE T X W (.Subscript a b pos) (mBin oIx ma mb) := (pe_ix ix_seq ha hb hs).imp fun σ H Q h => by
  obtain ⟨ρ, S, τ, r, l, h⟩ := h
  refine ⟨ρ, S, τ, r, l, Post.bind h fun ρ1 S1 H1 x w p1 r1 x1 h1 => ?_⟩
  refine ⟨ρ1, S1, τ, r1, l.mono p1.pre, Post.bind h1 fun ρ2 S2 H2 y u p2 r2 y2 h2 => ?_⟩
  have x2 := x1.mono p2.pre
  unfold oIx at h2
  split at h2
  · split at h2
    · split at h2
      · rename_i hz _ c ec
        cases x2
        cases y2
        exact .inr (.inr ⟨_, _, c, rfl, rfl, hz, ec, h2 ρ2 H2 _ Ext.refl r2 rfl⟩)
      · exact h2.elim
    · exact h2.elim
  · cases y2
    split at h2
    · rename_i xs el
      obtain ⟨ad, ws, ew, eh, vr⟩ := r2.rdL el x2
      subst ew
      split at h2
      · rename_i v ev
        obtain ⟨w', ew, rw'⟩ := atI_vr vr ev
        exact .inl ⟨ad, ws, _, w', rfl, rfl, .inl eh, ew, h2 ρ2 H2 _ Ext.refl r2 rw'⟩
      · exact h2.elim
    · split at h2
      · rename_i xs el
        obtain ⟨ad, ws, ew, eh, vr⟩ := r2.rdT el x2
        subst ew
        split at h2
        · rename_i v ev
          obtain ⟨w', ew, rw'⟩ := atI_vr vr ev
          exact .inr (.inl ⟨ad, ws, _, w', rfl, rfl, .inl (.inl eh), ew, h2 ρ2 H2 _ Ext.refl r2 rw'⟩)
        · exact h2.elim
      · exact h2.elim
  · exact h2.elim
theorem de_dget (hu : X.A.units + 1 < cLine) (ha : DE T X W a ma) (hb : DE T X W b mb) (hs : NoSl b := by exact fun _ _ => rfl) : DE T X W (.Subscript a b pos) (mBin oDGet ma mb) := (pe_dget hu ha hb hs).imp fun σ H Q h => by
  obtain ⟨ρ, S, τ, r, l, h⟩ := h
  refine ⟨ρ, S, τ, r, l, Post.bind h fun ρ1 S1 H1 x w p1 r1 x1 h1 => ?_⟩
  refine ⟨ρ1, S1, τ, r1, l.mono p1.pre, Post.bind h1 fun ρ2 S2 H2 y u p2 r2 y2 h2 => ?_⟩
  have x2 := x1.mono p2.pre
  unfold oDGet at h2
  split at h2
  · rename_i kvs k ek ey
    obtain ⟨ad, ws, ew, eh, fr⟩ := r2.rdK ek x2
    subst ew
    have eu := key_vr ey y2
    subst eu
    split at h2
    · rename_i v ev
      obtain ⟨w', ew, rw'⟩ := fr_get fr ev
      exact ⟨ad, w', rfl, .inl ⟨ws, k, eh, rfl, ew.symm⟩, h2 ρ2 H2 _ Ext.refl r2 rw'⟩
    · exact h2.elim
  · exact h2.elim
/-- a[b], of a list, a tuple, a text or a dict -/
theorem de_sub (hu : X.A.units + 1 < cLine) (ha : DE T X W a ma) (hb : DE T X W b mb) (hs : PlainIx b := by exact fun _ _ => rfl) : DE T X W (.Subscript a b pos) (mAlt (mBin oIx ma mb) (mBin oDGet ma mb)) := de_alt (de_ix ha hb hs) (de_dget hu ha hb hs)
end
abbrev MO := St → Sto → R (Option Int)
def mNoP : MO := fun _ S => .ok none S
def mPart (a : ME) : MO := fun σ S => (a σ S).bind fun v S1 => match v with
  | .int i => .ok (some i) S1
  | _ => .bad
def oSl : V → Option Int → Option Int → Sto → R V := fun x lo hi S => match x with
  | .str z => if z.length ≤ sizeLine then .ok (.str (cutS z lo hi)) S else .bad
  | x => match rdL S x with
    | some xs => .ok (.ref S.length) (S ++ [.lst (cutV xs lo hi)])
    | none => match rdT S x with
      | some xs => if (HT.sIx xs.length 0 lo = 0 ∧ HT.sIx xs.length xs.length hi = xs.length) then .bad else .ok (.ref S.length) (S ++ [.tup (cutV xs lo hi)])
      | none => .bad
def mSl (a : ME) (lo hi : MO) : ME := fun σ S => (a σ S).bind fun x S1 => (lo σ S1).bind fun l S2 => (hi σ S2).bind fun u S3 => oSl x l u S3
section
variable {T : Tab} {W : WX} {X : Cx} {e : Expr} {m : ME} {lo hi : Option Expr} {ml mh : MO} {pos p2 : Pos}
abbrev DO (T : Tab) (X : Cx) (W : WX) (e : Option Expr) (m : MO) : Prop := PO X e (fun σ H Q => den (gm T X) W (fun _ (a b : Option Int) => b = a) m σ H Q)
theorem do_none : DO T X W none mNoP := ⟨fun pins s σ H Q I h => po_none.run pins s σ H Q I (by
  obtain ⟨ρ, S, τ, r, l, h⟩ := h
  exact h ρ H none Ext.refl r rfl)⟩
theorem do_some (h : DE T X W e m) : DO T X W (some e) (mPart m) := ⟨fun pins s σ H Q I h' => (po_some h).run pins s σ H Q I (by
  obtain ⟨ρ, S, τ, r, l, h⟩ := h'
  refine ⟨ρ, S, τ, r, l, Post.bind h fun ρ1 S1 H1 x w p1 r1 x1 h1 => ?_⟩
  split at h1
  · cases x1
    exact ⟨_, rfl, h1 ρ1 H1 _ Ext.refl r1 rfl⟩
  · exact h1.elim)⟩
theorem cutV_vr {ρ : List Addr} {xs ws : List V} (h : VsR ρ xs ws) (lo hi : Option Int) : VsR ρ (cutV xs lo hi) (cutV ws lo hi) := by
  unfold cutV
  rw [← prd_len h]
  exact prd_take _ (prd_drop _ h)
theorem de_slice (he : DE T X W e m) (hl : DO T X W lo ml) (hh : DO T X W hi mh) : DE T X W (.Subscript e (.Slice lo hi none p2) pos) (mSl m ml mh) := (pe_slice (sl_list.or (sl_tup.or sl_str)) he hl hh).imp fun σ H Q h => by
  obtain ⟨ρ, S, τ, r, l, h⟩ := h
  refine ⟨ρ, S, τ, r, l, Post.bind h fun ρ1 S1 H1 x w p1 r1 x1 h1 => ?_⟩
  refine ⟨ρ1, S1, τ, r1, l.mono p1.pre, Post.bind h1 fun ρ2 S2 H2 y u p2 r2 y2 h2 => ?_⟩
  refine ⟨ρ2, S2, τ, r2, l.mono (p1.trans p2).pre, Post.bind h2 fun ρ3 S3 H3 z t p3 r3 z3 h3 => ?_⟩
  cases y2
  cases z3
  have x3 := x1.mono (p2.trans p3).pre
  unfold oSl at h3
  split at h3
  · split at h3
    · rename_i hz
      cases x3
      exact .inr (.inr ⟨_, rfl, hz, h3 ρ3 H3 _ Ext.refl r3 rfl⟩)
    · exact h3.elim
  · split at h3
    · rename_i xs el
      obtain ⟨ad, ws, ew, eh, vr⟩ := r3.rdL el x3
      subst ew
      exact .inl ⟨ad, ws, rfl, .inl eh, fun p np => h3 _ _ _ (Ext.new np) (r3.alloc np ⟨_, rfl, VsR.mono (cutV_vr vr _ _) (List.prefix_append _ _)⟩) (new_ref r3.len)⟩
    · split at h3
      · rename_i xs el
        obtain ⟨ad, ws, ew, eh, vr⟩ := r3.rdT el x3
        subst ew
        split at h3
        · exact h3.elim
        · rename_i hz
          exact .inr (.inl ⟨ad, ws, rfl, .inl (.inl eh), by rw [← prd_len vr]; exact hz, fun p np => h3 _ _ _ (Ext.new np) (r3.alloc np ⟨_, rfl, VsR.mono (cutV_vr vr _ _) (List.prefix_append _ _)⟩) (new_ref r3.len)⟩)
      · exact h3.elim
end
def tSetI : Op3 := fun x y v S => match x with
  | .ref i => match S[i]? with
    | some (.lst xs) => (match y with
      | .int k => (match ixN xs.length k with
        | some j => .ok () (S.set i (.lst (xs.set j v)))
        | none => .bad)
      | _ => .bad)
    | some (.dK kvs) => (match keyOf y with
      | some k => if kvs.length < sizeLine then .ok () (S.set i (.dK (putK kvs k v))) else .bad
      | none => .bad)
    | _ => .bad
  | _ => .bad
theorem PSet.or {X : Cx} {t t' : TSet} (h : PSet X t) (h' : PSet X t') : PSet X (fun o i v H Q => t o i v H Q ∨ t' o i v H Q) := fun pins s σ H o i v ov iv u Q I ro ri rv q =>
  q.elim (h pins s σ H o i v ov iv u Q I ro ri rv) (h' pins s σ H o i v ov iv u Q I ro ri rv)
theorem set_dct {X : Cx} (hu : X.A.units + 1 < cLine) : PSet X (fun o i v H Q => ∃ a H', o = .ref a ∧ DPut H a i v H' ∧ Q H') := by
  intro pins s σ H o i v ov iv u Q I ro ri rv h
  obtain ⟨a, H', rfl, g, q⟩ := h
  cases ro
  exact d_setItem hu I g ri rv fun s4 I4 => ⟨H', I4, q⟩
theorem st3_set {T : Tab} {X : Cx} (hu : X.A.units + 1 < cLine) : St3 T X tSetI := by
  refine ⟨fun pins s σ H o i v ov iv u Q I ro ri rv h => PSet.or set_list (set_dct hu) pins s σ H o i v ov iv u Q I ro ri rv ?_, fun x y z S => ?_⟩
  · obtain ⟨ρ, S, x, y, z, τ, r, xo, yi, zv, h⟩ := h
    unfold tSetI at h
    split at h
    · rename_i n
      split at h
      · rename_i xs es
        obtain ⟨a, u, ew, er, eh, ws, eu, vr⟩ := r.ref es xo
        subst ew; subst eu
        split at h
        · rename_i k
          cases yi
          split at h
          · rename_i j ej
            refine .inl ⟨a, ws, k, j, rfl, rfl, eh, by rw [← prd_len vr]; exact ej, ?_⟩
            exact h ρ _ () (Ext.put eh (fun _ _ q => nomatch q)) (r.write es er (fun fs q => by rw [eh] at q; cases q) ⟨_, rfl, prd_set zv j vr⟩) trivial
          · exact h.elim
        · exact h.elim
      · rename_i kvs es
        obtain ⟨a, u, ew, er, eh, ws, eu, vr⟩ := r.ref es xo
        subst ew; subst eu
        split at h
        · rename_i k ek
          have e2 := key_vr ek yi
          subst e2
          split at h
          · rename_i hz
            refine .inr ⟨a, _, rfl, .inl ⟨ws, k, eh, rfl, by rw [← prd_len vr]; exact hz, rfl⟩, ?_⟩
            exact h ρ _ () (Ext.put eh (fun _ _ q => nomatch q)) (r.write es er (fun fs q => by rw [eh] at q; cases q) ⟨_, rfl, fr_put vr zv⟩) trivial
          · exact h.elim
        · exact h.elim
      · exact h.elim
    · exact h.elim
  · unfold tSetI
    repeat' split
    all_goals trivial
/-- is x in the list, the tuple, the dict, the text? -/
def isIn (x y : V) (S : Sto) : Option Bool := match y with
  | .str z => (match x with
    | .str w => some (!(Builtin.Str.occurrences z w 0 z.length 1).isEmpty)
    | _ => none)
  | y => match rdL S y with
    | some xs => if flatV x = true ∧ xs.all flatV = true then some (inV x xs) else (match rdD S eqDepth x, rdD S eqDepth y with
      | some d, some (.list ds) => if SeqAt.shaped d = true ∧ SeqAt.shaped (.list ds) = true then some (ds.any fun z => PyData.eqv z d) else none
      | _, _ => none)
    | none => match rdT S y with
      | some xs => if flatV x = true ∧ xs.all flatV = true then some (inV x xs) else none
      | none => match rdK S y with
        | some kvs => (match keyOf x with
          | some k => some (valV kvs k).isSome
          | none => (match x with
            | .non => some false
            | _ => none))
        | none => none
def oInN (neg : Bool) : V → V → Sto → R V := fun x y S => match isIn x y S with
  | some b => .ok (.bl (neg != b)) S
  | none => .bad
abbrev oIn := oInN false
abbrev oNotIn := oInN true
theorem eqV_vr {ρ : List Addr} {x y x' y' : V} (h : VR ρ x x') (h' : VR ρ y y') (fx : flatV x = true) (fy : flatV y = true) : x' = x ∧ y' = y := by
  constructor
  · cases x with
    | ref i => cases fx
    | _ => exact h
  · cases y with
    | ref i => cases fy
    | _ => exact h'
theorem flat_vr {ρ : List Addr} {xs ws : List V} (h : VsR ρ xs ws) (f : xs.all flatV = true) : ws = xs := by
  induction h with
  | nil => rfl
  | @cons a b l1 l2 r t ih =>
    rw [List.all_cons, Bool.and_eq_true] at f
    rw [ih f.2, (eqV_vr r r f.1 f.1).1]
section
variable {T : Tab} {X : Cx}
theorem op2_inN {op : CmpOp} {neg : Bool} (hseq : OpR X (compareOp op) (rIn X.K neg)) (hd : OpR X (compareOp op) (fun x y H Q => ∃ d ds, Dp X.K H x d ∧ Dp X.K H y (.list ds) ∧ SeqAt.shaped d = true ∧ SeqAt.shaped (.list ds) = true ∧ Q (.bl (neg != ds.any fun z => PyData.eqv z d)) H))
    (hdict : OpR X (compareOp op) (fun y x H Q => ∃ a o, x = .ref a ∧ DGet H a y o ∧ Q (.bl (neg != o.isSome)) H)) (hnone : OpR X (compareOp op) (fun x y H Q => ∃ a kvs, x = .non ∧ y = .ref a ∧ Rd H a (.dK kvs) ∧ Q (.bl (neg != false)) H)) (hstr : OpR X (compareOp op) (fun x y H Q => ∃ i j, x = .str i ∧ y = .str j ∧ Q (.bl (neg != !(Builtin.Str.occurrences j i 0 j.length 1).isEmpty)) H)) : Op2 T X (compareOp op) (oInN neg) := by
  refine ⟨opR_of fun pins s σ H x y v u Q ρ S a b τ I rx ry r va vb h => ?_, fun x y S => ?_⟩
  · unfold oInN at h
    cases e : isIn a b S with
    | none => rw [e] at h; exact h.elim
    | some bb =>
      rw [e] at h
      have h := h ρ H _ Ext.refl r rfl
      unfold isIn at e
      split at e
      · split at e
        · cases e
          cases va
          cases vb
          exact hstr pins s σ H _ _ v u Q I rx ry ⟨_, _, rfl, rfl, h⟩
        · cases e
      · split at e
        · rename_i xs el
          obtain ⟨ad, ws, ew, eh, vr⟩ := r.rdL el vb
          subst ew
          split at e
          · rename_i hz
            cases e
            have e2 := flat_vr vr hz.2
            subst e2
            have e3 := (eqV_vr va va hz.1 hz.1).1
            subst e3
            exact hseq pins s σ H _ _ v u Q I rx ry ⟨ad, ws, rfl, .inl (.inl eh), hz.1, hz.2, by cases neg <;> simpa using h⟩
          · split at e
            · rename_i d ds ed ey
              split at e
              · rename_i hz
                cases e
                exact hd pins s σ H _ _ v u Q I rx ry ⟨d, ds, rdD_dp r _ _ _ _ va ed, rdD_dp r _ _ _ _ vb ey, hz.1, hz.2, h⟩
              · cases e
            · cases e
        · split at e
          · rename_i xs el
            obtain ⟨ad, ws, ew, eh, vr⟩ := r.rdT el vb
            subst ew
            split at e
            · rename_i hz
              cases e
              have e2 := flat_vr vr hz.2
              subst e2
              have e3 := (eqV_vr va va hz.1 hz.1).1
              subst e3
              exact hseq pins s σ H _ _ v u Q I rx ry ⟨ad, ws, rfl, .inr (.inl (.inl eh)), hz.1, hz.2, by cases neg <;> simpa using h⟩
            · cases e
          · split at e
            · rename_i kvs el
              obtain ⟨ad, ws, ew, eh, fr⟩ := r.rdK el vb
              subst ew
              split at e
              · rename_i k ek
                cases e
                have e2 := key_vr ek va
                subst e2
                exact hdict pins s σ H _ _ v u Q I rx ry ⟨ad, valV ws k, rfl, .inl ⟨ws, k, eh, rfl, rfl⟩, by rw [fr_has fr]; exact h⟩
              · split at e
                · cases e
                  cases va
                  exact hnone pins s σ H _ _ v u Q I rx ry ⟨ad, ws, rfl, rfl, eh, h⟩
                · cases e
            · cases e
  · unfold oInN
    split <;> trivial
theorem op2_in (hu : X.A.units + 65 < cLine) : Op2 T X (compareOp .In) oIn := op2_inN op_in_seq (fun pins s σ H x y v u Q I rx ry ⟨d, ds, h1, h2, h3, h4, q⟩ => op_inD hu pins s σ H x y v u Q I rx ry ⟨d, ds, h1, h2, h3, h4, by simpa using q⟩)
  (fun pins s σ H y x v u Q I ry rx ⟨a, o, ex, g, q⟩ => by
    subst ex
    cases rx
    exact d_in (by omega) I g ry fun s3 I3 => ⟨.bl o.isSome, H, I3, rfl, by simpa using q⟩)
  (fun pins s σ H x y v u Q I rx ry ⟨a, kvs, ex, ey, e, q⟩ => by
    subst ex ey
    cases rx
    cases ry
    exact L2.d_inNone I e fun s3 I3 => ⟨.bl false, H, I3, rfl, by simpa using q⟩)
  (fun pins s σ H x y v u Q I rx ry ⟨i, j, h1, h2, q⟩ => op_in_str pins s σ H x y v u Q I rx ry ⟨i, j, h1, h2, by simpa using q⟩)
theorem op2_notIn (hu : X.A.units + 65 < cLine) : Op2 T X (compareOp .NotIn) oNotIn := op2_inN op_notIn_seq (fun pins s σ H x y v u Q I rx ry ⟨d, ds, h1, h2, h3, h4, q⟩ => op_notInD hu pins s σ H x y v u Q I rx ry ⟨d, ds, h1, h2, h3, h4, by simpa using q⟩)
  (fun pins s σ H y x v u Q I ry rx ⟨a, o, ex, g, q⟩ => by
    subst ex
    cases rx
    exact d_notIn (by omega) I g ry fun s3 I3 => ⟨.bl (!o.isSome), H, I3, rfl, by simpa using q⟩)
  (fun pins s σ H x y v u Q I rx ry ⟨a, kvs, ex, ey, e, q⟩ => by
    subst ex ey
    cases rx
    cases ry
    exact L2.d_notInNone I e fun s3 I3 => ⟨.bl true, H, I3, rfl, by simpa using q⟩)
  (fun pins s σ H x y v u Q I rx ry ⟨i, j, h1, h2, q⟩ => op_notIn_str pins s σ H x y v u Q I rx ry ⟨i, j, h1, h2, by simpa using q⟩)
end
end Mi
namespace Mi
open PySem PySem.Spec L2
open PyProof.Rows hiding St
abbrev CalX (T : Tab) (X : Cx) (f : Value) (o : List V → Sto → R V) : Prop := CallR X f (denC (gm T X) o) ∧ ∀ xs S, (o xs S).quiet
section
variable {T : Tab} {W : WX} {X : Cx} {e : Expr} {es : List Expr} {ms : MA} {x : Str} {p pos : Pos} {id Ty : String} {o : List V → Sto → R V}
theorem den_call {σ : St} {H : Hp} {Q : VK} (ho : ∀ xs S, (o xs S).quiet) (h : den (gm T X) W VR (mCall o ms) σ H Q) : tCB (denC (gm T X) o) (den (gm T X) W VsR ms) σ H Q := by
  obtain ⟨ρ, S, τ, r, l, h⟩ := h
  refine ⟨ρ, S, τ, r, l, Post.bind h fun ρ1 S1 H1 x w p1 r1 x1 h1 => ?_⟩
  exact ⟨ρ1, S1, x, σ, r1, x1, h1.still (ho _ _)⟩
theorem de_callB (hc : CalX T X (.builtin id) o) (hm : X.mg x = none) (hv : bootBuiltins x = some (.builtin id)) (ha : DA T X W (e :: es) ms) (hg : Gl X x := by rfl) (hn : x ≠ "__name__" := by decide) (hdb : (x == ("__debug__" : Str)) = false := by decide)
    (he : starEach (e :: es) X.env = (false, eval e X.env) :: starEach es X.env := by rfl) (hpl : (backTo pos (starEach es X.env)).any (·.1) = false := by rfl) : DE T X W (.Call (.Name x p) (e :: es) [] pos) (mCall o ms) :=
  (pe_callB hc.1 hg hm hv ha hn hdb he hpl).imp fun σ H Q h => den_call hc.2 h
theorem de_callTy (hc : CalX T X (.type Ty) o) (hm : X.mg x = none) (hv : bootBuiltins x = some (.type Ty)) (ha : DA T X W (e :: es) ms) (hg : Gl X x := by rfl) (hn : x ≠ "__name__" := by decide) (hdb : (x == ("__debug__" : Str)) = false := by decide)
    (he : starEach (e :: es) X.env = (false, eval e X.env) :: starEach es X.env := by rfl) (hpl : (backTo pos (starEach es X.env)).any (·.1) = false := by rfl) : DE T X W (.Call (.Name x p) (e :: es) [] pos) (mCall o ms) :=
  (pe_callTy hc.1 hg hm hv ha hn hdb he hpl).imp fun σ H Q h => den_call hc.2 h
end
theorem vsr_one {ρ : List Addr} {x : V} {ws : List V} (h : VsR ρ [x] ws) : ∃ w, ws = [w] ∧ VR ρ x w := by
  cases h with
  | cons r t => cases t; exact ⟨_, rfl, r⟩
theorem vsr_two {ρ : List Addr} {x y : V} {ws : List V} (h : VsR ρ [x, y] ws) : ∃ w z, ws = [w, z] ∧ VR ρ x w ∧ VR ρ y z := by
  cases h with
  | cons r t =>
    obtain ⟨z, e, q⟩ := vsr_one t
    subst e
    exact ⟨_, z, rfl, r, q⟩
section
variable {T : Tab} {X : Cx}
theorem calX_of {f : Value} {o : List V → Sto → R V} (hq : ∀ xs S, (o xs S).quiet)
    (h : ∀ (pins : List (Addr × Obj)) (s : Shared) (σ : St) (H : Hp) (xs : List V) (us : List Value) (Q : VK) (ρ : List Addr) (S : Sto) (vs : List V) (τ : St), Inv X pins σ H s → Vals xs us → Rep (gm T X) ρ S H → VsR ρ vs xs → Post (gm T X) W0 VR ρ H τ Q (o vs S) →
      wpAny (model X.prog X.w) X.A (call f us) (EP X pins σ Q) X.xe s) : CalX T X f o :=
  ⟨fun pins s σ H xs us Q I r ⟨ρ, S, vs, τ, rp, rv, q⟩ => h pins s σ H xs us Q ρ S vs τ I r rp rv q, hq⟩
/-- len -/
def oLen : List V → Sto → R V := fun xs S => match xs with
  | [.str z] => if z.length ≤ sizeLine then .ok (.int z.length) S else .bad
  | [x] => match rdL S x with
    | some ys => .ok (.int ys.length) S
    | none => match rdT S x with
      | some ys => .ok (.int ys.length) S
      | none => match rdK S x with
        | some kvs => .ok (.int kvs.length) S
        | none => .bad
  | _ => .bad
theorem cal_len : CalX T X (.builtin "len") oLen := by
  refine calX_of (fun xs S => ?_) fun pins s σ H xs us Q ρ S vs τ I r rp rv h => ?_
  · unfold oLen
    repeat' split
    all_goals trivial
  · unfold oLen at h
    split at h
    · obtain ⟨w, e, rw'⟩ := vsr_one rv
      subst e
      cases rw'
      split at h
      · rename_i hz
        exact call_len_str pins s σ H _ us Q I r ⟨_, rfl, hz, h ρ H _ Ext.refl rp rfl⟩
      · exact h.elim
    · obtain ⟨w, e, rw'⟩ := vsr_one rv
      subst e
      split at h
      · rename_i el
        obtain ⟨ad, ws, ew, eh, vr⟩ := rp.rdL el rw'
        subst ew
        exact call_len_seq pins s σ H _ us Q I r ⟨ad, ws, rfl, .inl (.inl eh), h ρ H _ Ext.refl rp (by rw [prd_len vr]; rfl)⟩
      · split at h
        · rename_i el
          obtain ⟨ad, ws, ew, eh, vr⟩ := rp.rdT el rw'
          subst ew
          exact call_len_seq pins s σ H _ us Q I r ⟨ad, ws, rfl, .inr (.inl (.inl eh)), h ρ H _ Ext.refl rp (by rw [prd_len vr]; rfl)⟩
        · split at h
          · rename_i el
            obtain ⟨ad, ws, ew, eh, vr⟩ := rp.rdK el rw'
            subst ew
            obtain ⟨u, eu, rx⟩ := vals1 r
            subst eu
            cases rx
            refine d_len I eh fun t s' I' => ⟨.int ws.length, H, I', ⟨t, rfl⟩, h ρ H _ Ext.refl rp ?_⟩
            rw [prd_len vr]
            rfl
          · exact h.elim
    · exact h.elim
/-- list(x) -/
def oList : List V → Sto → R V := fun xs S => match xs with
  | [x] => match rdL S x with
    | some ys => .ok (.ref S.length) (S ++ [.lst ys])
    | none => match rdT S x with
      | some ys => .ok (.ref S.length) (S ++ [.lst ys])
      | none => match rdK S x with
        | some kvs => .ok (.ref S.length) (S ++ [.lst (kvs.map fun kv => kV kv.1)])
        | none => .bad
  | _ => .bad
theorem key_list {ρ : List Addr} {kvs ws : List (Key × V)} (h : FR ρ kvs ws) : VsR ρ (kvs.map fun kv => kV kv.1) (ws.map fun kv => kV kv.1) := by
  induction h with
  | nil => exact .nil
  | @cons p q ps qs r t ih => exact .cons (by dsimp only; rw [← r.1]; exact kv_vr) ih
theorem cal_list (hc : X.calm = true) : CalX T X (.type "list") oList := by
  refine calX_of (fun xs S => ?_) fun pins s σ H xs us Q ρ S vs τ I r rp rv h => ?_
  · unfold oList
    repeat' split
    all_goals trivial
  · unfold oList at h
    split at h
    · obtain ⟨w, e, rw'⟩ := vsr_one rv
      subst e
      split at h
      · rename_i el
        obtain ⟨ad, ws, ew, eh, vr⟩ := rp.rdL el rw'
        subst ew
        exact call_list_of pins s σ H _ us Q I r ⟨ad, ws, rfl, .inl (.inl eh), fun p np => h _ _ _ (Ext.new np) (rp.alloc np ⟨_, rfl, VsR.mono vr (List.prefix_append _ _)⟩) (new_ref rp.len)⟩
      · split at h
        · rename_i el
          obtain ⟨ad, ws, ew, eh, vr⟩ := rp.rdT el rw'
          subst ew
          exact call_list_of pins s σ H _ us Q I r ⟨ad, ws, rfl, .inr (.inl (.inl eh)), fun p np => h _ _ _ (Ext.new np) (rp.alloc np ⟨_, rfl, VsR.mono vr (List.prefix_append _ _)⟩) (new_ref rp.len)⟩
        · split at h
          · rename_i el
            obtain ⟨ad, ws, ew, eh, vr⟩ := rp.rdK el rw'
            subst ew
            exact call_listD hc pins s σ H _ us Q I r ⟨ad, ws, rfl, eh, fun p np => h _ _ _ (Ext.new np) (rp.alloc np ⟨_, rfl, VsR.mono (key_list vr) (List.prefix_append _ _)⟩) (new_ref rp.len)⟩
          · exact h.elim
    · exact h.elim
def toInt : V → Option Int
  | .int i => some i
  | _ => none
def toBl : V → Option Bool
  | .bl i => some i
  | _ => none
theorem ints_of {ρ : List Addr} : ∀ {xs ws : List V} {ns : List Int}, VsR ρ xs ws → allSome (xs.map toInt) = some ns → ws = ns.map V.int
  | _, _, _, .nil, e => by cases e; rfl
  | _, _, _, .cons (a := a) r t, e => by
    rw [List.map_cons] at e
    cases a with
    | int i =>
      cases r
      show _
      have e : (allSome _).map (i :: ·) = some _ := e
      cases e2 : allSome (List.map toInt _) with
      | none => rw [e2] at e; cases e
      | some ms => rw [e2] at e; cases e; rw [List.map_cons, ints_of t e2]
    | _ => cases e
theorem bls_of {ρ : List Addr} : ∀ {xs ws : List V} {ns : List Bool}, VsR ρ xs ws → allSome (xs.map toBl) = some ns → ws = ns.map V.bl
  | _, _, _, .nil, e => by cases e; rfl
  | _, _, _, .cons (a := a) r t, e => by
    rw [List.map_cons] at e
    cases a with
    | bl i =>
      cases r
      have e : (allSome _).map (i :: ·) = some _ := e
      cases e2 : allSome (List.map toBl _) with
      | none => rw [e2] at e; cases e
      | some ms => rw [e2] at e; cases e; rw [List.map_cons, bls_of t e2]
    | _ => cases e
def rdInts (S : Sto) (x : V) : Option (List Int) := (rdL S x).bind fun xs => allSome (xs.map toInt)
theorem Rep.rdInts {G : Gm} {ρ : List Addr} {S : Sto} {H : Hp} {v w : V} {ns : List Int} (r : Rep G ρ S H) (h : rdInts S v = some ns) (x : VR ρ v w) : ∃ a, w = .ref a ∧ Rd H a (.lst (ns.map V.int)) := by
  unfold Mi.rdInts at h
  cases e : Mi.rdL S v with
  | none => rw [e] at h; cases h
  | some xs =>
    rw [e] at h
    obtain ⟨a, ws, ew, eh, vr⟩ := r.rdL e x
    have e2 := ints_of vr h
    subst e2
    exact ⟨a, ew, eh⟩
/-- sorting of ints -/
def insI (x : Int) : List Int → List Int
  | [] => [x]
  | y :: r => if x ≤ y then x :: y :: r else y :: insI x r
def sortI : List Int → List Int
  | [] => []
  | x :: r => insI x (sortI r)
theorem insI_perm (x : Int) : ∀ l : List Int, (insI x l).Perm (x :: l)
  | [] => .refl _
  | y :: r => by
    unfold insI
    by_cases h : x ≤ y
    · rw [if_pos h]
    · rw [if_neg h]
      exact ((insI_perm x r).cons y).trans (.swap x y r)
theorem sortI_perm : ∀ l : List Int, (sortI l).Perm l
  | [] => .refl _
  | x :: r => (insI_perm x _).trans ((sortI_perm r).cons x)
theorem insI_sorted (x : Int) : ∀ {l : List Int}, l.Pairwise (· ≤ ·) → (insI x l).Pairwise (· ≤ ·)
  | [], _ => List.pairwise_singleton _ _
  | y :: r, h => by
    unfold insI
    have h1 := List.pairwise_cons.mp h
    by_cases z : x ≤ y
    · rw [if_pos z]
      refine List.pairwise_cons.mpr ⟨fun a ha => ?_, h⟩
      rcases List.mem_cons.mp ha with e | e
      · rw [e]; exact z
      · exact Int.le_trans z (h1.1 a e)
    · rw [if_neg z]
      refine List.pairwise_cons.mpr ⟨fun a ha => ?_, insI_sorted x h1.2⟩
      rcases List.mem_cons.mp ((insI_perm x r).mem_iff.mp ha) with e | e
      · rw [e]; omega
      · exact h1.1 a e
theorem sortI_sorted : ∀ l : List Int, (sortI l).Pairwise (· ≤ ·)
  | [] => .nil
  | x :: r => insI_sorted x (sortI_sorted r)
theorem sorted_uniq : ∀ {xs ys : List Int}, xs.Perm ys → xs.Pairwise (· ≤ ·) → ys.Pairwise (· ≤ ·) → xs = ys
  | [], ys, p, _, _ => (List.nil_perm.mp p).symm
  | x :: xs, [], p, _, _ => absurd p.length_eq (by simp)
  | x :: xs, y :: ys, p, h1, h2 => by
    have a1 := List.pairwise_cons.mp h1
    have a2 := List.pairwise_cons.mp h2
    have e : x = y := by
      have m1 : y ∈ x :: xs := p.mem_iff.mpr List.mem_cons_self
      have m2 : x ∈ y :: ys := p.mem_iff.mp List.mem_cons_self
      rcases List.mem_cons.mp m1 with q | q
      · exact q.symm
      · rcases List.mem_cons.mp m2 with q2 | q2
        · exact q2
        · have b1 := a1.1 _ q
          have b2 := a2.1 _ q2
          omega
    subst e
    rw [sorted_uniq (List.Perm.cons_inv p) a1.2 a2.2]
def keyInts (kvs : List (Key × V)) : Option (List Int) := allSome (kvs.map fun kv => match kv.1 with
  | .inl i => some i
  | .inr _ => none)
theorem keyInts_map : ∀ {kvs : List (Key × V)} {ns : List Int}, keyInts kvs = some ns → kvs.map (·.1) = ns.map Sum.inl
  | [], _, e => by cases e; rfl
  | ⟨k, v⟩ :: r, ns, e => by
    unfold keyInts at e
    rw [List.map_cons] at e
    cases k with
    | inr x => cases e
    | inl i =>
      have e : (keyInts r).map (i :: ·) = some ns := e
      cases e2 : keyInts r with
      | none => rw [e2] at e; cases e
      | some ms => rw [e2] at e; cases e; rw [List.map_cons, List.map_cons, keyInts_map e2]
/-- sorted(x): a list of ints; a dict of fewer than 64 int keys -/
def oSorted : List V → Sto → R V := fun xs S => match xs with
  | [x] => match rdInts S x with
    | some ns => .ok (.ref S.length) (S ++ [.lst ((sortI ns).map V.int)])
    | none => match rdK S x with
      | some kvs => (match keyInts kvs with
        | some ns => if ns.length < 1000000 then .ok (.ref S.length) (S ++ [.lst ((sortI ns).map V.int)]) else .bad
        | none => .bad)
      | none => .bad
  | _ => .bad
theorem ints_vsr {ρ : List Addr} : ∀ ns : List Int, VsR ρ (ns.map V.int) (ns.map V.int)
  | [] => .nil
  | _ :: r => .cons rfl (ints_vsr r)
section
variable {X : Cx}
theorem key_int {y : Int} {v : Value} (e : keyIs (Sum.inl y) v = true) : ∃ t, v = .int y t := by
  rcases keyIs_shape e with ⟨_, t, ek, ev⟩ | ⟨_, _, ek, _⟩
  · cases ek; exact ⟨t, ev⟩
  · cases ek
theorem ints_of_keys {vs : List (Key × Value)} {vals : List Value} {ks : List Int} (hk : vs.map (·.1) = ks.map Sum.inl) (hl : vals.length = ks.length) (h : ∀ (j : Nat) (v : Value), vals[j]? = some v → ∃ k x, vs[j]? = some (k, x) ∧ keyIs k v = true) : IntsAre vals ks := ints_each hl fun j v e => by
  obtain ⟨k, x, e1, e2⟩ := h j v e
  have e3 := congrArg (fun l => l[j]?) hk
  simp only [List.getElem?_map, e1, Option.map_some] at e3
  cases e4 : ks[j]? with
  | none => rw [e4] at e3; cases e3
  | some y =>
    rw [e4] at e3
    cases Option.some.inj e3
    obtain ⟨t, et⟩ := key_int e2
    exact ⟨y, t, rfl, et⟩
def DIQ : List V → Hp → VK → Prop := fun xs H Q => ∃ (a : Addr) (kvs : List (Key × V)) (ks : List Int), xs = [.ref a] ∧ Rd H a (.dK kvs) ∧ kvs.map (·.1) = ks.map Sum.inl ∧ ks.length < 1000000 ∧ ∀ (l : List Int) (b : Addr), l.Perm ks → l.Pairwise (· ≤ ·) → H b = none → Q (.ref b) (upd H b (.lst (l.map V.int)))
theorem sorted_di (hc : X.calm = true) : CallR X (.builtin "sorted") DIQ := by
  intro pins s σ H xs us Q I r hyp
  rcases hyp with ⟨a, kvs, ks, rfl, hd, hks, hlt, done⟩
  obtain ⟨u, rfl, rx⟩ := vals1 r
  cases rx
  obtain ⟨_, lo, vs, rel, dd⟩ := dk_rd I.hok hd
  obtain ⟨ep, hat⟩ := dd.dictAt
  have hk : vs.map (·.1) = ks.map Sum.inl := by rw [← hks]; exact rel.keys.symm
  have hl : vs.length = ks.length := by simpa using congrArg List.length hk
  have room : ∀ n, n = ks.length → n ≤ sizeLine := fun n e => by rw [e, sizeLine_eq]; omega
  refine Calls.call_function_entry PyProof.Rows.kind_sorted PyProof.Rows.plain_sorted PyProof.Rows.entry_sorted (PyProof.Rows.args_sorted1 _) (show _ from ?_)
  unfold Builtin.«sorted»
  refine wpAny_bind (m := checkCount "sorted" 1 1 _) (wpAny_pure (show _ from ?_))
  apply wpAny_bind
  refine PySem.W.kdu_collect (A := X.A.in1) (PySem.W.kdl_dict (knd := mixKind X.prog X.w) (kvs := vs) (ep := ep) lo) (I.ok.hd hc) hat (room _ hl) ?_
  intro h' tk acc keeps got
  have hal : acc.toList.length = ks.length := by rw [Array.length_toList, got.1, hl]
  have hS : IntsAre acc.toList ks := ints_of_keys hk hal fun j v e => got.2 j v ((Array.getElem?_toList ..).symm.trans e)
  have I1 : Inv X pins σ H { s with heap := h', toks := tk } := I.kept keeps
  apply wpAny_bind
  refine wpAny_newList ?_ (room _ hal)
  have at0 : (h'.push (seqObj "list" acc.toList.toArray 0)).get? h'.objs.size = some (seqObj "list" acc.toList.toArray 0) := Heap.get?_push_size _ rfl
  show wpAny _ _ _ _ _ { s with heap := h'.push (seqObj "list" acc.toList.toArray 0), toks := tk }
  apply wpAny_bind
  refine wpAny_holding (wpAny_call_entry PyProof.Rows.slot_list_sort ⟨_, at0, rfl⟩ PyProof.Rows.entry_list_sort ?_ (PyProof.Rows.args_list_sort _))
  refine SrtO.list_sort_ord (s := { s with heap := h'.push (seqObj "list" acc.toList.toArray 0), toks := tk }) SrtO.swo_int at0 (room _ hal) (fun h2 => SrtO.ints_sortable hS h2) ?_
  intro out o1 o2
  refine ⟨_, rfl, ?_⟩
  obtain ⟨k1, k2, k3⟩ := SrtO.ints_out hS o1 o2
  obtain ⟨e', he'⟩ := PyProof.Rows.sortedHeap_at (vs := acc.toList) (out := out.toArray) at0
  have hlen : ((out.map SrtO.iv).map V.int).length ≤ sizeLine := by rw [List.length_map]; exact room _ k2.length_eq
  have oldb : ∀ b u, h'.get? b = some u → (PyProof.Rows.sortedHeap (h'.push (seqObj "list" acc.toList.toArray 0)) h'.objs.size acc.toList out.toArray).get? b = some u := fun b u e => by
    have hb := Heap.lt_size e
    rw [PyProof.Rows.sortedHeap_old (Nat.ne_of_lt hb) (by rw [size_push']; exact Nat.lt_succ_of_lt hb)]
    exact Heap.get?_push_of_some _ e
  refine wpAny_pure ⟨_, rfl, .ref h'.objs.size, upd H h'.objs.size (.lst ((out.map SrtO.iv).map V.int)), I1.laid (t' := tk) oldb (Nat.le_refl _) (show ObjOk X.prog X.w _ _ _ (.lst ((out.map SrtO.iv).map V.int)) from ⟨hlen, out, e', vals_of_ints k1, he'⟩), rfl, done _ _ k2 k3 (I1.hok.fresh (Nat.le_refl _))⟩
end
theorem cal_sorted (hc : X.calm = true) : CalX T X (.builtin "sorted") oSorted := by
  refine calX_of (fun xs S => ?_) fun pins s σ H xs us Q ρ S vs τ I r rp rv h => ?_
  · unfold oSorted
    repeat' split
    all_goals trivial
  · unfold oSorted at h
    split at h
    · obtain ⟨w, e, rw'⟩ := vsr_one rv
      subst e
      split at h
      · rename_i ns el
        obtain ⟨ad, ew, eh⟩ := rp.rdInts el rw'
        subst ew
        refine cr_sortedI pins s σ H _ us Q I r ⟨ad, ns, rfl, .inl eh, fun ns' p hp hs np => ?_⟩
        have e2 : ns' = sortI ns := sorted_uniq (hp.trans (sortI_perm ns).symm) hs (sortI_sorted ns)
        subst e2
        exact h _ _ _ (Ext.new np) (rp.alloc np ⟨_, rfl, ints_vsr _⟩) (new_ref rp.len)
      · split at h
        · rename_i kvs el
          obtain ⟨ad, ws, ew, eh, vr⟩ := rp.rdK el rw'
          subst ew
          split at h
          · rename_i ns ek
            split at h
            · rename_i hz
              refine sorted_di hc pins s σ H _ us Q I r ⟨ad, ws, ns, rfl, eh, (fr_keys vr).trans (keyInts_map ek), hz, fun ns' p hp hs np => ?_⟩
              have e2 : ns' = sortI ns := sorted_uniq (hp.trans (sortI_perm ns).symm) hs (sortI_sorted ns)
              subst e2
              exact h _ _ _ (Ext.new np) (rp.alloc np ⟨_, rfl, ints_vsr _⟩) (new_ref rp.len)
            · exact h.elim
          · exact h.elim
        · exact h.elim
    · exact h.elim
/-- sum, all, any of lists -/
def oSum : List V → Sto → R V := fun xs S => match xs with
  | [x] => match rdInts S x with
    | some ns => .ok (.int ns.sum) S
    | none => .bad
  | _ => .bad
theorem cal_sum (hc : X.calm = true) : CalX T X (.builtin "sum") oSum := by
  refine calX_of (fun xs S => ?_) fun pins s σ H xs us Q ρ S vs τ I r rp rv h => ?_
  · unfold oSum
    repeat' split
    all_goals trivial
  · unfold oSum at h
    split at h
    · obtain ⟨w, e, rw'⟩ := vsr_one rv
      subst e
      split at h
      · rename_i ns el
        obtain ⟨ad, ew, eh⟩ := rp.rdInts el rw'
        subst ew
        exact cr_sum hc pins s σ H _ us Q I r ⟨ad, ns, rfl, .inl eh, h ρ H _ Ext.refl rp rfl⟩
      · exact h.elim
    · exact h.elim
def rdBls (S : Sto) (x : V) : Option (List Bool) := (rdL S x).bind fun xs => allSome (xs.map toBl)
def oAll : List V → Sto → R V := fun xs S => match xs with
  | [x] => match rdBls S x with
    | some bs => .ok (.bl (bs.all id)) S
    | none => .bad
  | _ => .bad
theorem Rep.rdBls {G : Gm} {ρ : List Addr} {S : Sto} {H : Hp} {v w : V} {ns : List Bool} (r : Rep G ρ S H) (h : rdBls S v = some ns) (x : VR ρ v w) : ∃ a, w = .ref a ∧ Rd H a (.lst (ns.map V.bl)) := by
  unfold Mi.rdBls at h
  cases e : Mi.rdL S v with
  | none => rw [e] at h; cases h
  | some xs =>
    rw [e] at h
    obtain ⟨a, ws, ew, eh, vr⟩ := r.rdL e x
    have e2 := bls_of vr h
    subst e2
    exact ⟨a, ew, eh⟩
theorem cal_all (hc : X.calm = true) : CalX T X (.builtin "all") oAll := by
  refine calX_of (fun xs S => ?_) fun pins s σ H xs us Q ρ S vs τ I r rp rv h => ?_
  · unfold oAll
    repeat' split
    all_goals trivial
  · unfold oAll at h
    split at h
    · obtain ⟨w, e, rw'⟩ := vsr_one rv
      subst e
      split at h
      · rename_i ns el
        obtain ⟨ad, ew, eh⟩ := rp.rdBls el rw'
        subst ew
        exact cr_all hc pins s σ H _ us Q I r ⟨ad, ns, rfl, .inl eh, h ρ H _ Ext.refl rp rfl⟩
      · exact h.elim
    · exact h.elim
def oMax2 : List V → Sto → R V := fun xs S => match xs with
  | [.int i, .int j] => .ok (.int (if j > i then j else i)) S
  | _ => .bad
theorem cal_max2 (hc : X.calm = true) : CalX T X (.builtin "max") oMax2 := by
  refine calX_of (fun xs S => ?_) fun pins s σ H xs us Q ρ S vs τ I r rp rv h => ?_
  · unfold oMax2
    split <;> trivial
  · unfold oMax2 at h
    split at h
    · obtain ⟨w, z, e, r1, r2⟩ := vsr_two rv
      subst e
      cases r1
      cases r2
      exact call_max2 hc pins s σ H _ us Q I r ⟨_, _, rfl, h ρ H _ Ext.refl rp rfl⟩
    · exact h.elim
/-- dict(x): a dict; a list of pairs -/
def rdPair (S : Sto) (v : V) : Option (Key × V) := match rdT S v with
  | some [k, w] => (keyOf k).map fun k => (k, w)
  | _ => none
def oDict : List V → Sto → R V := fun xs S => match xs with
  | [x] => match rdK S x with
    | some kvs => .ok (.ref S.length) (S ++ [.dK kvs])
    | none => match rdL S x with
      | some ps => (match allSome (ps.map (rdPair S)) with
        | some kvs => .ok (.ref S.length) (S ++ [.dK (mergeK [] kvs)])
        | none => .bad)
      | none => .bad
  | _ => .bad
theorem fr_merge {ρ : List Addr} {more more' : List (Key × V)} (h : FR ρ more more') : ∀ {kvs ws : List (Key × V)}, FR ρ kvs ws → FR ρ (mergeK kvs more) (mergeK ws more') := by
  induction h with
  | nil => exact fun h => h
  | @cons p q ps qs r t ih =>
    intro kvs ws h2
    unfold mergeK
    rw [List.foldl_cons, List.foldl_cons, ← r.1]
    exact ih (fr_put h2 r.2)
theorem pairs_rd {G : Gm} {ρ : List Addr} {S : Sto} {H : Hp} (rp : Rep G ρ S H) : ∀ {ps ws : List V} {kvs : List (Key × V)}, VsR ρ ps ws → allSome (ps.map (rdPair S)) = some kvs →
    ∃ (as : List Addr) (kws : List (Key × V)), ws = as.map V.ref ∧ Paired (fun p kv => SqT G.K H p [kV kv.1, kv.2]) as kws ∧ FR ρ kvs kws
  | _, _, _, .nil, e => by cases e; exact ⟨[], [], rfl, .nil, .nil⟩
  | _, _, kvs, .cons (a := a) (l₁ := l) r t, e => by
    rw [List.map_cons] at e
    cases e1 : rdPair S a with
    | none => rw [e1] at e; cases e
    | some kv =>
      rw [e1] at e
      have e : (allSome (l.map (rdPair S))).map (kv :: ·) = some kvs := e
      cases e2 : allSome (l.map (rdPair S)) with
      | none => rw [e2] at e; cases e
      | some rest =>
        rw [e2] at e
        cases e
        obtain ⟨as, kws, h1, h2, h3⟩ := pairs_rd rp t e2
        unfold rdPair at e1
        split at e1
        · rename_i k w et
          obtain ⟨ad, ws, ew, eh, vr⟩ := rp.rdT et r
          subst ew
          obtain ⟨w1, w2, e3, q1, q2⟩ := vsr_two vr
          subst e3
          cases ek : keyOf k with
          | none => rw [ek] at e1; cases e1
          | some kk =>
            rw [ek] at e1
            cases e1
            have e4 := key_vr ek q1
            subst e4
            exact ⟨ad :: as, (kk, w2) :: kws, by rw [h1]; rfl, .cons (.inl (.inl eh)) h2, .cons ⟨rfl, q2⟩ h3⟩
        · cases e1
theorem cal_dict (hc : X.calm = true) : CalX T X (.type "dict") oDict := by
  refine calX_of (fun xs S => ?_) fun pins s σ H xs us Q ρ S vs τ I r rp rv h => ?_
  · unfold oDict
    repeat' split
    all_goals trivial
  · unfold oDict at h
    split at h
    · obtain ⟨w, e, rw'⟩ := vsr_one rv
      subst e
      split at h
      · rename_i kvs el
        obtain ⟨ad, ws, ew, eh, vr⟩ := rp.rdK el rw'
        subst ew
        exact call_dictD pins s σ H _ us Q I r ⟨ad, ws, rfl, eh, fun p np => h _ _ _ (Ext.new np) (rp.alloc np ⟨_, rfl, FR.mono vr (List.prefix_append _ _)⟩) (new_ref rp.len)⟩
      · split at h
        · rename_i ps el
          obtain ⟨ad, ws, ew, eh, vr⟩ := rp.rdL el rw'
          subst ew
          split at h
          · rename_i kvs ek
            obtain ⟨as, kws, h1, h2, h3⟩ := pairs_rd rp vr ek
            subst h1
            exact call_dictP hc pins s σ H _ us Q I r ⟨ad, as, kws, rfl, .inl eh, h2, fun p np => h _ _ _ (Ext.new np) (rp.alloc np ⟨_, rfl, FR.mono (fr_merge h3 .nil) (List.prefix_append _ _)⟩) (new_ref rp.len)⟩
          · exact h.elim
        · exact h.elim
    · exact h.elim
end
end Mi
namespace Mi
open PySem PySem.Spec L2
open PyProof.Rows hiding St
def tyS (Ty : String) (S : Sto) : V → Bool
  | .str _ => Ty == "str"
  | .ref i => match S[i]? with
    | some (.lst _) => Ty == "list"
    | some (.lck (.lst _)) => Ty == "list"
    | some (.dK _) => Ty == "dict"
    | some (.lck (.dK _)) => Ty == "dict"
    | _ => false
  | _ => false
abbrev Mth := V → List V → Sto → R V
def denM (G : Gm) (o : Mth) : V → List V → Hp → VK → Prop := fun x xs H Q => ∃ ρ S v vs σ, Rep G ρ S H ∧ VR ρ v x ∧ VsR ρ vs xs ∧ Post G (fun _ _ _ _ => False) VR ρ H σ Q (o v vs S)
abbrev MthX (T : Tab) (X : Cx) (id : String) (o : Mth) : Prop := MtR X id (denM (gm T X) o) ∧ ∀ x xs S, (o x xs S).quiet
def mBM (Ty : String) (o : Mth) (a : ME) (b : MA) : ME := fun σ S => (a σ S).bind fun x S1 => if tyS Ty S1 x = true then (b σ S1).bind fun xs S2 => o x xs S2 else .bad
section
variable {T : Tab} {W : WX} {X : Cx} {o e : Expr} {es : List Expr} {mo : ME} {ms : MA} {name : Str} {apos cpos : Pos} {Ty id : String} {f : Mth}
theorem tyS_is {pins : List (Addr × Obj)} {σ : St} {H : Hp} {s : Shared} {ρ : List Addr} {S : Sto} {a w : V} {v : Value} (I : Inv X pins σ H s) (rp : Rep (gm T X) ρ S H) (x : VR ρ a w) (r : RelV w v) (ty : tyS Ty S a = true) :
    s.TypeIs v Ty ∧ ∀ a, v = .ref a → ∃ ob, s.heap.get? a = some ob ∧ ob.dict = none := by
  unfold tyS at ty
  split at ty
  · cases x
    exact tyV_is I r (show Ty = "str" from of_decide_eq_true ty)
  · split at ty
    · rename_i es
      obtain ⟨ad, u, ew, er, eh, ws, eu, vr⟩ := rp.ref es x
      subst ew; subst eu
      exact tyV_is I r (.inl ⟨of_decide_eq_true ty, ws, .inl (.inl eh)⟩)
    · rename_i es
      obtain ⟨ad, u, ew, er, eh, ob, u2, eu, ws, eu2, vr⟩ := rp.ref es x
      subst ew; subst eu; subst eu2
      exact tyV_is I r (.inl ⟨of_decide_eq_true ty, ws, .inl (.inr ⟨ob, eh⟩)⟩)
    · rename_i es
      obtain ⟨ad, u, ew, er, eh, ws, eu, vr⟩ := rp.ref es x
      subst ew; subst eu
      exact tyV_is I r (.inr (.inr (.inl ⟨of_decide_eq_true ty, .inl ⟨ws, eh⟩⟩)))
    · rename_i es
      obtain ⟨ad, u, ew, er, eh, ob, u2, eu, ws, eu2, vr⟩ := rp.ref es x
      subst ew; subst eu; subst eu2
      cases r
      obtain ⟨t1, t2, _⟩ := isD_at I (.inl ⟨ws, .inr ⟨ob, eh⟩⟩)
      have e : Ty = "dict" := of_decide_eq_true ty
      subst e
      exact ⟨t1, t2⟩
    · cases ty
  · cases ty
theorem de_bm (pa : PlainAttrs Ty) (slot : Slot Ty name id) (hty : typeOf (.builtin id) = pure (.type "method_descriptor")) (hm : MthX T X id f) (ho : DE T X W o mo) (ha : DA T X W (e :: es) ms)
    (hbase : attributeBase o name X.env (eval o X.env) = eval o X.env := by rfl)
    (hfew : ((backTo cpos (starEach (e :: es) X.env)).all (fun x => !x.1) && (backToKw cpos (keywordEach [] X.env)).all (fun x => x.1.isSome)
      && decide ((e :: es).length + ([] : List Keyword).length + (if ([] : List Keyword).isEmpty then 0 else 1) < 30)) = true := by rfl)
    (hline : (apos.endLine == cpos.line) = true := by rfl) (hs : starEach (e :: es) X.env = (false, eval e X.env) :: starEach es X.env := by rfl) (hplain : (backTo cpos (starEach es X.env)).any (·.1) = false := by rfl) :
    DE T X W (.Call (.Attribute o name apos) (e :: es) [] cpos) (mBM Ty f mo ms) := by
  refine ⟨fun pins s σ H Q I h => ?_⟩
  obtain ⟨ρ, S, τ, r, l, h⟩ := h
  have h' : den (gm T X) W VR mo σ H (fun w H1 => ∃ ρ1 S1 x, Rep (gm T X) ρ1 S1 H1 ∧ LR ρ1 τ σ ∧ VR ρ1 x w ∧ tyS Ty S1 x = true ∧ Post (gm T X) W VR ρ1 H1 σ Q ((ms τ S1).bind fun xs S2 => f x xs S2)) := by
    refine ⟨ρ, S, τ, r, l, Post.bind h fun ρ1 S1 H1 x w p1 r1 x1 h1 => ?_⟩
    by_cases z : tyS Ty S1 x = true
    · rw [if_pos z] at h1
      exact ⟨ρ1, S1, x, r1, l.mono p1.pre, x1, z, h1⟩
    · rw [if_neg z] at h1
      exact h1.elim
  refine wpAny_Call_method_late hbase hfew hline rfl (thn (ho.run pins s σ H _ I h') fun v s1 ⟨w, H1, I1, rv, ρ1, S1, x, r1, l1, x1, ty, h1⟩ => ?_)
  obtain ⟨h2, h3⟩ := tyS_is I1 r1 x1 rv ty
  refine ⟨Ty, id, pa, slot, hty, h2, h3, ?_⟩
  have h4 : den (gm T X) W VsR ms σ H1 (fun ws H2 => denM (gm T X) f w ws H2 Q) := by
    refine ⟨ρ1, S1, τ, r1, l1, Post.bind h1 fun ρ2 S2 H2 xs ws p2 r2 x2 q2 => ?_⟩
    exact ⟨ρ2, S2, x, xs, σ, r2, x1.mono p2.pre, x2, q2.still (hm.2 _ _ _)⟩
  have hA := ha.run cpos pins s1 σ H1 _ I1 h4
  rw [hs] at hA ⊢
  refine Calls.callWith_builtin (by show (false || (backTo cpos (starEach es X.env)).any (·.1)) = false; rw [hplain] <;> rfl) (Calls.evalArgs_plain ?_)
  exact thn hA fun us s2 ⟨vs, H2, I2, r2, q2⟩ => hm.1 pins s2 σ H2 w vs v us Q I2 rv r2 q2
end
section
variable {T : Tab} {X : Cx}
theorem mthX_of {id : String} {o : Mth} (hq : ∀ x xs S, (o x xs S).quiet)
    (h : ∀ (pins : List (Addr × Obj)) (s : Shared) (σ : St) (H : Hp) (x : V) (xs : List V) (v : Value) (us : List Value) (Q : VK) (ρ : List Addr) (S : Sto) (a : V) (vs : List V) (τ : St), Inv X pins σ H s → RelV x v → Vals xs us → Rep (gm T X) ρ S H → VR ρ a x → VsR ρ vs xs →
      Post (gm T X) W0 VR ρ H τ Q (o a vs S) → wpAny (model X.prog X.w) X.A (call (.builtin id) (v :: us)) (EP X pins σ Q) X.xe s) : MthX T X id o :=
  ⟨fun pins s σ H x xs v us Q I rx r ⟨ρ, S, a, vs, τ, rp, ra, rv, q⟩ => h pins s σ H x xs v us Q ρ S a vs τ I rx r rp ra rv q, hq⟩
/-- the list that is written -/
def onLst (x : V) (S : Sto) (f : Nat → List V → R V) : R V := match x with
  | .ref i => match S[i]? with
    | some (.lst xs) => f i xs
    | _ => .bad
  | _ => .bad
def oAppend : Mth := fun x as S => match as with
  | [y] => onLst x S fun i xs => if xs.length < sizeLine then .ok .non (S.set i (.lst (xs ++ [y]))) else .bad
  | _ => .bad
theorem onLst_of {G : Gm} {ρ : List Addr} {S : Sto} {H : Hp} {τ : St} {Q : VK} {a x : V} {f : Nat → List V → R V} (rp : Rep G ρ S H) (ra : VR ρ a x) (h : Post G W0 VR ρ H τ Q (onLst a S f)) :
    ∃ i xs ad ws, S[i]? = some (.lst xs) ∧ x = .ref ad ∧ H ad = some (.lst ws) ∧ VsR ρ xs ws ∧ (∀ ys zs, VsR ρ ys zs → Rep G ρ (S.set i (.lst ys)) (upd H ad (.lst zs)) ∧ Ext ρ H ρ (upd H ad (.lst zs))) ∧ Post G W0 VR ρ H τ Q (f i xs) := by
  unfold onLst at h
  split at h
  · split at h
    · rename_i i _ xs es
      obtain ⟨ad, u, ew, er, eh, ws, eu, vr⟩ := rp.ref es ra
      subst ew; subst eu
      exact ⟨i, xs, ad, ws, es, rfl, eh, vr, fun ys zs q => ⟨rp.write es er (fun fs q => by rw [eh] at q; cases q) ⟨_, rfl, q⟩, Ext.put eh fun _ _ q => nomatch q⟩, h⟩
    · exact h.elim
  · exact h.elim
theorem onLst_quiet {x : V} {S : Sto} {f : Nat → List V → R V} (h : ∀ i xs, (f i xs).quiet) : (onLst x S f).quiet := by
  unfold onLst
  repeat' split
  all_goals first | exact h _ _ | trivial
theorem mth_append : MthX T X "list.append" oAppend := by
  refine mthX_of (fun x xs S => ?_) fun pins s σ H x xs v us Q ρ S a vs τ I rx r rp ra rv h => ?_
  · unfold oAppend
    split
    · exact onLst_quiet fun i xs => by split <;> trivial
    · trivial
  · unfold oAppend at h
    split at h
    · obtain ⟨w, e, rw'⟩ := vsr_one rv
      subst e
      obtain ⟨i, ys, ad, ws, es, ex, eh, vr, up, h⟩ := onLst_of rp ra h
      subst ex
      split at h
      · rename_i hz
        obtain ⟨k1, k2⟩ := up _ _ (prd_app vr (.cons rw' .nil))
        exact mt_append pins s σ H _ _ v us Q I rx r ⟨ad, ws, w, rfl, rfl, eh, by rw [← prd_len vr]; exact hz, h ρ _ _ k2 k1 rfl⟩
      · exact h.elim
    · exact h.elim
def oExtend : Mth := fun x as S => match as with
  | [.ref j] => onLst x S fun i xs => match S[j]? with
    | some (.lst ys) => if xs.length + ys.length ≤ sizeLine then .ok .non (S.set i (.lst (xs ++ ys))) else .bad
    | _ => .bad
  | _ => .bad
theorem mth_extend : MthX T X "list.extend" oExtend := by
  refine mthX_of (fun x xs S => ?_) fun pins s σ H x xs v us Q ρ S a vs τ I rx r rp ra rv h => ?_
  · unfold oExtend
    split
    · refine onLst_quiet fun i xs => ?_
      repeat' split
      all_goals trivial
    · trivial
  · unfold oExtend at h
    split at h
    · obtain ⟨w, e, rw'⟩ := vsr_one rv
      subst e
      obtain ⟨i, ys, ad, ws, es, ex, eh, vr, up, h⟩ := onLst_of rp ra h
      subst ex
      split at h
      · rename_i es2
        obtain ⟨ad2, u, ew, er, eh2, ws2, eu, vr2⟩ := rp.ref es2 rw'
        subst ew; subst eu
        split at h
        · rename_i hz
          obtain ⟨k1, k2⟩ := up _ _ (prd_app vr vr2)
          exact mt_extend pins s σ H _ _ v us Q I rx r ⟨ad, ad2, ws, ws2, rfl, rfl, eh, eh2, by rw [← prd_len vr, ← prd_len vr2]; exact hz, h ρ _ _ k2 k1 rfl⟩
        · exact h.elim
      · exact h.elim
    · exact h.elim
def oPop : Mth := fun x as S => match as with
  | [] => onLst x S fun i xs => match xs[xs.length - 1]? with
    | some y => .ok y (S.set i (.lst xs.dropLast))
    | none => .bad
  | [.int k] => onLst x S fun i xs => if -(2 ^ 63) ≤ k ∧ k < 2 ^ 63 then (match seqIndex? k xs.length with
    | some j => (match xs[j]? with
      | some y => .ok y (S.set i (.lst (xs.eraseIdx j)))
      | none => .bad)
    | none => .bad) else .bad
  | _ => .bad
theorem prd_dropLast {α β : Type} {F : α → β → Prop} {xs : List α} {ys : List β} (h : Paired F xs ys) : Paired F xs.dropLast ys.dropLast := by
  rw [List.dropLast_eq_take, List.dropLast_eq_take, ← prd_len h]
  exact prd_take _ h
theorem prd_erase {α β : Type} {F : α → β → Prop} : ∀ {xs : List α} {ys : List β} (j : Nat), Paired F xs ys → Paired F (xs.eraseIdx j) (ys.eraseIdx j)
  | _, _, _, .nil => .nil
  | _, _, 0, .cons _ t => t
  | _, _, j + 1, .cons r t => .cons r (prd_erase j t)
theorem mth_pop : MthX T X "list.pop" oPop := by
  refine mthX_of (fun x xs S => ?_) fun pins s σ H x xs v us Q ρ S a vs τ I rx r rp ra rv h => ?_
  · unfold oPop
    split
    · refine onLst_quiet fun i xs => ?_
      repeat' split
      all_goals trivial
    · refine onLst_quiet fun i xs => ?_
      repeat' split
      all_goals trivial
    · trivial
  · unfold oPop at h
    split at h
    · cases rv
      obtain ⟨i, ys, ad, ws, es, ex, eh, vr, up, h⟩ := onLst_of rp ra h
      subst ex
      split at h
      · rename_i y ey
        obtain ⟨w, ew, rw'⟩ := prd_get vr ey
        obtain ⟨k1, k2⟩ := up _ _ (prd_dropLast vr)
        exact mt_pop pins s σ H _ _ v us Q I rx r ⟨ad, ws, w, rfl, rfl, eh, by rw [← prd_len vr]; exact ew, h ρ _ _ k2 k1 rw'⟩
      · exact h.elim
    · obtain ⟨w, e, rw'⟩ := vsr_one rv
      subst e
      cases rw'
      obtain ⟨i, ys, ad, ws, es, ex, eh, vr, up, h⟩ := onLst_of rp ra h
      subst ex
      split at h
      · rename_i hz
        split at h
        · rename_i j ej
          split at h
          · rename_i y ey
            obtain ⟨w, ew, rw'⟩ := prd_get vr ey
            obtain ⟨k1, k2⟩ := up _ _ (prd_erase j vr)
            exact mt_popAt pins s σ H _ _ v us Q I rx r ⟨ad, ws, _, j, w, rfl, rfl, eh, hz.1, hz.2, by rw [← prd_len vr]; exact ej, ew, h ρ _ _ k2 k1 rw'⟩
          · exact h.elim
        · exact h.elim
      · exact h.elim
    · exact h.elim
def oInsert : Mth := fun x as S => match as with
  | [.int k, y] => onLst x S fun i xs => if xs.length < sizeLine ∧ 0 ≤ k ∧ k < 2 ^ 63 then .ok .non (S.set i (.lst (xs.take k.toNat ++ [y] ++ xs.drop k.toNat))) else .bad
  | _ => .bad
theorem mth_insert : MthX T X "list.insert" oInsert := by
  refine mthX_of (fun x xs S => ?_) fun pins s σ H x xs v us Q ρ S a vs τ I rx r rp ra rv h => ?_
  · unfold oInsert
    split
    · exact onLst_quiet fun i xs => by split <;> trivial
    · trivial
  · unfold oInsert at h
    split at h
    · obtain ⟨w, z, e, r1, r2⟩ := vsr_two rv
      subst e
      cases r1
      obtain ⟨i, ys, ad, ws, es, ex, eh, vr, up, h⟩ := onLst_of rp ra h
      subst ex
      split at h
      · rename_i hz
        obtain ⟨k1, k2⟩ := up _ _ (prd_app (prd_app (prd_take _ vr) (.cons r2 .nil)) (prd_drop _ vr))
        exact mt_insert pins s σ H _ _ v us Q I rx r ⟨ad, ws, _, z, rfl, rfl, eh, by rw [← prd_len vr]; exact hz.1, hz.2.1, hz.2.2, h ρ _ _ k2 k1 rfl⟩
      · exact h.elim
    · exact h.elim
def oDPop : Mth := fun x as S => match x with
  | .ref i => match S[i]? with
    | some (.dK kvs) => (match as with
      | [y] => (match keyOf y with
        | some k => (match valV kvs k with
          | some v => .ok v (S.set i (.dK (dropK kvs k)))
          | none => .bad)
        | none => .bad)
      | [y, z] => (match keyOf y with
        | some k => (match valV kvs k with
          | some v => .ok v (S.set i (.dK (dropK kvs k)))
          | none => .ok z S)
        | none => .bad)
      | _ => .bad)
    | _ => .bad
  | _ => .bad
theorem mth_dpop : MthX T X "dict.pop" oDPop := by
  refine mthX_of (fun x xs S => ?_) fun pins s σ H x xs v us Q ρ S a vs τ I rx r rp ra rv h => ?_
  · unfold oDPop
    repeat' split
    all_goals trivial
  · unfold oDPop at h
    split at h
    · split at h
      · rename_i i _ kvs es
        obtain ⟨ad, u, ew, er, eh, ws, eu, vr⟩ := rp.ref es ra
        subst ew; subst eu
        have up : ∀ k, Rep (gm T X) ρ (S.set i (.dK (dropK kvs k))) (upd H ad (.dK (dropK ws k))) := fun k => rp.write es er (fun fs q => by rw [eh] at q; cases q) ⟨_, rfl, fr_drop vr⟩
        have ex : ∀ k, Ext ρ H ρ (upd H ad (.dK (dropK ws k))) := fun k => Ext.put eh fun _ _ q => nomatch q
        cases rx
        split at h
        · obtain ⟨w, e, rw'⟩ := vsr_one rv
          subst e
          split at h
          · rename_i k ek
            have e3 := key_vr ek rw'
            subst e3
            split at h
            · rename_i y ey
              obtain ⟨w2, e2, q2⟩ := fr_get vr ey
              obtain ⟨u, rfl, ru⟩ := r.one
              exact d_pop I eh ru e2 (.inl rfl) fun w' s3 I3 rw' => ⟨w2, _, I3, rw', h ρ _ _ (ex k) (up k) q2⟩
            · exact h.elim
          · exact h.elim
        · obtain ⟨w, w3, e, rw', rz⟩ := vsr_two rv
          subst e
          split at h
          · rename_i k ek
            have e3 := key_vr ek rw'
            subst e3
            obtain ⟨u, u2, rfl, ru, ru2⟩ := r.two
            split at h
            · rename_i y ey
              obtain ⟨w2, e2, q2⟩ := fr_get vr ey
              exact d_pop I eh ru e2 (.inr ⟨u2, rfl⟩) fun w' s3 I3 rw' => ⟨w2, _, I3, rw', h ρ _ _ (ex k) (up k) q2⟩
            · rename_i ey
              have e2 := (fr_val (k := k) vr).2 ey
              exact d_popD I eh ru e2 fun s3 I3 => ⟨w3, H, I3, ru2, h ρ H _ Ext.refl rp rz⟩
          · exact h.elim
        · exact h.elim
      · exact h.elim
    · exact h.elim
end
end Mi
namespace Mi
open PySem PySem.Spec L2
open PyProof.Rows hiding St
theorem Ctx.u1 {X : Cx} {W : WX} {k : Nat} (C : Ctx X W k) : X.A.units + 1 < cLine := by have := C.room.un; omega
theorem Ctx.u64 {X : Cx} {W : WX} {k : Nat} (C : Ctx X W k) : X.A.units + 64 < cLine := by have := C.room.un; omega
theorem Ctx.u65 {X : Cx} {W : WX} {k : Nat} (C : Ctx X W k) : X.A.units + 65 < cLine := by have := C.room.un; omega
theorem CtH.u1 {X : Cx} {k : Nat} (C : CtH X k) : X.A.units + 1 < cLine := by have := C.un; omega
theorem CtH.u64 {X : Cx} {k : Nat} (C : CtH X k) : X.A.units + 64 < cLine := by have := C.un; omega
theorem CtH.u65 {X : Cx} {k : Nat} (C : CtH X k) : X.A.units + 65 < cLine := by have := C.un; omega
section
variable {T : Tab} {P : Program} {w : World} {K : PySem.W.Frag} {h base : Heap} {mg : Str → Option Value}
theorem fnF_of {x : Str} {n k : Nat} {f : Fn} {a : Addr} {fd : FuncData} {ps : List Str} (m : mg x = some (.ref a)) (kp : PySem.W.keepIn K (.ref a) = true) (b : Binds K fd ps []) (F : FnOk P w K mg base (L2.CX P w) k a fd ps (spOf ⟨K, mg, T.cs, T.xs⟩ n f)) : FnF T P w K mg base x n k f := ⟨a, fd, ps, m, kp, b, F⟩
end
def noLst (K : PySem.W.Frag) : Bool := K.all fun p => match p.2.cls with
  | .type t => t != "list"
  | _ => true
theorem look_mem {β : Type} {a : Addr} {o : β} : ∀ {K : List (Addr × β)}, K.lookup a = some o → (a, o) ∈ K
  | [], e => by cases e
  | (b, p) :: r, e => by
    by_cases z : a = b
    · subst z
      rw [List.lookup_cons_self] at e
      cases e
      exact List.mem_cons_self
    · rw [List.lookup_cons, show (a == b) = false from beq_eq_false_iff_ne.mpr z] at e
      exact List.mem_cons_of_mem _ (look_mem e)
theorem noLst_of {K : PySem.W.Frag} (h : noLst K = true) {a : Addr} {o : Obj} (e : K.lookup a = some o) : o.cls ≠ .type "list" := fun q => by
  have m := List.all_eq_true.mp h (a, o) (look_mem e)
  dsimp only at m
  rw [q] at m
  exact absurd m (by decide)
theorem walk_end {l : PySem.W.OpenLaw} {k : Nat} {q : Program} {loose : List Str} {XP : (Str → Option Value) → Heap → Prop} {YP : World → Heap → Prop} {d : DefRec} {K : Params → PySem.W.Frag} {T : Tab} {f : Fn} {x : Str}
    (hn : l.most = some 63) (hdf : d.params.defaults = []) (hr : Room k callerA) (hY : ∀ (w : World) (h : Heap), YP w h → (K w.params).In h) (hL : ∀ p : Params, noLst (K p) = true)
    (F : ∀ (w : World) (mg : Str → Option Value) (fa : Addr) (h : Heap), (K w.params).In h → h.Ns mainGlobals mg → mg d.name = some (.ref fa) →
      ∃ fd : FuncData, (∀ (s : Shared) (u : Value), BindsTo s fd ⟨[u], []⟩ [(x, u)]) ∧
        ∀ base : Heap, (K w.params).In base → base.Ns mainGlobals mg → FnOk l.prog w (K w.params) mg base (L2.CX l.prog w) k fa fd [x] (spOf ⟨K w.params, mg, T.cs, T.xs⟩ 1 f))
    (law : ∀ ns : List Int, ns.length ≤ 63 → (∀ z ∈ ns, Builtin.Int.intBits z ≤ 1048576) → ∃ S, f [.ref 0] [.lck (.lst (ns.map V.int))] = .ok (.bl true) S) :
    PySem.W.WalkO q loose XP YP l.row.toRowW d [] (fun f vs => PySem.call f vs) := by
  refine Att.attach_callB hn hdf fun w s₀ s₁ mg mb fa o pm cd doc a vs ns G Y ho hd hcd hmg hobj hints hlen hbits hg => ?_
  have KX := hY w _ Y
  obtain ⟨fd, hb, hF⟩ := F w mg fa _ KX G.T.g hmg
  refine law_call (sp := spOf ⟨K w.params, mg, T.cs, T.xs⟩ 1 f) KX G.T.g G.T.b G.T.builtins G.T.nolimit hg hobj hints (Nat.le_trans hlen (by decide)) hr hF hb (fun H hO hS => ?_) fun H e s' ⟨_, _, _, _, _, _, _, _, _, _, _, _, h⟩ => h
  obtain ⟨S, e⟩ := law ns hlen hbits
  have hH : ∃ ob, H a = some (.frz ob (.lst (ns.map V.int))) := by
    rcases hS with hS | ⟨o, _, _, hk, hc, _⟩
    · rcases hS with hS | ⟨ob, hS⟩
      · rcases hO a with z | ⟨ob, xs, z⟩
        · rw [hS] at z; cases z
        · rw [hS] at z; cases z
      · exact ⟨ob, hS⟩
    · exact absurd hc (noLst_of (hL _) hk)
  obtain ⟨ob, hH⟩ := hH
  refine ⟨rfl, [a], [.lck (.lst (ns.map V.int))], [.ref 0], [], ⟨by simp, rfl, fun i o b h1 h2 => ?_⟩, .cons ⟨a, rfl, rfl⟩ .nil, ?_⟩
  · cases i with
    | succ i => cases h1
    | zero =>
      cases h1
      cases h2
      exact ⟨_, hH, ob, _, rfl, _, rfl, ints_vsr ns⟩
  · rw [e]
    exact fun ρ2 H2 w p2 r2 x2 => x2
end Mi
namespace Mi
open PySem PySem.Spec L2
open PyProof.Rows hiding St
/-- the i-th statement of the top -/
def atTop (p : Program) (i : Nat) : Stmt := p.main.body.getD i (.Pass ⟨0, 0, 0, 0⟩)
/-- what a name of a class stands for -/
def NmV (mg : Str → Option Value) (x : Str) (v : Value) : Prop := (∃ C, mg x = some (.ref C) ∧ v = .ref C) ∨ ∃ t, mg x = none ∧ bootBuiltins x = some (.type t) ∧ v = .type t
def IsiF (T : Tab) (K : PySem.W.Frag) (mg : Str → Option Value) (xs : List Str) (tab : List (Tag × Bool)) : Prop := ∃ vs : List Value, Paired (NmV mg) xs vs ∧ ITab T K mg vs tab
section
variable {T : Tab} {W : WX} {X : Cx} {e : Expr} {m : ME} {p pos p2 tpos : Pos} {x : Str} {tab : List (Tag × Bool)}
theorem nm_pe {v : Value} (h : NmV X.mg x v) (hg : Gl X x) (hn : x ≠ "__name__") (hd : (x == ("__debug__" : Str)) = false) : ∃ cw, ClsV cw v ∧ PE X (.Name x p) (tC cw) := by
  rcases h with ⟨C, hm, rfl⟩ | ⟨t, hm, hb, rfl⟩
  · exact ⟨.ref C, .own C, pe_glob hg hm rfl hd⟩
  · exact ⟨.ty t, .ty t, pe_bltn hg hm hb rfl hn hd⟩
theorem de_is1 (hm : X.mg "isinstance" = none) (F : IsiF T X.K X.mg [x] tab) (he : DE T X W e m) (hgx : Gl X x := by rfl) (hn : x ≠ "__name__" := by decide) (hd : (x == ("__debug__" : Str)) = false := by decide) (hg : Gl X "isinstance" := by rfl)
    (hs1 : starEach [e, .Name x p2] X.env = (false, eval e X.env) :: starEach [.Name x p2] X.env := by rfl) (hs2 : starEach [.Name x p2] X.env = (false, eval (.Name x p2) X.env) :: starEach [] X.env := by rfl) (hpl : (backTo pos (starEach [.Name x p2] X.env)).any (·.1) = false := by rfl) :
    DE T X W (.Call (.Name "isinstance" p) [e, .Name x p2] [] pos) (mIsi tab m) := by
  obtain ⟨vs, hv, ht⟩ := F
  cases hv with
  | cons h1 h2 =>
    cases h2
    obtain ⟨cw, hc, he2⟩ := nm_pe (p := p2) h1 hgx hn hd
    exact de_isi hm he he2 hc ht hg hs1 hs2 hpl
end
theorem itab_nil {T : Tab} {K : PySem.W.Frag} {mg : Str → Option Value} {cs : List Value} : ITab T K mg cs [] := trivial
theorem itab_ty {T : Tab} {K : PySem.W.Frag} {mg : Str → Option Value} {cs : List Value} {t : Tag} {u : Value} {b : Bool} {r : List (Tag × Bool)} (ht : TagV T K mg t u) (hk : PySem.W.kitAny K u cs = some b) (hr : ITab T K mg cs r) : ITab T K mg cs ((t, b) :: r) := ⟨⟨u, ht, hk⟩, hr⟩
end Mi
namespace Mi
open PySem PySem.Spec L2
open PyProof.Rows hiding St
section
variable {α β : Type}
@[simp] theorem bind_ok (a : α) (S : Sto) (f : α → Sto → R β) : (R.ok a S).bind f = f a S := rfl
@[simp] theorem bind_exc (c : Nat) (d : Option V) (S : Sto) (f : α → Sto → R β) : (R.exc c d S).bind f = .exc c d S := rfl
@[simp] theorem bind_bad (f : α → Sto → R β) : (R.bad : R α).bind f = .bad := rfl
@[simp] theorem lift_ok (a : α) (S : Sto) (σ : St) (f : α → Sto → RS) : (R.ok a S).lift σ f = f a S := rfl
@[simp] theorem lift_exc (c : Nat) (d : Option V) (S : Sto) (σ : St) (f : α → Sto → RS) : (R.exc c d S).lift σ f = .exc c d σ S := rfl
@[simp] theorem lift_bad (σ : St) (f : α → Sto → RS) : (R.bad : R α).lift σ f = .bad := rfl
@[simp] theorem seq_nx (σ : St) (S : Sto) (f : St → Sto → RS) : (RS.nx σ S).seq f = f σ S := rfl
@[simp] theorem seq_rt (v : V) (S : Sto) (f : St → Sto → RS) : (RS.rt v S).seq f = .rt v S := rfl
@[simp] theorem seq_bk (σ : St) (S : Sto) (f : St → Sto → RS) : (RS.bk σ S).seq f = .bk σ S := rfl
@[simp] theorem seq_ct (σ : St) (S : Sto) (f : St → Sto → RS) : (RS.ct σ S).seq f = .ct σ S := rfl
@[simp] theorem seq_exc (c : Nat) (d : Option V) (σ : St) (S : Sto) (f : St → Sto → RS) : (RS.exc c d σ S).seq f = .exc c d σ S := rfl
end
def fin : RS → R V
  | .rt v S1 => .ok v S1
  | .nx _ S1 => .ok .non S1
  | .exc c d _ S1 => .exc c d S1
  | _ => .bad
@[simp] theorem fnOf_ap (n : Nat) (m : MS) (args : List V) (S : Sto) : fnOf n m args S = fin (m (args.map some ++ List.replicate (n - args.length) none) S) := rfl
@[simp] theorem fin_rt (v : V) (S : Sto) : fin (.rt v S) = .ok v S := rfl
@[simp] theorem fin_nx (σ : St) (S : Sto) : fin (.nx σ S) = .ok .non S := rfl
@[simp] theorem fin_exc (c : Nat) (d : Option V) (σ : St) (S : Sto) : fin (.exc c d σ S) = .exc c d S := rfl
def opV (S : Sto) : Option (Option V) → R V
  | some (some v) => .ok v S
  | _ => .bad
@[simp] theorem opV_some (S : Sto) (v : V) : opV S (some (some v)) = .ok v S := rfl
def kB : V → Sto → R Bool := fun x S1 => match x with
  | .bl b => .ok b S1
  | _ => .bad
@[simp] theorem kB_bl (b : Bool) (S : Sto) : kB (.bl b) S = .ok b S := rfl
def kAnd (f : Sto → R V) : V → Sto → R V := fun x S1 => match x with
  | .bl true => f S1
  | .bl false => .ok (.bl false) S1
  | _ => .bad
def kOr (f : Sto → R V) : V → Sto → R V := fun x S1 => match x with
  | .bl true => .ok (.bl true) S1
  | .bl false => f S1
  | _ => .bad
def kNot : V → Sto → R V := fun x S1 => match x with
  | .bl b => .ok (.bl (!b)) S1
  | _ => .bad
@[simp] theorem kAnd_bl (f : Sto → R V) (b : Bool) (S : Sto) : kAnd f (.bl b) S = if b = true then f S else .ok (.bl false) S := by cases b <;> rfl
@[simp] theorem kOr_bl (f : Sto → R V) (b : Bool) (S : Sto) : kOr f (.bl b) S = if b = true then .ok (.bl true) S else f S := by cases b <;> rfl
@[simp] theorem kNot_bl (b : Bool) (S : Sto) : kNot (.bl b) S = .ok (.bl (!b)) S := rfl
def oIsi (tab : List (Tag × Bool)) : V → Sto → R V := fun v S1 => match tagOf S1 v with
  | some t => match lookT tab t with
    | some b => .ok (.bl b) S1
    | none => .bad
  | none => .bad
def isiR (S : Sto) : Option Bool → R V
  | some b => .ok (.bl b) S
  | none => .bad
@[simp] theorem isiR_some (S : Sto) (b : Bool) : isiR S (some b) = .ok (.bl b) S := rfl
theorem oIsi_tag {tab : List (Tag × Bool)} {v : V} {S : Sto} {t : Tag} (h : tagOf S v = some t) : oIsi tab v S = isiR S (lookT tab t) := by
  unfold oIsi
  rw [h]
  dsimp only
  cases lookT tab t <;> rfl
@[simp] theorem oIsi_int (tab : List (Tag × Bool)) (i : Int) (S : Sto) : oIsi tab (.int i) S = isiR S (lookT tab .int) := oIsi_tag rfl
@[simp] theorem oIsi_bl (tab : List (Tag × Bool)) (i : Bool) (S : Sto) : oIsi tab (.bl i) S = isiR S (lookT tab .bl) := oIsi_tag rfl
@[simp] theorem oIsi_non (tab : List (Tag × Bool)) (S : Sto) : oIsi tab .non S = isiR S (lookT tab .non) := oIsi_tag rfl
@[simp] theorem oIsi_str (tab : List (Tag × Bool)) (x : Str) (S : Sto) : oIsi tab (.str x) S = isiR S (lookT tab .str) := oIsi_tag rfl
section
variable (σ : St) (S : Sto)
@[simp] theorem mVar_ap (i : Nat) : mVar i σ S = opV S σ[i]? := by
  unfold mVar opV
  cases σ[i]? with
  | none => rfl
  | some o => cases o <;> rfl
@[simp] theorem mC_ap (v : V) : mC v σ S = .ok v S := rfl
@[simp] theorem mUn_ap (o : V → Sto → R V) (a : ME) : mUn o a σ S = (a σ S).bind o := rfl
@[simp] theorem mBin_ap (o : V → V → Sto → R V) (a b : ME) : mBin o a b σ S = (a σ S).bind fun x S1 => (b σ S1).bind fun y S2 => o x y S2 := rfl
@[simp] theorem mNil_ap : mNil σ S = .ok [] S := rfl
@[simp] theorem mCons_ap (a : ME) (r : MA) : mCons a r σ S = (a σ S).bind fun x S1 => (r σ S1).bind fun xs S2 => .ok (x :: xs) S2 := rfl
@[simp] theorem mCall_ap (f : List V → Sto → R V) (a : MA) : mCall f a σ S = (a σ S).bind f := rfl
@[simp] theorem mB_ap (a : ME) : mB a σ S = (a σ S).bind kB := rfl
@[simp] theorem mNot_ap (a : MT) : mNot a σ S = (a σ S).bind fun b S1 => .ok (!b) S1 := rfl
@[simp] theorem mAnd_ap (a b : MT) : mAnd a b σ S = (a σ S).bind fun x S1 => if x = true then b σ S1 else .ok false S1 := rfl
@[simp] theorem mOr_ap (a b : MT) : mOr a b σ S = (a σ S).bind fun x S1 => if x = true then .ok true S1 else b σ S1 := rfl
@[simp] theorem mIf_ap (c : MT) (a b : ME) : mIf c a b σ S = (c σ S).bind fun x S1 => if x = true then a σ S1 else b σ S1 := rfl
@[simp] theorem mAndV_ap (a b : ME) : mAndV a b σ S = (a σ S).bind (kAnd (b σ)) := rfl
@[simp] theorem mOrV_ap (a b : ME) : mOrV a b σ S = (a σ S).bind (kOr (b σ)) := rfl
@[simp] theorem mNotV_ap (a : ME) : mNotV a σ S = (a σ S).bind kNot := rfl
@[simp] theorem mIsi_ap (tab : List (Tag × Bool)) (a : ME) : mIsi tab a σ S = (a σ S).bind (oIsi tab) := rfl
def kLst : List V → Sto → R V := fun xs S1 => if xs.length ≤ sizeLine then .ok (.ref S1.length) (S1 ++ [.lst xs]) else .bad
def kTup : List V → Sto → R V := fun xs S1 => if xs.length ≤ sizeLine then .ok (.ref S1.length) (S1 ++ [.tup xs]) else .bad
@[simp] theorem mLst_ap (a : MA) : mLst a σ S = (a σ S).bind kLst := rfl
@[simp] theorem mTup_ap (a : MA) : mTup a σ S = (a σ S).bind kTup := rfl
def kApp (n : Nat) (f : Fn) : List V → Sto → R V := fun xs S1 => if xs.length = n then f xs S1 else .bad
@[simp] theorem mApp_ap (n : Nat) (f : Fn) (a : MA) : mApp n f a σ S = (a σ S).bind (kApp n f) := rfl
@[simp] theorem mBM_ap (Ty : String) (o : Mth) (a : ME) (b : MA) : mBM Ty o a b σ S = (a σ S).bind fun x S1 => if tyS Ty S1 x = true then (b σ S1).bind fun xs S2 => o x xs S2 else .bad := rfl
@[simp] theorem mSkip_ap : mSkip σ S = .nx σ S := rfl
@[simp] theorem mSeq_ap (a b : MS) : mSeq a b σ S = (a σ S).seq b := rfl
@[simp] theorem mExpr_ap (a : ME) : mExpr a σ S = (a σ S).lift σ fun _ S1 => .nx σ S1 := rfl
@[simp] theorem mSet_ap (i : Nat) (a : ME) : mSet i a σ S = (a σ S).lift σ fun v S1 => .nx (σ.set i (some v)) S1 := rfl
@[simp] theorem mRet_ap (a : ME) : mRet a σ S = (a σ S).lift σ fun v S1 => .rt v S1 := rfl
@[simp] theorem mRetN_ap : mRetN σ S = .rt .non S := rfl
@[simp] theorem mBrk_ap : mBrk σ S = .bk σ S := rfl
@[simp] theorem mIfS_ap (c : MT) (a b : MS) : mIfS c a b σ S = (c σ S).lift σ fun x S1 => if x = true then a σ S1 else b σ S1 := rfl
@[simp] theorem mAug_ap (i : Nat) (o : V → V → Sto → R V) (a : ME) : mAug i o a σ S = (mVar i σ S).lift σ fun x S0 => (a σ S0).lift σ fun y S1 => (o x y S1).lift σ fun z S2 => .nx (σ.set i (some z)) S2 := rfl
@[simp] theorem mRaise_ap (c : Nat) : mRaise c σ S = .exc c none σ S := rfl
theorem mFor_ap (src : St → Sto → R Src) (tg : Tg) (b : MS) : mFor src tg b σ S = (src σ S).lift σ fun s S1 => mFor1 s.chk tg b s.its σ S1 := rfl
def kRange1 : List V → Sto → R Src := fun vs S1 => match vs with
  | [.int j] => if -(2 ^ 62) ≤ j ∧ j < 2 ^ 62 then .ok ⟨intsFrom 0 j.toNat, fun _ => true⟩ S1 else .bad
  | _ => .bad
@[simp] theorem mRange1_ap (ms : MA) : mRange1 ms σ S = (ms σ S).bind kRange1 := rfl
def kWalk : V → Sto → R Src := fun v S1 => match walkOf S1 v with
  | some s => .ok s S1
  | none => .bad
@[simp] theorem mWalk_ap (m : ME) : mWalk m σ S = (m σ S).bind kWalk := rfl
theorem kWalk_lst {i : Nat} {xs : List V} (h : S[i]? = some (.lst xs)) : kWalk (.ref i) S = .ok ⟨xs.map .v, fun S' => decide (S'[i]? = some (.lst xs))⟩ S := by
  simp only [kWalk, walkOf, h]
theorem kWalk_lck {i : Nat} {xs : List V} (h : S[i]? = some (.lck (.lst xs))) : kWalk (.ref i) S = .ok ⟨xs.map .v, fun S' => decide (S'[i]? = some (.lck (.lst xs)))⟩ S := by
  simp only [kWalk, walkOf, h]
theorem kWalk_tup {i : Nat} {xs : List V} (h : S[i]? = some (.tup xs)) : kWalk (.ref i) S = .ok ⟨xs.map .v, fun S' => decide (S'[i]? = some (.tup xs))⟩ S := by
  simp only [kWalk, walkOf, h]
def kCatch (sub : Nat → Bool) (i : Option Nat) (suite : MS) : RS → RS := fun r => match r with
  | .exc c d σ1 S1 => if sub c = true then (match i with
    | some j => (match suite (σ1.set j (some (.ref S1.length))) (S1 ++ [.exc c d]) with
      | .nx σ2 S2 => .nx (σ2.set j none) S2
      | .rt v S2 => .rt v S2
      | .bk σ2 S2 => .bk (σ2.set j none) S2
      | .ct σ2 S2 => .ct (σ2.set j none) S2
      | _ => .bad)
    | none => (match suite σ1 S1 with
      | .exc _ _ _ _ => .bad
      | r => r)) else .exc c d σ1 S1
  | r => r
@[simp] theorem mTry_ap (body : MS) (sub : Nat → Bool) (i : Option Nat) (suite : MS) : mTry body sub i suite σ S = kCatch sub i suite (body σ S) := rfl
@[simp] theorem kCatch_nx (sub : Nat → Bool) (i : Option Nat) (suite : MS) : kCatch sub i suite (.nx σ S) = .nx σ S := rfl
@[simp] theorem kCatch_rt (sub : Nat → Bool) (i : Option Nat) (suite : MS) (v : V) : kCatch sub i suite (.rt v S) = .rt v S := rfl
end
def unCat (j : Nat) : RS → RS
  | .nx σ2 S2 => .nx (σ2.set j none) S2
  | .rt v S2 => .rt v S2
  | .bk σ2 S2 => .bk (σ2.set j none) S2
  | .ct σ2 S2 => .ct (σ2.set j none) S2
  | _ => .bad
@[simp] theorem unCat_nx (j : Nat) (σ : St) (S : Sto) : unCat j (.nx σ S) = .nx (σ.set j none) S := rfl
@[simp] theorem unCat_rt (j : Nat) (v : V) (S : Sto) : unCat j (.rt v S) = .rt v S := rfl
def unBad : RS → RS
  | .exc _ _ _ _ => .bad
  | r => r
@[simp] theorem unBad_nx (σ : St) (S : Sto) : unBad (.nx σ S) = .nx σ S := rfl
@[simp] theorem unBad_rt (v : V) (S : Sto) : unBad (.rt v S) = .rt v S := rfl
section
variable (S : Sto)
@[simp] theorem oAdd_int (i j : Int) : oAdd (.int i) (.int j) S = .ok (.int (i + j)) S := rfl
@[simp] theorem oSub_int (i j : Int) : oSub (.int i) (.int j) S = .ok (.int (i - j)) S := rfl
@[simp] theorem oIAdd_int (i j : Int) : oIAdd (.int i) (.int j) S = .ok (.int (i + j)) S := rfl
@[simp] theorem oNeg_int (i : Int) : oNeg (.int i) S = .ok (.int (-i)) S := rfl
theorem oMod_int (i j : Int) (h : 0 < j) : oMod (.int i) (.int j) S = .ok (.int (i % j)) S := if_pos h
theorem oDiv_int (i j : Int) (h : DivOk j) : oDiv (.int i) (.int j) S = .ok (.int (i / j)) S := if_pos h
theorem oMul_int (i j : Int) (h : IntMulOk i j) : oMul (.int i) (.int j) S = .ok (.int (i * j)) S := if_pos h
theorem oPow_int (i j : Int) (h : 0 ≤ j ∧ j ≤ 1000000 ∧ i.natAbs < 2 ^ 64) : oPow (.int i) (.int j) S = .ok (.int (i ^ j.toNat)) S := if_pos h
@[simp] theorem oCmp_int (p : Int → Int → Bool) (i j : Int) : oCmp p (.int i) (.int j) S = .ok (.bl (p i j)) S := rfl
theorem oEqD_of {neg : Bool} {x y : V} {d e : PyData} (h1 : rdD S eqDepth x = some d) (h2 : rdD S eqDepth y = some e) (h3 : SeqAt.shaped d = true) (h4 : SeqAt.shaped e = true) : oEqD neg x y S = .ok (.bl (neg != PyData.eqv d e)) S := by
  unfold oEqD
  rw [h1, h2]
  exact if_pos ⟨h3, h4⟩
@[simp] theorem oEqD_int (neg : Bool) (i j : Int) : oEqD neg (.int i) (.int j) S = .ok (.bl (neg != (i == j))) S := oEqD_of S (d := .int i) (e := .int j) rfl rfl rfl rfl
@[simp] theorem oEqD_bl (neg : Bool) (i j : Bool) : oEqD neg (.bl i) (.bl j) S = .ok (.bl (neg != (i == j))) S := oEqD_of S (d := .bool i) (e := .bool j) rfl rfl rfl rfl
@[simp] theorem oEqD_non_int (neg : Bool) (j : Int) : oEqD neg .non (.int j) S = .ok (.bl (neg != false)) S := oEqD_of S (d := .none) (e := .int j) rfl rfl rfl rfl
@[simp] theorem oEqD_int_non (neg : Bool) (j : Int) : oEqD neg (.int j) .non S = .ok (.bl (neg != false)) S := oEqD_of S (d := .int j) (e := .none) rfl rfl rfl rfl
@[simp] theorem oEqD_non (neg : Bool) : oEqD neg .non .non S = .ok (.bl (neg != true)) S := oEqD_of S (d := .none) (e := .none) rfl rfl rfl rfl
@[simp] theorem oIs_non (x : V) : oIs x .non S = .ok (.bl (isNon x)) S := rfl
@[simp] theorem oIsN_non (x : V) : oIsN x .non S = .ok (.bl (!isNon x)) S := rfl
theorem oAdd_lst {i j : Nat} {xs ys : List V} (h1 : rdL S (.ref i) = some xs) (h2 : rdL S (.ref j) = some ys) (h : xs.length + ys.length ≤ sizeLine) : oAdd (.ref i) (.ref j) S = .ok (.ref S.length) (S ++ [.lst (xs ++ ys)]) := by
  show (match rdL S (.ref i), rdL S (.ref j) with
    | some xs, some ys => _
    | _, _ => _) = _
  rw [h1, h2]
  exact if_pos h
end
theorem get_old {S : Sto} {i : Nat} {o : Ob} (h : S[i]? = some o) (ex : Sto) : (S ++ ex)[i]? = some o := by
  rw [List.getElem?_append_left (List.getElem?_eq_some_iff.mp h).1]
  exact h
theorem get_new (S : Sto) (k : Nat) (ex : Sto) : (S ++ ex)[S.length + k]? = ex[k]? := by
  rw [List.getElem?_append_right (Nat.le_add_right _ _), Nat.add_sub_cancel_left]
theorem get_new0 (S : Sto) (ex : Sto) : (S ++ ex)[S.length]? = ex[0]? := get_new S 0 ex
/-- the whole ends with a value -/
def Ends (r : RS) (v : V) : Prop := ∃ S, fin r = .ok v S
theorem Ends.rt {v : V} {S : Sto} : Ends (.rt v S) v := ⟨S, rfl⟩
theorem pre_get' {S S' : Sto} {i : Nat} {o : Ob} (h : S[i]? = some o) (p : S <+: S') : S'[i]? = some o := by
  obtain ⟨ex, rfl⟩ := p
  exact get_old h ex
theorem pre_add (S ex : Sto) : S <+: S ++ ex := List.prefix_append _ _
theorem rdD_lst {S : Sto} {i n : Nat} {xs : List V} (h : S[i]? = some (.lst xs)) : rdD S (n + 1) (.ref i) = (allSome (xs.map (rdD S n))).map .list := by
  rw [rdD]
  simp only [h]
theorem rdD_lck {S : Sto} {i n : Nat} {xs : List V} (h : S[i]? = some (.lck (.lst xs))) : rdD S (n + 1) (.ref i) = (allSome (xs.map (rdD S n))).map .list := by
  rw [rdD]
  simp only [h]
theorem rdD_tup {S : Sto} {i n : Nat} {xs : List V} (h : S[i]? = some (.tup xs)) : rdD S (n + 1) (.ref i) = (allSome (xs.map (rdD S n))).map .tuple := by
  rw [rdD]
  simp only [h]
theorem rdT_tup {S : Sto} {i : Nat} {xs : List V} (h : S[i]? = some (.tup xs)) : rdT S (.ref i) = some xs := by simp only [rdT, h]
theorem oIx_lst {S : Sto} {x : V} {xs : List V} {k : Int} {v : V} (h : rdL S x = some xs) (hv : atI xs k = some v) : oIx x (.int k) S = .ok v S := by
  cases x with
  | ref i => simp only [oIx, h, hv]
  | _ => cases h
theorem oIx_tup {S : Sto} {i : Nat} {xs : List V} {k : Int} {v : V} (h : S[i]? = some (.tup xs)) (hv : atI xs k = some v) : oIx (.ref i) (.int k) S = .ok v S := by
  have h1 : rdL S (.ref i) = none := by simp only [rdL, h]
  simp only [oIx, h1, rdT_tup h, hv]
end Mi
namespace Mi
open PySem PySem.Spec L2
open PyProof.Rows hiding St
/-- the class of exceptions at the place c tells z -/
def CalF (T : Tab) (K : PySem.W.Frag) (mg : Str → Option Value) (c : Nat) (z : Str) : Prop := ∃ (x : Str) (C f : Addr) (qual : Str) (st : Stmt) (fd : FuncData) (p1 p2 : Pos) (j : Nat), T.xs[c]? = some x ∧ mg x = some (.ref C) ∧
  PySem.W.findIn K (.ref C) "__getattribute__" = some (some (.builtin "BaseException.__getattribute__")) ∧ PySem.W.findIn K (.ref C) "__getattr__" = some none ∧ PySem.W.findIn K (.ref C) "called" = some (some (.ref f)) ∧ PySem.W.isFn K (.ref f) = true ∧
  Fun K "called" qual st f fd ∧ Binds K fd ["self"] [] ∧ FnScope ["self"] ["self"] (defScope st) ∧ defBody st = [.Return (some (.Constant (.str z) j p1)) p2]
def CalsF (T : Tab) (K : PySem.W.Frag) (mg : Str → Option Value) : List (Nat × Str) → Prop
  | [] => True
  | (c, z) :: r => CalF T K mg c z ∧ CalsF T K mg r
def oCalled (tab : List (Nat × Str)) : V → Sto → R V := fun v S1 => match v with
  | .ref i => match S1[i]? with
    | some (.exc c _) => match look tab c with
      | some z => .ok (.str z) S1
      | none => .bad
    | _ => .bad
  | _ => .bad
def mCalled (tab : List (Nat × Str)) (o : ME) : ME := fun σ S => (o σ S).bind (oCalled tab)
@[simp] theorem mCalled_ap (tab : List (Nat × Str)) (o : ME) (σ : St) (S : Sto) : mCalled tab o σ S = (o σ S).bind (oCalled tab) := rfl
section
variable {T : Tab} {W : WX} {X : Cx} {o : Expr} {ma : ME} {apos pos : Pos}
theorem CalsF.get {K : PySem.W.Frag} {mg : Str → Option Value} : ∀ {tab : List (Nat × Str)} {c : Nat} {z : Str}, CalsF T K mg tab → look tab c = some z → CalF T K mg c z
  | [], _, _, _, e => by cases e
  | (d, g) :: r, c, z, h, e => by
    unfold look at e
    by_cases q : d = c
    · rw [if_pos q] at e
      cases e
      rw [← q]
      exact h.1
    · rw [if_neg q] at e
      exact CalsF.get h.2 e
end
theorem Ctx.toCtx {X : Cx} {W : WX} {k : Nat} (C : Ctx X W k) : Ctx X W k := C
@[simp] theorem isNon_ref (i : Nat) : Mi.isNon (.ref i) = false := rfl
@[simp] theorem isNon_non : Mi.isNon .non = true := rfl
@[simp] theorem isNon_int (i : Int) : Mi.isNon (.int i) = false := rfl
end Mi
namespace Mi
open PySem PySem.Spec L2
open PyProof.Rows hiding St
def mSetT (is : List Nat) (a : ME) : MS := fun σ S => (a σ S).lift σ fun v S1 => match rdT S1 v with
  | some xs => match setAll is xs σ with
    | some σ2 => .nx σ2 S1
    | none => .bad
  | none => .bad
section
variable {T : Tab} {W : WX} {X : Cx} {e : Expr} {es : List Expr} {ma : ME} {is : List Nat} {k : Nat} {pos pos' : Pos}
theorem ds_setT (hc : X.calm = true) (h : PGs X es (gAll is)) (he : DE T X W e ma) (hn : (assignEach es X.env).length = is.length := by rfl) (hst : (assignEach es X.env).findIdx? (·.1) = none := by rfl)
    (hs : swapsWithSole [.Tuple es k pos'] e pos.line X.env = pure false := by rfl) (hw : swappedStores [.Tuple es k pos'] e X.env = pure none := by rfl)
    (h1 : (assignEach [.Tuple es k pos'] X.env).map (·.2) = [assign (.Tuple es k pos') X.env] := by rfl) : DS T X W (.Assign [.Tuple es k pos'] e pos) (mSetT is ma) :=
  (ps_asg he (pg_tup hc h hn hst) hs hw h1).imp fun D σ H h => by
    obtain ⟨ρ, S, τ, r, l, h⟩ := h
    refine ⟨ρ, S, τ, r, l, PostS.lift h l fun ρ1 S1 H1 v w p1 r1 x1 l1 h1 => ?_⟩
    split at h1
    · rename_i xs er
      split at h1
      · rename_i σ2 es2
        obtain ⟨a, ws, ew, hp, vr⟩ := r1.rdT er x1
        refine ⟨a, ws, ew, .inl (.inl hp), ?_, gAll_of l1 vr es2 fun σ3 l3 _ => h1 ρ1 H1 σ3 Ext.refl r1 l3⟩
        rw [← prd_len vr]
        exact setAll_len es2
      · exact h1.elim
    · exact h1.elim
end
def mDict0 : ME := fun _ S => .ok (.ref S.length) (S ++ [.dK []])
abbrev MP := St → Sto → R (List (V × V))
section
variable {T : Tab} {W : WX} {X : Cx} {pos : Pos} {k v : Expr} {mk mv : ME} {keys : List (Option Expr)} {values : List Expr} {mr : MP} {trs : List (TE × TE)}
theorem de_dict0 : DE T X W (.Dict [] [] pos) mDict0 := pe_dnewK.imp fun σ H Q h => by
  obtain ⟨ρ, S, τ, r, l, h⟩ := h
  exact fun p np => h _ _ _ (Ext.new np) (r.alloc np ⟨[], rfl, .nil⟩) (new_ref r.len)
end
def mChain (o o' : V → V → Sto → R V) (a b c : ME) : ME := fun σ S => (a σ S).bind fun x S1 => (b σ S1).bind fun y S2 => (o x y S2).bind fun z S3 => match z with
  | .bl true => (c σ S3).bind fun w S4 => o' y w S4
  | .bl false => .ok (.bl false) S3
  | _ => .bad
section
variable {T : Tab} {W : WX} {X : Cx} {a b c : Expr} {ma mb mc : ME} {pos : Pos} {op op' : CmpOp} {o o' : V → V → Sto → R V}
theorem den_chain {G : Gm} {σ : St} {H : Hp} {Q : VK} (ho : ∀ x y S, (o x y S).quiet) (ho' : ∀ x y S, (o' x y S).quiet) (h : den G W VR (mChain o o' ma mb mc) σ H Q) : tChain (denR G o) (denR G o') (den G W VR ma) (den G W VR mb) (den G W VR mc) σ H Q := by
  obtain ⟨ρ, S, τ, r, l, h⟩ := h
  refine ⟨ρ, S, τ, r, l, Post.bind h fun ρ1 S1 H1 x w p1 r1 x1 h1 => ?_⟩
  refine ⟨ρ1, S1, τ, r1, l.mono p1.pre, Post.bind h1 fun ρ2 S2 H2 y u p2 r2 y2 h2 => ?_⟩
  refine ⟨ρ2, S2, x, y, σ, r2, x1.mono p2.pre, y2, Post.still (Post.bind (rel1 := VR) h2 fun ρ3 S3 H3 z z' p3 r3 z3 h3 => ?_) (ho _ _ _)⟩
  cases z with
  | bl q =>
    cases z3
    refine ⟨q, rfl, ?_⟩
    cases q with
    | true =>
      refine ⟨ρ3, S3, τ, r3, l.mono ((p1.trans p2).trans p3).pre, Post.bind h3 fun ρ4 S4 H4 w2 u2 p4 r4 w4 h4 => ?_⟩
      exact ⟨ρ4, S4, y, w2, σ, r4, y2.mono (p3.trans p4).pre, w4, h4.still (ho' _ _ _)⟩
    | false => exact h3 ρ3 H3 _ Ext.refl r3 rfl
  | _ => exact h3.elim
theorem de_chain (ho : Op2 T X (compareOp op) o) (ho' : Op2 T X (compareOp op') o') (ha : DE T X W a ma) (hb : DE T X W b mb) (hc : DE T X W c mc) (hm : lastMarks [op, op'] [b, c] = false := by with_unfolding_all rfl) : DE T X W (.Compare a [op, op'] [b, c] pos) (mChain o o' ma mb mc) :=
  (pe_chain ho.1 ho'.1 ha hb hc hm).imp fun σ H Q h => den_chain ho.2 ho'.2 h
theorem dt_chain (ho : Op2 T X (compareOp op) o) (ho' : Op2 T X (compareOp op') o') (ha : DE T X W a ma) (hb : DE T X W b mb) (hc : DE T X W c mc) (hm : lastMarks [op, op'] [b, c] = false := by with_unfolding_all rfl) : DT T X W (.Compare a [op, op'] [b, c] pos) (mB (mChain o o' ma mb mc)) :=
  (pt_chain ho.1 ho'.1 ha hb hc hm).imp fun σ H Q h => den_chain ho.2 ho'.2 (den_toB h)
end
def oInt : List V → Sto → R V := fun xs S => match xs with
  | [.int i] => .ok (.int i) S
  | [.bl k] => .ok (.int (if k then 1 else 0)) S
  | [.str a] => match PySem.intText? a with
    | some n => if a.length ≤ 640 then .ok (.int n) S else .bad
    | none => .bad
  | _ => .bad
section
variable {T : Tab} {X : Cx}
theorem cal_int : CalX T X (.type "int") oInt := by
  refine calX_of (fun xs S => ?_) fun pins s σ H xs us Q ρ S vs τ I r rp rv h => ?_
  · unfold oInt
    repeat' split
    all_goals trivial
  · unfold oInt at h
    split at h
    · obtain ⟨w, e, rw'⟩ := vsr_one rv
      subst e
      cases rw'
      exact call_int1 pins s σ H _ us Q I r (.inl ⟨_, rfl, h ρ H _ Ext.refl rp rfl⟩)
    · obtain ⟨w, e, rw'⟩ := vsr_one rv
      subst e
      cases rw'
      exact call_int1 pins s σ H _ us Q I r (.inr ⟨_, rfl, h ρ H _ Ext.refl rp rfl⟩)
    · obtain ⟨w, e, rw'⟩ := vsr_one rv
      subst e
      cases rw'
      split at h
      · rename_i n en
        split at h
        · rename_i hz
          exact call_int_str pins s σ H _ us Q I r ⟨_, n, rfl, en, hz, h ρ H _ Ext.refl rp rfl⟩
        · exact h.elim
      · exact h.elim
    · exact h.elim
end
def mTru (a : ME) : MT := fun σ S => (a σ S).bind fun x S1 => match x with
  | .non => .ok false S1
  | .bl b => .ok b S1
  | .int i => .ok (i != 0) S1
  | .str y => if y.length ≤ sizeLine then .ok ((y.length : Int) != 0) S1 else .bad
  | .ref i => match rdL S1 (.ref i) with
    | some xs => .ok (!xs.isEmpty) S1
    | none => match rdT S1 (.ref i) with
      | some xs => .ok (!xs.isEmpty) S1
      | none => match S1[i]? with
        | some (.dK kvs) => .ok (!kvs.isEmpty) S1
        | _ => .bad
  | _ => .bad
theorem prd_emp {α β : Type} {F : α → β → Prop} {xs : List α} {ys : List β} (h : Paired F xs ys) : ys.isEmpty = xs.isEmpty := by cases h <;> rfl
theorem dt_tru {T : Tab} {W : WX} {X : Cx} {a : Expr} {ma : ME} (h : DE T X W a ma) (he : ∀ whole, isTrue a X.env whole = (do let v ← whole; standAt a.pos; holding [v] (truthy v)) := by intro _; rfl) : DT T X W a (mTru ma) := (pt_truth h he).imp fun σ H Q h => by
  obtain ⟨ρ, S, τ, r, l, h⟩ := h
  refine ⟨ρ, S, τ, r, l, Post.bind h fun ρ1 S1 H1 x w p1 r1 x1 h1 => ?_⟩
  split at h1
  · cases x1; exact ⟨false, rfl, h1 ρ1 H1 _ Ext.refl r1 rfl⟩
  · cases x1; exact ⟨_, rfl, h1 ρ1 H1 _ Ext.refl r1 rfl⟩
  · cases x1; exact ⟨_, rfl, h1 ρ1 H1 _ Ext.refl r1 rfl⟩
  · cases x1
    split at h1
    · rename_i hz
      exact ⟨_, ⟨hz, rfl⟩, h1 ρ1 H1 _ Ext.refl r1 rfl⟩
    · exact h1.elim
  · split at h1
    · rename_i el
      obtain ⟨ad, ws, ew, eh, vr⟩ := r1.rdL el x1
      subst ew
      exact ⟨_, .inl ⟨ws, .inl eh, rfl⟩, h1 ρ1 H1 _ Ext.refl r1 (by rw [prd_emp vr])⟩
    · split at h1
      · rename_i el
        obtain ⟨ad, ws, ew, eh, vr⟩ := r1.rdT el x1
        subst ew
        exact ⟨_, .inr (.inl ⟨ws, .inl (.inl eh), rfl⟩), h1 ρ1 H1 _ Ext.refl r1 (by rw [prd_emp vr])⟩
      · split at h1
        · rename_i es
          obtain ⟨a, u, ew, er, eh, ws, eu, vr⟩ := r1.ref es x1
          subst ew; subst eu
          exact ⟨_, .inr (.inr ⟨ws, eh, rfl⟩), h1 ρ1 H1 _ Ext.refl r1 (by rw [prd_emp vr])⟩
        · exact h1.elim
  · exact h1.elim
end Mi
namespace Mi
open PySem PySem.Spec L2
open PyProof.Rows hiding St
@[simp] theorem mSetI_ap (t : Op3) (o i a : ME) (σ : St) (S : Sto) : mSetI t o i a σ S = (a σ S).lift σ fun v S1 => (o σ S1).lift σ fun x S2 => (i σ S2).lift σ fun y S3 => (t x y v S3).lift σ fun _ S4 => .nx σ S4 := rfl
theorem ixN_nat {n k : Nat} (h : k < n) : ixN n (k : Int) = some k := by
  unfold ixN
  rw [if_pos (by omega), if_pos (by omega)]
  rfl
@[simp] theorem mYes_ap (σ : St) (S : Sto) : mYes σ S = .ok true S := rfl
/-- values that are none, bools, ints -/
def Sc (v : V) : Prop := v = .non ∨ (∃ b, v = .bl b) ∨ ∃ i, v = .int i
theorem mul_small {i j : Int} (h : -(2 ^ 64) < i ∧ i < 2 ^ 64) : IntMulOk i j := (show CMul i j from .inl h).ok
theorem mul_smallR {i j : Int} (h : -(2 ^ 64) < j ∧ j < 2 ^ 64) : IntMulOk i j := (show CMul i j from .inr h).ok
theorem pre_set {S S' : Sto} {i : Nat} {o : Ob} (h : S <+: S') (hi : S.length ≤ i) : S <+: S'.set i o := by
  obtain ⟨ex, rfl⟩ := h
  rw [List.set_append_right _ _ hi]
  exact List.prefix_append _ _
end Mi
namespace Mi
open PySem PySem.Spec L2
open PyProof.Rows hiding St
end Mi
namespace Mi
open PySem PySem.Spec L2
open PyProof.Rows hiding St
end Mi
namespace Vi
open PySem PySem.Spec L2 Mi
/-- a tree of values -/
inductive D where
  | non | bl (b : Bool) | int (i : Int) | str (s : Str)
  | tup (xs : List D) | lst (xs : List D)
  | dk (kvs : List (Key × D)) | ins (c : Nat) (fs : List D) | exc (c : Nat) (x : Option V) | hole
abbrev Ft := Nat → Nat
abbrev Zf (F : Ft) : Prop := ∀ i, F i = 0
mutual
/-- the value stands for the tree; F counts the changeable objects -/
inductive Rp (w : Bool) (S : Sto) : V → D → Ft → Prop
  | non {F : Ft} : Zf F → Rp w S .non .non F
  | bl {F : Ft} {b : Bool} : Zf F → Rp w S (.bl b) (.bl b) F
  | int {F : Ft} {b : Int} : Zf F → Rp w S (.int b) (.int b) F
  | str {F : Ft} {b : Str} : Zf F → Rp w S (.str b) (.str b) F
  | hole {F : Ft} {v : V} : Zf F → Rp w S v .hole F
  | exc {F : Ft} {i c : Nat} {x : Option V} : S[i]? = some (.exc c x) → Zf F → Rp w S (.ref i) (.exc c x) F
  | tup {F : Ft} {i : Nat} {vs : List V} {ds : List D} : S[i]? = some (.tup vs) → RpL w S vs ds F → Rp w S (.ref i) (.tup ds) F
  | lst {F F1 : Ft} {i : Nat} {vs : List V} {ds : List D} : (S[i]? = some (.lst vs) ∨ w = false ∧ S[i]? = some (.lck (.lst vs))) → RpL w S vs ds F1 → (∀ j, F j = F1 j + if j = i then 1 else 0) → Rp w S (.ref i) (.lst ds) F
  | dk {F F1 : Ft} {i : Nat} {kvs : List (Key × V)} {kds : List (Key × D)} : (S[i]? = some (.dK kvs) ∨ w = false ∧ S[i]? = some (.lck (.dK kvs))) → kvs.map (·.1) = kds.map (·.1) → RpL w S (kvs.map (·.2)) (kds.map (·.2)) F1 → (∀ j, F j = F1 j + if j = i then 1 else 0) → Rp w S (.ref i) (.dk kds) F
  | ins {F F1 : Ft} {i c : Nat} {fs : List (Option V)} {ds : List D} : S[i]? = some (.ins c fs) → RpO w S fs ds F1 → (∀ j, F j = F1 j + if j = i then 1 else 0) → Rp w S (.ref i) (.ins c ds) F
inductive RpL (w : Bool) (S : Sto) : List V → List D → Ft → Prop
  | nil {F : Ft} : Zf F → RpL w S [] [] F
  | cons {F F1 F2 : Ft} {v : V} {d : D} {vs : List V} {ds : List D} : Rp w S v d F1 → RpL w S vs ds F2 → (∀ i, F i = F1 i + F2 i) → RpL w S (v :: vs) (d :: ds) F
inductive RpO (w : Bool) (S : Sto) : List (Option V) → List D → Ft → Prop
  | nil {F : Ft} : Zf F → RpO w S [] [] F
  | cons {F F1 F2 : Ft} {v : V} {d : D} {vs : List (Option V)} {ds : List D} : Rp w S v d F1 → RpO w S vs ds F2 → (∀ i, F i = F1 i + F2 i) → RpO w S (some v :: vs) (d :: ds) F
  | hole {F : Ft} {o : Option V} {vs : List (Option V)} {ds : List D} : RpO w S vs ds F → RpO w S (o :: vs) (.hole :: ds) F
end
mutual
def imm : D → Bool
  | .non | .bl _ | .int _ | .str _ | .exc _ _ => true
  | .tup xs => immL xs
  | .lst _ | .dk _ | .ins _ _ | .hole => false
def immL : List D → Bool
  | [] => true
  | d :: ds => imm d && immL ds
end
/-- an object that may be changed -/
def mutO : Ob → Prop
  | .lst _ | .dK _ | .ins _ _ | .lck _ => True
  | _ => False
/-- what stays where: what F counts and what never changes -/
def Kp (F : Ft) (S S' : Sto) : Prop := ∀ i o, S[i]? = some o → (0 < F i ∨ ¬ mutO o) → S'[i]? = some o
/-- only what F counts is changed -/
def Fr (F : Ft) (S S' : Sto) : Prop := ∀ i o, S[i]? = some o → F i = 0 → S'[i]? = some o
section
variable {w : Bool} {S S' S'' : Sto} {v : V} {d e : D} {F G F1 F2 Z : Ft} {vs : List V} {ds : List D} {os : List (Option V)}
theorem Kp.refl : Kp F S S := fun _ _ h _ => h
theorem Kp.trans (a : Kp F S S') (b : Kp F S' S'') : Kp F S S'' := fun i o h k => b i o (a i o h k) k
theorem Kp.le (a : Kp F S S') (h : ∀ i, 0 < G i → 0 < F i) : Kp G S S' := fun i o e k => a i o e (k.elim (fun z => .inl (h i z)) .inr)
theorem Kp.pre (p : S <+: S') : Kp F S S' := fun _ _ h _ => pre_get' h p
theorem Fr.refl : Fr F S S := fun _ _ h _ => h
theorem Fr.pre (p : S <+: S') : Fr F S S' := fun _ _ h _ => pre_get' h p
mutual
theorem Rp.congr : ∀ {v : V} {d : D} {F G : Ft}, Rp w S v d F → (∀ i, G i = F i) → Rp w S v d G
  | _, _, _, _, .non z, h => .non fun i => (h i).trans (z i)
  | _, _, _, _, .bl z, h => .bl fun i => (h i).trans (z i)
  | _, _, _, _, .int z, h => .int fun i => (h i).trans (z i)
  | _, _, _, _, .str z, h => .str fun i => (h i).trans (z i)
  | _, _, _, _, .hole z, h => .hole fun i => (h i).trans (z i)
  | _, _, _, _, .exc e z, h => .exc e fun i => (h i).trans (z i)
  | _, _, _, _, .tup e r, h => .tup e (RpL.congr r h)
  | _, _, _, _, .lst e r z, h => .lst e r fun i => (h i).trans (z i)
  | _, _, _, _, .dk e k r z, h => .dk e k r fun i => (h i).trans (z i)
  | _, _, _, _, .ins e r z, h => .ins e r fun i => (h i).trans (z i)
theorem RpL.congr : ∀ {vs : List V} {ds : List D} {F G : Ft}, RpL w S vs ds F → (∀ i, G i = F i) → RpL w S vs ds G
  | _, _, _, _, .nil z, h => .nil fun i => (h i).trans (z i)
  | _, _, _, _, .cons a b z, h => .cons a b fun i => (h i).trans (z i)
end
theorem RpO.congr : ∀ {vs : List (Option V)} {ds : List D} {F G : Ft}, RpO w S vs ds F → (∀ i, G i = F i) → RpO w S vs ds G
  | _, _, _, _, .nil z, h => .nil fun i => (h i).trans (z i)
  | _, _, _, _, .cons a b z, h => .cons a b fun i => (h i).trans (z i)
  | _, _, _, _, .hole a, h => .hole (a.congr h)
mutual
/-- what F counts are changeable objects of the store -/
theorem Rp.dom : ∀ {v : V} {d : D} {F : Ft}, Rp w S v d F → ∀ i, 0 < F i → ∃ o, S[i]? = some o ∧ mutO o
  | _, _, _, .non z, i, h | _, _, _, .bl z, i, h | _, _, _, .int z, i, h | _, _, _, .str z, i, h | _, _, _, .hole z, i, h | _, _, _, .exc _ z, i, h => absurd (z i) (by omega)
  | _, _, _, .tup e r, i, h => RpL.dom r i h
  | _, _, _, .lst (i := k) e r z, i, h => by
    by_cases q : i = k
    · subst q; exact e.elim (fun e => ⟨_, e, trivial⟩) fun e => ⟨_, e.2, trivial⟩
    · exact RpL.dom r i (by have := z i; rw [if_neg q] at this; omega)
  | _, _, _, .dk (i := k) e _ r z, i, h => by
    by_cases q : i = k
    · subst q; exact e.elim (fun e => ⟨_, e, trivial⟩) fun e => ⟨_, e.2, trivial⟩
    · exact RpL.dom r i (by have := z i; rw [if_neg q] at this; omega)
  | _, _, _, .ins (i := k) e r z, i, h => by
    by_cases q : i = k
    · subst q; exact ⟨_, e, trivial⟩
    · exact RpO.dom r i (by have := z i; rw [if_neg q] at this; omega)
theorem RpL.dom : ∀ {vs : List V} {ds : List D} {F : Ft}, RpL w S vs ds F → ∀ i, 0 < F i → ∃ o, S[i]? = some o ∧ mutO o
  | _, _, _, .nil z, i, h => absurd (z i) (by omega)
  | _, _, _, .cons (F1 := F1) (F2 := F2) a b z, i, h => by
    by_cases q : 0 < F1 i
    · exact Rp.dom a i q
    · exact RpL.dom b i (by have := z i; omega)
theorem RpO.dom : ∀ {vs : List (Option V)} {ds : List D} {F : Ft}, RpO w S vs ds F → ∀ i, 0 < F i → ∃ o, S[i]? = some o ∧ mutO o
  | _, _, _, .nil z, i, h => absurd (z i) (by omega)
  | _, _, _, .cons (F1 := F1) (F2 := F2) a b z, i, h => by
    by_cases q : 0 < F1 i
    · exact Rp.dom a i q
    · exact RpO.dom b i (by have := z i; omega)
  | _, _, _, .hole a, i, h => RpO.dom a i h
end
theorem Rp.lt (r : Rp w S v d F) {i : Nat} (h : 0 < F i) : i < S.length := let ⟨_, e, _⟩ := r.dom i h; (List.getElem?_eq_some_iff.mp e).1
theorem RpL.lt (r : RpL w S vs ds F) {i : Nat} (h : 0 < F i) : i < S.length := let ⟨_, e, _⟩ := r.dom i h; (List.getElem?_eq_some_iff.mp e).1
theorem RpO.lt (r : RpO w S os ds F) {i : Nat} (h : 0 < F i) : i < S.length := let ⟨_, e, _⟩ := r.dom i h; (List.getElem?_eq_some_iff.mp e).1
mutual
theorem Rp.mono : ∀ {v : V} {d : D} {F : Ft}, Rp w S v d F → Kp F S S' → Rp w S' v d F
  | _, _, _, .non z, h => .non z
  | _, _, _, .bl z, h => .bl z
  | _, _, _, .int z, h => .int z
  | _, _, _, .str z, h => .str z
  | _, _, _, .hole z, h => .hole z
  | _, _, _, .exc e z, h => .exc (h _ _ e (.inr (by exact id))) z
  | _, _, _, .tup e r, h => .tup (h _ _ e (.inr (by exact id))) (RpL.mono r h)
  | _, _, _, .lst e r z, h => .lst (e.elim (fun e => .inl (h _ _ e (.inl (by rw [z, if_pos rfl]; omega)))) fun e => .inr ⟨e.1, h _ _ e.2 (.inl (by rw [z, if_pos rfl]; omega))⟩) (RpL.mono r (h.le fun i q => by rw [z]; omega)) z
  | _, _, _, .dk e k r z, h => .dk (e.elim (fun e => .inl (h _ _ e (.inl (by rw [z, if_pos rfl]; omega)))) fun e => .inr ⟨e.1, h _ _ e.2 (.inl (by rw [z, if_pos rfl]; omega))⟩) k (RpL.mono r (h.le fun i q => by rw [z]; omega)) z
  | _, _, _, .ins e r z, h => .ins (h _ _ e (.inl (by rw [z, if_pos rfl]; omega))) (RpO.mono r (h.le fun i q => by rw [z]; omega)) z
theorem RpL.mono : ∀ {vs : List V} {ds : List D} {F : Ft}, RpL w S vs ds F → Kp F S S' → RpL w S' vs ds F
  | _, _, _, .nil z, h => .nil z
  | _, _, _, .cons a b z, h => .cons (Rp.mono a (h.le fun i q => by rw [z]; omega)) (RpL.mono b (h.le fun i q => by rw [z]; omega)) z
theorem RpO.mono : ∀ {vs : List (Option V)} {ds : List D} {F : Ft}, RpO w S vs ds F → Kp F S S' → RpO w S' vs ds F
  | _, _, _, .nil z, h => .nil z
  | _, _, _, .cons a b z, h => .cons (Rp.mono a (h.le fun i q => by rw [z]; omega)) (RpO.mono b (h.le fun i q => by rw [z]; omega)) z
  | _, _, _, .hole a, h => .hole (RpO.mono a h)
end
mutual
theorem Rp.imm0 : ∀ {v : V} {d : D} {F : Ft}, Rp w S v d F → imm d = true → Zf F
  | _, _, _, .non z, _ | _, _, _, .bl z, _ | _, _, _, .int z, _ | _, _, _, .str z, _ | _, _, _, .exc _ z, _ => z
  | _, _, _, .hole z, h => by unfold imm at h; cases h
  | _, _, _, .tup e r, h => RpL.imm0 r (by unfold imm at h; exact h)
  | _, _, _, .lst _ _ _, h => by unfold imm at h; cases h
  | _, _, _, .dk _ _ _ _, h => by unfold imm at h; cases h
  | _, _, _, .ins _ _ _, h => by unfold imm at h; cases h
theorem RpL.imm0 : ∀ {vs : List V} {ds : List D} {F : Ft}, RpL w S vs ds F → immL ds = true → Zf F
  | _, _, _, .nil z, _ => z
  | _, _, _, .cons a b z, h => by
    unfold immL at h
    rw [Bool.and_eq_true] at h
    intro i
    rw [z, Rp.imm0 a h.1 i, RpL.imm0 b h.2 i]
end
theorem Kp.of_fr (a : Fr F S S') (h : ∀ i, 0 < G i → F i = 0) (k : ∀ i, 0 < F i → ∃ o, S[i]? = some o ∧ mutO o) : Kp G S S' := fun i o e q => a i o e (by
  rcases q with q | q
  · exact h i q
  · rcases Nat.eq_zero_or_pos (F i) with z | z
    · exact z
    · obtain ⟨o', e', m⟩ := k i z
      rw [e] at e'
      cases e'
      exact absurd m q)
theorem RpL.len : ∀ {vs : List V} {ds : List D} {F : Ft}, RpL w S vs ds F → vs.length = ds.length
  | _, _, _, .nil _ => rfl
  | _, _, _, .cons _ b _ => by rw [List.length_cons, List.length_cons, b.len]
theorem RpO.len : ∀ {vs : List (Option V)} {ds : List D} {F : Ft}, RpO w S vs ds F → vs.length = ds.length
  | _, _, _, .nil _ => rfl
  | _, _, _, .cons _ b _ => by rw [List.length_cons, List.length_cons, b.len]
  | _, _, _, .hole b => by rw [List.length_cons, List.length_cons, b.len]
mutual
theorem Rp.weak : ∀ {v : V} {d : D} {F : Ft}, Rp true S v d F → Rp w S v d F
  | _, _, _, .non z => .non z
  | _, _, _, .bl z => .bl z
  | _, _, _, .int z => .int z
  | _, _, _, .str z => .str z
  | _, _, _, .hole z => .hole z
  | _, _, _, .exc e z => .exc e z
  | _, _, _, .tup e r => .tup e (RpL.weak r)
  | _, _, _, .lst e r z => .lst (e.elim .inl fun e => absurd e.1 (by decide)) (RpL.weak r) z
  | _, _, _, .dk e k r z => .dk (e.elim .inl fun e => absurd e.1 (by decide)) k (RpL.weak r) z
  | _, _, _, .ins e r z => .ins e (RpO.weak r) z
theorem RpL.weak : ∀ {vs : List V} {ds : List D} {F : Ft}, RpL true S vs ds F → RpL w S vs ds F
  | _, _, _, .nil z => .nil z
  | _, _, _, .cons a b z => .cons (Rp.weak a) (RpL.weak b) z
theorem RpO.weak : ∀ {vs : List (Option V)} {ds : List D} {F : Ft}, RpO true S vs ds F → RpO w S vs ds F
  | _, _, _, .nil z => .nil z
  | _, _, _, .cons a b z => .cons (Rp.weak a) (RpO.weak b) z
  | _, _, _, .hole a => .hole (RpO.weak a)
end
mutual
/-- what never changes stands as it is -/
theorem Rp.immW {w' : Bool} : ∀ {v : V} {d : D} {F : Ft}, Rp w S v d F → imm d = true → Rp w' S v d F
  | _, _, _, .non z, _ => .non z
  | _, _, _, .bl z, _ => .bl z
  | _, _, _, .int z, _ => .int z
  | _, _, _, .str z, _ => .str z
  | _, _, _, .hole z, _ => .hole z
  | _, _, _, .exc e z, _ => .exc e z
  | _, _, _, .tup e r, h => .tup e (RpL.immW r (by unfold imm at h; exact h))
  | _, _, _, .lst _ _ _, h => by unfold imm at h; cases h
  | _, _, _, .dk _ _ _ _, h => by unfold imm at h; cases h
  | _, _, _, .ins _ _ _, h => by unfold imm at h; cases h
theorem RpL.immW {w' : Bool} : ∀ {vs : List V} {ds : List D} {F : Ft}, RpL w S vs ds F → immL ds = true → RpL w' S vs ds F
  | _, _, _, .nil z, _ => .nil z
  | _, _, _, .cons a b z, h => by
    unfold immL at h
    rw [Bool.and_eq_true] at h
    exact .cons (Rp.immW a h.1) (RpL.immW b h.2) z
end
end
@[simp] theorem immL_all : ∀ ds : List D, immL ds = ds.all imm
  | [] => rfl
  | d :: ds => by unfold immL; rw [immL_all ds]; rfl
inductive Sl where
  | no | ow (d : D) | fz (d : D)
abbrev Env := List Sl
inductive EnvR (S : Sto) : St → Env → Ft → Ft → Prop
  | nil {F Z : Ft} : Zf F → Zf Z → EnvR S [] [] F Z
  | no {F Z : Ft} {o : Option V} {σ : St} {e : Env} : EnvR S σ e F Z → EnvR S (o :: σ) (.no :: e) F Z
  | ow {F F1 F2 Z : Ft} {v : V} {d : D} {σ : St} {e : Env} : Rp true S v d F1 → EnvR S σ e F2 Z → (∀ i, F i = F1 i + F2 i) → EnvR S (some v :: σ) (.ow d :: e) F Z
  | fz {F Z Z1 Z2 : Ft} {v : V} {d : D} {σ : St} {e : Env} : Rp false S v d Z1 → EnvR S σ e F Z2 → (∀ i, Z i = Z1 i + Z2 i) → EnvR S (some v :: σ) (.fz d :: e) F Z
/-- the environment's invariant -/
structure EI (S : Sto) (σ : St) (e : Env) (F Z : Ft) : Prop where
  r : EnvR S σ e F Z
  nd : ∀ i, F i ≤ 1
  dj : ∀ i, 0 < Z i → F i = 0
section
variable {S S' : Sto} {σ : St} {e : Env} {F Z : Ft}
theorem EnvR.domF : ∀ {σ : St} {e : Env} {F Z : Ft}, EnvR S σ e F Z → ∀ i, 0 < F i → ∃ o, S[i]? = some o ∧ mutO o
  | _, _, _, _, .nil z _, i, h => absurd (z i) (by omega)
  | _, _, _, _, .no b, i, h => b.domF i h
  | _, _, _, _, .ow (F1 := F1) a b z, i, h => by
    by_cases q : 0 < F1 i
    · exact a.dom i q
    · exact b.domF i (by have := z i; omega)
  | _, _, _, _, .fz a b z, i, h => b.domF i h
theorem EnvR.domZ : ∀ {σ : St} {e : Env} {F Z : Ft}, EnvR S σ e F Z → ∀ i, 0 < Z i → ∃ o, S[i]? = some o ∧ mutO o
  | _, _, _, _, .nil _ z, i, h => absurd (z i) (by omega)
  | _, _, _, _, .no b, i, h => b.domZ i h
  | _, _, _, _, .fz (Z1 := F1) a b z, i, h => by
    by_cases q : 0 < F1 i
    · exact a.dom i q
    · exact b.domZ i (by have := z i; omega)
  | _, _, _, _, .ow a b z, i, h => b.domZ i h
theorem EnvR.mono : ∀ {σ : St} {e : Env} {F Z : Ft}, EnvR S σ e F Z → Kp (fun i => F i + Z i) S S' → EnvR S' σ e F Z
  | _, _, _, _, .nil a b, h => .nil a b
  | _, _, _, _, .no b, h => .no (b.mono h)
  | _, _, _, _, .ow a b z, h => .ow (a.mono (h.le fun i q => by have := z i; omega)) (b.mono (h.le fun i q => by have := z i; omega)) z
  | _, _, _, _, .fz a b z, h => .fz (a.mono (h.le fun i q => by have := z i; omega)) (b.mono (h.le fun i q => by have := z i; omega)) z
theorem EnvR.len : ∀ {σ : St} {e : Env} {F Z : Ft}, EnvR S σ e F Z → σ.length = e.length
  | _, _, _, _, .nil _ _ => rfl
  | _, _, _, _, .no b => by rw [List.length_cons, List.length_cons, b.len]
  | _, _, _, _, .ow _ b _ => by rw [List.length_cons, List.length_cons, b.len]
  | _, _, _, _, .fz _ b _ => by rw [List.length_cons, List.length_cons, b.len]
theorem EnvR.congr : ∀ {σ : St} {e : Env} {F Z F' Z' : Ft}, EnvR S σ e F Z → (∀ i, F' i = F i) → (∀ i, Z' i = Z i) → EnvR S σ e F' Z'
  | _, _, _, _, _, _, .nil a b, h, k => .nil (fun i => (h i).trans (a i)) fun i => (k i).trans (b i)
  | _, _, _, _, _, _, .no b, h, k => .no (b.congr h k)
  | _, _, _, _, _, _, .ow a b z, h, k => .ow a (b.congr (fun _ => rfl) k) fun i => (h i).trans (z i)
  | _, _, _, _, _, _, .fz a b z, h, k => .fz a (b.congr h fun _ => rfl) fun i => (k i).trans (z i)
/-- a slot's part, and what another value in its place makes -/
theorem EnvR.slot : ∀ {σ : St} {e : Env} {F Z : Ft} {j : Nat} {s : Sl}, EnvR S σ e F Z → e[j]? = some s → ∃ F1 Z1 F2 Z2 : Ft, (∀ i, F i = F1 i + F2 i) ∧ (∀ i, Z i = Z1 i + Z2 i) ∧
      (match s with
        | .no => Zf F1 ∧ Zf Z1
        | .ow d => Zf Z1 ∧ ∃ v, σ[j]? = some (some v) ∧ Rp true S v d F1
        | .fz d => Zf F1 ∧ ∃ v, σ[j]? = some (some v) ∧ Rp false S v d Z1) ∧
      (∀ o, EnvR S (σ.set j o) (e.set j .no) F2 Z2) ∧ (∀ v d G, Rp true S v d G → EnvR S (σ.set j (some v)) (e.set j (.ow d)) (fun i => G i + F2 i) Z2) ∧ (∀ v d G, Rp false S v d G → EnvR S (σ.set j (some v)) (e.set j (.fz d)) F2 (fun i => G i + Z2 i))
  | _, _, _, _, _, _, .nil _ _, h => by simp at h
  | _, _, F, Z, 0, s, .no b, h => by
    simp at h
    subst h
    exact ⟨fun _ => 0, fun _ => 0, F, Z, fun i => by simp, fun i => by simp, ⟨fun _ => rfl, fun _ => rfl⟩, fun o => .no b, fun v d G r => .ow r b fun _ => rfl, fun v d G r => .fz r b fun _ => rfl⟩
  | _, _, F, Z, 0, s, .ow (F1 := F1) (F2 := F2) (v := v) a b z, h => by
    simp at h
    subst h
    exact ⟨F1, fun _ => 0, F2, Z, z, fun i => by simp, ⟨fun _ => rfl, v, rfl, a⟩, fun o => .no b, fun v d G r => .ow r b fun _ => rfl, fun v d G r => .fz r b fun _ => rfl⟩
  | _, _, F, Z, 0, s, .fz (Z1 := Z1) (Z2 := Z2) (v := v) a b z, h => by
    simp at h
    subst h
    exact ⟨fun _ => 0, Z1, F, Z2, fun i => by simp, z, ⟨fun _ => rfl, v, rfl, a⟩, fun o => .no b, fun v d G r => .ow r b fun _ => rfl, fun v d G r => .fz r b fun _ => rfl⟩
  | _, _, F, Z, j + 1, s, .no b, h => by
    obtain ⟨F1, Z1, F2, Z2, hF, hZ, hs, k1, k2, k3⟩ := EnvR.slot b (by simpa using h)
    exact ⟨F1, Z1, F2, Z2, hF, hZ, by cases s <;> simpa using hs, fun o => .no (k1 o), fun v d G r => .no (k2 v d G r), fun v d G r => .no (k3 v d G r)⟩
  | _, _, F, Z, j + 1, s, .ow (F1 := A) a b z, h => by
    obtain ⟨F1, Z1, F2, Z2, hF, hZ, hs, k1, k2, k3⟩ := EnvR.slot b (by simpa using h)
    exact ⟨F1, Z1, fun i => A i + F2 i, Z2, fun i => by have := z i; have := hF i; dsimp only; omega, hZ, by cases s <;> simpa using hs, fun o => .ow a (k1 o) fun _ => rfl,
      fun v d G r => .ow a (k2 v d G r) fun i => by dsimp only; omega, fun v d G r => .ow a (k3 v d G r) fun _ => rfl⟩
  | _, _, F, Z, j + 1, s, .fz (Z1 := A) a b z, h => by
    obtain ⟨F1, Z1, F2, Z2, hF, hZ, hs, k1, k2, k3⟩ := EnvR.slot b (by simpa using h)
    exact ⟨F1, Z1, F2, fun i => A i + Z2 i, hF, fun i => by have := z i; have := hZ i; dsimp only; omega, by cases s <;> simpa using hs, fun o => .fz a (k1 o) fun _ => rfl,
      fun v d G r => .fz a (k2 v d G r) fun _ => rfl, fun v d G r => .fz a (k3 v d G r) fun i => by dsimp only; omega⟩
/-- a later moment -/
structure Nx (S : Sto) (F Z : Ft) (S' : Sto) (F' Z' : Ft) : Prop where
  le : S.length ≤ S'.length
  fr : Fr F S S'
  nd : ∀ i, F' i ≤ 1
  sub : ∀ i, i < S.length → F' i ≤ F i
  zs : ∀ i, i < S.length → 0 < Z' i → 0 < Z i
  dj : ∀ i, 0 < Z' i → F' i = 0
theorem Nx.refl (h : EI S σ e F Z) : Nx S F Z S F Z := ⟨Nat.le_refl _, Fr.refl, h.nd, fun _ _ => Nat.le_refl _, fun _ _ h => h, h.dj⟩
theorem Nx.trans {S'' : Sto} {F' Z' F'' Z'' : Ft} (a : Nx S F Z S' F' Z') (b : Nx S' F' Z' S'' F'' Z'') : Nx S F Z S'' F'' Z'' where
  le := Nat.le_trans a.le b.le
  fr := fun i o h k => by
    have hi := (List.getElem?_eq_some_iff.mp h).1
    exact b.fr i o (a.fr i o h k) (by have := a.sub i hi; omega)
  nd := b.nd
  sub := fun i hi => Nat.le_trans (b.sub i (Nat.lt_of_lt_of_le hi a.le)) (a.sub i hi)
  zs := fun i hi h => a.zs i hi (b.zs i (Nat.lt_of_lt_of_le hi a.le) h)
  dj := b.dj
theorem Nx.ei {F' Z' : Ft} {σ' : St} {e' : Env} (a : Nx S F Z S' F' Z') (h : EnvR S' σ' e' F' Z') : EI S' σ' e' F' Z' := ⟨h, a.nd, a.dj⟩
/-- what the environment does not own stays -/
theorem Nx.kp {F' Z' G : Ft} (a : Nx S F Z S' F' Z') (h : EnvR S σ e F Z) (k : ∀ i, 0 < G i → F i = 0) : Kp G S S' := .of_fr a.fr k h.domF
end
end Vi
namespace Vi
open PySem PySem.Spec L2 Mi
/-- where a value comes from: its own, frozen, any part -/
inductive Og where
  | fr | zn | an
  deriving DecidableEq
def Og.st : Og → Bool
  | .an => false
  | _ => true
def Og.own : Og → Bool
  | .fr => true
  | _ => false
@[simp] theorem st_fr : Og.fr.st = true := rfl
@[simp] theorem st_zn : Og.zn.st = true := rfl
@[simp] theorem st_an : Og.an.st = false := rfl
inductive X (α : Type) where
  | ok (a : α) (q : Bool) (e : Env) | exc (c : Nat) (x : Option V) (e : Env) | bad
def X.bind {α β : Type} : X α → (α → Bool → Env → X β) → X β
  | .ok a q e, f => f a q e
  | .exc c x e, _ => .exc c x e
  | .bad, _ => .bad
section
variable {α β : Type}
@[simp] theorem xbind_ok (a : α) (q : Bool) (e : Env) (f : α → Bool → Env → X β) : (X.ok a q e).bind f = f a q e := rfl
@[simp] theorem xbind_exc (c : Nat) (x : Option V) (e : Env) (f : α → Bool → Env → X β) : (X.exc c x e).bind f = .exc c x e := rfl
@[simp] theorem xbind_bad (f : α → Bool → Env → X β) : (X.bad : X α).bind f = .bad := rfl
end
/-- what comes behind something quiet or not -/
def X.qq {α : Type} (q : Bool) : X α → X α
  | .ok a q' e => .ok a (q && q') e
  | r => r
section
variable {α : Type}
@[simp] theorem qq_ok (q q' : Bool) (a : α) (e : Env) : (X.ok a q' e).qq q = .ok a (q && q') e := rfl
@[simp] theorem qq_exc (q : Bool) (c : Nat) (x : Option V) (e : Env) : (X.exc c x e : X α).qq q = .exc c x e := rfl
@[simp] theorem qq_bad (q : Bool) : (X.bad : X α).qq q = .bad := rfl
end
abbrev PE := Env → X (D × Og)
abbrev PT := Env → X Bool
abbrev PA := Env → X (List (D × Og))
/-- nothing changed but for what is new -/
structure Qt (S : Sto) (e : Env) (F Z : Ft) (S' : Sto) (e' : Env) (F' Z' : Ft) : Prop where
  e : e' = e
  p : S <+: S'
  f : ∀ i, F' i = F i
  z : ∀ i, Z' i = Z i
abbrev Rel (α β : Type) := Sto → Ft → Ft → Sto → Ft → Ft → β → α → Prop
def Po {α β : Type} (Rl : Rel α β) (S : Sto) (σ : St) (e : Env) (F Z : Ft) (r : R β) : X α → Prop
  | .ok a q e' => ∃ (v : β) (S' : Sto) (F' Z' : Ft), r = .ok v S' ∧ Nx S F Z S' F' Z' ∧ EnvR S' σ e' F' Z' ∧ Rl S F Z S' F' Z' v a ∧ (q = true → Qt S e F Z S' e' F' Z')
  | .exc c x e' => ∃ (S' : Sto) (F' Z' : Ft), r = .exc c x S' ∧ Nx S F Z S' F' Z' ∧ EnvR S' σ e' F' Z'
  | .bad => True
def JX {α β : Type} (Rl : Rel α β) (m : St → Sto → R β) (p : Env → X α) : Prop := ∀ (S : Sto) (σ : St) (e : Env) (F Z : Ft), EI S σ e F Z → Po Rl S σ e F Z (m σ S) (p e)
/-- the parts of a value -/
def Tg (o : Og) (S : Sto) (F Z F' Z' Fd : Ft) : Prop := match o with
  | .fr => (∀ i, F' i + Fd i ≤ 1) ∧ (∀ i, i < S.length → F' i + Fd i ≤ F i) ∧ ∀ i, 0 < Z' i → Fd i = 0
  | .zn => ∀ i, 0 < Fd i → F' i = 0 ∧ (i < S.length → 0 < Z i)
  | .an => ∀ i, 0 < Fd i → i < S.length → 0 < F i + Z i
def RlE : Rel (D × Og) V := fun S F Z S' F' Z' v a => ∃ Fd, Rp a.2.own S' v a.1 Fd ∧ Tg a.2 S F Z F' Z' Fd
def RlB : Rel Bool Bool := fun _ _ _ _ _ _ b a => b = a
abbrev JE (m : ME) (p : PE) : Prop := JX RlE m p
abbrev JT (m : MT) (p : PT) : Prop := JX RlB m p
section
variable {S S1 S2 : Sto} {σ : St} {e e1 e2 : Env} {F Z F1 Z1 F2 Z2 Fd : Ft} {α β γ δ : Type} {o : Og}
theorem Qt.refl : Qt S e F Z S e F Z := ⟨rfl, List.prefix_refl _, fun _ => rfl, fun _ => rfl⟩
theorem Qt.trans (a : Qt S e F Z S1 e1 F1 Z1) (b : Qt S1 e1 F1 Z1 S2 e2 F2 Z2) : Qt S e F Z S2 e2 F2 Z2 := ⟨b.e.trans a.e, a.p.trans b.p, fun i => (b.f i).trans (a.f i), fun i => (b.z i).trans (a.z i)⟩
theorem Tg.tr (n : Nx S F Z S1 F1 Z1) (h : Tg o S1 F1 Z1 F2 Z2 Fd) : Tg o S F Z F2 Z2 Fd := by
  cases o with
  | fr => exact ⟨h.1, fun i hi => Nat.le_trans (h.2.1 i (Nat.lt_of_lt_of_le hi n.le)) (n.sub i hi), h.2.2⟩
  | zn => exact fun i k => ⟨(h i k).1, fun hi => n.zs i hi ((h i k).2 (Nat.lt_of_lt_of_le hi n.le))⟩
  | an =>
    intro i k hi
    have h1 := h i k (Nat.lt_of_lt_of_le hi n.le)
    have h2 := n.sub i hi
    have h3 := n.zs i hi
    omega
def Trs (Rl : Rel α β) : Prop := ∀ S F Z S1 F1 Z1 S2 F2 Z2 v a, Nx S F Z S1 F1 Z1 → Rl S1 F1 Z1 S2 F2 Z2 v a → Rl S F Z S2 F2 Z2 v a
theorem trs_e : Trs RlE := fun _ _ _ _ _ _ _ _ _ _ _ n ⟨Fd, r, t⟩ => ⟨Fd, r, t.tr n⟩
theorem trs_b : Trs RlB := fun _ _ _ _ _ _ _ _ _ _ _ _ h => h
theorem Po.after {Rl : Rel α β} (t : Trs Rl) {r : R β} {x : X α} {q : Bool} (h : Po Rl S1 σ e1 F1 Z1 r x) (n : Nx S F Z S1 F1 Z1) (k : q = true → Qt S e F Z S1 e1 F1 Z1) : Po Rl S σ e F Z r (x.qq q) := by
  cases x with
  | ok a q' e' =>
    obtain ⟨v, S', F', Z', hr, hn, he, hl, hq⟩ := h
    refine ⟨v, S', F', Z', hr, n.trans hn, he, t _ _ _ _ _ _ _ _ _ _ _ n hl, fun hh => ?_⟩
    rw [Bool.and_eq_true] at hh
    exact (k hh.1).trans (hq hh.2)
  | exc c x e' =>
    obtain ⟨S', F', Z', hr, hn, he⟩ := h
    exact ⟨S', F', Z', hr, n.trans hn, he⟩
  | bad => trivial
/-- one part, then another -/
theorem Po.bind {Rl1 : Rel α β} {Rl2 : Rel γ δ} {r : R β} {x : X α} {g : β → Sto → R δ} {f : α → Bool → Env → X γ} (h : Po Rl1 S σ e F Z r x)
    (hf : ∀ a q e' v S' F' Z', x = .ok a q e' → Nx S F Z S' F' Z' → EI S' σ e' F' Z' → Rl1 S F Z S' F' Z' v a → (q = true → Qt S e F Z S' e' F' Z') → Po Rl2 S σ e F Z (g v S') (f a q e')) : Po Rl2 S σ e F Z (r.bind g) (x.bind f) := by
  cases x with
  | ok a q e' =>
    obtain ⟨v, S', F', Z', hr, hn, he, hl, hq⟩ := h
    subst hr
    exact hf a q e' v S' F' Z' rfl hn (hn.ei he) hl hq
  | exc c x e' =>
    obtain ⟨S', F', Z', hr, hn, he⟩ := h
    subst hr
    exact ⟨S', F', Z', rfl, hn, he⟩
  | bad => trivial
/-- something told at once -/
theorem Po.pure {Rl : Rel α β} {v : β} {a : α} (I : EI S σ e F Z) (h : Rl S F Z S F Z v a) : Po Rl S σ e F Z (.ok v S) (.ok a true e) :=
  ⟨v, S, F, Z, rfl, .refl I, I.r, h, fun _ => .refl⟩
/-- something new, told without a change -/
theorem Po.fresh {Rl : Rel α β} {v : β} {a : α} {S' : Sto} (I : EI S σ e F Z) (p : S <+: S') (h : Rl S F Z S' F Z v a) : Po Rl S σ e F Z (.ok v S') (.ok a true e) :=
  ⟨v, S', F, Z, rfl, ⟨p.length_le, .pre p, I.nd, fun _ _ => Nat.le_refl _, fun _ _ h => h, I.dj⟩, I.r.mono (.pre p), h, fun _ => ⟨rfl, p, fun _ => rfl, fun _ => rfl⟩⟩
theorem tg_zero (h : Zf Fd) (nd : ∀ i, F1 i ≤ 1) (sub : ∀ i, i < S.length → F1 i ≤ F i) : Tg o S F Z F1 Z1 Fd := by
  cases o with
  | fr => exact ⟨fun i => by rw [h]; exact nd i, fun i hi => by rw [h]; exact sub i hi, fun i _ => h i⟩
  | zn => exact fun i k => absurd (h i) (by omega)
  | an => exact fun i k => absurd (h i) (by omega)
end
def tagI (d : D) (o : Og) : Og := if imm d = true then .fr else o
def pVar (i : Nat) : PE := fun e => match e[i]? with
  | some (.ow d) => .ok (d, tagI d .an) true e
  | some (.fz d) => .ok (d, tagI d .zn) true e
  | _ => .bad
/-- a variable's value goes elsewhere -/
def pMv (i : Nat) : PE := fun e => match e[i]? with
  | some (.ow d) => if imm d = true then .ok (d, .fr) true e else .ok (d, .fr) false (e.set i .no)
  | some (.fz d) => .ok (d, tagI d .zn) true e
  | _ => .bad
section
variable {S S1 S2 : Sto} {σ : St} {e e1 e2 : Env} {F Z F1 Z1 F2 Z2 Fd : Ft} {α β γ δ : Type} {o : Og} {d : D} {v : V}
theorem rp_tagI (r : Rp false S1 v d Fd) (h : o.own = false) : Rp (tagI d o).own S1 v d Fd := by
  unfold tagI
  by_cases z : imm d = true
  · rw [if_pos z]; exact r.immW z
  · rw [if_neg z, h]; exact r
theorem tg_tagI {w : Bool} (r : Rp w S1 v d Fd) (h : Tg o S F Z F1 Z1 Fd) (nd : ∀ i, F1 i ≤ 1) (sub : ∀ i, i < S.length → F1 i ≤ F i) : Tg (tagI d o) S F Z F1 Z1 Fd := by
  unfold tagI
  by_cases z : imm d = true
  · rw [if_pos z]; exact tg_zero (r.imm0 z) nd sub
  · rw [if_neg z]; exact h
theorem set_self {α : Type} {l : List α} {i : Nat} {a : α} (h : l[i]? = some a) : l.set i a = l := by
  apply List.ext_getElem?
  intro j
  by_cases z : i = j
  · subst z; rw [List.getElem?_set_self (List.getElem?_eq_some_iff.mp h).1, h]
  · rw [List.getElem?_set_ne z]
theorem mVar_of {i : Nat} {v : V} (h : σ[i]? = some (some v)) : mVar i σ S = .ok v S := by rw [mVar_ap, h]; rfl
theorem je_var (i : Nat) : JE (mVar i) (pVar i) := by
  intro S σ e F Z I
  unfold pVar
  cases h : e[i]? with
  | none => trivial
  | some s =>
    obtain ⟨F1, Z1, F2, Z2, hF, hZ, hs, k1, k2, k3⟩ := I.r.slot h
    cases s with
    | no => trivial
    | ow d =>
      obtain ⟨z, v, hv, r⟩ := hs
      rw [mVar_of hv]
      exact .pure I ⟨F1, rp_tagI r.weak rfl, tg_tagI r (fun i k _ => by have := hF i; omega) I.nd fun _ _ => Nat.le_refl _⟩
    | fz d =>
      obtain ⟨z, v, hv, r⟩ := hs
      rw [mVar_of hv]
      exact .pure I ⟨Z1, rp_tagI r rfl, tg_tagI r (fun i k => ⟨I.dj i (by have := hZ i; omega), fun _ => by have := hZ i; omega⟩) I.nd fun _ _ => Nat.le_refl _⟩
theorem je_mv (i : Nat) : JE (mVar i) (pMv i) := by
  intro S σ e F Z I
  unfold pMv
  cases h : e[i]? with
  | none => trivial
  | some s =>
    obtain ⟨F1, Z1, F2, Z2, hF, hZ, hs, k1, k2, k3⟩ := I.r.slot h
    cases s with
    | no => trivial
    | ow d =>
      obtain ⟨z, v, hv, r⟩ := hs
      rw [mVar_of hv]
      dsimp only
      by_cases q : imm d = true
      · rw [if_pos q]
        exact .pure I ⟨F1, r, tg_zero (r.imm0 q) I.nd fun _ _ => Nat.le_refl _⟩
      · rw [if_neg q]
        have k := k1 (some v)
        rw [set_self hv] at k
        have hnd := I.nd
        have hdj := I.dj
        exact ⟨v, S, F2, Z2, rfl, ⟨Nat.le_refl _, Fr.refl, fun i => by have := hF i; have := hnd i; omega, fun i _ => by have := hF i; omega, fun i _ _ => by have := hZ i; omega,
          fun i _ => by have := hF i; have := hZ i; have := hdj i; omega⟩, k, ⟨F1, r, fun i => by have := hF i; have := hnd i; omega, fun i _ => by have := hF i; omega, fun i _ => by
            have := hF i; have := hZ i; have := hdj i; omega⟩, fun h => by cases h⟩
    | fz d =>
      obtain ⟨z, v, hv, r⟩ := hs
      rw [mVar_of hv]
      exact .pure I ⟨Z1, rp_tagI r rfl, tg_tagI r (fun i k => ⟨I.dj i (by have := hZ i; omega), fun _ => by have := hZ i; omega⟩) I.nd fun _ _ => Nat.le_refl _⟩
def pC (d : D) : PE := fun e => .ok (d, .fr) true e
theorem je_c {v : V} {d : D} (h : ∀ S, Rp true S v d fun _ => 0) : JE (mC v) (pC d) := fun S σ e F Z I => .pure I ⟨fun _ => 0, h S, tg_zero (fun _ => rfl) I.nd fun _ _ => Nat.le_refl _⟩
theorem je_int (i : Int) : JE (mC (.int i)) (pC (.int i)) := je_c fun _ => .int fun _ => rfl
theorem je_bl (i : Bool) : JE (mC (.bl i)) (pC (.bl i)) := je_c fun _ => .bl fun _ => rfl
theorem je_non : JE (mC .non) (pC .non) := je_c fun _ => .non fun _ => rfl
def Tga (o : Og) (S : Sto) (F Z F' T Fd : Ft) : Prop := match o with
  | .fr => ∀ i, Fd i ≤ T i
  | .zn => ∀ i, 0 < Fd i → F' i = 0 ∧ T i = 0 ∧ (i < S.length → 0 < Z i)
  | .an => ∀ i, 0 < Fd i → i < S.length → 0 < F i + Z i
def frp (o : Og) (Fd : Ft) : Ft := match o with
  | .fr => Fd
  | _ => fun _ => 0
/-- values, each with its parts; U counts the own ones' parts -/
inductive AvR (S : Sto) (F Z : Ft) (S' : Sto) (F' T : Ft) : List V → List (D × Og) → Ft → Prop
  | nil {U : Ft} : Zf U → AvR S F Z S' F' T [] [] U
  | cons {U U2 Fd : Ft} {v : V} {d : D} {o : Og} {vs : List V} {ds : List (D × Og)} : Rp o.own S' v d Fd → Tga o S F Z F' T Fd → AvR S F Z S' F' T vs ds U2 → (∀ i, U i = frp o Fd i + U2 i) → AvR S F Z S' F' T (v :: vs) ((d, o) :: ds) U
def RlA : Rel (List (D × Og)) (List V) := fun S F Z S' F' Z' vs ds => ∃ T, AvR S F Z S' F' T vs ds T ∧ (∀ i, F' i + T i ≤ 1) ∧ (∀ i, i < S.length → F' i + T i ≤ F i) ∧ ∀ i, 0 < Z' i → T i = 0
abbrev JA (m : MA) (p : PA) : Prop := JX RlA m p
theorem AvR.tr {vs : List V} {ds : List (D × Og)} {T T' U F' : Ft} {S' : Sto} (h : AvR S1 F1 Z1 S' F' T vs ds U) (n : Nx S F Z S1 F1 Z1) (ht : ∀ i, T i ≤ T' i) (hz : ∀ i, (i < S1.length → 0 < Z1 i) → F' i = 0 → T i = 0 → i < S'.length → T' i = 0) : AvR S F Z S' F' T' vs ds U := by
  induction h with
  | nil z => exact .nil z
  | @cons U U2 Fd v d o vs ds r t _ hu ih =>
    refine .cons r ?_ ih hu
    cases o with
    | fr => exact fun i => Nat.le_trans (t i) (ht i)
    | zn => exact fun i k => ⟨(t i k).1, hz i (t i k).2.2 (t i k).1 (t i k).2.1 (r.lt k), fun hi => n.zs i hi ((t i k).2.2 (Nat.lt_of_lt_of_le hi n.le))⟩
    | an =>
      intro i k hi
      have h1 := t i k (Nat.lt_of_lt_of_le hi n.le)
      have h2 := n.sub i hi
      have h3 := n.zs i hi
      omega
def pNil : PA := fun e => .ok [] true e
def pCons (a : PE) (r : PA) : PA := fun e => (a e).bind fun d q e1 => (r e1).bind fun ds q' e2 => if (d.2.st || q') = true then .ok (d :: ds) (q && q') e2 else .bad
theorem ja_nil : JA mNil pNil := fun S σ e F Z I => .pure I ⟨fun _ => 0, .nil fun _ => rfl, I.nd, fun _ _ => Nat.le_refl _, fun _ _ => rfl⟩
theorem ja_cons {m : ME} {p : PE} {ms : MA} {ps : PA} (h : JE m p) (hs : JA ms ps) : JA (mCons m ms) (pCons p ps) := by
  intro S σ e F Z I
  refine Po.bind (h S σ e F Z I) fun a q e1 v S1 F1 Z1 hx n1 I1 ⟨Fd, r, t⟩ k1 => ?_
  have h2 := hs S1 σ e1 F1 Z1 I1
  cases hx2 : ps e1 with
  | bad => trivial
  | exc c x e2 =>
    rw [hx2] at h2
    obtain ⟨S', F', Z', hr, hn, he⟩ := h2
    rw [hr]
    exact ⟨S', F', Z', rfl, n1.trans hn, he⟩
  | ok ds q' e2 =>
    rw [hx2] at h2
    obtain ⟨vs, S2, F2, Z2, hr, n2, he, ⟨T, av, t1, t2, t3⟩, k2⟩ := h2
    rw [hr]
    show Po RlA S σ e F Z (.ok (v :: vs) S2) (if (a.2.st || q') = true then .ok (a :: ds) (q && q') e2 else .bad)
    by_cases z : (a.2.st || q') = true
    · rw [if_pos z]
      refine ⟨v :: vs, S2, F2, Z2, rfl, n1.trans n2, he, ?_, fun hh => by rw [Bool.and_eq_true] at hh; exact (k1 hh.1).trans (k2 hh.2)⟩
      obtain ⟨d, o⟩ := a
      have nd1 := n1.nd
      have dj1 := n1.dj
      have zs2 := n2.zs
      have sub2 := n2.sub
      cases o with
      | fr =>
        have hb : ∀ i, S1.length ≤ i → Fd i = 0 := fun i hi => Nat.eq_zero_of_not_pos fun k => absurd (r.lt k) (by omega)
        refine ⟨fun i => Fd i + T i, .cons (r.mono (n2.kp I1.r fun i k => by have := t.1 i; omega)) (fun i => Nat.le_add_right _ _) (av.tr n1 (fun i => Nat.le_add_left _ _) fun i hz _ h0 hl => ?_) fun i => rfl, fun i => ?_, fun i hi => ?_, fun i hi => ?_⟩
        · by_cases q : i < S1.length
          · have := t.2.2 i (hz q); show Fd i + T i = 0; omega
          · have := hb i (by omega); show Fd i + T i = 0; omega
        · show F2 i + (Fd i + T i) ≤ 1
          by_cases q : i < S1.length
          · have := t.1 i; have := t2 i q; omega
          · have := hb i (by omega); have := t1 i; omega
        · show F2 i + (Fd i + T i) ≤ F i
          have := t.2.1 i hi
          have := t2 i (Nat.lt_of_lt_of_le hi n1.le)
          omega
        · have := t3 i hi
          by_cases q : i < S1.length
          · have := t.2.2 i (zs2 i q hi); show Fd i + T i = 0; omega
          · have := hb i (by omega); show Fd i + T i = 0; omega
      | zn =>
        refine ⟨T, .cons (r.mono (n2.kp I1.r fun i k => (t i k).1)) (fun i k => ?_) (av.tr n1 (fun i => Nat.le_refl _) fun i _ _ h _ => h) fun i => by simp [frp], t1, fun i hi => ?_, t3⟩
        · have q := r.lt k
          have := t2 i q
          have := (t i k).1
          exact ⟨by omega, by omega, (t i k).2⟩
        · have := t2 i (Nat.lt_of_lt_of_le hi n1.le)
          have := n1.sub i hi
          omega
      | an =>
        have hq : q' = true := by simpa using z
        refine ⟨T, .cons (r.mono (.pre (k2 hq).p)) t (av.tr n1 (fun i => Nat.le_refl _) fun i _ _ h _ => h) fun i => by simp [frp], t1, fun i hi => ?_, t3⟩
        have := t2 i (Nat.lt_of_lt_of_le hi n1.le)
        have := n1.sub i hi
        omega
    · rw [if_neg z]; trivial
end
end Vi
namespace Vi
open PySem PySem.Spec L2 Mi
def Res (S : Sto) (r : D) (x : R V) : Prop := ∃ v S' Fd, x = .ok v S' ∧ S <+: S' ∧ Rp true S' v r Fd ∧ (∀ i, 0 < Fd i → S.length ≤ i) ∧ ∀ i, Fd i ≤ 1
def JO (o : List V → Sto → R V) (p : List D → Option D) : Prop := ∀ S vs ds G, RpL false S vs ds G → ∀ r, p ds = some r → Res S r (o vs S)
section
variable {S S' S1 : Sto} {F Z F1 Z1 T U G Fd : Ft} {v : V} {d : D} {vs : List V} {ds : List D} {w : Bool} {σ : St} {e : Env}
theorem Rp.relax (r : Rp w S v d F) : Rp false S v d F := by
  cases w with
  | true => exact r.weak
  | false => exact r
theorem RpL.relax (r : RpL w S vs ds F) : RpL false S vs ds F := by
  cases w with
  | true => exact r.weak
  | false => exact r
theorem AvR.rpl {F' : Ft} {avs : List (D × Og)} (h : AvR S F Z S' F' T vs avs U) : ∃ G, RpL false S' vs (avs.map (·.1)) G := by
  induction h with
  | nil z => exact ⟨fun _ => 0, .nil fun _ => rfl⟩
  | @cons U U2 Fd v d o vs ds r t _ hu ih =>
    obtain ⟨G, g⟩ := ih
    exact ⟨fun i => Fd i + G i, .cons r.relax g fun _ => rfl⟩
theorem nx_pre (I : EI S σ e F Z) (p : S <+: S') : Nx S F Z S' F Z := ⟨p.length_le, .pre p, I.nd, fun _ _ => Nat.le_refl _, fun _ _ h => h, I.dj⟩
theorem Res.val {r : D} (h : Rp true S v r fun _ => 0) : Res S r (.ok v S) := ⟨v, S, _, rfl, List.prefix_refl _, h, fun i k => absurd k (by simp), fun i => by simp⟩
theorem Res.int {i : Int} : Res S (.int i) (.ok (.int i) S)   := Res.val (.int fun _ => rfl)
theorem Res.bl {i : Bool} : Res S (.bl i) (.ok (.bl i) S)   := Res.val (.bl fun _ => rfl)
theorem Res.str {i : Str} : Res S (.str i) (.ok (.str i) S)   := Res.val (.str fun _ => rfl)
theorem Res.non : Res S .non (.ok .non S)   := Res.val (.non fun _ => rfl)
theorem zero_of_imm (r : RpL w S vs ds G) (h : ds.all imm = true) : RpL true S vs ds fun _ => 0 := by
  rw [← immL_all] at h
  exact (r.immW h).congr fun i => (r.imm0 h i).symm
theorem zero_imm (r : Rp w S v d G) (h : imm d = true) : Rp true S v d fun _ => 0 := (r.immW h).congr fun i => (r.imm0 h i).symm
def one (k : Nat) : Ft := fun j => 0 + if j = k then 1 else 0
theorem one_pos {k i : Nat} (h : 0 < one k i) : i = k := by
  unfold one at h
  by_cases z : i = k
  · exact z
  · rw [if_neg z] at h; omega
theorem one_le (k : Nat) : ∀ i, one k i ≤ 1 := fun i => by
  unfold one
  by_cases z : i = k
  · rw [if_pos z]; omega
  · rw [if_neg z]; omega
theorem Res.lst (r : RpL w S vs ds G) (h : ds.all imm = true) : Res S (.lst ds) (.ok (.ref S.length) (S ++ [.lst vs])) := by
  refine ⟨_, _, one S.length, rfl, pre_add _ _, .lst (.inl (by rw [get_new0]; rfl)) ((zero_of_imm r h).mono (.pre (pre_add _ _))) fun _ => rfl, fun i k => Nat.le_of_eq (one_pos k).symm, one_le _⟩
theorem Res.tup (r : RpL w S vs ds G) (h : ds.all imm = true) : Res S (.tup ds) (.ok (.ref S.length) (S ++ [.tup vs])) :=
  ⟨_, _, fun _ => 0, rfl, pre_add _ _, .tup (by rw [get_new0]; rfl) ((zero_of_imm r h).mono (.pre (pre_add _ _))), fun i k => absurd k (by simp), fun i => by simp⟩
theorem Res.dk {kvs : List (Key × V)} {kds : List (Key × D)} (hk : kvs.map (·.1) = kds.map (·.1)) (r : RpL w S (kvs.map (·.2)) (kds.map (·.2)) G) (h : (kds.map (·.2)).all imm = true) : Res S (.dk kds) (.ok (.ref S.length) (S ++ [.dK kvs])) := by
  refine ⟨_, _, one S.length, rfl, pre_add _ _, .dk (.inl (by rw [get_new0]; rfl)) hk ((zero_of_imm r h).mono (.pre (pre_add _ _))) fun _ => rfl, fun i k => Nat.le_of_eq (one_pos k).symm, one_le _⟩
def pCall (p : List D → Option D) (a : PA) : PE := fun e => (a e).bind fun ds q e' => match p (ds.map (·.1)) with
  | some r => .ok (r, .fr) q e'
  | none => .bad
theorem je_call {o : List V → Sto → R V} {p : List D → Option D} {m : MA} {a : PA} (h : JO o p) (ha : JA m a) : JE (mCall o m) (pCall p a) := by
  intro S σ e F Z I
  refine Po.bind (ha S σ e F Z I) fun ds q e' vs S1 F1 Z1 hx n I1 ⟨T, av, t1, t2, t3⟩ k => ?_
  obtain ⟨G, g⟩ := av.rpl
  cases hp : p (ds.map (·.1)) with
  | none => trivial
  | some r =>
    obtain ⟨v, S', Fd, hr, hpre, rp, hf, h1⟩ := h S1 vs _ G g r hp
    have n' := nx_pre I1 hpre
    refine ⟨v, S', F1, Z1, hr, n.trans n', I1.r.mono (.pre hpre), ⟨Fd, rp, fun i => ?_, fun i hi => ?_, fun i hi => ?_⟩, fun hq => (k hq).trans ⟨rfl, hpre, fun _ => rfl, fun _ => rfl⟩⟩
    · by_cases z : 0 < Fd i
      · have := hf i z
        have : F1 i = 0 := Nat.eq_zero_of_not_pos fun y => by
          obtain ⟨o, e, _⟩ := I1.r.domF i y
          have := (List.getElem?_eq_some_iff.mp e).1
          omega
        have := h1 i
        omega
      · have := I1.nd i
        omega
    · have : Fd i = 0 := Nat.eq_zero_of_not_pos fun y => by have := hf i y; have := n.le; omega
      have := n.sub i hi
      omega
    · exact Nat.eq_zero_of_not_pos fun y => by
        have := hf i y
        obtain ⟨o, e, _⟩ := I1.r.domZ i hi
        have := (List.getElem?_eq_some_iff.mp e).1
        omega
end
def o1 (o : V → Sto → R V) : List V → Sto → R V := fun xs S => match xs with
  | [x] => o x S
  | _ => .bad
def o2 (o : V → V → Sto → R V) : List V → Sto → R V := fun xs S => match xs with
  | [x, y] => o x y S
  | _ => .bad
def p1 (p : D → Option D) : List D → Option D := fun xs => match xs with
  | [x] => p x
  | _ => none
def p2 (p : D → D → Option D) : List D → Option D := fun xs => match xs with
  | [x, y] => p x y
  | _ => none
def pOf (q : Bool) (e : Env) : Option D → X (D × Og)
  | some r => .ok (r, .fr) q e
  | none => .bad
@[simp] theorem pOf_some (q : Bool) (e : Env) (r : D) : pOf q e (some r) = .ok (r, .fr) q e := rfl
@[simp] theorem pOf_none (q : Bool) (e : Env) : pOf q e none = .bad := rfl
def pUn (p : D → Option D) (a : PE) : PE := fun e => (a e).bind fun x q e1 => pOf q e1 (p x.1)
def pBin (p : D → D → Option D) (a b : PE) : PE := fun e => (a e).bind fun x q e1 => (b e1).bind fun y q' e2 => if (x.2.st || q') = true then pOf (q && q') e2 (p x.1 y.1) else .bad
theorem pOf_eq (q : Bool) (e : Env) (x : Option D) : (match x with
  | some r => X.ok (r, Og.fr) q e
  | none => .bad) = pOf q e x := by cases x <;> rfl
theorem mUn_args (o : V → Sto → R V) (a : ME) : mCall (o1 o) (mCons a mNil) = fun σ S => (a σ S).bind o := by
  funext σ S
  rw [mCall_ap, mCons_ap]
  cases a σ S <;> rfl
theorem mBin_args (o : V → V → Sto → R V) (a b : ME) : mCall (o2 o) (mCons a (mCons b mNil)) = mBin o a b := by
  funext σ S
  rw [mCall_ap, mCons_ap, mBin_ap]
  cases a σ S with
  | ok x S1 =>
    simp only [bind_ok, mCons_ap]
    cases b σ S1 <;> rfl
  | _ => rfl
theorem pUn_args (p : D → Option D) (a : PE) : pCall (p1 p) (pCons a pNil) = pUn p a := by
  funext e
  unfold pCall pCons pNil pUn
  cases a e with
  | ok x q e1 =>
    simp only [xbind_ok, Bool.or_true, if_true, Bool.and_true]
    exact pOf_eq _ _ _
  | _ => rfl
theorem pBin_args (p : D → D → Option D) (a b : PE) : pCall (p2 p) (pCons a (pCons b pNil)) = pBin p a b := by
  funext e
  unfold pCall pCons pNil pBin
  cases a e with
  | ok x q e1 =>
    simp only [xbind_ok]
    cases b e1 with
    | ok y q' e2 =>
      simp only [xbind_ok, Bool.or_true, if_true, Bool.and_true]
      by_cases z : (x.2.st || q') = true
      · rw [if_pos z, if_pos z]
        exact pOf_eq _ _ _
      · rw [if_neg z, if_neg z]
        rfl
    | _ => rfl
  | _ => rfl
section
variable {ma mb mc : ME} {pa pb pc : PE}
theorem je_un {o : V → Sto → R V} {p : D → Option D} (h : JO (o1 o) (p1 p)) (ha : JE ma pa) : JE (fun σ S => (ma σ S).bind o) (pUn p pa) := by
  rw [← mUn_args, ← pUn_args]
  exact je_call h (ja_cons ha ja_nil)
theorem je_bin {o : V → V → Sto → R V} {p : D → D → Option D} (h : JO (o2 o) (p2 p)) (ha : JE ma pa) (hb : JE mb pb) : JE (mBin o ma mb) (pBin p pa pb) := by
  rw [← mBin_args, ← pBin_args]
  exact je_call h (ja_cons ha (ja_cons hb ja_nil))
theorem jo1 {o : V → Sto → R V} {p : D → Option D} (h : ∀ S x d F r, Rp false S x d F → p d = some r → Res S r (o x S)) : JO (o1 o) (p1 p) := by
  intro S vs ds G g r hp
  cases g with
  | nil _ => cases hp
  | cons a b _ =>
    cases b with
    | nil _ => exact h S _ _ _ r a hp
    | cons _ _ _ => cases hp
theorem jo2 {o : V → V → Sto → R V} {p : D → D → Option D} (h : ∀ S x y d e F G r, Rp false S x d F → Rp false S y e G → p d e = some r → Res S r (o x y S)) : JO (o2 o) (p2 p) := by
  intro S vs ds G g r hp
  cases g with
  | nil _ => cases hp
  | cons a b _ =>
    cases b with
    | nil _ => cases hp
    | cons a' b' _ =>
      cases b' with
      | nil _ => exact h S _ _ _ _ _ _ r a a' hp
      | cons _ _ _ => cases hp
end
section
variable {S : Sto} {v : V} {d : D} {F : Ft} {ds : List D} {kds : List (Key × D)} {w : Bool}
theorem Rp.rdL (r : Rp w S v (.lst ds) F) : ∃ i vs G, v = .ref i ∧ Mi.rdL S (.ref i) = some vs ∧ RpL w S vs ds G ∧ (∀ j, G j ≤ F j) ∧ Mi.rdT S (.ref i) = none ∧ Mi.rdK S (.ref i) = none := by
  cases r with
  | lst e r z => rcases e with e | e <;> exact ⟨_, _, _, rfl, by first | simp only [Mi.rdL, e] | simp only [Mi.rdL, e.2], r, fun j => by have := z j; omega, by first | simp only [Mi.rdT, e] | simp only [Mi.rdT, e.2], by first | simp only [Mi.rdK, e] | simp only [Mi.rdK, e.2]⟩
theorem Rp.rdT (r : Rp w S v (.tup ds) F) : ∃ i vs, v = .ref i ∧ Mi.rdT S (.ref i) = some vs ∧ RpL w S vs ds F ∧ Mi.rdL S (.ref i) = none ∧ Mi.rdK S (.ref i) = none ∧ S[i]? = some (.tup vs) := by
  cases r with
  | tup e r => exact ⟨_, _, rfl, by simp only [Mi.rdT, e], r, by simp only [Mi.rdL, e], by simp only [Mi.rdK, e], e⟩
theorem Rp.rdK (r : Rp w S v (.dk kds) F) : ∃ i kvs G, v = .ref i ∧ Mi.rdK S (.ref i) = some kvs ∧ kvs.map (·.1) = kds.map (·.1) ∧ RpL w S (kvs.map (·.2)) (kds.map (·.2)) G ∧ (∀ j, G j ≤ F j) ∧ Mi.rdL S (.ref i) = none ∧ Mi.rdT S (.ref i) = none := by
  cases r with
  | dk e k r z => rcases e with e | e <;> exact ⟨_, _, _, rfl, by first | simp only [Mi.rdK, e] | simp only [Mi.rdK, e.2], k, r, fun j => by have := z j; omega, by first | simp only [Mi.rdL, e] | simp only [Mi.rdL, e.2], by first | simp only [Mi.rdT, e] | simp only [Mi.rdT, e.2]⟩
/-- a value without parts -/
def scal : D → Option V
  | .non => some .non
  | .bl b => some (.bl b)
  | .int i => some (.int i)
  | .str x => some (.str x)
  | _ => none
@[simp] theorem scal_non : scal .non = some .non := rfl
@[simp] theorem scal_bl (b : Bool) : scal (.bl b) = some (.bl b) := rfl
@[simp] theorem scal_int (b : Int) : scal (.int b) = some (.int b) := rfl
@[simp] theorem scal_str (b : Str) : scal (.str b) = some (.str b) := rfl
@[simp] theorem scal_tup (b : List D) : scal (.tup b) = none := rfl
@[simp] theorem scal_lst (b : List D) : scal (.lst b) = none := rfl
theorem Rp.scal {u : V} (r : Rp w S v d F) (h : Vi.scal d = some u) : v = u ∧ flatV u = true := by
  cases r <;> first | (cases h; exact ⟨rfl, rfl⟩) | cases h
theorem RpL.scal : ∀ {vs : List V} {ds : List D} {F : Ft} {us : List V}, RpL w S vs ds F → allSome (ds.map Vi.scal) = some us → vs = us ∧ us.all flatV = true
  | _, _, _, _, .nil _, h => by cases h; exact ⟨rfl, rfl⟩
  | _, _, _, us, .cons (d := d) (ds := ds) a b _, h => by
    rw [List.map_cons] at h
    cases e1 : Vi.scal d with
    | none => rw [e1] at h; cases h
    | some u =>
      rw [e1] at h
      cases e2 : allSome (ds.map Vi.scal) with
      | none => rw [allSome, e2] at h; cases h
      | some l =>
        rw [allSome, e2] at h
        cases h
        obtain ⟨h1, h2⟩ := a.scal e1
        obtain ⟨h3, h4⟩ := b.scal e2
        subst h1; subst h3
        exact ⟨rfl, by rw [List.all_cons, h2, h4]; rfl⟩
theorem Rp.inv_int {i : Int} (r : Rp w S v (.int i) F) : v = .int i := by cases r; rfl
theorem Rp.inv_bl {i : Bool} (r : Rp w S v (.bl i) F) : v = .bl i := by cases r; rfl
theorem Rp.inv_str {i : Str} (r : Rp w S v (.str i) F) : v = .str i := by cases r; rfl
theorem Rp.inv_non (r : Rp w S v .non F) : v = .non := by cases r; rfl
end
def dAdd : D → D → Option D
  | .int i, .int j => some (.int (i + j))
  | .str i, .str j => if i.length + j.length ≤ sizeLine then some (.str (i ++ j)) else none
  | .lst xs, .lst ys => if xs.length + ys.length ≤ sizeLine ∧ (xs ++ ys).all imm = true then some (.lst (xs ++ ys)) else none
  | .tup xs, .tup ys => if xs.length ≠ 0 ∧ ys.length ≠ 0 ∧ xs.length + ys.length ≤ sizeLine ∧ (xs ++ ys).all imm = true then some (.tup (xs ++ ys)) else none
  | _, _ => none
def dSub : D → D → Option D
  | .int i, .int j => some (.int (i - j))
  | _, _ => none
def dIAdd : D → D → Option D
  | .int i, .int j => some (.int (i + j))
  | _, _ => none
def dMul : D → D → Option D
  | .int i, .int j => if IntMulOk i j then some (.int (i * j)) else none
  | _, _ => none
def dDiv : D → D → Option D
  | .int i, .int j => if DivOk j then some (.int (i / j)) else none
  | _, _ => none
def dMod : D → D → Option D
  | .int i, .int j => if 0 < j then some (.int (i % j)) else none
  | _, _ => none
def dPow : D → D → Option D
  | .int i, .int j => if 0 ≤ j ∧ j ≤ 1000000 ∧ i.natAbs < 2 ^ 64 then some (.int (i ^ j.toNat)) else none
  | _, _ => none
def dNeg : D → Option D
  | .int i => some (.int (-i))
  | _ => none
def dCmp (p : Int → Int → Bool) : D → D → Option D
  | .int i, .int j => some (.bl (p i j))
  | _, _ => none
abbrev dLt := dCmp fun i j => decide (i < j)
abbrev dLe := dCmp fun i j => decide (i ≤ j)
abbrev dGt := dCmp fun i j => decide (j < i)
def isN : D → Option Bool
  | .hole => none
  | .non => some true
  | _ => some false
def dIs : D → D → Option D
  | x, .non => (isN x).map .bl
  | _, _ => none
def dIsN : D → D → Option D
  | x, .non => (isN x).map fun b => .bl (!b)
  | _, _ => none
theorem RpL.app {S : Sto} {w : Bool} : ∀ {vs vs' : List V} {ds ds' : List D} {F G : Ft}, RpL w S vs ds F → RpL w S vs' ds' G → RpL w S (vs ++ vs') (ds ++ ds') fun i => F i + G i
  | _, _, _, _, _, _, .nil z, b => b.congr fun i => by rw [z i]; omega
  | _, _, _, _, _, _, .cons a r z, b => .cons a (r.app b) fun i => by rw [z i]; omega
theorem jo_add : JO (o2 oAdd) (p2 dAdd) := jo2 fun S x y d e F G r a b h => by
  unfold dAdd at h
  split at h
  · cases h; rw [a.inv_int, b.inv_int]; exact .int
  · split at h
    · rename_i z
      cases h
      rw [a.inv_str, b.inv_str]
      show Res S _ (if _ then _ else _)
      rw [if_pos z]
      exact .str
    · cases h
  · split at h
    · rename_i z
      cases h
      obtain ⟨i, vs, G1, rfl, h1, r1, _⟩ := a.rdL
      obtain ⟨j, us, G2, rfl, h2, r2, _⟩ := b.rdL
      rw [oAdd_lst S h1 h2 (by rw [r1.len, r2.len]; exact z.1)]
      exact .lst (r1.app r2) z.2
    · cases h
  · split at h
    · rename_i z
      cases h
      obtain ⟨i, vs, rfl, h1, r1, h3, _⟩ := a.rdT
      obtain ⟨j, us, rfl, h2, r2, h4, _⟩ := b.rdT
      have e : oAdd (.ref i) (.ref j) S = .ok (.ref S.length) (S ++ [.tup (vs ++ us)]) := by
        unfold oAdd
        simp only [h3, h1, h2]
        exact if_pos ⟨fun q => z.1 (by rw [← r1.len, q]; rfl), fun q => z.2.1 (by rw [← r2.len, q]; rfl), by rw [r1.len, r2.len]; exact z.2.2.1⟩
      rw [e]
      exact .tup (r1.app r2) z.2.2.2
    · cases h
  · cases h
theorem jo_mul : JO (o2 oMul) (p2 dMul) := jo2 fun S x y d e F G r a b h => by
  unfold dMul at h
  split at h
  · split at h
    · rename_i z
      cases h; rw [a.inv_int, b.inv_int]; rw [oMul_int _ _ _ z]; exact .int
    · cases h
  · cases h
theorem jo_div : JO (o2 oDiv) (p2 dDiv) := jo2 fun S x y d e F G r a b h => by
  unfold dDiv at h
  split at h
  · split at h
    · rename_i z
      cases h; rw [a.inv_int, b.inv_int]; rw [oDiv_int _ _ _ z]; exact .int
    · cases h
  · cases h
theorem jo_mod : JO (o2 oMod) (p2 dMod) := jo2 fun S x y d e F G r a b h => by
  unfold dMod at h
  split at h
  · split at h
    · rename_i z
      cases h; rw [a.inv_int, b.inv_int]; rw [oMod_int _ _ _ z]; exact .int
    · cases h
  · cases h
theorem jo_pow : JO (o2 oPow) (p2 dPow) := jo2 fun S x y d e F G r a b h => by
  unfold dPow at h
  split at h
  · split at h
    · rename_i z
      cases h; rw [a.inv_int, b.inv_int]; rw [oPow_int _ _ _ z]; exact .int
    · cases h
  · cases h
theorem jo_neg : JO (o1 oNeg) (p1 dNeg) := jo1 fun S x d F r a h => by
  unfold dNeg at h
  split at h
  · cases h; rw [a.inv_int]; exact .int
  · cases h
theorem jo_cmp (p : Int → Int → Bool) : JO (o2 (oCmp p)) (p2 (dCmp p)) := jo2 fun S x y d e F G r a b h => by
  unfold dCmp at h
  split at h
  · cases h; rw [a.inv_int, b.inv_int]; exact .bl
  · cases h
theorem Rp.isN {S : Sto} {x : V} {d : D} {F : Ft} {b w : Bool} (r : Rp w S x d F) (h : Vi.isN d = some b)   : Mi.isNon x = b := by
  cases r <;> cases h <;> rfl
theorem jo_is : JO (o2 oIs) (p2 dIs) := jo2 fun S x y d e F G r a b h => by
  unfold dIs at h
  split at h
  · cases q : isN d with
    | none => rw [q] at h; cases h
    | some z => rw [q] at h; cases h; rw [b.inv_non, oIs_non, a.isN q]; exact .bl
  · cases h
theorem jo_isN : JO (o2 oIsN) (p2 dIsN) := jo2 fun S x y d e F G r a b h => by
  unfold dIsN at h
  split at h
  · cases q : isN d with
    | none => rw [q] at h; cases h
    | some z => rw [q] at h; cases h; rw [b.inv_non, oIsN_non, a.isN q]; exact .bl
  · cases h
def rdP : Nat → D → Option PyData
  | 0, _ => none
  | n + 1, d => match d with
    | .non => some .none
    | .bl b => some (.bool b)
    | .int i => some (.int i)
    | .str x => some (.str x)
    | .lst xs => (allSome (xs.map (rdP n))).map .list
    | .tup xs => (allSome (xs.map (rdP n))).map .tuple
    | _ => none
section
variable {S : Sto} {w : Bool}
theorem RpL.rdP {f : D → Option PyData} {g : V → Option PyData} (k : ∀ v d F p, Rp w S v d F → f d = some p → g v = some p) : ∀ {vs : List V} {ds : List D} {F : Ft} {ps : List PyData}, RpL w S vs ds F → allSome (ds.map f) = some ps → allSome (vs.map g) = some ps
  | _, _, _, _, .nil _, h => h
  | _, _, _, ps, .cons (d := d) (ds := ds) a b _, h => by
    rw [List.map_cons] at h ⊢
    cases e1 : f d with
    | none => rw [e1] at h; cases h
    | some u =>
      rw [e1] at h
      rw [k _ _ _ _ a e1]
      cases e2 : allSome (ds.map f) with
      | none => rw [allSome, e2] at h; cases h
      | some l =>
        rw [allSome, e2] at h
        rw [allSome, RpL.rdP k b e2]
        exact h
theorem rdP_of : ∀ (n : Nat) (v : V) (d : D) (F : Ft) (p : PyData), Rp w S v d F → rdP n d = some p → rdD S n v = some p
  | 0, _, _, _, _, _, h => by cases h
  | n + 1, v, d, F, p, r, h => by
    have hl : ∀ {xs : List D} {vs : List V} {G : Ft} {f : List PyData → PyData}, RpL w S vs xs G → (allSome (xs.map (rdP n))).map f = some p → (allSome (vs.map (rdD S n))).map f = some p := by
      intro xs vs G f q k
      cases e2 : allSome (xs.map (rdP n)) with
      | none => rw [e2] at k; cases k
      | some l => rw [e2] at k; rw [RpL.rdP (fun v d F p => rdP_of n v d F p) q e2]; exact k
    cases r with
    | non _ => exact h
    | bl _ => exact h
    | int _ => exact h
    | str _ => exact h
    | hole _ => cases h
    | exc _ _ => cases h
    | dk _ _ _ _ => cases h
    | ins _ _ _ => cases h
    | tup e q => rw [rdD_tup e]; exact hl q h
    | lst e q z =>
      rcases e with e | e
      · rw [rdD_lst e]; exact hl q h
      · rw [rdD_lck e.2]; exact hl q h
end
def dEqD (neg : Bool) : D → D → Option D := fun x y => match rdP eqDepth x, rdP eqDepth y with
  | some d, some e => if SeqAt.shaped d = true ∧ SeqAt.shaped e = true then some (.bl (neg != PyData.eqv d e)) else none
  | _, _ => none
abbrev dEq := dEqD false
abbrev dNe := dEqD true
theorem jo_eqD (neg : Bool) : JO (o2 (oEqD neg)) (p2 (dEqD neg)) := jo2 fun S x y d e F G r a b h => by
  unfold dEqD at h
  split at h
  · rename_i d' e' h1 h2
    split at h
    · rename_i z
      cases h
      rw [oEqD_of S (rdP_of _ _ _ _ _ a h1) (rdP_of _ _ _ _ _ b h2) z.1 z.2]
      exact .bl
    · cases h
  · cases h
section
variable {ma mb mc : ME} {pa pb pc : PE} {mt mu : MT} {pt pu : PT}
def pAndV (a b : PE) : PE := fun e => (a e).bind fun x q e1 => match x.1 with
  | .bl true => (b e1).qq q
  | .bl false => .ok (.bl false, .fr) q e1
  | _ => .bad
def pOrV (a b : PE) : PE := fun e => (a e).bind fun x q e1 => match x.1 with
  | .bl true => .ok (.bl true, .fr) q e1
  | .bl false => (b e1).qq q
  | _ => .bad
theorem Po.done {S S1 : Sto} {σ : St} {e e1 : Env} {F Z F1 Z1 : Ft} {v : V} {d : D} {q : Bool} (n : Nx S F Z S1 F1 Z1) (I1 : EI S1 σ e1 F1 Z1) (k : q = true → Qt S e F Z S1 e1 F1 Z1) (h : Rp true S1 v d fun _ => 0) : Po RlE S σ e F Z (.ok v S1) (.ok (d, .fr) q e1) :=
  ⟨v, S1, F1, Z1, rfl, n, I1.r, ⟨_, h, tg_zero (fun _ => rfl) I1.nd n.sub⟩, k⟩
theorem je_and (ha : JE ma pa) (hb : JE mb pb) : JE (mAndV ma mb) (pAndV pa pb) := by
  intro S σ e F Z I
  refine Po.bind (ha S σ e F Z I) fun ⟨d, o⟩ q e' v S1 F1 Z1 hx n I1 ⟨Fd, r, t⟩ k => ?_
  cases d with
  | bl z =>
    rw [r.inv_bl]
    cases z with
    | true => exact (hb S1 σ e' F1 Z1 I1).after trs_e n k
    | false => exact Po.done n I1 k (.bl fun _ => rfl)
  | _ => trivial
def dNot : D → Option D
  | .bl b => some (.bl (!b))
  | _ => none
def pB (a : PE) : PT := fun e => (a e).bind fun x q e1 => match x.1 with
  | .bl b => .ok b q e1
  | _ => .bad
def pNot (a : PT) : PT := fun e => (a e).bind fun x q e1 => .ok (!x) q e1
def pAnd (a b : PT) : PT := fun e => (a e).bind fun x q e1 => if x = true then (b e1).qq q else .ok false q e1
def pOr (a b : PT) : PT := fun e => (a e).bind fun x q e1 => if x = true then .ok true q e1 else (b e1).qq q
def pIf (c : PT) (a b : PE) : PE := fun e => (c e).bind fun x q e1 => if x = true then (a e1).qq q else (b e1).qq q
theorem jt_b (ha : JE ma pa) : JT (mB ma) (pB pa) := by
  intro S σ e F Z I
  refine Po.bind (ha S σ e F Z I) fun ⟨d, o⟩ q e' v S1 F1 Z1 hx n I1 ⟨Fd, r, t⟩ k => ?_
  cases d with
  | bl z => rw [r.inv_bl]; exact ⟨_, S1, F1, Z1, rfl, n, I1.r, rfl, k⟩
  | _ => trivial
theorem jt_not (ha : JT mt pt) : JT (mNot mt) (pNot pt) := by
  intro S σ e F Z I
  refine Po.bind (ha S σ e F Z I) fun b q e' v S1 F1 Z1 hx n I1 hb k => ?_
  cases hb
  exact ⟨_, S1, F1, Z1, rfl, n, I1.r, rfl, k⟩
theorem jt_and (ha : JT mt pt) (hb : JT mu pu) : JT (mAnd mt mu) (pAnd pt pu) := by
  intro S σ e F Z I
  refine Po.bind (ha S σ e F Z I) fun b q e' v S1 F1 Z1 hx n I1 hv k => ?_
  cases hv
  by_cases z : b = true
  · rw [if_pos z, if_pos z]; exact (hb S1 σ e' F1 Z1 I1).after trs_b n k
  · rw [if_neg z, if_neg z]; exact ⟨_, S1, F1, Z1, rfl, n, I1.r, rfl, k⟩
theorem jt_or (ha : JT mt pt) (hb : JT mu pu) : JT (mOr mt mu) (pOr pt pu) := by
  intro S σ e F Z I
  refine Po.bind (ha S σ e F Z I) fun b q e' v S1 F1 Z1 hx n I1 hv k => ?_
  cases hv
  by_cases z : b = true
  · rw [if_pos z, if_pos z]; exact ⟨_, S1, F1, Z1, rfl, n, I1.r, rfl, k⟩
  · rw [if_neg z, if_neg z]; exact (hb S1 σ e' F1 Z1 I1).after trs_b n k
end
end Vi
namespace Vi
open PySem PySem.Spec L2 Mi
/-- a part of the first value: its parts are among the first's -/
def JS1 (o : List V → Sto → R V) (p : List D → Option D) : Prop := ∀ S v vs d ds Fd G, Rp false S v d Fd → RpL false S vs ds G → ∀ r, p (d :: ds) = some r → ∃ u Fr, o (v :: vs) S = .ok u S ∧ Rp false S u r Fr ∧ ∀ i, 0 < Fr i → 0 < Fd i
def selT (r : D) : List (D × Og) → Og
  | (_, .zn) :: _ => tagI r .zn
  | _ => tagI r .an
def pSel (p : List D → Option D) (a : PA) : PE := fun e => (a e).bind fun ds q e' => match p (ds.map (·.1)) with
  | some r => .ok (r, selT r ds) q e'
  | none => .bad
theorem je_sel {o : List V → Sto → R V} {p : List D → Option D} {m : MA} {a : PA} (h : JS1 o p) (hn : p [] = none) (ha : JA m a) : JE (mCall o m) (pSel p a) := by
  intro S σ e F Z I
  refine Po.bind (ha S σ e F Z I) fun ds q e' vs S1 F1 Z1 hx n I1 ⟨T, av, t1, t2, t3⟩ k => ?_
  cases av with
  | nil _ => simp only [List.map_nil, hn]; trivial
  | @cons U U2 Fd v d o' vs ds r t av hu =>
    obtain ⟨G, g⟩ := av.rpl
    cases hp : p (((d, o') :: ds).map (·.1)) with
    | none => trivial
    | some x =>
      obtain ⟨u, Fr, hr, rp, hs⟩ := h S1 v vs d _ Fd G r.relax g x hp
      refine ⟨u, S1, F1, Z1, hr, n, I1.r, ⟨Fr, ?_, ?_⟩, k⟩
      · show Rp (selT x ((d, o') :: ds)).own S1 u x Fr
        cases o' <;> exact rp_tagI rp rfl
      · show Tg (selT x ((d, o') :: ds)) S F Z F1 Z1 Fr
        cases o' with
        | zn => exact tg_tagI rp (fun i z => ⟨(t i (hs i z)).1, (t i (hs i z)).2.2⟩) I1.nd n.sub
        | fr => exact tg_tagI rp (fun i z hi => by have h1 := t i; have h2 := t2 i hi; have h3 := hs i z; omega) I1.nd n.sub
        | an => exact tg_tagI rp (fun i z hi => t i (hs i z) hi) I1.nd n.sub
def pSel2 (p : D → D → Option D) (a b : PE) : PE := fun e => (a e).bind fun x q e1 => (b e1).bind fun y q' e2 => if (x.2.st || q') = true then (match p x.1 y.1 with
  | some r => .ok (r, selT r [x]) (q && q') e2
  | none => .bad) else .bad
def pSel1 (p : D → Option D) (a : PE) : PE := fun e => (a e).bind fun x q e1 => match p x.1 with
  | some r => .ok (r, selT r [x]) q e1
  | none => .bad
theorem selT_one (r : D) (x y : D × Og) : selT r [x, y] = selT r [x] := by
  obtain ⟨a, b⟩ := x
  cases b <;> rfl
theorem pSel2_args (p : D → D → Option D) (a b : PE) : pSel (p2 p) (pCons a (pCons b pNil)) = pSel2 p a b := by
  funext e
  unfold pSel pCons pNil pSel2
  cases a e with
  | ok x q e1 =>
    simp only [xbind_ok]
    cases b e1 with
    | ok y q' e2 =>
      simp only [xbind_ok, Bool.or_true, if_true, Bool.and_true]
      by_cases z : (x.2.st || q') = true
      · rw [if_pos z, if_pos z]
        simp only [xbind_ok, List.map_cons, List.map_nil, p2, selT_one]
      · rw [if_neg z, if_neg z]
        rfl
    | _ => rfl
  | _ => rfl
section
variable {ma mb mc : ME} {pa pb pc : PE}
theorem je_sel2 {o : V → V → Sto → R V} {p : D → D → Option D} (h : ∀ S v d Fd u e G r, Rp false S v d Fd → Rp false S u e G → p d e = some r → ∃ x Fr, o v u S = .ok x S ∧ Rp false S x r Fr ∧ ∀ i, 0 < Fr i → 0 < Fd i) (ha : JE ma pa) (hb : JE mb pb) : JE (mBin o ma mb) (pSel2 p pa pb) := by
  rw [← mBin_args, ← pSel2_args]
  refine je_sel (fun S v vs d ds Fd G a g r hp => ?_) rfl (ja_cons ha (ja_cons hb ja_nil))
  cases g with
  | nil _ => cases hp
  | cons b g' _ =>
    cases g' with
    | nil _ => exact h S v d Fd _ _ _ r a b hp
    | cons _ _ _ => cases hp
end
theorem RpL.get {S : Sto} {w : Bool} : ∀ {vs : List V} {ds : List D} {F : Ft} {j : Nat} {d : D}, RpL w S vs ds F → ds[j]? = some d → ∃ v G, vs[j]? = some v ∧ Rp w S v d G ∧ ∀ i, G i ≤ F i
  | _, _, _, _, _, .nil _, h => by simp at h
  | _, _, _, 0, _, .cons a _ z, h => by simp at h; subst h; exact ⟨_, _, rfl, a, fun i => by rw [z]; omega⟩
  | _, _, _, j + 1, _, .cons _ b z, h => by
    obtain ⟨v, G, h1, h2, h3⟩ := b.get (by simpa using h)
    exact ⟨v, G, by simpa using h1, h2, fun i => by rw [z]; have := h3 i; omega⟩
theorem RpO.get {S : Sto} {w : Bool} : ∀ {vs : List (Option V)} {ds : List D} {F : Ft} {j : Nat} {d : D}, RpO w S vs ds F → ds[j]? = some d → (∀ h : d = .hole, False) → ∃ v G, vs[j]? = some (some v) ∧ Rp w S v d G ∧ ∀ i, G i ≤ F i
  | _, _, _, _, _, .nil _, h, _ => by simp at h
  | _, _, _, 0, _, .cons a _ z, h, _ => by simp at h; subst h; exact ⟨_, _, rfl, a, fun i => by rw [z]; omega⟩
  | _, _, _, 0, _, .hole _, h, k => by simp at h; subst h; exact (k rfl).elim
  | _, _, _, j + 1, _, .cons _ b z, h, k => by
    obtain ⟨v, G, h1, h2, h3⟩ := b.get (by simpa using h) k
    exact ⟨v, G, by simpa using h1, h2, fun i => by rw [z]; have := h3 i; omega⟩
  | _, _, _, j + 1, _, .hole b, h, k => by
    obtain ⟨v, G, h1, h2, h3⟩ := b.get (by simpa using h) k
    exact ⟨v, G, by simpa using h1, h2, h3⟩
def dIx : D → D → Option D
  | .str z, .int i => if z.length ≤ sizeLine then (atI z.cps.toList i).map fun c => .str ⟨#[c]⟩ else none
  | .lst xs, .int i => (ixN xs.length i).bind fun j => xs[j]?
  | .tup xs, .int i => (ixN xs.length i).bind fun j => xs[j]?
  | _, _ => none
def keyD : D → Option Key
  | .int i => some (.inl i)
  | .str x => some (.inr x)
  | _ => none
def valD (kvs : List (Key × D)) (k : Key) : Option D := (kvs.find? fun kv => decide (kv.1 = k)).map (·.2)
def putD (kvs : List (Key × D)) (k : Key) (v : D) : List (Key × D) := if (kvs.any fun kv => decide (kv.1 = k)) = true then kvs.map (fun kv => if kv.1 = k then (kv.1, v) else kv) else kvs ++ [(k, v)]
def dropD (kvs : List (Key × D)) (k : Key) : List (Key × D) := kvs.filter fun kv => decide (kv.1 ≠ k)
def mergeD (kvs more : List (Key × D)) : List (Key × D) := more.foldl (fun acc kv => putD acc kv.1 kv.2) kvs
def dDGet : D → D → Option D
  | .dk kds, y => (keyD y).bind fun k => valD kds k
  | _, _ => none
section
variable {S : Sto} {w : Bool} {v u : V} {d : D} {F : Ft}
theorem Rp.key {k : Key} (r : Rp w S v d F) (h : keyD d = some k) : keyOf v = some k := by
  cases r <;> first | (cases h; rfl) | cases h
theorem vals_any {k : Key} : ∀ {kvs : List (Key × V)} {kds : List (Key × D)}, kvs.map (·.1) = kds.map (·.1) → (kvs.any fun kv => decide (kv.1 = k)) = (kds.any fun kv => decide (kv.1 = k))
  | [], [], _ => rfl
  | [], _ :: _, h => by cases h
  | _ :: _, [], h => by cases h
  | p :: r, q :: s, h => by
    simp only [List.map_cons, List.cons.injEq] at h
    rw [List.any_cons, List.any_cons, vals_any h.2, h.1]
theorem RpL.val {k : Key} : ∀ {kvs : List (Key × V)} {kds : List (Key × D)} {F : Ft}, kvs.map (·.1) = kds.map (·.1) → RpL w S (kvs.map (·.2)) (kds.map (·.2)) F →
    match valD kds k with
    | some d => ∃ v G, valV kvs k = some v ∧ Rp w S v d G ∧ ∀ i, G i ≤ F i
    | none => valV kvs k = none
  | [], [], _, _, _ => rfl
  | [], _ :: _, _, h, _ => by cases h
  | _ :: _, [], _, h, _ => by cases h
  | p :: r, q :: s, F, h, g => by
    simp only [List.map_cons, List.cons.injEq] at h
    rw [List.map_cons, List.map_cons] at g
    cases g with
    | cons a b z =>
      by_cases e : q.1 = k
      · have e' : p.1 = k := h.1.trans e
        have h1 : valD (q :: s) k = some q.2 := by simp [valD, List.find?_cons, e]
        rw [h1, valV_pos e']
        exact ⟨_, _, rfl, a, fun i => by rw [z]; omega⟩
      · have e' : ¬ p.1 = k := fun x => e (h.1.symm.trans x)
        have h1 : valD (q :: s) k = valD s k := by simp [valD, List.find?_cons, e]
        rw [h1, valV_neg e']
        have := RpL.val (k := k) h.2 b
        cases x : valD s k with
        | none => rw [x] at this; exact this
        | some d => rw [x] at this; obtain ⟨v, G, h1, h2, h3⟩ := this; exact ⟨v, G, h1, h2, fun i => by rw [z]; have := h3 i; omega⟩
end
section
variable {ma mb mc : ME} {pa pb pc : PE}
theorem atI_of {vs : List V} {ds : List D} {S : Sto} {w : Bool} {G : Ft} {i : Int} {r : D} (g : RpL w S vs ds G) (h : ((ixN ds.length i).bind fun j => ds[j]?) = some r) : ∃ u Fr, atI vs i = some u ∧ Rp w S u r Fr ∧ ∀ j, Fr j ≤ G j := by
  unfold atI
  rw [g.len]
  cases e : ixN ds.length i with
  | none => rw [e] at h; cases h
  | some j => rw [e] at h; exact g.get h
theorem je_ix (ha : JE ma pa) (hb : JE mb pb) : JE (mBin oIx ma mb) (pSel2 dIx pa pb) := by
  refine je_sel2 (fun S v d Fd u e G r a b h => ?_) ha hb
  unfold dIx at h
  split at h
  · rename_i z i
    rw [a.inv_str, b.inv_int]
    split at h
    · rename_i hz
      cases q : atI z.cps.toList i with
      | none => rw [q] at h; cases h
      | some c =>
        rw [q] at h
        cases h
        refine ⟨_, fun _ => 0, ?_, .str fun _ => rfl, fun i k => absurd k (by simp)⟩
        unfold oIx
        simp only [hz, if_true, q]
    · cases h
  · rename_i xs i
    obtain ⟨j, vs, G1, rfl, h1, r1, h2, _⟩ := a.rdL
    rw [b.inv_int]
    obtain ⟨x, Fr, hx, rx, hf⟩ := atI_of r1 h
    exact ⟨x, Fr, oIx_lst h1 hx, rx, fun i k => by have := hf i; have := h2 i; omega⟩
  · rename_i xs i
    obtain ⟨j, vs, rfl, h1, r1, h3, _, h4⟩ := a.rdT
    rw [b.inv_int]
    obtain ⟨x, Fr, hx, rx, hf⟩ := atI_of r1 h
    exact ⟨x, Fr, oIx_tup h4 hx, rx, fun i k => by have := hf i; omega⟩
  · cases h
theorem je_dget (ha : JE ma pa) (hb : JE mb pb) : JE (mBin oDGet ma mb) (pSel2 dDGet pa pb) := by
  refine je_sel2 (fun S v d Fd u e G r a b h => ?_) ha hb
  unfold dDGet at h
  split at h
  · rename_i kds
    cases q : keyD e with
    | none => rw [q] at h; cases h
    | some k =>
      rw [q] at h
      have h : valD kds k = some r := h
      obtain ⟨i, kvs, G1, rfl, h1, hk, r1, h2, _⟩ := a.rdK
      have := RpL.val (k := k) hk r1
      rw [h] at this
      obtain ⟨x, Fr, hx, rx, hf⟩ := this
      exact ⟨x, Fr, by simp only [oDGet, h1, b.key q, hx], rx, fun i k => by have := hf i; have := h2 i; omega⟩
  · cases h
/-- x[i] of a list, a tuple, a text, or of a dict -/
def dSub2 : D → D → Option D
  | .dk kds, y => dDGet (.dk kds) y
  | x, y => dIx x y
theorem oIx_dk {S : Sto} {v u : V} {kds : List (Key × D)} {F : Ft} {w : Bool} (r : Rp w S v (.dk kds) F) : oIx v u S = .bad := by
  obtain ⟨i, kvs, G1, rfl, h1, hk, r1, h2, h3, h4⟩ := r.rdK
  cases u <;> simp only [oIx, h3, h4]
theorem je_sub (ha : JE ma pa) (hb : JE mb pb) : JE (mAlt (mBin oIx ma mb) (mBin oDGet ma mb)) (pSel2 dSub2 pa pb) := by
  intro S σ e F Z I
  have k1 := je_ix ha hb S σ e F Z I
  have k2 := je_dget ha hb S σ e F Z I
  have k0 := ja_cons ha (ja_cons hb ja_nil) S σ e F Z I
  unfold pSel2 at k1 k2 ⊢
  unfold mAlt
  unfold pCons pNil at k0
  cases hx : pa e with
  | bad => trivial
  | exc c x e' =>
    rw [hx] at k1
    obtain ⟨S', F', Z', hr, hn, he⟩ := k1
    rw [hr]
    exact ⟨S', F', Z', rfl, hn, he⟩
  | ok x q e1 =>
    rw [hx] at k1 k2 k0
    simp only [xbind_ok] at k1 k2 k0 ⊢
    cases hy : pb e1 with
    | bad => trivial
    | exc c x e' =>
      rw [hy] at k1
      obtain ⟨S', F', Z', hr, hn, he⟩ := k1
      rw [hr]
      exact ⟨S', F', Z', rfl, hn, he⟩
    | ok y q' e2 =>
      rw [hy] at k1 k2 k0
      simp only [xbind_ok, Bool.or_true, if_true, Bool.and_true] at k1 k2 k0 ⊢
      by_cases z : (x.2.st || q') = true
      · simp only [if_pos z] at k1 k2 k0 ⊢
        by_cases hd : ∃ kds, x.1 = .dk kds
        · obtain ⟨kds, hd⟩ := hd
          have e1 : dSub2 x.1 y.1 = dDGet x.1 y.1 := by rw [hd]; rfl
          rw [e1]
          have e2 : mBin oIx ma mb σ S = .bad := by
            obtain ⟨vs, S', F', Z', hr, hn, he, ⟨T, av, _⟩, hq⟩ := k0
            cases av with
            | cons r t av hu =>
              cases av with
              | cons r' t' av' hu' =>
                cases av' with
                | nil _ =>
                  have hd2 := hd
                  dsimp only at hd2
                  rw [hd2] at r
                  have hb : mBin oIx ma mb σ S = mCall (o2 oIx) (mCons ma (mCons mb mNil)) σ S := by rw [mBin_args]
                  rw [hb, mCall_ap, hr, bind_ok]
                  exact oIx_dk r
          rw [e2]
          exact k2
        · have e1 : dSub2 x.1 y.1 = dIx x.1 y.1 := by
            unfold dSub2
            split
            · rename_i h; exact absurd ⟨_, h⟩ hd
            · rfl
          rw [e1]
          cases h : dIx x.1 y.1 with
          | none => trivial
          | some r =>
            rw [h] at k1
            obtain ⟨v, S', F', Z', hr, rest⟩ := k1
            rw [hr]
            exact ⟨v, S', F', Z', rfl, rest⟩
      · rw [if_neg z]; trivial
def dFld (tab : List (Nat × Nat)) : D → Option D
  | .ins c fs => (look tab c).bind fun j => match fs[j]? with
    | some .hole => none
    | r => r
  | _ => none
def tagD : D → Option Tag
  | .non => some .non
  | .bl _ => some .bl
  | .int _ => some .int
  | .str _ => some .str
  | .lst _ => some .lst
  | .tup _ => some .tup
  | .dk _ => some .dct
  | .exc c none => some (.exc c)
  | .ins c _ => some (.ins c)
  | _ => none
theorem Rp.tag {S : Sto} {w : Bool} {v : V} {d : D} {F : Ft} {t : Tag} (r : Rp w S v d F) (h : tagD d = some t) : tagOf S v = some t := by
  cases r with
  | lst e _ _ => cases h; rcases e with e | e <;> first | simp only [tagOf, e] | simp only [tagOf, e.2]
  | dk e _ _ _ => cases h; rcases e with e | e <;> first | simp only [tagOf, e] | simp only [tagOf, e.2]
  | tup e _ => cases h; simp only [tagOf, e]
  | ins e _ _ => cases h; simp only [tagOf, e]
  | exc e _ => rename_i x _; cases x <;> cases h; simp only [tagOf, e]
  | hole _ => cases h
  | _ => cases h; rfl
def dIsi (tab : List (Tag × Bool)) (d : D) : Option D := ((tagD d).bind (lookT tab)).map .bl
theorem je_isi {tab : List (Tag × Bool)} (ha : JE ma pa) : JE (mIsi tab ma) (pUn (dIsi tab) pa) := je_un (o := oIsi tab) (jo1 fun S x d F r a h => by
  unfold dIsi at h
  cases q : tagD d with
  | none => rw [q] at h; cases h
  | some t =>
    rw [q] at h
    simp only [Option.bind_some] at h
    rw [oIsi_tag (a.tag q)]
    cases q2 : lookT tab t with
    | none => rw [q2] at h; cases h
    | some b => rw [q2] at h; cases h; exact .bl) ha
def dCalled (tab : List (Nat × Str)) : D → Option D
  | .exc c _ => (look tab c).map .str
  | _ => none
end
def dLen : List D → Option D
  | [.str z] => if z.length ≤ sizeLine then some (.int z.length) else none
  | [.lst xs] => some (.int xs.length)
  | [.tup xs] => some (.int xs.length)
  | [.dk xs] => some (.int xs.length)
  | _ => none
theorem RpL.one {S : Sto} {w : Bool} {vs : List V} {d : D} {G : Ft} (g : RpL w S vs [d] G) : ∃ v F, vs = [v] ∧ Rp w S v d F := by
  cases g with
  | cons a b _ => cases b; exact ⟨_, _, rfl, a⟩
theorem RpL.two {S : Sto} {w : Bool} {vs : List V} {d e : D} {G : Ft} (g : RpL w S vs [d, e] G) : ∃ v u F F', vs = [v, u] ∧ Rp w S v d F ∧ Rp w S u e F' := by
  cases g with
  | cons a b _ => obtain ⟨u, F', rfl, h⟩ := b.one; exact ⟨_, _, _, _, rfl, a, h⟩
theorem keys_len {kvs : List (Key × V)} {kds : List (Key × D)} (h : kvs.map (·.1) = kds.map (·.1)) : kvs.length = kds.length := by
  have := congrArg List.length h
  rwa [List.length_map, List.length_map] at this
theorem jo_len : JO oLen dLen := fun S vs ds G g r h => by
  unfold dLen at h
  split at h
  · obtain ⟨v, F, rfl, a⟩ := g.one
    split at h
    · rename_i hz
      cases h
      rw [a.inv_str]
      simp only [oLen, hz, if_true]
      exact .int
    · cases h
  · obtain ⟨v, F, rfl, a⟩ := g.one
    cases h
    obtain ⟨i, vs, G1, rfl, h1, r1, _⟩ := a.rdL
    simp only [oLen, h1, r1.len]
    exact .int
  · obtain ⟨v, F, rfl, a⟩ := g.one
    cases h
    obtain ⟨i, vs, rfl, h1, r1, h2, _⟩ := a.rdT
    simp only [oLen, h2, h1, r1.len]
    exact .int
  · obtain ⟨v, F, rfl, a⟩ := g.one
    cases h
    obtain ⟨i, kvs, G1, rfl, h1, hk, r1, _, h2, h3⟩ := a.rdK
    simp only [oLen, h2, h3, h1, keys_len hk]
    exact .int
  · cases h
def kD : Key → D
  | .inl i => .int i
  | .inr x => .str x
theorem kD_rp {S : Sto} {w : Bool} (k : Key) : Rp w S (kV k) (kD k) fun _ => 0 := by cases k with
  | inl i => exact .int fun _ => rfl
  | inr i => exact .str fun _ => rfl
theorem keys_rpl {S : Sto} {w : Bool} : ∀ {kvs : List (Key × V)} {kds : List (Key × D)}, kvs.map (·.1) = kds.map (·.1) → RpL w S (kvs.map fun kv => kV kv.1) (kds.map fun kv => kD kv.1) fun _ => 0
  | [], [], _ => .nil fun _ => rfl
  | [], _ :: _, h => by cases h
  | _ :: _, [], h => by cases h
  | p :: r, q :: s, h => by
    simp only [List.map_cons, List.cons.injEq] at h
    rw [List.map_cons, List.map_cons, h.1]
    exact .cons (kD_rp _) (keys_rpl h.2) fun _ => rfl
@[simp] theorem imm_kD (k : Key) : imm (kD k) = true := by cases k <;> rfl
def dList : List D → Option D
  | [.lst xs] => if xs.all imm = true then some (.lst xs) else none
  | [.tup xs] => if xs.all imm = true then some (.lst xs) else none
  | [.dk kds] => some (.lst (kds.map fun kv => kD kv.1))
  | _ => none
theorem jo_list : JO oList dList := fun S vs ds G g r h => by
  unfold dList at h
  split at h
  · obtain ⟨v, F, rfl, a⟩ := g.one
    split at h
    · rename_i hz
      cases h
      obtain ⟨i, vs, G1, rfl, h1, r1, _⟩ := a.rdL
      simp only [oList, h1]
      exact .lst r1 hz
    · cases h
  · obtain ⟨v, F, rfl, a⟩ := g.one
    split at h
    · rename_i hz
      cases h
      obtain ⟨i, vs, rfl, h1, r1, h2, _⟩ := a.rdT
      simp only [oList, h1, h2]
      exact .lst r1 hz
    · cases h
  · obtain ⟨v, F, rfl, a⟩ := g.one
    cases h
    obtain ⟨i, kvs, G1, rfl, h1, hk, r1, _, h2, h3⟩ := a.rdK
    simp only [oList, h2, h3, h1]
    exact .lst (w := false) (keys_rpl hk) (by rw [List.all_map]; simp [List.all_eq_true])
  · cases h
def dTuple : List D → Option D
  | [.lst xs] => if xs.all imm = true then some (.tup xs) else none
  | [.tup xs] => if xs.all imm = true then some (.tup xs) else none
  | _ => none
/-- a list of ints -/
def toI : D → Option Int
  | .int i => some i
  | _ => none
def toB : D → Option Bool
  | .bl i => some i
  | _ => none
def toS : D → Option Str
  | .str i => some i
  | _ => none
theorem RpL.conv {α : Type} {S : Sto} {w : Bool} {f : D → Option α} {g : V → Option α} (k : ∀ v d F p, Rp w S v d F → f d = some p → g v = some p) : ∀ {vs : List V} {ds : List D} {F : Ft} {ps : List α}, RpL w S vs ds F → allSome (ds.map f) = some ps → allSome (vs.map g) = some ps
  | _, _, _, _, .nil _, h => h
  | _, _, _, ps, .cons (d := d) (ds := ds) a b _, h => by
    rw [List.map_cons] at h ⊢
    cases e1 : f d with
    | none => rw [e1] at h; cases h
    | some u =>
      rw [e1] at h
      rw [k _ _ _ _ a e1]
      cases e2 : allSome (ds.map f) with
      | none => rw [allSome, e2] at h; cases h
      | some l =>
        rw [allSome, e2] at h
        rw [allSome, RpL.conv k b e2]
        exact h
theorem toI_of {S : Sto} {w : Bool} (v : V) (d : D) (F : Ft) (p : Int) (r : Rp w S v d F) (h : toI d = some p) : toInt v = some p := by cases r <;> cases h; rfl
theorem toB_of {S : Sto} {w : Bool} (v : V) (d : D) (F : Ft) (p : Bool) (r : Rp w S v d F) (h : toB d = some p) : toBl v = some p := by cases r <;> cases h; rfl
def keyIs (kds : List (Key × D)) : Option (List Int) := allSome (kds.map fun kv => match kv.1 with
  | .inl i => some i
  | .inr _ => none)
theorem keyIs_of : ∀ {kvs : List (Key × V)} {kds : List (Key × D)}, kvs.map (·.1) = kds.map (·.1) → keyInts kvs = keyIs kds
  | [], [], _ => rfl
  | [], _ :: _, h => by cases h
  | _ :: _, [], h => by cases h
  | (k, v) :: r, (k', d) :: s, h => by
    simp only [List.map_cons, List.cons.injEq] at h
    obtain ⟨rfl, h⟩ := h
    cases k with
    | inl i =>
      show (keyInts r).map (i :: ·) = (keyIs s).map (i :: ·)
      rw [keyIs_of h]
    | inr x => rfl
theorem ints_rpl {S : Sto} {w : Bool} : ∀ ns : List Int, RpL w S (ns.map V.int) (ns.map D.int) fun _ => 0
  | [] => .nil fun _ => rfl
  | _ :: r => .cons (.int fun _ => rfl) (ints_rpl r) fun _ => rfl
@[simp] theorem all_ints (ns : List Int) : (ns.map D.int).all imm = true := by rw [List.all_map]; simp [List.all_eq_true, imm]
@[simp] theorem all_strs (ns : List Str) : (ns.map D.str).all imm = true := by rw [List.all_map]; simp [List.all_eq_true, imm]
@[simp] theorem all_bls (ns : List Bool) : (ns.map D.bl).all imm = true := by rw [List.all_map]; simp [List.all_eq_true, imm]
def dSorted : List D → Option D
  | [.lst xs] => (allSome (xs.map toI)).map fun ns => .lst ((sortI ns).map .int)
  | [.dk kds] => (keyIs kds).bind fun ns => if ns.length < 1000000 then some (.lst ((sortI ns).map .int)) else none
  | _ => none
theorem jo_sorted : JO oSorted dSorted := fun S vs ds G g r h => by
  unfold dSorted at h
  split at h
  · obtain ⟨v, F, rfl, a⟩ := g.one
    rename_i xs
    cases q : allSome (xs.map toI) with
    | none => rw [q] at h; cases h
    | some ns =>
      rw [q] at h
      cases h
      obtain ⟨i, vs, G1, rfl, h1, r1, _⟩ := a.rdL
      have e : rdInts S (.ref i) = some ns := by unfold rdInts; rw [h1]; exact RpL.conv toI_of r1 q
      simp only [oSorted, e]
      exact .lst (w := false) (ints_rpl _) (all_ints _)
  · obtain ⟨v, F, rfl, a⟩ := g.one
    rename_i kds
    cases q : keyIs kds with
    | none => rw [q] at h; cases h
    | some ns =>
      rw [q] at h
      simp only [Option.bind_some] at h
      split at h
      · rename_i hz
        cases h
        obtain ⟨i, kvs, G1, rfl, h1, hk, r1, _, h2, h3⟩ := a.rdK
        have e : rdInts S (.ref i) = none := by unfold rdInts; rw [h2]; rfl
        simp only [oSorted, e, h1, (keyIs_of hk).trans q, hz, if_true]
        exact .lst (w := false) (ints_rpl _) (all_ints _)
      · cases h
  · cases h
def dSum : List D → Option D
  | [.lst xs] => (allSome (xs.map toI)).map fun ns => .int ns.sum
  | _ => none
theorem jo_sum : JO oSum dSum := fun S vs ds G g r h => by
  unfold dSum at h
  split at h
  · obtain ⟨v, F, rfl, a⟩ := g.one
    rename_i xs
    cases q : allSome (xs.map toI) with
    | none => rw [q] at h; cases h
    | some ns =>
      rw [q] at h
      cases h
      obtain ⟨i, vs, G1, rfl, h1, r1, _⟩ := a.rdL
      have e : rdInts S (.ref i) = some ns := by unfold rdInts; rw [h1]; exact RpL.conv toI_of r1 q
      simp only [oSum, e]
      exact .int
  · cases h
def dAll : List D → Option D
  | [.lst xs] => (allSome (xs.map toB)).map fun ns => .bl (ns.all id)
  | _ => none
def dAny : List D → Option D
  | [.lst xs] => (allSome (xs.map toB)).map fun ns => .bl (ns.any id)
  | _ => none
theorem jo_all : JO oAll dAll := fun S vs ds G g r h => by
  unfold dAll at h
  split at h
  · obtain ⟨v, F, rfl, a⟩ := g.one
    rename_i xs
    cases q : allSome (xs.map toB) with
    | none => rw [q] at h; cases h
    | some ns =>
      rw [q] at h
      cases h
      obtain ⟨i, vs, G1, rfl, h1, r1, _⟩ := a.rdL
      have e : rdBls S (.ref i) = some ns := by unfold rdBls; rw [h1]; exact RpL.conv toB_of r1 q
      simp only [oAll, e]
      exact .bl
  · cases h
def dMax2 : List D → Option D
  | [.int i, .int j] => some (.int (if j > i then j else i))
  | _ => none
def dMin2 : List D → Option D
  | [.int i, .int j] => some (.int (if j < i then j else i))
  | _ => none
theorem jo_max2 : JO oMax2 dMax2 := fun S vs ds G g r h => by
  unfold dMax2 at h
  split at h
  · obtain ⟨v, u, F, F', rfl, a, b⟩ := g.two; cases h; rw [a.inv_int, b.inv_int]; exact .int
  · cases h
def dInt : List D → Option D
  | [.int i] => some (.int i)
  | [.bl k] => some (.int (if k then 1 else 0))
  | [.str a] => (PySem.intText? a).bind fun n => if a.length ≤ 640 then some (.int n) else none
  | _ => none
theorem jo_int : JO oInt dInt := fun S vs ds G g r h => by
  unfold dInt at h
  split at h
  · obtain ⟨v, F, rfl, a⟩ := g.one; cases h; rw [a.inv_int]; exact .int
  · obtain ⟨v, F, rfl, a⟩ := g.one; cases h; rw [a.inv_bl]; exact .int
  · obtain ⟨v, F, rfl, a⟩ := g.one
    rename_i z
    rw [a.inv_str]
    cases q : PySem.intText? z with
    | none => rw [q] at h; cases h
    | some n =>
      rw [q] at h
      simp only [Option.bind_some] at h
      split at h
      · rename_i hz; cases h; simp only [oInt, q, hz, if_true]; exact .int
      · cases h
  · cases h
def pairD : D → Option (Key × D)
  | .tup [k, d] => (keyD k).map fun k => (k, d)
  | _ => none
def dDict : List D → Option D
  | [.dk kds] => if (kds.map (·.2)).all imm = true then some (.dk kds) else none
  | [.lst xs] => (allSome (xs.map pairD)).bind fun ps => if (ps.map (·.2)).all imm = true then some (.dk (mergeD [] ps)) else none
  | _ => none
theorem put_keys {k : Key} {v : V} {d : D} {kvs : List (Key × V)} {kds : List (Key × D)} (h : kvs.map (·.1) = kds.map (·.1)) : (putK kvs k v).map (·.1) = (putD kds k d).map (·.1) := by
  unfold putK putD
  rw [vals_any h]
  split
  · have e1 : (kvs.map fun kv => if kv.1 = k then (kv.1, v) else kv).map (·.1) = kvs.map (·.1) := by
      rw [List.map_map]; apply List.map_congr_left; intro a _; show (if a.1 = k then (a.1, v) else a).1 = a.1; split <;> rfl
    have e2 : (kds.map fun kv => if kv.1 = k then (kv.1, d) else kv).map (·.1) = kds.map (·.1) := by
      rw [List.map_map]; apply List.map_congr_left; intro a _; show (if a.1 = k then (a.1, d) else a).1 = a.1; split <;> rfl
    rw [e1, e2, h]
  · rw [List.map_append, List.map_append, h]; rfl
theorem imm_put {k : Key} {d : D} {kds : List (Key × D)} (h : (kds.map (·.2)).all imm = true) (hd : imm d = true) : ((putD kds k d).map (·.2)).all imm = true := by
  unfold putD
  split
  · rw [List.all_eq_true] at h ⊢
    intro x hx
    rw [List.map_map] at hx
    obtain ⟨a, ha, rfl⟩ := List.mem_map.mp hx
    show imm (if a.1 = k then (a.1, d) else a).2 = true
    split
    · exact hd
    · exact h _ (List.mem_map_of_mem ha)
  · rw [List.map_append, List.all_append, h]; simp [hd]
/-- a list of pairs: keys alike, values of their own without parts -/
def KvR (S : Sto) (kvs : List (Key × V)) (kds : List (Key × D)) : Prop := kvs.map (·.1) = kds.map (·.1) ∧ RpL true S (kvs.map (·.2)) (kds.map (·.2)) fun _ => 0
theorem KvR.cons {S : Sto} {k : Key} {v : V} {d : D} {kvs : List (Key × V)} {kds : List (Key × D)} (h : Rp true S v d fun _ => 0) (r : KvR S kvs kds) : KvR S ((k, v) :: kvs) ((k, d) :: kds) :=
  ⟨by simp only [List.map_cons, r.1], .cons h r.2 fun _ => rfl⟩
theorem KvR.map {S : Sto} {k : Key} {v : V} {d : D} (h : Rp true S v d fun _ => 0) : ∀ {kvs : List (Key × V)} {kds : List (Key × D)}, KvR S kvs kds → RpL true S ((kvs.map fun kv => if kv.1 = k then (kv.1, v) else kv).map (·.2)) ((kds.map fun kv => if kv.1 = k then (kv.1, d) else kv).map (·.2)) fun _ => 0
  | [], [], _ => .nil fun _ => rfl
  | [], _ :: _, r => by cases r.1
  | _ :: _, [], r => by cases r.1
  | p :: r, q :: s, ⟨h1, h2⟩ => by
    simp only [List.map_cons, List.cons.injEq] at h1 ⊢
    rw [List.map_cons, List.map_cons] at h2
    cases h2 with
    | @cons _ Fa Fb _ _ _ _ a b z =>
      have za : Zf Fa := fun i => by have q : 0 = Fa i + Fb i := z i; omega
      have zb : Zf Fb := fun i => by have q : 0 = Fa i + Fb i := z i; omega
      refine .cons (F1 := fun _ => 0) ?_ (KvR.map h ⟨h1.2, b.congr fun i => (zb i).symm⟩) fun _ => rfl
      rw [h1.1]
      split
      · exact h
      · exact a.congr fun i => (za i).symm
theorem KvR.put {S : Sto} {k : Key} {v : V} {d : D} {kvs : List (Key × V)} {kds : List (Key × D)} (h : Rp true S v d fun _ => 0) (r : KvR S kvs kds) : KvR S (putK kvs k v) (putD kds k d) := by
  refine ⟨put_keys r.1, ?_⟩
  unfold putK putD
  rw [vals_any r.1]
  split
  · exact r.map h
  · rw [List.map_append, List.map_append]
    exact (r.2.app (.cons h (.nil fun _ => rfl) fun _ => rfl)).congr fun _ => rfl
theorem KvR.merge {S : Sto} : ∀ {more : List (Key × V)} {mord : List (Key × D)} {kvs : List (Key × V)} {kds : List (Key × D)}, KvR S more mord → KvR S kvs kds → KvR S (mergeK kvs more) (mergeD kds mord)
  | [], [], _, _, _, r => r
  | [], _ :: _, _, _, m, _ => by cases m.1
  | _ :: _, [], _, _, m, _ => by cases m.1
  | p :: l, q :: s, kvs, kds, ⟨h1, h2⟩, r => by
    simp only [List.map_cons, List.cons.injEq] at h1
    rw [List.map_cons, List.map_cons] at h2
    cases h2 with
    | @cons _ Fa Fb _ _ _ _ a b z =>
      have za : Zf Fa := fun i => by have q : 0 = Fa i + Fb i := z i; omega
      have zb : Zf Fb := fun i => by have q : 0 = Fa i + Fb i := z i; omega
      have h1' := h1.1
      show KvR S (mergeK (putK kvs p.1 p.2) l) (mergeD (putD kds q.1 q.2) s)
      rw [h1']
      exact KvR.merge ⟨h1.2, b.congr fun i => (zb i).symm⟩ (r.put (a.congr fun i => (za i).symm))
theorem imm_merge : ∀ {mord kds : List (Key × D)}, (mord.map (·.2)).all imm = true → (kds.map (·.2)).all imm = true → ((mergeD kds mord).map (·.2)).all imm = true
  | [], _, _, r => r
  | q :: s, kds, h, r => by
    rw [List.map_cons, List.all_cons, Bool.and_eq_true] at h
    exact imm_merge (kds := putD kds q.1 q.2) h.2 (imm_put r h.1)
theorem KvR.res {S : Sto} {kvs : List (Key × V)} {kds : List (Key × D)} (r : KvR S kvs kds) (h : (kds.map (·.2)).all imm = true) : Res S (.dk kds) (.ok (.ref S.length) (S ++ [.dK kvs])) := .dk r.1 r.2 h
theorem pairs_of {S : Sto} {w : Bool} : ∀ {vs : List V} {xs : List D} {G : Ft} {ps : List (Key × D)}, RpL w S vs xs G → allSome (xs.map pairD) = some ps → (ps.map (·.2)).all imm = true → ∃ kvs, allSome (vs.map (rdPair S)) = some kvs ∧ KvR S kvs ps
  | _, _, _, _, .nil _, h, _ => by cases h; exact ⟨[], rfl, rfl, .nil fun _ => rfl⟩
  | _, _, _, ps, .cons (d := d) (ds := ds) (v := v) (vs := vs) a b _, h, hi => by
    rw [List.map_cons] at h ⊢
    cases e1 : pairD d with
    | none => rw [e1] at h; cases h
    | some p =>
      rw [e1] at h
      cases e2 : allSome (ds.map pairD) with
      | none => rw [allSome, e2] at h; cases h
      | some l =>
        rw [allSome, e2] at h
        cases h
        rw [List.map_cons, List.all_cons, Bool.and_eq_true] at hi
        obtain ⟨kvs, h1, h2⟩ := pairs_of b e2 hi.2
        unfold pairD at e1
        split at e1
        · rename_i k dd
          obtain ⟨i, us, rfl, hT, rT, _⟩ := a.rdT
          obtain ⟨x, y, Fx, Fy, rfl, rx, ry⟩ := rT.two
          cases q : keyD k with
          | none => rw [q] at e1; cases e1
          | some kk =>
            rw [q] at e1
            cases e1
            refine ⟨(kk, y) :: kvs, ?_, KvR.cons (zero_imm ry hi.1) h2⟩
            have : rdPair S (.ref i) = some (kk, y) := by unfold rdPair; rw [hT]; simp only [rx.key q]; rfl
            rw [this, allSome, h1]
            rfl
        · cases e1
theorem jo_dict : JO oDict dDict := fun S vs ds G g r h => by
  unfold dDict at h
  split at h
  · obtain ⟨v, F, rfl, a⟩ := g.one
    split at h
    · rename_i hz
      cases h
      obtain ⟨i, kvs, G1, rfl, h1, hk, r1, _⟩ := a.rdK
      simp only [oDict, h1]
      exact .dk hk r1 hz
    · cases h
  · obtain ⟨v, F, rfl, a⟩ := g.one
    rename_i xs
    cases q : allSome (xs.map pairD) with
    | none => rw [q] at h; cases h
    | some ps =>
      rw [q] at h
      simp only [Option.bind_some] at h
      split at h
      · rename_i hz
        cases h
        obtain ⟨i, vs, G1, rfl, h1, r1, _, _, h2⟩ := a.rdL
        obtain ⟨kvs, e1, e2⟩ := pairs_of r1 q hz
        simp only [oDict, h2, h1, e1]
        have e3 : KvR S (mergeK [] kvs) (mergeD [] ps) := e2.merge ⟨rfl, .nil fun _ => rfl⟩
        exact e3.res (imm_merge hz rfl)
      · cases h
  · cases h
def inD (x y : D) : Option Bool := match y with
  | .str z => (match x with
    | .str w => some (!(Builtin.Str.occurrences z w 0 z.length 1).isEmpty)
    | _ => none)
  | .lst ys => (match scal x, allSome (ys.map scal) with
    | some v, some vs => some (inV v vs)
    | _, _ => match rdP eqDepth x, rdP eqDepth (.lst ys) with
      | some d, some (.list ds) => if SeqAt.shaped d = true ∧ SeqAt.shaped (.list ds) = true then some (ds.any fun z => PyData.eqv z d) else none
      | _, _ => none)
  | .tup ys => (match scal x, allSome (ys.map scal) with
    | some v, some vs => some (inV v vs)
    | _, _ => none)
  | .dk kds => (match keyD x with
    | some k => some (valD kds k).isSome
    | none => match x with
      | .non => some false
      | _ => none)
  | _ => none
def dInN (neg : Bool) : D → D → Option D := fun x y => (inD x y).map fun b => .bl (neg != b)
abbrev dIn := dInN false
abbrev dNotIn := dInN true
theorem scal_no {S : Sto} {w : Bool} {x : V} {d : D} {F : Ft} (r : Rp w S x d F) (h : scal d = none) (hh : ∀ (h : d = .hole), False) : flatV x = false := by
  cases r with
  | hole _ => exact (hh rfl).elim
  | non _ => cases h
  | bl _ => cases h
  | int _ => cases h
  | str _ => cases h
  | _ => rfl
theorem rdP_hole {n : Nat} : rdP n .hole = none := by cases n <;> rfl
theorem scals_no {S : Sto} {w : Bool} {n : Nat} : ∀ {vs : List V} {ds : List D} {F : Ft} {ps : List PyData}, RpL w S vs ds F → allSome (ds.map scal) = none → allSome (ds.map (rdP n)) = some ps → vs.all flatV = false
  | _, _, _, _, .nil _, h, _ => by cases h
  | _, _, _, _, .cons (d := d) (ds := ds) (v := v) (vs := vs) a b _, h, k => by
    rw [List.map_cons] at h k
    rw [List.all_cons]
    cases e0 : rdP n d with
    | none => rw [e0] at k; cases k
    | some q =>
      rw [e0] at k
      cases e1 : scal d with
      | none => rw [scal_no a e1 (fun z => by rw [z, rdP_hole] at e0; cases e0)]; rfl
      | some u =>
        rw [e1] at h
        cases e2 : allSome (ds.map scal) with
        | some l => rw [allSome, e2] at h; cases h
        | none =>
          cases e3 : allSome (ds.map (rdP n)) with
          | none => rw [allSome, e3] at k; cases k
          | some l => rw [scals_no b e2 e3, Bool.and_false]
theorem jo_inN (neg : Bool) : JO (o2 (oInN neg)) (p2 (dInN neg)) := jo2 fun S x y d e F G r a b h => by
  unfold dInN at h
  cases q : inD d e with
  | none => rw [q] at h; cases h
  | some bb =>
    rw [q] at h
    cases h
    have key : isIn x y S = some bb := by
      unfold inD at q
      split at q
      · rename_i z
        rw [b.inv_str]
        split at q
        · cases q; rw [a.inv_str]; rfl
        · cases q
      · rename_i ys
        obtain ⟨i, vs, G1, rfl, h1, r1, _⟩ := b.rdL
        unfold isIn
        simp only [h1]
        split at q
        · rename_i v us e1 e2
          cases q
          obtain ⟨rfl, f1⟩ := a.scal e1
          obtain ⟨rfl, f2⟩ := r1.scal e2
          rw [if_pos ⟨f1, f2⟩]
        · rename_i hno
          split at q
          · rename_i dd dl e1 e2
            split at q
            · rename_i hs
              cases q
              have e3 : ∃ ps, allSome (ys.map (rdP 11)) = some ps := by
                cases z : allSome (ys.map (rdP 11)) with
                | some ps => exact ⟨ps, rfl⟩
                | none =>
                  have : rdP eqDepth (.lst ys) = (allSome (ys.map (rdP 11))).map .list := rfl
                  rw [this, z] at e2
                  cases e2
              obtain ⟨ps, e3⟩ := e3
              have nf : ¬ (flatV x = true ∧ vs.all flatV = true) := by
                intro ⟨f1, f2⟩
                cases e4 : scal d with
                | none => rw [scal_no a e4 (fun z => by rw [z, rdP_hole] at e1; cases e1)] at f1; cases f1
                | some u =>
                  cases e5 : allSome (ys.map scal) with
                  | some us => exact hno _ _ e4 e5
                  | none => rw [scals_no r1 e5 e3] at f2; cases f2
              rw [if_neg nf, rdP_of _ _ _ _ _ a e1, rdP_of _ _ _ _ _ b e2]
              exact if_pos hs
            · cases q
          · cases q
      · rename_i ys
        obtain ⟨i, vs, rfl, h1, r1, h2, _⟩ := b.rdT
        unfold isIn
        simp only [h2, h1]
        split at q
        · rename_i v us e1 e2
          cases q
          obtain ⟨rfl, f1⟩ := a.scal e1
          obtain ⟨rfl, f2⟩ := r1.scal e2
          rw [if_pos ⟨f1, f2⟩]
        · cases q
      · rename_i kds
        obtain ⟨i, kvs, G1, rfl, h1, hk, r1, _, h2, h3⟩ := b.rdK
        unfold isIn
        simp only [h2, h3, h1]
        split at q
        · rename_i k e1
          cases q
          rw [a.key e1]
          have := RpL.val (k := k) hk r1
          cases e2 : valD kds k with
          | none => rw [e2] at this; simp [this]
          | some dd => rw [e2] at this; obtain ⟨v, G, h4, _⟩ := this; simp [h4]
        · split at q
          · cases q; rw [a.inv_non]; rfl
          · cases q
      · cases q
    show Res S _ (match isIn x y S with
      | some b => .ok (.bl (neg != b)) S
      | none => .bad)
    rw [key]
    exact .bl
def cutL (xs : List D) (lo hi : Option Int) : List D := (xs.drop (HT.sIx xs.length 0 lo)).take (HT.sIx xs.length xs.length hi - HT.sIx xs.length 0 lo)
abbrev PO := Env → X (Option Int)
def RlO : Rel (Option Int) (Option Int) := fun _ _ _ _ _ _ b a => b = a
def pNoP : PO := fun e => .ok none true e
def pPart (a : PE) : PO := fun e => (a e).bind fun x q e1 => match x.1 with
  | .int i => .ok (some i) q e1
  | _ => .bad
abbrev JOp (m : MO) (p : PO) : Prop := JX RlO m p
theorem jop_no : JOp mNoP pNoP := fun S σ e F Z I => .pure I rfl
theorem jop_some {m : ME} {p : PE} (h : JE m p) : JOp (mPart m) (pPart p) := by
  intro S σ e F Z I
  refine Po.bind (h S σ e F Z I) fun ⟨d, o⟩ q e' v S1 F1 Z1 hx n I1 ⟨Fd, r, t⟩ k => ?_
  cases d with
  | int i => rw [r.inv_int]; exact ⟨_, S1, F1, Z1, rfl, n, I1.r, rfl, k⟩
  | _ => trivial
def dSl (d : D) (lo hi : Option Int) : Option D := match d with
  | .str z => if z.length ≤ sizeLine then some (.str (cutS z lo hi)) else none
  | .lst xs => if (cutL xs lo hi).all imm = true then some (.lst (cutL xs lo hi)) else none
  | .tup xs => if (HT.sIx xs.length 0 lo = 0 ∧ HT.sIx xs.length xs.length hi = xs.length) then none else if (cutL xs lo hi).all imm = true then some (.tup (cutL xs lo hi)) else none
  | _ => none
/-- a slice: all three quiet -/
def pSl (a : PE) (lo hi : PO) : PE := fun e => (a e).bind fun x q e1 => (lo e1).bind fun l q1 e2 => (hi e2).bind fun u q2 e3 => if (q1 && q2) = true then pOf q e3 (dSl x.1 l u) else .bad
theorem RpL.take {S : Sto} {w : Bool} : ∀ {vs : List V} {ds : List D} {F : Ft} (n : Nat), RpL w S vs ds F → ∃ G, RpL w S (vs.take n) (ds.take n) G
  | _, _, _, 0, _ => ⟨fun _ => 0, by simp; exact .nil fun _ => rfl⟩
  | _, _, _, _ + 1, .nil z => ⟨_, by simp; exact .nil z⟩
  | _, _, _, n + 1, .cons a b z => by
    obtain ⟨G, g⟩ := b.take n
    exact ⟨_, .cons a g fun _ => rfl⟩
theorem RpL.drop {S : Sto} {w : Bool} : ∀ {vs : List V} {ds : List D} {F : Ft} (n : Nat), RpL w S vs ds F → ∃ G, RpL w S (vs.drop n) (ds.drop n) G
  | _, _, _, 0, r => ⟨_, r⟩
  | _, _, _, _ + 1, .nil z => ⟨_, by simp; exact .nil z⟩
  | _, _, _, n + 1, .cons a b z => b.drop n
theorem RpL.cut {S : Sto} {w : Bool} {vs : List V} {ds : List D} {F : Ft} (r : RpL w S vs ds F) (lo hi : Option Int) : ∃ G, RpL w S (cutV vs lo hi) (cutL ds lo hi) G := by
  unfold cutV cutL
  rw [r.len]
  obtain ⟨G, g⟩ := r.drop (HT.sIx ds.length 0 lo)
  exact g.take _
theorem sl_res {S : Sto} {x : V} {d : D} {F : Ft} {w : Bool} {lo hi : Option Int} {r : D} (a : Rp w S x d F) (h : dSl d lo hi = some r) : Res S r (oSl x lo hi S) := by
  unfold dSl at h
  split at h
  · split at h
    · rename_i hz; cases h; rw [a.inv_str]; simp only [oSl, hz, if_true]; exact .str
    · cases h
  · split at h
    · rename_i hz
      cases h
      obtain ⟨i, vs, G1, rfl, h1, r1, _⟩ := a.rdL
      obtain ⟨G, g⟩ := r1.cut lo hi
      simp only [oSl, h1]
      exact .lst g hz
    · cases h
  · split at h
    · cases h
    · rename_i hw
      split at h
      · rename_i hz
        cases h
        obtain ⟨i, vs, rfl, h1, r1, h2, _⟩ := a.rdT
        obtain ⟨G, g⟩ := r1.cut lo hi
        rw [← r1.len] at hw
        simp only [oSl, h2, h1]
        rw [if_neg hw]
        exact .tup g hz
      · cases h
  · cases h
theorem je_sl {m : ME} {p : PE} {ml mh : MO} {pl ph : PO} (ha : JE m p) (hl : JOp ml pl) (hh : JOp mh ph) : JE (mSl m ml mh) (pSl p pl ph) := by
  intro S σ e F Z I
  refine Po.bind (ha S σ e F Z I) fun ⟨d, o⟩ q e1 v S1 F1 Z1 hx n I1 ⟨Fd, r, t⟩ k => ?_
  have k1 := hl S1 σ e1 F1 Z1 I1
  cases hl2 : pl e1 with
  | bad => trivial
  | exc c x e2 =>
    rw [hl2] at k1
    obtain ⟨S', F', Z', hr, hn, he⟩ := k1
    rw [hr]
    exact ⟨S', F', Z', rfl, n.trans hn, he⟩
  | ok l q1 e2 =>
    rw [hl2] at k1
    obtain ⟨l', S2, F2, Z2, hr, n2, he2, hl', qt2⟩ := k1
    cases hl'
    rw [hr]
    have k3 := hh S2 σ e2 F2 Z2 (n2.ei he2)
    simp only [xbind_ok, bind_ok]
    cases hh2 : ph e2 with
    | bad => trivial
    | exc c x e3 =>
      rw [hh2] at k3
      obtain ⟨S', F', Z', hr, hn, he⟩ := k3
      rw [hr]
      exact ⟨S', F', Z', rfl, (n.trans n2).trans hn, he⟩
    | ok u q2 e3 =>
      rw [hh2] at k3
      obtain ⟨u', S3, F3, Z3, hr, n3, he3, hu', qt3⟩ := k3
      cases hu'
      rw [hr]
      simp only [xbind_ok, bind_ok]
      split
      · rename_i hq
        rw [Bool.and_eq_true] at hq
        have t2 := qt2 hq.1
        have t3 := qt3 hq.2
        cases hs : dSl d l u with
        | none => trivial
        | some x =>
          obtain ⟨v', S', Fr, hr, hp, rp, hf, h1⟩ := sl_res ((r.relax.mono (.pre t2.p)).mono (.pre t3.p)) hs
          have I3 := ((n.trans n2).trans n3).ei he3
          have n' := nx_pre I3 hp
          refine ⟨v', S', F3, Z3, hr, ((n.trans n2).trans n3).trans n', he3.mono (.pre hp), ⟨Fr, rp, ?_⟩, fun hk => (((k hk).trans t2).trans t3).trans ⟨rfl, hp, fun _ => rfl, fun _ => rfl⟩⟩
          have nn := (n.trans n2).trans n3
          refine ⟨fun i => ?_, fun i hi => ?_, fun i hi => ?_⟩
          · by_cases z : 0 < Fr i
            · have := hf i z
              have : F3 i = 0 := Nat.eq_zero_of_not_pos fun y => by
                obtain ⟨o, e, _⟩ := he3.domF i y
                have := (List.getElem?_eq_some_iff.mp e).1
                omega
              have := h1 i
              omega
            · have := I3.nd i
              omega
          · have : Fr i = 0 := Nat.eq_zero_of_not_pos fun y => by have := hf i y; have := nn.le; omega
            have := nn.sub i hi
            omega
          · exact Nat.eq_zero_of_not_pos fun y => by
              have := hf i y
              obtain ⟨o, e, _⟩ := he3.domZ i hi
              have := (List.getElem?_eq_some_iff.mp e).1
              omega
      · trivial
end Vi
namespace Vi
open PySem PySem.Spec L2 Mi
def allFr (ds : List (D × Og)) : Bool := ds.all fun x => x.2.own
def tagL (ds : List (D × Og)) : Og := if allFr ds = true then .fr else .an
section
variable {S S' S1 : Sto} {F Z F1 Z1 F' T U G Fd : Ft} {v : V} {d : D} {vs : List V} {ds : List (D × Og)} {w : Bool} {σ : St} {e : Env}
theorem AvR.own (h : AvR S F Z S' F' T vs ds U) (k : allFr ds = true) : RpL true S' vs (ds.map (·.1)) U := by
  induction h with
  | nil z => exact .nil z
  | @cons U U2 Fd v d o vs ds r t _ hu ih =>
    unfold allFr at k
    rw [List.all_cons, Bool.and_eq_true] at k
    cases o with
    | fr => exact .cons r (ih k.2) hu
    | zn => cases k.1
    | an => cases k.1
theorem AvR.any (h : AvR S F Z S' F' T vs ds U) (k : ∀ i, i < S.length → F' i + T i ≤ F i) : ∃ G, RpL false S' vs (ds.map (·.1)) G ∧ ∀ i, 0 < G i → i < S.length → 0 < F i + Z i := by
  induction h with
  | nil z => exact ⟨fun _ => 0, .nil fun _ => rfl, fun i h => absurd h (by simp)⟩
  | @cons U U2 Fd v d o vs ds r t _ hu ih =>
    obtain ⟨G, g, hg⟩ := ih
    refine ⟨fun i => Fd i + G i, .cons r.relax g fun _ => rfl, fun i hi hl => ?_⟩
    by_cases z : 0 < G i
    · exact hg i z hl
    · have z2 : 0 < Fd i := by have : 0 < Fd i + G i := hi; omega
      cases o with
      | fr => have := t i; have := k i hl; omega
      | zn => have := (t i z2).2.2 hl; omega
      | an => exact t i z2 hl
theorem RpL.bound {vs : List V} {ds : List D} (r : RpL w S vs ds F) {i : Nat} (h : S.length ≤ i) : F i = 0 := Nat.eq_zero_of_not_pos fun k => by have := r.lt k; omega
theorem Rp.bound (r : Rp w S v d F) {i : Nat} (h : S.length ≤ i) : F i = 0 := Nat.eq_zero_of_not_pos fun k => by have := r.lt k; omega
theorem EnvR.boundF (r : EnvR S σ e F Z) {i : Nat} (h : S.length ≤ i) : F i = 0 := Nat.eq_zero_of_not_pos fun k => by
  obtain ⟨o, e, _⟩ := r.domF i k
  have := (List.getElem?_eq_some_iff.mp e).1
  omega
theorem EnvR.boundZ (r : EnvR S σ e F Z) {i : Nat} (h : S.length ≤ i) : Z i = 0 := Nat.eq_zero_of_not_pos fun k => by
  obtain ⟨o, e, _⟩ := r.domZ i k
  have := (List.getElem?_eq_some_iff.mp e).1
  omega
end
def pLst (a : PA) : PE := fun e => (a e).bind fun ds q e' => if ds.length ≤ sizeLine then .ok (.lst (ds.map (·.1)), tagL ds) q e' else .bad
def pTup (a : PA) : PE := fun e => (a e).bind fun ds q e' => if ds.length ≤ sizeLine then .ok (.tup (ds.map (·.1)), tagL ds) q e' else .bad
theorem one_self (k : Nat) : one k k = 1 := by unfold one; rw [if_pos rfl]
theorem one_ne {k i : Nat} (h : i ≠ k) : one k i = 0 := by unfold one; rw [if_neg h]
theorem AvR.len {S S' : Sto} {F Z F' T U : Ft} {vs : List V} {ds : List (D × Og)} (h : AvR S F Z S' F' T vs ds U) : vs.length = ds.length := by
  induction h with
  | nil z => rfl
  | cons _ _ _ _ ih => rw [List.length_cons, List.length_cons, ih]
theorem je_lst {m : MA} {p : PA} (h : JA m p) : JE (mLst m) (pLst p) := by
  intro S σ e F Z I
  refine Po.bind (h S σ e F Z I) fun ds q e1 vs S1 F1 Z1 hx n I1 ⟨T, av, t1, t2, t3⟩ k => ?_
  have el : vs.length = ds.length := av.len
  show Po RlE S σ e F Z (if vs.length ≤ sizeLine then _ else _) _
  rw [el]
  by_cases z : ds.length ≤ sizeLine
  · rw [if_pos z, if_pos z]
    have p := pre_add S1 [Ob.lst vs]
    have n' := nx_pre I1 p
    refine ⟨_, _, F1, Z1, rfl, n.trans n', I1.r.mono (.pre p), ?_, fun hk => (k hk).trans ⟨rfl, p, fun _ => rfl, fun _ => rfl⟩⟩
    have e1 : (S1 ++ [Ob.lst vs])[S1.length]? = some (.lst vs) := by rw [get_new0]; rfl
    have bF := fun {i} (h : S1.length ≤ i) => I1.r.boundF h
    have bZ := fun {i} (h : S1.length ≤ i) => I1.r.boundZ h
    unfold tagL
    by_cases ha : allFr ds = true
    · rw [if_pos ha]
      have r := (av.own ha)
      refine ⟨fun j => T j + if j = S1.length then 1 else 0, .lst (.inl e1) (r.mono (.pre p)) fun _ => rfl, fun i => ?_, fun i hi => ?_, fun i hi => ?_⟩
      · show F1 i + (T i + if i = S1.length then 1 else 0) ≤ 1
        by_cases y : i = S1.length
        · rw [if_pos y, r.bound (by omega), bF (by omega)]; omega
        · rw [if_neg y]; have := t1 i; omega
      · show F1 i + (T i + if i = S1.length then 1 else 0) ≤ F i
        rw [if_neg (by have := n.le; omega)]; have := t2 i hi; omega
      · show T i + (if i = S1.length then 1 else 0) = 0
        have := t3 i hi
        by_cases y : i = S1.length
        · rw [bZ (by omega)] at hi; omega
        · rw [if_neg y]; omega
    · rw [if_neg ha]
      obtain ⟨G, g, hg⟩ := av.any t2
      refine ⟨fun j => G j + if j = S1.length then 1 else 0, .lst (.inl e1) (g.mono (.pre p)) fun _ => rfl, fun i hi hl => ?_⟩
      have hi : 0 < G i + if i = S1.length then 1 else 0 := hi
      rw [if_neg (by have := n.le; omega)] at hi
      exact hg i (by omega) hl
  · rw [if_neg z, if_neg z]; trivial
theorem je_tup {m : MA} {p : PA} (h : JA m p) : JE (mTup m) (pTup p) := by
  intro S σ e F Z I
  refine Po.bind (h S σ e F Z I) fun ds q e1 vs S1 F1 Z1 hx n I1 ⟨T, av, t1, t2, t3⟩ k => ?_
  have el : vs.length = ds.length := av.len
  show Po RlE S σ e F Z (if vs.length ≤ sizeLine then _ else _) _
  rw [el]
  by_cases z : ds.length ≤ sizeLine
  · rw [if_pos z, if_pos z]
    have p := pre_add S1 [Ob.tup vs]
    have n' := nx_pre I1 p
    refine ⟨_, _, F1, Z1, rfl, n.trans n', I1.r.mono (.pre p), ?_, fun hk => (k hk).trans ⟨rfl, p, fun _ => rfl, fun _ => rfl⟩⟩
    have e1 : (S1 ++ [Ob.tup vs])[S1.length]? = some (.tup vs) := by rw [get_new0]; rfl
    unfold tagL
    by_cases ha : allFr ds = true
    · rw [if_pos ha]
      exact ⟨T, .tup e1 ((av.own ha).mono (.pre p)), t1, t2, t3⟩
    · rw [if_neg ha]
      obtain ⟨G, g, hg⟩ := av.any t2
      exact ⟨G, .tup e1 (g.mono (.pre p)), hg⟩
  · rw [if_neg z, if_neg z]; trivial
def pDict0 : PE := fun e => .ok (.dk [], .fr) true e
theorem je_dict0 : JE mDict0 pDict0 := by
  intro S σ e F Z I
  refine .fresh I (pre_add _ _) ⟨one S.length, .dk (F1 := fun _ => 0) (kvs := []) (.inl (by rw [get_new0]; rfl)) rfl (.nil fun _ => rfl) fun _ => rfl, fun i => ?_, fun i hi => ?_, fun i hi => ?_⟩
  · by_cases y : i = S.length
    · rw [y, one_self, I.r.boundF (Nat.le_refl _)]; omega
    · rw [one_ne y]; have := I.nd i; omega
  · rw [one_ne (by omega)]; omega
  · exact one_ne fun y => by rw [y, I.r.boundZ (Nat.le_refl _)] at hi; omega
inductive XS where
  | nx (e : Env) | rt (d : D) (o : Og) (e : Env) | bk (e : Env) | ct (e : Env) | exc (c : Nat) (x : Option V) (e : Env) | bad
abbrev PS := Env → XS
def Pin (P : List Nat) (σ σ' : St) : Prop := ∀ j ∈ P, σ'[j]? = σ[j]?
def Aft (P : List Nat) (S : Sto) (σ : St) (F Z : Ft) (S' : Sto) (σ' : St) (e' : Env) : Prop := ∃ F' Z', Nx S F Z S' F' Z' ∧ EnvR S' σ' e' F' Z' ∧ Pin P σ σ'
def PoS (P : List Nat) (S : Sto) (σ : St) (F Z : Ft) (r : RS) : XS → Prop
  | .nx e' => ∃ σ' S', r = .nx σ' S' ∧ Aft P S σ F Z S' σ' e'
  | .bk e' => ∃ σ' S', r = .bk σ' S' ∧ Aft P S σ F Z S' σ' e'
  | .ct e' => ∃ σ' S', r = .ct σ' S' ∧ Aft P S σ F Z S' σ' e'
  | .exc c x e' => ∃ σ' S', r = .exc c x σ' S' ∧ Aft P S σ F Z S' σ' e'
  | .rt d o e' => ∃ v S' σ' F' Z' Fd, r = .rt v S' ∧ Nx S F Z S' F' Z' ∧ EnvR S' σ' e' F' Z' ∧ Pin P σ σ' ∧ Rp o.own S' v d Fd ∧ Tg o S F Z F' Z' Fd
  | .bad => True
def JS (P : List Nat) (m : MS) (p : PS) : Prop := ∀ (S : Sto) (σ : St) (e : Env) (F Z : Ft), EI S σ e F Z → PoS P S σ F Z (m σ S) (p e)
def X.lift {α : Type} : X α → (α → Bool → Env → XS) → XS
  | .ok a q e, f => f a q e
  | .exc c x e, _ => .exc c x e
  | .bad, _ => .bad
def XS.seq : XS → (Env → XS) → XS
  | .nx e, f => f e
  | r, _ => r
section
variable {α : Type}
@[simp] theorem xlift_ok (a : α) (q : Bool) (e : Env) (f : α → Bool → Env → XS) : (X.ok a q e).lift f = f a q e := rfl
@[simp] theorem xlift_exc (c : Nat) (x : Option V) (e : Env) (f : α → Bool → Env → XS) : (X.exc c x e : X α).lift f = .exc c x e := rfl
@[simp] theorem xlift_bad (f : α → Bool → Env → XS) : (X.bad : X α).lift f = .bad := rfl
@[simp] theorem xseq_nx (e : Env) (f : Env → XS) : (XS.nx e).seq f = f e := rfl
@[simp] theorem xseq_rt (d : D) (o : Og) (e : Env) (f : Env → XS) : (XS.rt d o e).seq f = .rt d o e := rfl
@[simp] theorem xseq_bk (e : Env) (f : Env → XS) : (XS.bk e).seq f = .bk e := rfl
@[simp] theorem xseq_ct (e : Env) (f : Env → XS) : (XS.ct e).seq f = .ct e := rfl
@[simp] theorem xseq_exc (c : Nat) (x : Option V) (e : Env) (f : Env → XS) : (XS.exc c x e).seq f = .exc c x e := rfl
@[simp] theorem xseq_bad (f : Env → XS) : XS.bad.seq f = .bad := rfl
end
section
variable {P : List Nat} {S S1 : Sto} {σ σ1 : St} {e e1 : Env} {F Z F1 Z1 : Ft} {α β : Type}
theorem Pin.refl : Pin P σ σ := fun _ _ => rfl
theorem Pin.trans {σ2 : St} (a : Pin P σ σ1) (b : Pin P σ1 σ2) : Pin P σ σ2 := fun j h => (b j h).trans (a j h)
theorem Aft.tr {S2 : Sto} {σ2 : St} {e2 : Env} (n : Nx S F Z S1 F1 Z1) (p : Pin P σ σ1) (h : Aft P S1 σ1 F1 Z1 S2 σ2 e2) : Aft P S σ F Z S2 σ2 e2 := by
  obtain ⟨F', Z', n', r, q⟩ := h
  exact ⟨F', Z', n.trans n', r, p.trans q⟩
theorem PoS.after {r : RS} {x : XS} (n : Nx S F Z S1 F1 Z1) (p : Pin P σ σ1) (h : PoS P S1 σ1 F1 Z1 r x) : PoS P S σ F Z r x := by
  cases x with
  | nx e' => obtain ⟨σ', S', hr, a⟩ := h; exact ⟨σ', S', hr, a.tr n p⟩
  | bk e' => obtain ⟨σ', S', hr, a⟩ := h; exact ⟨σ', S', hr, a.tr n p⟩
  | ct e' => obtain ⟨σ', S', hr, a⟩ := h; exact ⟨σ', S', hr, a.tr n p⟩
  | exc c x e' => obtain ⟨σ', S', hr, a⟩ := h; exact ⟨σ', S', hr, a.tr n p⟩
  | rt d o e' =>
    obtain ⟨v, S', σ', F', Z', Fd, hr, hn, he, hp, rp, t⟩ := h
    exact ⟨v, S', σ', F', Z', Fd, hr, n.trans hn, he, p.trans hp, rp, t.tr n⟩
  | bad => trivial
theorem PoS.lift {Rl : Rel α β} {r : R β} {x : X α} {g : β → Sto → RS} {f : α → Bool → Env → XS} (h : Po Rl S σ e F Z r x)
    (hf : ∀ a q e' v S' F' Z', x = .ok a q e' → Nx S F Z S' F' Z' → EI S' σ e' F' Z' → Rl S F Z S' F' Z' v a → (q = true → Qt S e F Z S' e' F' Z') → PoS P S σ F Z (g v S') (f a q e')) : PoS P S σ F Z (r.lift σ g) (x.lift f) := by
  cases x with
  | ok a q e' =>
    obtain ⟨v, S', F', Z', hr, hn, he, hl, hq⟩ := h
    subst hr
    exact hf a q e' v S' F' Z' rfl hn (hn.ei he) hl hq
  | exc c x e' =>
    obtain ⟨S', F', Z', hr, hn, he⟩ := h
    subst hr
    exact ⟨σ, S', rfl, F', Z', hn, he, .refl⟩
  | bad => trivial
theorem Aft.here {S' : Sto} {e' : Env} {F' Z' : Ft} (n : Nx S F Z S' F' Z') (r : EnvR S' σ e' F' Z') : Aft P S σ F Z S' σ e' := ⟨F', Z', n, r, .refl⟩
end
def pSkip : PS := fun e => .nx e
def pSeq (a b : PS) : PS := fun e => (a e).seq b
def pExpr (a : PE) : PS := fun e => (a e).lift fun _ _ e1 => .nx e1
def pSet (i : Nat) (a : PE) : PS := fun e => (a e).lift fun x _ e1 => match x.2 with
  | .fr => .nx (e1.set i (.ow x.1))
  | .zn => .nx (e1.set i (.fz x.1))
  | .an => .bad
def pRet (a : PE) : PS := fun e => (a e).lift fun x _ e1 => .rt x.1 x.2 e1
def pRetN : PS := fun e => .rt .non .fr e
def pBrk : PS := fun e => .bk e
def pIfS (c : PT) (a b : PS) : PS := fun e => (c e).lift fun x _ e1 => if x = true then a e1 else b e1
def pRaise (c : Nat) : PS := fun e => .exc c none e
section
variable {P : List Nat} {ma mb : MS} {pa pb : PS} {m : ME} {p : PE} {mt : MT} {pt : PT}
theorem js_skip : JS P mSkip pSkip := fun S σ e F Z I => ⟨σ, S, rfl, .here (.refl I) I.r⟩
theorem js_seq (ha : JS P ma pa) (hb : JS P mb pb) : JS P (mSeq ma mb) (pSeq pa pb) := by
  intro S σ e F Z I
  have h := ha S σ e F Z I
  show PoS P S σ F Z ((ma σ S).seq mb) ((pa e).seq pb)
  cases hx : pa e with
  | nx e' =>
    rw [hx] at h
    obtain ⟨σ', S', hr, F', Z', n, r, pn⟩ := h
    rw [hr]
    exact (hb S' σ' e' F' Z' (n.ei r)).after n pn
  | bk e' => rw [hx] at h; obtain ⟨σ', S', hr, a⟩ := h; rw [hr]; exact ⟨σ', S', rfl, a⟩
  | ct e' => rw [hx] at h; obtain ⟨σ', S', hr, a⟩ := h; rw [hr]; exact ⟨σ', S', rfl, a⟩
  | exc c x e' => rw [hx] at h; obtain ⟨σ', S', hr, a⟩ := h; rw [hr]; exact ⟨σ', S', rfl, a⟩
  | rt d o e' => rw [hx] at h; obtain ⟨v, S', σ', F', Z', Fd, hr, rest⟩ := h; rw [hr]; exact ⟨v, S', σ', F', Z', Fd, rfl, rest⟩
  | bad => trivial
theorem js_expr (h : JE m p) : JS P (mExpr m) (pExpr p) := fun S σ e F Z I => PoS.lift (h S σ e F Z I) fun a q e' v S' F' Z' hx n I1 hl k => ⟨σ, S', rfl, .here n I1.r⟩
theorem js_ret (h : JE m p) : JS P (mRet m) (pRet p) := fun S σ e F Z I => PoS.lift (h S σ e F Z I) fun a q e' v S' F' Z' hx n I1 ⟨Fd, r, t⟩ k => ⟨v, S', σ, F', Z', Fd, rfl, n, I1.r, .refl, r, t⟩
theorem js_raise {c : Nat} : JS P (mRaise c) (pRaise c) := fun S σ e F Z I => ⟨σ, S, rfl, .here (.refl I) I.r⟩
theorem js_if (hc : JT mt pt) (ha : JS P ma pa) (hb : JS P mb pb) : JS P (mIfS mt ma mb) (pIfS pt pa pb) := fun S σ e F Z I => PoS.lift (hc S σ e F Z I) fun a q e' v S' F' Z' hx n I1 hl k => by
  cases hl
  by_cases z : a = true
  · rw [if_pos z, if_pos z]; exact (ha S' σ e' F' Z' I1).after n .refl
  · rw [if_neg z, if_neg z]; exact (hb S' σ e' F' Z' I1).after n .refl
theorem set_out {α : Type} {l : List α} {i : Nat} {a : α} (h : l.length ≤ i) : l.set i a = l := List.set_eq_of_length_le h
/-- a slot written -/
theorem EnvR.setOw {S : Sto} {σ : St} {e : Env} {F Z G : Ft} {v : V} {d : D} (i : Nat) (r : EnvR S σ e F Z) (h : Rp true S v d G) : ∃ F' Z', EnvR S (σ.set i (some v)) (e.set i (.ow d)) F' Z' ∧ (∀ j, F' j ≤ F j + G j) ∧ ∀ j, Z' j ≤ Z j := by
  by_cases z : i < e.length
  · obtain ⟨F1, Z1, F2, Z2, hF, hZ, _, _, k2, _⟩ := r.slot (List.getElem?_eq_getElem z)
    exact ⟨_, _, k2 v d G h, fun j => by have := hF j; show G j + F2 j ≤ _; omega, fun j => by have := hZ j; omega⟩
  · rw [set_out (by rw [r.len]; omega), set_out (by omega)]
    exact ⟨F, Z, r, fun j => by omega, fun j => by omega⟩
theorem EnvR.setFz {S : Sto} {σ : St} {e : Env} {F Z G : Ft} {v : V} {d : D} (i : Nat) (r : EnvR S σ e F Z) (h : Rp false S v d G) : ∃ F' Z', EnvR S (σ.set i (some v)) (e.set i (.fz d)) F' Z' ∧ (∀ j, F' j ≤ F j) ∧ ∀ j, Z' j ≤ Z j + G j := by
  by_cases z : i < e.length
  · obtain ⟨F1, Z1, F2, Z2, hF, hZ, _, _, _, k3⟩ := r.slot (List.getElem?_eq_getElem z)
    exact ⟨_, _, k3 v d G h, fun j => by have := hF j; omega, fun j => by have := hZ j; show G j + Z2 j ≤ _; omega⟩
  · rw [set_out (by rw [r.len]; omega), set_out (by omega)]
    exact ⟨F, Z, r, fun j => by omega, fun j => by omega⟩
theorem pin_set {σ : St} {i : Nat} {o : Option V} (h : i ∉ P) : Pin P σ (σ.set i o) := fun j hj => List.getElem?_set_ne (by intro z; subst z; exact h hj)
/-- a value of its own into a slot -/
theorem aft_ow {S S' : Sto} {σ : St} {e' : Env} {F Z F' Z' Fd : Ft} {v : V} {d : D} {i : Nat} (hi : i ∉ P) (n : Nx S F Z S' F' Z') (I : EI S' σ e' F' Z') (r : Rp true S' v d Fd) (t : Tg .fr S F Z F' Z' Fd) : Aft P S σ F Z S' (σ.set i (some v)) (e'.set i (.ow d)) := by
  obtain ⟨F2, Z2, r2, hF, hZ⟩ := I.r.setOw i r
  obtain ⟨t1, t2, t3⟩ := t
  refine ⟨F2, Z2, ⟨n.le, n.fr, fun j => by have := hF j; have := t1 j; omega, fun j hj => by have := hF j; have := t2 j hj; omega, fun j hj h => n.zs j hj (by have := hZ j; omega), fun j h => ?_⟩, r2, pin_set hi⟩
  have := hF j
  have := hZ j
  have := t3 j (by omega)
  have := I.dj j (by omega)
  omega
theorem aft_fz {S S' : Sto} {σ : St} {e' : Env} {F Z F' Z' Fd : Ft} {v : V} {d : D} {i : Nat} (hi : i ∉ P) (n : Nx S F Z S' F' Z') (I : EI S' σ e' F' Z') (r : Rp false S' v d Fd) (t : Tg .zn S F Z F' Z' Fd) : Aft P S σ F Z S' (σ.set i (some v)) (e'.set i (.fz d)) := by
  obtain ⟨F2, Z2, r2, hF, hZ⟩ := I.r.setFz i r
  refine ⟨F2, Z2, ⟨n.le, n.fr, fun j => by have := hF j; have := I.nd j; omega, fun j hj => by have := hF j; have := n.sub j hj; omega, fun j hj h => ?_, fun j h => ?_⟩, r2, pin_set hi⟩
  · by_cases z : 0 < Z' j
    · exact n.zs j hj z
    · exact (t j (by have := hZ j; omega)).2 hj
  · have := hF j
    by_cases z : 0 < Z' j
    · have := I.dj j z; omega
    · have := (t j (by have := hZ j; omega)).1; omega
theorem js_set (i : Nat) (h : JE m p) (hi : i ∉ P := by decide) : JS P (mSet i m) (pSet i p) := fun S σ e F Z I => PoS.lift (h S σ e F Z I) fun ⟨d, o⟩ q e' v S' F' Z' hx n I1 ⟨Fd, r, t⟩ k => by
  cases o with
  | fr => exact ⟨_, S', rfl, aft_ow hi n I1 r t⟩
  | zn => exact ⟨_, S', rfl, aft_fz hi n I1 r t⟩
  | an => trivial
def pAug (i : Nat) (o : D → D → Option D) (a : PE) : PS := pSet i (pBin o (pVar i) a)
/-- a, b = e: a tuple of imms, or of frozen ones -/
def setAllD : List Nat → List D → Env → Option Env
  | [], [], e => some e
  | i :: is, d :: ds, e => setAllD is ds (e.set i (.ow d))
  | _, _, _ => none
def setAllZ : List Nat → List D → Env → Option Env
  | [], [], e => some e
  | i :: is, d :: ds, e => setAllZ is ds (e.set i (.fz d))
  | _, _, _ => none
def pSetT (is : List Nat) (a : PE) : PS := fun e => (a e).lift fun x _ e1 => match x.1 with
  | .tup ds => (match x.2 with
    | .fr => (match setAllD is ds e1 with
      | some e2 => .nx e2
      | none => .bad)
    | .zn => (match setAllZ is ds e1 with
      | some e2 => .nx e2
      | none => .bad)
    | .an => .bad)
  | _ => .bad
theorem aft_all {S S' : Sto} {σ0 : St} {F Z : Ft} : ∀ {is : List Nat} {vs : List V} {ds : List D} {σ : St} {e' e2 : Env} {F' Z' Fd : Ft}, (∀ i ∈ is, i ∉ P) → Nx S F Z S' F' Z' → EI S' σ e' F' Z' → Pin P σ0 σ → RpL true S' vs ds Fd → Tg .fr S F Z F' Z' Fd → setAllD is ds e' = some e2 → ∃ σ2, setAll is vs σ = some σ2 ∧ Aft P S σ0 F Z S' σ2 e2
  | [], _, _, σ, e', e2, F', Z', Fd, _, n, I, pn, .nil _, t, h => by cases h; exact ⟨σ, rfl, F', Z', n, I.r, pn⟩
  | [], _, _, _, _, _, _, _, _, _, _, _, _, .cons _ _ _, _, h => by cases h
  | _ :: _, _, _, _, _, _, _, _, _, _, _, _, _, .nil _, _, h => by cases h
  | i :: is, _, _, σ, e', e2, F', Z', Fd, hp, n, I, pn, .cons (F1 := Fa) (F2 := Fb) a b z, t, h => by
    obtain ⟨F2, Z2, r2, hF, hZ⟩ := I.r.setOw i a
    obtain ⟨t1, t2, t3⟩ := t
    have dj := I.dj
    have n2 : Nx S F Z S' F2 Z2 := ⟨n.le, n.fr, fun j => by have := hF j; have := t1 j; have := z j; omega, fun j hj => by have := hF j; have := t2 j hj; have := z j; omega, fun j hj h => n.zs j hj (by have := hZ j; omega), fun j h => by
      have := hF j; have := hZ j; have := t3 j (by omega); have := dj j (by omega); have := z j; omega⟩
    exact aft_all (is := is) (σ := σ.set i (some _)) (Fd := Fb) (fun k hk => hp k (List.mem_cons_of_mem _ hk)) n2 (n2.ei r2) (pn.trans (pin_set (hp i List.mem_cons_self))) b ⟨fun j => by have := hF j; have := t1 j; have := z j; omega, fun j hj => by have := hF j; have := t2 j hj; have := z j; omega, fun j h => by
      have := hZ j; have := t3 j (by omega); have := z j; omega⟩ h
theorem aft_allZ {S S' : Sto} {σ0 : St} {F Z : Ft} : ∀ {is : List Nat} {vs : List V} {ds : List D} {σ : St} {e' e2 : Env} {F' Z' Fd : Ft}, (∀ i ∈ is, i ∉ P) → Nx S F Z S' F' Z' → EI S' σ e' F' Z' → Pin P σ0 σ → RpL false S' vs ds Fd → Tg .zn S F Z F' Z' Fd → setAllZ is ds e' = some e2 → ∃ σ2, setAll is vs σ = some σ2 ∧ Aft P S σ0 F Z S' σ2 e2
  | [], _, _, σ, e', e2, F', Z', Fd, _, n, I, pn, .nil _, t, h => by cases h; exact ⟨σ, rfl, F', Z', n, I.r, pn⟩
  | [], _, _, _, _, _, _, _, _, _, _, _, _, .cons _ _ _, _, h => by cases h
  | _ :: _, _, _, _, _, _, _, _, _, _, _, _, _, .nil _, _, h => by cases h
  | i :: is, _, _, σ, e', e2, F', Z', Fd, hp, n, I, pn, .cons (F1 := Fa) (F2 := Fb) a b z, t, h => by
    have ta : Tg .zn S F Z F' Z' Fa := fun j h => t j (by have := z j; omega)
    obtain ⟨F2, Z2, r2, hF, hZ⟩ := I.r.setFz i a
    have nd := I.nd
    have dj := I.dj
    have n2 : Nx S F Z S' F2 Z2 := ⟨n.le, n.fr, fun j => by have := hF j; have := nd j; omega, fun j hj => by have := hF j; have := n.sub j hj; omega, fun j hj h => by
      by_cases y : 0 < Z' j
      · exact n.zs j hj y
      · exact (ta j (by have := hZ j; omega)).2 hj, fun j h => by
      have := hF j
      by_cases y : 0 < Z' j
      · have := dj j y; omega
      · have := (ta j (by have := hZ j; omega)).1; omega⟩
    exact aft_allZ (is := is) (σ := σ.set i (some _)) (Fd := Fb) (fun k hk => hp k (List.mem_cons_of_mem _ hk)) n2 (n2.ei r2) (pn.trans (pin_set (hp i List.mem_cons_self))) b (fun j h => by
      have := hF j; have := (t j (by have := z j; omega)).1; exact ⟨by omega, (t j (by have := z j; omega)).2⟩) h
theorem js_setT (is : List Nat) (h : JE m p) (hi : ∀ i ∈ is, i ∉ P := by decide) : JS P (mSetT is m) (pSetT is p) := fun S σ e F Z I => PoS.lift (h S σ e F Z I) fun ⟨d, o⟩ q e' v S' F' Z' hx n I1 ⟨Fd, r, t⟩ k => by
  cases d with
  | tup ds =>
    obtain ⟨i, vs, rfl, hT, rT, _⟩ := r.rdT
    rw [hT]
    cases o with
    | fr =>
      show PoS P S σ F Z _ (match setAllD is ds e' with
        | some e2 => .nx e2
        | none => .bad)
      cases hs : setAllD is ds e' with
      | none => trivial
      | some e2 =>
        obtain ⟨σ2, h1, h2⟩ := aft_all hi n I1 .refl rT t hs
        simp only [h1]
        exact ⟨σ2, S', rfl, h2⟩
    | zn =>
      show PoS P S σ F Z _ (match setAllZ is ds e' with
        | some e2 => .nx e2
        | none => .bad)
      cases hs : setAllZ is ds e' with
      | none => trivial
      | some e2 =>
        obtain ⟨σ2, h1, h2⟩ := aft_allZ hi n I1 .refl rT t hs
        simp only [h1]
        exact ⟨σ2, S', rfl, h2⟩
    | an => trivial
  | _ => trivial
end
end Vi
namespace Vi
open PySem PySem.Spec L2 Mi
inductive Plc where
  | sl (i : Nat) | fl (p : Plc) (j : Nat) | ix (p : Plc) (k : Nat) | ky (p : Plc) (k : Key)
def nh : D → Option D
  | .hole => none
  | d => some d
def stF (j : Nat) : D → Option D
  | .ins _ fs => (fs[j]?).bind nh
  | _ => none
def stI (k : Nat) : D → Option D
  | .lst xs => (xs[k]?).bind nh
  | .tup xs => (xs[k]?).bind nh
  | _ => none
def stK (k : Key) : D → Option D
  | .dk kds => (valD kds k).bind nh
  | _ => none
/-- the first of the key -/
def rep1 : List (Key × D) → Key → D → List (Key × D)
  | [], _, _ => []
  | q :: s, k, d => if q.1 = k then (q.1, d) :: s else q :: rep1 s k d
def puF (j : Nat) (x : D) : D → D
  | .ins c fs => .ins c (fs.set j x)
  | d => d
def puI (k : Nat) (x : D) : D → D
  | .lst xs => .lst (xs.set k x)
  | .tup xs => .tup (xs.set k x)
  | d => d
def puK (k : Key) (x : D) : D → D
  | .dk kds => .dk (rep1 kds k x)
  | d => d
/-- what stands at an own place -/
def getPl (e : Env) : Plc → Option D
  | .sl i => match e[i]? with
    | some (.ow d) => some d
    | _ => none
  | .fl p j => (getPl e p).bind (stF j)
  | .ix p k => (getPl e p).bind (stI k)
  | .ky p k => (getPl e p).bind (stK k)
def putPl (e : Env) : Plc → D → Env
  | .sl i, x => e.set i (.ow x)
  | .fl p j, x => match getPl e p with
    | some b => putPl e p (puF j x b)
    | none => e
  | .ix p k, x => match getPl e p with
    | some b => putPl e p (puI k x b)
    | none => e
  | .ky p k, x => match getPl e p with
    | some b => putPl e p (puK k x b)
    | none => e
/-- the value at a place -/
def At (S : Sto) (σ : St) : Plc → V → Prop
  | .sl i, w => σ[i]? = some (some w)
  | .fl p j, w => ∃ i c fs, At S σ p (.ref i) ∧ S[i]? = some (.ins c fs) ∧ fs[j]? = some (some w)
  | .ix p k, w => ∃ i vs, At S σ p (.ref i) ∧ (S[i]? = some (.lst vs) ∨ S[i]? = some (.tup vs)) ∧ vs[k]? = some w
  | .ky p k, w => ∃ i kvs, At S σ p (.ref i) ∧ S[i]? = some (.dK kvs) ∧ valV kvs k = some w
theorem At.fn {S : Sto} {σ : St} : ∀ {p : Plc} {w w' : V}, At S σ p w → At S σ p w' → w = w'
  | .sl i, w, w', h, h' => by
    have h : σ[i]? = some (some w) := h
    have h' : σ[i]? = some (some w') := h'
    rw [h] at h'; cases h'; rfl
  | .fl p j, w, w', ⟨i, c, fs, a, b, d⟩, ⟨i', c', fs', a', b', d'⟩ => by
    cases At.fn a a'; rw [b] at b'; cases b'; rw [d] at d'; cases d'; rfl
  | .ix p k, w, w', ⟨i, vs, a, b, d⟩, ⟨i', vs', a', b', d'⟩ => by
    cases At.fn a a'
    rcases b with b | b <;> rcases b' with b' | b' <;> rw [b] at b' <;> cases b' <;> rw [d] at d' <;> cases d' <;> rfl
  | .ky p k, w, w', ⟨i, kvs, a, b, d⟩, ⟨i', kvs', a', b', d'⟩ => by
    cases At.fn a a'; rw [b] at b'; cases b'; rw [d] at d'; cases d'; rfl
theorem At.pre {S S' : Sto} {σ : St} (q : S <+: S') : ∀ {p : Plc} {w : V}, At S σ p w → At S' σ p w
  | .sl i, w, h => h
  | .fl p j, w, ⟨i, c, fs, a, b, d⟩ => ⟨i, c, fs, At.pre q a, pre_get' b q, d⟩
  | .ix p k, w, ⟨i, vs, a, b, d⟩ => ⟨i, vs, At.pre q a, b.imp (fun b => pre_get' b q) (fun b => pre_get' b q), d⟩
  | .ky p k, w, ⟨i, kvs, a, b, d⟩ => ⟨i, kvs, At.pre q a, pre_get' b q, d⟩
section
variable {S : Sto} {w : Bool}
theorem RpL.zoom : ∀ {vs : List V} {ds : List D} {F : Ft} {j : Nat} {d : D}, RpL true S vs ds F → ds[j]? = some d → ∃ v G R, vs[j]? = some v ∧ Rp true S v d G ∧ (∀ i, F i = G i + R i) ∧ ∀ S' d' G', Kp R S S' → Rp true S' v d' G' → RpL true S' vs (ds.set j d') fun i => G' i + R i
  | _, _, _, _, _, .nil _, h => by simp at h
  | _, _, _, 0, _, .cons (F2 := R) a b z, h => by
    simp at h; subst h
    exact ⟨_, _, R, rfl, a, z, fun S' d' G' kp r => .cons r (b.mono kp) fun _ => rfl⟩
  | _, _, _, j + 1, _, .cons (F1 := A) a b z, h => by
    obtain ⟨v, G, R, h1, h2, h3, h4⟩ := b.zoom (by simpa using h)
    refine ⟨v, G, fun i => A i + R i, by simpa using h1, h2, fun i => by show _ = G i + (A i + R i); rw [z, h3]; omega, fun S' d' G' kp r => ?_⟩
    exact .cons (a.mono (kp.le fun i q => by omega)) (h4 S' d' G' (kp.le fun i q => by show 0 < A i + R i; omega) r) fun i => by show G' i + (A i + R i) = A i + (G' i + R i); omega
theorem RpO.zoom : ∀ {vs : List (Option V)} {ds : List D} {F : Ft} {j : Nat} {d : D}, RpO true S vs ds F → ds[j]? = some d → (∀ h : d = .hole, False) → ∃ v G R, vs[j]? = some (some v) ∧ Rp true S v d G ∧ (∀ i, F i = G i + R i) ∧ ∀ S' d' G', Kp R S S' → Rp true S' v d' G' → RpO true S' vs (ds.set j d') fun i => G' i + R i
  | _, _, _, _, _, .nil _, h, _ => by simp at h
  | _, _, _, 0, _, .cons (F2 := R) a b z, h, _ => by
    simp at h; subst h
    exact ⟨_, _, R, rfl, a, z, fun S' d' G' kp r => .cons r (b.mono kp) fun _ => rfl⟩
  | _, _, _, 0, _, .hole _, h, k => by simp at h; subst h; exact (k rfl).elim
  | _, _, _, j + 1, _, .cons (F1 := A) a b z, h, k => by
    obtain ⟨v, G, R, h1, h2, h3, h4⟩ := b.zoom (by simpa using h) k
    refine ⟨v, G, fun i => A i + R i, by simpa using h1, h2, fun i => by show _ = G i + (A i + R i); rw [z, h3]; omega, fun S' d' G' kp r => ?_⟩
    exact .cons (a.mono (kp.le fun i q => by omega)) (h4 S' d' G' (kp.le fun i q => by show 0 < A i + R i; omega) r) fun i => by show G' i + (A i + R i) = A i + (G' i + R i); omega
  | _, _, _, j + 1, _, .hole b, h, k => by
    obtain ⟨v, G, R, h1, h2, h3, h4⟩ := b.zoom (by simpa using h) k
    exact ⟨v, G, R, by simpa using h1, h2, h3, fun S' d' G' kp r => .hole (h4 S' d' G' kp r)⟩
/-- any field written anew -/
theorem RpO.set : ∀ {vs : List (Option V)} {ds : List D} {F : Ft} (j : Nat) {v : V} {d : D} {G : Ft}, RpO true S vs ds F → Rp true S v d G → ∃ F', RpO true S (vs.set j (some v)) (ds.set j d) F' ∧ ∀ i, F' i ≤ F i + G i
  | _, _, F, j, _, _, _, .nil z, r => ⟨F, .nil z, fun i => by omega⟩
  | _, _, _, 0, _, _, _, .cons a b z, r => ⟨_, .cons r b fun _ => rfl, fun i => by have := z i; omega⟩
  | _, _, _, 0, _, _, _, .hole b, r => ⟨_, .cons r b fun _ => rfl, fun i => by omega⟩
  | _, _, _, j + 1, _, _, _, .cons a b z, r => by
    obtain ⟨F', h, hf⟩ := b.set j r
    exact ⟨_, .cons a h fun _ => rfl, fun i => by have := z i; have := hf i; omega⟩
  | _, _, _, j + 1, _, _, _, .hole b, r => by
    obtain ⟨F', h, hf⟩ := b.set j r
    exact ⟨_, .hole h, hf⟩
theorem RpL.set : ∀ {vs : List V} {ds : List D} {F : Ft} (j : Nat) {v : V} {d : D} {G : Ft}, RpL true S vs ds F → Rp true S v d G → ∃ F', RpL true S (vs.set j v) (ds.set j d) F' ∧ ∀ i, F' i ≤ F i + G i
  | _, _, F, j, _, _, _, .nil z, r => ⟨F, .nil z, fun i => by omega⟩
  | _, _, _, 0, _, _, _, .cons a b z, r => ⟨_, .cons r b fun _ => rfl, fun i => by have := z i; omega⟩
  | _, _, _, j + 1, _, _, _, .cons a b z, r => by
    obtain ⟨F', h, hf⟩ := b.set j r
    exact ⟨_, .cons a h fun _ => rfl, fun i => by have := z i; have := hf i; omega⟩
/-- the first of a key, exchanged -/
theorem RpL.zoomK {k : Key} : ∀ {kvs : List (Key × V)} {kds : List (Key × D)} {F : Ft} {d : D}, kvs.map (·.1) = kds.map (·.1) → RpL true S (kvs.map (·.2)) (kds.map (·.2)) F → valD kds k = some d →
    ∃ v G R, valV kvs k = some v ∧ Rp true S v d G ∧ (∀ i, F i = G i + R i) ∧ ∀ S' d' G', Kp R S S' → Rp true S' v d' G' → RpL true S' (kvs.map (·.2)) ((rep1 kds k d').map (·.2)) fun i => G' i + R i
  | [], [], _, _, _, _, h => by cases h
  | [], _ :: _, _, _, h, _, _ => by cases h
  | _ :: _, [], _, _, h, _, _ => by cases h
  | p :: r, q :: s, F, d, h, g, hd => by
    simp only [List.map_cons, List.cons.injEq] at h
    rw [List.map_cons, List.map_cons] at g
    cases g with
    | @cons _ A B _ _ _ _ a b z =>
      by_cases e : q.1 = k
      · have e' : p.1 = k := h.1.trans e
        have h1 : valD (q :: s) k = some q.2 := by simp [valD, List.find?_cons, e]
        rw [h1] at hd
        cases hd
        refine ⟨p.2, A, B, valV_pos e', a, z, fun S' d' G' kp r => ?_⟩
        unfold rep1
        rw [if_pos e]
        exact .cons r (b.mono kp) fun _ => rfl
      · have e' : ¬ p.1 = k := fun x => e (h.1.symm.trans x)
        have h1 : valD (q :: s) k = valD s k := by simp [valD, List.find?_cons, e]
        rw [h1] at hd
        obtain ⟨v, G, R, h2, h3, h4, h5⟩ := RpL.zoomK (k := k) h.2 b hd
        refine ⟨v, G, fun i => A i + R i, by rw [valV_neg e']; exact h2, h3, fun i => by show _ = G i + (A i + R i); rw [z, h4]; omega, fun S' d' G' kp r => ?_⟩
        unfold rep1
        rw [if_neg e]
        exact .cons (a.mono (kp.le fun i q => by show 0 < A i + R i; omega)) (h5 S' d' G' (kp.le fun i q => by show 0 < A i + R i; omega) r) fun i => by show G' i + (A i + R i) = A i + (G' i + R i); omega
theorem rep1_keys (k : Key) (d : D) : ∀ kds : List (Key × D), (rep1 kds k d).map (·.1) = kds.map (·.1)
  | [] => rfl
  | q :: s => by
    unfold rep1
    split
    · rfl
    · rw [List.map_cons, List.map_cons, rep1_keys k d s]
/-- decided: no key twice -/
def ndB (kds : List (Key × D)) : Bool := decide (kds.map (·.1)).Nodup
theorem RpL.put1 {k : Key} {v : V} {d : D} {G : Ft} (r : Rp true S v d G) : ∀ {kvs : List (Key × V)} {kds : List (Key × D)} {F : Ft}, (kds.map (·.1)).Nodup → kvs.map (·.1) = kds.map (·.1) → RpL true S (kvs.map (·.2)) (kds.map (·.2)) F →
    ∃ F', RpL true S ((kvs.map fun kv => if kv.1 = k then (kv.1, v) else kv).map (·.2)) ((kds.map fun kv => if kv.1 = k then (kv.1, d) else kv).map (·.2)) F' ∧ ∀ i, F' i ≤ F i + G i ∧ (k ∉ kds.map (·.1) → F' i ≤ F i)
  | [], [], F, _, _, g => ⟨F, g, fun i => ⟨by omega, fun _ => Nat.le_refl _⟩⟩
  | [], _ :: _, _, _, h, _ => by cases h
  | _ :: _, [], _, _, h, _ => by cases h
  | p :: l, q :: s, F, nd, h, g => by
    simp only [List.map_cons, List.cons.injEq] at h
    rw [List.map_cons, List.map_cons] at g
    rw [List.map_cons, List.nodup_cons] at nd
    cases g with
    | cons a b z =>
      obtain ⟨F', h1, h2⟩ := RpL.put1 (k := k) r nd.2 h.2 b
      rw [List.map_cons, List.map_cons, List.map_cons, List.map_cons]
      by_cases e : q.1 = k
      · rw [if_pos e, if_pos (h.1.trans e)]
        refine ⟨_, .cons r h1 fun _ => rfl, fun i => ⟨?_, fun y => absurd (by rw [List.map_cons, e]; exact List.mem_cons_self) y⟩⟩
        have := (h2 i).2 (e ▸ nd.1)
        have := z i
        show G i + F' i ≤ _
        omega
      · rw [if_neg e, if_neg (fun y => e (h.1.symm.trans y))]
        refine ⟨_, .cons a h1 fun _ => rfl, fun i => ⟨?_, fun y => ?_⟩⟩
        · have := (h2 i).1
          have := z i
          show _ + F' i ≤ _
          omega
        · have := (h2 i).2 (fun m => y (by rw [List.map_cons]; exact List.mem_cons_of_mem _ m))
          have := z i
          show _ + F' i ≤ _
          omega
theorem RpL.put0 {k : Key} {v : V} {d : D} (r : Rp true S v d fun _ => 0) : ∀ {kvs : List (Key × V)} {kds : List (Key × D)} {F : Ft}, kvs.map (·.1) = kds.map (·.1) → RpL true S (kvs.map (·.2)) (kds.map (·.2)) F →
    ∃ F', RpL true S ((kvs.map fun kv => if kv.1 = k then (kv.1, v) else kv).map (·.2)) ((kds.map fun kv => if kv.1 = k then (kv.1, d) else kv).map (·.2)) F' ∧ ∀ i, F' i ≤ F i
  | [], [], F, _, g => ⟨F, g, fun i => Nat.le_refl _⟩
  | [], _ :: _, _, h, _ => by cases h
  | _ :: _, [], _, h, _ => by cases h
  | p :: l, q :: s, F, h, g => by
    simp only [List.map_cons, List.cons.injEq] at h
    rw [List.map_cons, List.map_cons] at g
    cases g with
    | cons a b z =>
      obtain ⟨F', h1, h2⟩ := RpL.put0 (k := k) r h.2 b
      rw [List.map_cons, List.map_cons, List.map_cons, List.map_cons]
      by_cases e : q.1 = k
      · rw [if_pos e, if_pos (h.1.trans e)]
        refine ⟨_, .cons r h1 fun _ => rfl, fun i => ?_⟩
        have := h2 i
        have := z i
        show 0 + F' i ≤ _
        omega
      · rw [if_neg e, if_neg (fun y => e (h.1.symm.trans y))]
        refine ⟨_, .cons a h1 fun _ => rfl, fun i => ?_⟩
        have := h2 i
        have := z i
        show _ + F' i ≤ _
        omega
end
theorem nh_some {d r : D} (h : nh d = some r) : d = r ∧ (r = .hole → False) := by
  cases d <;> cases h <;> exact ⟨rfl, fun h => nomatch h⟩
theorem put_fl {e : Env} {p : Plc} {j : Nat} {b x : D} (h : getPl e p = some b) : putPl e (.fl p j) x = putPl e p (puF j x b) := by
  rw [putPl, h]
theorem put_ix {e : Env} {p : Plc} {j : Nat} {b x : D} (h : getPl e p = some b) : putPl e (.ix p j) x = putPl e p (puI j x b) := by
  rw [putPl, h]
theorem put_ky {e : Env} {p : Plc} {j : Key} {b x : D} (h : getPl e p = some b) : putPl e (.ky p j) x = putPl e p (puK j x b) := by
  rw [putPl, h]
/-- a place, taken apart: its value, and what another tree in its place makes -/
theorem zoomP {S : Sto} {σ : St} {e : Env} {F Z : Ft} (I : EI S σ e F Z) : ∀ {p : Plc} {d : D}, getPl e p = some d → ∃ w F1 G, (∀ i, F i = F1 i + G i) ∧ Rp true S w d F1 ∧ At S σ p w ∧
    (∀ S' d' F2, Kp (fun i => G i + Z i) S S' → Rp true S' w d' F2 → EnvR S' σ (putPl e p d') (fun i => F2 i + G i) Z) ∧ (∀ S', Kp G S S' → At S' σ p w)
  | .sl i, d, h => by
    unfold getPl at h
    split at h
    · rename_i d' hs
      cases h
      obtain ⟨F1, Z1, F2, Z2, hF, hZ, ⟨z, v, hv, r⟩, k1, k2, k3⟩ := I.r.slot hs
      refine ⟨v, F1, F2, hF, r, hv, fun S' d' G kp r' => ?_, fun _ _ => hv⟩
      have h1 := k1 (some v)
      have kp' : Kp (fun i => F2 i + Z2 i) S S' := kp.le fun j q => by have := hZ j; have := z j; omega
      obtain ⟨Fa, Za, Fb, Zb, hFa, hZa, ⟨za, zb⟩, _, k2', _⟩ := (h1.mono kp').slot (s := .no) (List.getElem?_set_self (List.getElem?_eq_some_iff.mp hs).1)
      have := k2' v d' G r'
      rw [List.set_set, List.set_set, set_self hv] at this
      exact this.congr (fun j => by have := hFa j; have := za j; show G j + F2 j = G j + Fb j; omega) fun j => by have := hZ j; have := z j; have := hZa j; have := zb j; omega
    · cases h
  | .fl p j, d, h => by
    unfold getPl at h
    cases hb : getPl e p with
    | none => rw [hb] at h; cases h
    | some b =>
      rw [hb] at h
      have h : stF j b = some d := h
      obtain ⟨u, F1, G, hF, rb, hat, hk, hka⟩ := zoomP I hb
      cases b with
      | ins c fs =>
        have h : (fs[j]?).bind nh = some d := h
        cases hf : fs[j]? with
        | none => rw [hf] at h; cases h
        | some x =>
          rw [hf] at h
          obtain ⟨rfl, hh⟩ := nh_some h
          cases rb with
          | @ins _ F0 i _ vs _ es ro z =>
            obtain ⟨v, G1, R, h1, h2, h3, h4⟩ := ro.zoom hf hh
            refine ⟨v, G1, fun a => R a + (if a = i then 1 else 0) + G a, fun a => by show _ = _ + (_ + _); rw [hF, z, h3]; omega, h2, ⟨i, c, vs, hat, es, h1⟩, fun S' d' F2 kp r' => ?_, fun S' kp => ?_⟩
            · have e2 : putPl e (.fl p j) d' = putPl e p (.ins c (fs.set j d')) := (put_fl hb).trans rfl
              rw [e2]
              have hi : S'[i]? = some (.ins c vs) := kp i _ es (.inl (by show 0 < R i + (if i = i then 1 else 0) + G i + Z i; rw [if_pos rfl]; omega))
              exact (hk S' _ _ (kp.le fun a q => by show 0 < R a + (if a = i then 1 else 0) + G a + Z a; omega) (.ins hi (h4 S' d' F2 (kp.le fun a q => by show 0 < R a + (if a = i then 1 else 0) + G a + Z a; omega) r') fun _ => rfl)).congr (fun a => by show F2 a + (R a + _ + G a) = F2 a + R a + _ + G a; omega) fun _ => rfl
            · exact ⟨i, c, vs, hka S' (kp.le fun a q => by show 0 < R a + _ + G a; omega), kp i _ es (.inl (by show 0 < R i + (if i = i then 1 else 0) + G i; rw [if_pos rfl]; omega)), h1⟩
      | _ => cases h
  | .ix p k, d, h => by
    unfold getPl at h
    cases hb : getPl e p with
    | none => rw [hb] at h; cases h
    | some b =>
      rw [hb] at h
      have h : stI k b = some d := h
      obtain ⟨u, F1, G, hF, rb, hat, hk, hka⟩ := zoomP I hb
      cases b with
      | lst xs =>
        have h : (xs[k]?).bind nh = some d := h
        cases hf : xs[k]? with
        | none => rw [hf] at h; cases h
        | some x =>
          rw [hf] at h
          obtain ⟨rfl, hh⟩ := nh_some h
          cases rb with
          | @lst _ F0 i vs _ es ro z =>
            have es : S[i]? = some (.lst vs) := es.elim id fun q => by cases q.1
            obtain ⟨v, G1, R, h1, h2, h3, h4⟩ := ro.zoom hf
            refine ⟨v, G1, fun a => R a + (if a = i then 1 else 0) + G a, fun a => by show _ = _ + (_ + _); rw [hF, z, h3]; omega, h2, ⟨i, vs, hat, .inl es, h1⟩, fun S' d' F2 kp r' => ?_, fun S' kp => ?_⟩
            · have e2 : putPl e (.ix p k) d' = putPl e p (.lst (xs.set k d')) := (put_ix hb).trans rfl
              rw [e2]
              have hi : S'[i]? = some (.lst vs) := kp i _ es (.inl (by show 0 < R i + (if i = i then 1 else 0) + G i + Z i; rw [if_pos rfl]; omega))
              exact (hk S' _ _ (kp.le fun a q => by show 0 < R a + (if a = i then 1 else 0) + G a + Z a; omega) (.lst (.inl hi) (h4 S' d' F2 (kp.le fun a q => by show 0 < R a + (if a = i then 1 else 0) + G a + Z a; omega) r') fun _ => rfl)).congr (fun a => by show F2 a + (R a + _ + G a) = F2 a + R a + _ + G a; omega) fun _ => rfl
            · exact ⟨i, vs, hka S' (kp.le fun a q => by show 0 < R a + _ + G a; omega), .inl (kp i _ es (.inl (by show 0 < R i + (if i = i then 1 else 0) + G i; rw [if_pos rfl]; omega))), h1⟩
      | tup xs =>
        have h : (xs[k]?).bind nh = some d := h
        cases hf : xs[k]? with
        | none => rw [hf] at h; cases h
        | some x =>
          rw [hf] at h
          obtain ⟨rfl, hh⟩ := nh_some h
          cases rb with
          | @tup _ i vs _ es ro =>
            obtain ⟨v, G1, R, h1, h2, h3, h4⟩ := ro.zoom hf
            refine ⟨v, G1, fun a => R a + G a, fun a => by show _ = _ + (_ + _); rw [hF, h3]; omega, h2, ⟨i, vs, hat, .inr es, h1⟩, fun S' d' F2 kp r' => ?_, fun S' kp => ?_⟩
            · have e2 : putPl e (.ix p k) d' = putPl e p (.tup (xs.set k d')) := (put_ix hb).trans rfl
              rw [e2]
              have hi : S'[i]? = some (.tup vs) := kp i _ es (.inr (by exact id))
              exact (hk S' _ _ (kp.le fun a q => by show 0 < R a + G a + Z a; omega) (.tup hi (h4 S' d' F2 (kp.le fun a q => by show 0 < R a + G a + Z a; omega) r'))).congr (fun a => by show F2 a + (R a + G a) = F2 a + R a + G a; omega) fun _ => rfl
            · exact ⟨i, vs, hka S' (kp.le fun a q => by show 0 < R a + G a; omega), .inr (kp i _ es (.inr (by exact id))), h1⟩
      | _ => cases h
  | .ky p k, d, h => by
    unfold getPl at h
    cases hb : getPl e p with
    | none => rw [hb] at h; cases h
    | some b =>
      rw [hb] at h
      have h : stK k b = some d := h
      obtain ⟨u, F1, G, hF, rb, hat, hk, hka⟩ := zoomP I hb
      cases b with
      | dk kds =>
        have h : (valD kds k).bind nh = some d := h
        cases hf : valD kds k with
        | none => rw [hf] at h; cases h
        | some x =>
          rw [hf] at h
          obtain ⟨rfl, hh⟩ := nh_some h
          cases rb with
          | @dk _ F0 i kvs _ es hks ro z =>
            have es : S[i]? = some (.dK kvs) := es.elim id fun q => by cases q.1
            obtain ⟨v, G1, R, h1, h2, h3, h4⟩ := ro.zoomK hks hf
            refine ⟨v, G1, fun a => R a + (if a = i then 1 else 0) + G a, fun a => by show _ = _ + (_ + _); rw [hF, z, h3]; omega, h2, ⟨i, kvs, hat, es, h1⟩, fun S' d' F2 kp r' => ?_, fun S' kp => ?_⟩
            · have e2 : putPl e (.ky p k) d' = putPl e p (.dk (rep1 kds k d')) := (put_ky hb).trans rfl
              rw [e2]
              have hi : S'[i]? = some (.dK kvs) := kp i _ es (.inl (by show 0 < R i + (if i = i then 1 else 0) + G i + Z i; rw [if_pos rfl]; omega))
              exact (hk S' _ _ (kp.le fun a q => by show 0 < R a + (if a = i then 1 else 0) + G a + Z a; omega) (.dk (.inl hi) (hks.trans (rep1_keys k d' kds).symm) (h4 S' d' F2 (kp.le fun a q => by show 0 < R a + (if a = i then 1 else 0) + G a + Z a; omega) r') fun _ => rfl)).congr (fun a => by show F2 a + (R a + _ + G a) = F2 a + R a + _ + G a; omega) fun _ => rfl
            · exact ⟨i, kvs, hka S' (kp.le fun a q => by show 0 < R a + _ + G a; omega), kp i _ es (.inl (by show 0 < R i + (if i = i then 1 else 0) + G i; rw [if_pos rfl]; omega)), h1⟩
      | _ => cases h
end Vi
namespace Vi
open PySem PySem.Spec L2 Mi
def JPl (m : ME) (pl : Env → Option Plc) : Prop := ∀ (S : Sto) (σ : St) (e : Env) (F Z : Ft), EI S σ e F Z → ∀ P, pl e = some P → ∃ w S', m σ S = .ok w S' ∧ S <+: S' ∧ At S' σ P w ∧ (getPl e P).isSome = true
def plVar (i : Nat) : Env → Option Plc := fun e => match e[i]? with
  | some (.ow _) => some (.sl i)
  | _ => none
theorem jpl_var (i : Nat) : JPl (mVar i) (plVar i) := by
  intro S σ e F Z I P h
  unfold plVar at h
  split at h
  · rename_i d hs
    cases h
    obtain ⟨F1, Z1, F2, Z2, hF, hZ, ⟨z, v, hv, r⟩, _⟩ := I.r.slot hs
    exact ⟨v, S, mVar_of hv, List.prefix_refl _, hv, by simp [getPl, hs]⟩
  · cases h
def okPl (e : Env) (P : Plc) : Option Plc := if (getPl e P).isSome = true then some P else none
def plFld (tab : List (Nat × Nat)) (pl : Env → Option Plc) : Env → Option Plc := fun e => (pl e).bind fun P => match getPl e P with
  | some (.ins c _) => (look tab c).bind fun j => okPl e (.fl P j)
  | _ => none
theorem EI.pre {S S' : Sto} {σ : St} {e : Env} {F Z : Ft} (I : EI S σ e F Z) (p : S <+: S') : EI S' σ e F Z := ⟨I.r.mono (.pre p), I.nd, I.dj⟩
section
variable {m mi : ME} {pl : Env → Option Plc} {pi : PE}
/-- an item of a list or tuple -/
def plIx (pl : Env → Option Plc) (pi : PE) : Env → Option Plc := fun e => (pl e).bind fun P => match pi e with
  | .ok (.int k, _) true _ => (match getPl e P with
    | some (.lst xs) => (ixN xs.length k).bind fun j => okPl e (.ix P j)
    | some (.tup xs) => (ixN xs.length k).bind fun j => okPl e (.ix P j)
    | _ => none)
  | _ => none
def plKy (pl : Env → Option Plc) (pi : PE) : Env → Option Plc := fun e => (pl e).bind fun P => match pi e with
  | .ok (d, _) true _ => (match getPl e P with
    | some (.dk _) => (keyD d).bind fun k => okPl e (.ky P k)
    | _ => none)
  | _ => none
def plSub (pl : Env → Option Plc) (pi : PE) : Env → Option Plc := fun e => match plIx pl pi e with
  | some P => some P
  | none => plKy pl pi e
end
/-- a change of one object: its tree, what is told; the arguments are its own -/
def JM (o : Mth) (p : D → List D → Option (D × D)) : Prop := ∀ S x xs d ds F1 T, Rp true S x d F1 → RpL true S xs ds T → (∀ i, F1 i + T i ≤ 1) → ∀ d' r, p d ds = some (d', r) →
  ∃ v S' F2 Fr', o x xs S = .ok v S' ∧ S.length ≤ S'.length ∧ Fr F1 S S' ∧ Rp true S' x d' F2 ∧ Rp true S' v r Fr' ∧ ∀ i, F2 i + Fr' i ≤ F1 i + T i
def isL : D → Bool
  | .lst _ => true
  | _ => false
def isK : D → Bool
  | .dk _ => true
  | _ => false
theorem ty_isL {S : Sto} {x : V} {d : D} {F : Ft} (r : Rp true S x d F) (h : isL d = true) : tyS "list" S x = true ∧ tyS "dict" S x = false := by
  cases r <;> first | (rename_i e _ _; rcases e with e | e <;> first | exact ⟨by simp only [tyS, e]; decide, by simp only [tyS, e]; decide⟩ | cases e.1) | cases h
theorem ty_isK {S : Sto} {x : V} {d : D} {F : Ft} (r : Rp true S x d F) (h : isK d = true) : tyS "dict" S x = true ∧ tyS "list" S x = false := by
  cases r <;> first | (rename_i e _ _ _; rcases e with e | e <;> first | exact ⟨by simp only [tyS, e]; decide, by simp only [tyS, e]; decide⟩ | cases e.1) | cases h
def doBM (p : D → List D → Option (D × D)) (P : Plc) (d : D) (a : PA) : PE := fun e => (a e).bind fun ds q e1 => if (q && allFr ds) = true then (match p d (ds.map (·.1)) with
  | some (d', r) => .ok (r, .fr) false (putPl e P d')
  | none => .bad) else .bad
def pBM (ty : D → Bool) (p : D → List D → Option (D × D)) (pl : Env → Option Plc) (a : PA) : PE := fun e => match pl e with
  | none => .bad
  | some P => match getPl e P with
    | none => .bad
    | some d => if ty d = true then doBM p P d a e else .bad
/-- of a list one way, of a dict another -/
def pBM2 (p p' : D → List D → Option (D × D)) (pl : Env → Option Plc) (a : PA) : PE := fun e => match pl e with
  | none => .bad
  | some P => match getPl e P with
    | none => .bad
    | some d => if isL d = true then doBM p P d a e else if isK d = true then doBM p' P d a e else .bad
section
variable {m : ME} {pl : Env → Option Plc} {ms : MA} {ps : PA} {o o' : Mth} {p p' : D → List D → Option (D × D)}
theorem qq_true {α : Type} (x : X α) : x.qq true = x := by cases x <;> rfl
theorem do_bm {S S1 : Sto} {σ : St} {e : Env} {F Z : Ft} {P : Plc} {d : D} {w : V} (I : EI S σ e F Z) (hpre : S <+: S1) (hat : At S1 σ P w) (hd : getPl e P = some d) (hJ : JM o p) (ha : JA ms ps) : Po RlE S σ e F Z ((ms σ S1).bind fun xs S2 => o w xs S2) (doBM p P d ps e) := by
  have I1 := I.pre hpre
  have n1 : Nx S F Z S1 F Z := nx_pre I hpre
  suffices h : Po RlE S1 σ e F Z ((ms σ S1).bind fun xs S2 => o w xs S2) (doBM p P d ps e) by
    have := h.after trs_e n1 (q := true) fun _ => ⟨rfl, hpre, fun _ => rfl, fun _ => rfl⟩
    rwa [qq_true] at this
  refine Po.bind (ha S1 σ e F Z I1) fun ds q e1 xs S2 F2 Z2 hx n2 I2 ⟨T, av, t1, t2, t3⟩ k => ?_
  split
  · rename_i hz
    rw [Bool.and_eq_true] at hz
    have qt := k hz.1
    split
    · rename_i d' r hp
      have I3 := I1.pre qt.p
      obtain ⟨w2, F1, G, hF, r1, hat2, hk, _⟩ := zoomP I3 hd
      cases (hat.pre qt.p).fn hat2
      have ft : ∀ i, F i + T i ≤ 1 := fun i => by have := t1 i; rw [qt.f i] at this; exact this
      have t0 : ∀ i, i < S1.length → T i = 0 := fun i hi => by have := t2 i hi; rw [qt.f i] at this; omega
      have tz : ∀ i, 0 < Z i → T i = 0 := fun i hi => t3 i (by rw [qt.z i]; exact hi)
      obtain ⟨v, S3, F3, Fr', hr, hle, hfr, rd, rv, hs⟩ := hJ S2 w xs d _ F1 T r1 (av.own hz.2) (fun i => by have := ft i; have := hF i; omega) d' r hp
      have dj := I.dj
      have er := hk S3 d' F3 (Kp.of_fr hfr (fun i hi => by
        have h1 := hF i
        have h2 := ft i
        by_cases z : 0 < Z i
        · have := dj i z; omega
        · omega) r1.dom) rd
      refine ⟨v, S3, _, Z, hr, ⟨Nat.le_trans n2.le hle, fun i ob h1 h2 => hfr i ob (qt.p.length_le |> fun _ => pre_get' h1 qt.p) (by have := hF i; omega), fun i => ?_, fun i hi => ?_, fun i _ h => h, fun i h => ?_⟩, er, ⟨Fr', rv, fun i => ?_, fun i hi => ?_, fun i h => ?_⟩, fun h => by cases h⟩
      · show F3 i + G i ≤ 1
        have := hs i; have := hF i; have := ft i; omega
      · show F3 i + G i ≤ F i
        have := hs i; have := hF i; have := t0 i hi; omega
      · show F3 i + G i = 0
        have := hs i; have := hF i; have := tz i h; have := dj i h; omega
      · show F3 i + G i + Fr' i ≤ 1
        have := hs i; have := hF i; have := ft i; omega
      · show F3 i + G i + Fr' i ≤ F i
        have := hs i; have := hF i; have := t0 i hi; omega
      · have := hs i; have := hF i; have := tz i h; have := dj i h; omega
    · trivial
  · trivial
theorem je_bm {Ty : String} {ty : D → Bool} (hty : ∀ S x d F, Rp true S x d F → ty d = true → tyS Ty S x = true) (hJ : JM o p) (hp : JPl m pl) (ha : JA ms ps) : JE (mBM Ty o m ms) (pBM ty p pl ps) := by
  intro S σ e F Z I
  unfold pBM
  cases hP : pl e with
  | none => trivial
  | some P =>
    obtain ⟨w, S1, hm, hpre, hat, hsome⟩ := hp S σ e F Z I P hP
    obtain ⟨d, hd⟩ := Option.isSome_iff_exists.mp hsome
    simp only [hd]
    by_cases z : ty d = true
    · rw [if_pos z]
      obtain ⟨w2, F1, G, hF, r1, hat2, hk, _⟩ := zoomP (I.pre hpre) hd
      cases hat.fn hat2
      rw [mBM_ap, hm, bind_ok, if_pos (hty _ _ _ _ r1 z)]
      exact do_bm I hpre hat hd hJ ha
    · rw [if_neg z]; trivial
theorem je_bmL (hJ : JM o p) (hp : JPl m pl) (ha : JA ms ps) : JE (mBM "list" o m ms) (pBM isL p pl ps) := je_bm (fun _ _ _ _ r h => (ty_isL r h).1) hJ hp ha
theorem je_bm2 (hJ : JM o p) (hJ' : JM o' p') (hp : JPl m pl) (ha : JA ms ps) : JE (mAlt (mBM "list" o m ms) (mBM "dict" o' m ms)) (pBM2 p p' pl ps) := by
  intro S σ e F Z I
  unfold pBM2
  cases hP : pl e with
  | none => trivial
  | some P =>
    obtain ⟨w, S1, hm, hpre, hat, hsome⟩ := hp S σ e F Z I P hP
    obtain ⟨d, hd⟩ := Option.isSome_iff_exists.mp hsome
    simp only [hd]
    obtain ⟨w2, F1, G, hF, r1, hat2, hk, _⟩ := zoomP (I.pre hpre) hd
    cases hat.fn hat2
    unfold mAlt
    rw [mBM_ap, mBM_ap, hm, bind_ok, bind_ok]
    by_cases z : isL d = true
    · rw [if_pos z, if_pos (ty_isL r1 z).1, if_neg (by rw [(ty_isL r1 z).2]; decide)]
      have h := do_bm I hpre hat hd hJ ha
      cases hx : doBM p P d ps e with
      | bad => trivial
      | ok a q e1 => rw [hx] at h; obtain ⟨v, S', F', Z', hr, rest⟩ := h; rw [hr]; exact ⟨v, S', F', Z', rfl, rest⟩
      | exc c x e1 => rw [hx] at h; obtain ⟨S', F', Z', hr, rest⟩ := h; rw [hr]; exact ⟨S', F', Z', rfl, rest⟩
    · rw [if_neg z]
      by_cases z2 : isK d = true
      · rw [if_pos z2, if_neg (by rw [(ty_isK r1 z2).2]; decide), if_pos (ty_isK r1 z2).1]
        exact do_bm I hpre hat hd hJ' ha
      · rw [if_neg z2]; trivial
end
def mAppend : D → List D → Option (D × D)
  | .lst xs, [y] => if xs.length < sizeLine then some (.lst (xs ++ [y]), .non) else none
  | _, _ => none
def mExtend : D → List D → Option (D × D)
  | .lst xs, [.lst ys] => if xs.length + ys.length ≤ sizeLine then some (.lst (xs ++ ys), .non) else none
  | _, _ => none
def mPop : D → List D → Option (D × D)
  | .lst xs, [] => (xs[xs.length - 1]?).map fun y => (.lst xs.dropLast, y)
  | .lst xs, [.int k] => if -(2 ^ 63) ≤ k ∧ k < 2 ^ 63 then (seqIndex? k xs.length).bind fun j => (xs[j]?).map fun y => (.lst (xs.eraseIdx j), y) else none
  | _, _ => none
def mInsert : D → List D → Option (D × D)
  | .lst xs, [.int k, y] => if xs.length < sizeLine ∧ 0 ≤ k ∧ k < 2 ^ 63 then some (.lst (xs.take k.toNat ++ [y] ++ xs.drop k.toNat), .non) else none
  | _, _ => none
def mDPop : D → List D → Option (D × D)
  | .dk kds, [y] => (keyD y).bind fun k => (valD kds k).bind fun v => if (imm v || ndB kds) = true then some (.dk (dropD kds k), v) else none
  | .dk kds, [y, z] => (keyD y).bind fun k => match valD kds k with
    | some v => if (imm v || ndB kds) = true then some (.dk (dropD kds k), v) else none
    | none => some (.dk kds, z)
  | _, _ => none
theorem Rp.lstT {S : Sto} {x : V} {xs : List D} {F : Ft} (r : Rp true S x (.lst xs) F) : ∃ i vs F1, x = .ref i ∧ S[i]? = some (.lst vs) ∧ RpL true S vs xs F1 ∧ ∀ j, F j = F1 j + if j = i then 1 else 0 := by
  cases r with
  | lst e r z => exact ⟨_, _, _, rfl, e.elim id fun q => (by cases q.1), r, z⟩
theorem onLst_ap {S : Sto} {i : Nat} {vs : List V} {f : Nat → List V → R V} (h : S[i]? = some (.lst vs)) : onLst (.ref i) S f = f i vs := by
  simp only [onLst, h]
/-- a list written anew -/
theorem lst_set {S : Sto} {i : Nat} {vs us : List V} {ds : List D} {F F1 T : Ft} {v : V} {r : D} {Fv G : Ft} (es : S[i]? = some (.lst vs)) (z : ∀ j, F j = F1 j + if j = i then 1 else 0) (h1 : ∀ j, F j + T j ≤ 1) (ru : RpL true S us ds G) (rv : Rp true S v r Fv) (hs : ∀ j, G j + Fv j ≤ F1 j + T j) :
    ∃ w S' F2 Fr', (R.ok v (S.set i (.lst us)) : R V) = .ok w S' ∧ S.length ≤ S'.length ∧ Fr F S S' ∧ Rp true S' (.ref i) (.lst ds) F2 ∧ Rp true S' w r Fr' ∧ ∀ j, F2 j + Fr' j ≤ F j + T j := by
  have hi := (List.getElem?_eq_some_iff.mp es).1
  have gi : G i = 0 ∧ Fv i = 0 := by have := hs i; have := h1 i; have := z i; rw [if_pos rfl] at this; omega
  have kp : ∀ {A : Ft}, (A i = 0) → Kp A S (S.set i (.lst us)) := fun {A} ha b o e k => by
    by_cases y : b = i
    · subst y
      rw [es] at e
      cases e
      exact k.elim (fun q => by omega) fun q => (q trivial).elim
    · rw [List.getElem?_set_ne (Ne.symm y)]; exact e
  refine ⟨v, _, fun j => G j + if j = i then 1 else 0, Fv, rfl, by rw [List.length_set]; exact Nat.le_refl _, fun b o e k => ?_, .lst (.inl (List.getElem?_set_self hi)) (ru.mono (kp gi.1)) fun _ => rfl, rv.mono (kp gi.2), fun j => ?_⟩
  · have : b ≠ i := fun y => by subst y; have := z b; rw [if_pos rfl] at this; omega
    rw [List.getElem?_set_ne (Ne.symm this)]; exact e
  · have := hs j; have := z j
    show G j + (if j = i then 1 else 0) + Fv j ≤ F j + T j
    omega
theorem non_rp {S : Sto} {w : Bool} : Rp w S .non .non fun _ => 0 := .non fun _ => rfl
theorem RpL.one' {S : Sto} {w : Bool} {vs : List V} {d : D} {G : Ft} (g : RpL w S vs [d] G) : ∃ v F, vs = [v] ∧ Rp w S v d F ∧ ∀ i, F i ≤ G i := by
  cases g with
  | cons a b z => cases b; exact ⟨_, _, rfl, a, fun i => by have := z i; omega⟩
theorem RpL.snoc {S : Sto} {w : Bool} : ∀ {vs : List V} {ds : List D} {F : Ft} {d : D}, RpL w S vs ds F → ds[ds.length - 1]? = some d → ∃ v G R, vs[vs.length - 1]? = some v ∧ Rp w S v d G ∧ RpL w S vs.dropLast ds.dropLast R ∧ ∀ i, G i + R i = F i
  | _, _, _, _, .nil _, h => by simp at h
  | [v], [d], F, _, .cons (F1 := A) (F2 := B) a b z, h => by
    cases b with
    | nil zb =>
      simp at h; subst h
      exact ⟨v, A, fun _ => 0, rfl, a, .nil fun _ => rfl, fun i => by have := z i; have := zb i; show A i + 0 = _; omega⟩
  | v :: v2 :: vs, d :: d2 :: ds, F, x, .cons (F1 := A) (F2 := B) a b z, h => by
    obtain ⟨u, G, R, h1, h2, h3, h4⟩ := RpL.snoc (d := x) b (by simpa using h)
    refine ⟨u, G, fun i => A i + R i, by simpa using h1, h2, ?_, fun i => by have := z i; have := h4 i; show G i + (A i + R i) = _; omega⟩
    show RpL w S (v :: (v2 :: vs).dropLast) (d :: (d2 :: ds).dropLast) _
    exact .cons a h3 fun _ => rfl
  | [_], _ :: _ :: _, _, _, .cons _ b _, _ => by cases b
  | _ :: _ :: _, [_], _, _, .cons _ b _, _ => by cases b
theorem RpL.erase {S : Sto} {w : Bool} : ∀ {vs : List V} {ds : List D} {F : Ft} (j : Nat) {d : D}, RpL w S vs ds F → ds[j]? = some d → ∃ v G R, vs[j]? = some v ∧ Rp w S v d G ∧ RpL w S (vs.eraseIdx j) (ds.eraseIdx j) R ∧ ∀ i, G i + R i = F i
  | _, _, _, _, _, .nil _, h => by simp at h
  | _, _, _, 0, _, .cons a b z, h => by simp at h; subst h; exact ⟨_, _, _, rfl, a, b, fun i => (z i).symm⟩
  | _, _, _, j + 1, _, .cons (F1 := A) a b z, h => by
    obtain ⟨v, G, R, h1, h2, h3, h4⟩ := b.erase j (by simpa using h)
    exact ⟨v, G, fun i => A i + R i, by simpa using h1, h2, .cons a h3 fun _ => rfl, fun i => by have := z i; have := h4 i; show G i + (A i + R i) = _; omega⟩
theorem RpL.split {S : Sto} {w : Bool} : ∀ {vs : List V} {ds : List D} {F : Ft} (n : Nat), RpL w S vs ds F → ∃ A B, RpL w S (vs.take n) (ds.take n) A ∧ RpL w S (vs.drop n) (ds.drop n) B ∧ ∀ i, A i + B i = F i
  | _, _, F, 0, r => ⟨fun _ => 0, F, by simp; exact .nil fun _ => rfl, r, fun i => by show 0 + F i = F i; omega⟩
  | _, _, F, _ + 1, .nil z => ⟨F, F, by simp; exact .nil z, by simp; exact .nil z, fun i => by rw [z i]⟩
  | _, _, F, n + 1, .cons (F1 := C) a b z => by
    obtain ⟨A, B, h1, h2, h3⟩ := b.split n
    exact ⟨fun i => C i + A i, B, .cons a h1 fun _ => rfl, h2, fun i => by have := z i; have := h3 i; show C i + A i + B i = _; omega⟩
theorem RpL.rev {S : Sto} {w : Bool} : ∀ {vs : List V} {ds : List D} {F : Ft}, RpL w S vs ds F → ∃ G, RpL w S vs.reverse ds.reverse G ∧ ∀ i, G i = F i
  | _, _, F, .nil z => ⟨F, .nil z, fun _ => rfl⟩
  | _, _, F, .cons (F1 := A) a b z => by
    obtain ⟨G, g, hg⟩ := b.rev
    rw [List.reverse_cons, List.reverse_cons]
    exact ⟨_, g.app (.cons a (.nil (F := fun _ => 0) fun _ => rfl) fun _ => rfl), fun i => by have := z i; have := hg i; show G i + (A i + 0) = _; omega⟩
theorem jm_append : JM oAppend mAppend := fun S x xs d ds F1 T r rs hf d' y hp => by
  unfold mAppend at hp
  split at hp
  · rename_i us u
    split at hp
    · rename_i hz
      cases hp
      obtain ⟨i, vs, A, rfl, es, ra, z⟩ := r.lstT
      obtain ⟨v, B, rfl, rb, hb⟩ := rs.one'
      simp only [oAppend, onLst_ap es]
      rw [ra.len, if_pos hz]
      exact lst_set es z hf (ra.app (.cons rb (.nil (F := fun _ => 0) fun _ => rfl) fun _ => rfl)) non_rp fun j => by have := hb j; show A j + (B j + 0) + 0 ≤ _; omega
    · cases hp
  · cases hp
theorem jm_extend : JM oExtend mExtend := fun S x xs d ds F1 T r rs hf d' y hp => by
  unfold mExtend at hp
  split at hp
  · rename_i us ys
    split at hp
    · rename_i hz
      cases hp
      obtain ⟨i, vs, A, rfl, es, ra, z⟩ := r.lstT
      obtain ⟨v, B, rfl, rb, hb⟩ := rs.one'
      obtain ⟨j, ws, C, rfl, es2, rc, z2⟩ := rb.lstT
      simp only [oExtend, onLst_ap es, es2]
      rw [ra.len, rc.len, if_pos hz]
      exact lst_set es z hf (ra.app rc) non_rp fun k => by have := hb k; have := z2 k; show A k + C k + 0 ≤ _; omega
    · cases hp
  · cases hp
theorem jm_pop : JM oPop mPop := fun S x xs d ds F1 T r rs hf d' y hp => by
  unfold mPop at hp
  split at hp
  · rename_i us
    cases q : us[us.length - 1]? with
    | none => rw [q] at hp; cases hp
    | some u =>
      rw [q] at hp
      cases hp
      obtain ⟨i, vs, A, rfl, es, ra, z⟩ := r.lstT
      cases rs
      obtain ⟨v, G, R, h1, h2, h3, h4⟩ := ra.snoc q
      simp only [oPop, onLst_ap es, h1]
      exact lst_set es z hf h3 h2 fun j => by have := h4 j; omega
  · rename_i us k
    split at hp
    · rename_i hz
      cases q : seqIndex? k us.length with
      | none => rw [q] at hp; cases hp
      | some j =>
        rw [q] at hp
        simp only [Option.bind_some] at hp
        cases q2 : us[j]? with
        | none => rw [q2] at hp; cases hp
        | some u =>
          rw [q2] at hp
          cases hp
          obtain ⟨i, vs, A, rfl, es, ra, z⟩ := r.lstT
          obtain ⟨v0, B, rfl, rb, hb⟩ := rs.one'
          rw [rb.inv_int]
          obtain ⟨v, G, R, h1, h2, h3, h4⟩ := ra.erase j q2
          simp only [oPop, onLst_ap es]
          rw [if_pos hz, ra.len, q]
          simp only [h1]
          exact lst_set es z hf h3 h2 fun j => by have := h4 j; omega
    · cases hp
  · cases hp
theorem jm_insert : JM oInsert mInsert := fun S x xs d ds F1 T r rs hf d' y hp => by
  unfold mInsert at hp
  split at hp
  · rename_i us k u
    split at hp
    · rename_i hz
      cases hp
      obtain ⟨i, vs, A, rfl, es, ra, z⟩ := r.lstT
      cases rs with
      | @cons _ Fk Fu _ _ _ _ rk ru zz =>
        obtain ⟨v, B, rfl, rb, hb⟩ := ru.one'
        rw [rk.inv_int]
        obtain ⟨C, E, h1, h2, h3⟩ := ra.split k.toNat
        simp only [oInsert, onLst_ap es]
        rw [ra.len, if_pos hz]
        exact lst_set es z hf ((h1.app (.cons rb (.nil (F := fun _ => 0) fun _ => rfl) fun _ => rfl)).app h2) non_rp fun j => by have := hb j; have := h3 j; have := zz j; show C j + (B j + 0) + E j + 0 ≤ _; omega
    · cases hp
  · cases hp
theorem Rp.dkT {S : Sto} {x : V} {kds : List (Key × D)} {F : Ft} (r : Rp true S x (.dk kds) F) : ∃ i kvs F1, x = .ref i ∧ S[i]? = some (.dK kvs) ∧ kvs.map (·.1) = kds.map (·.1) ∧ RpL true S (kvs.map (·.2)) (kds.map (·.2)) F1 ∧ ∀ j, F j = F1 j + if j = i then 1 else 0 := by
  cases r with
  | dk e k r z => exact ⟨_, _, _, rfl, e.elim id fun q => (by cases q.1), k, r, z⟩
theorem dk_set {S : Sto} {i : Nat} {kvs kus : List (Key × V)} {kds : List (Key × D)} {F F1 T : Ft} {v : V} {r : D} {Fv G : Ft} (es : S[i]? = some (.dK kvs)) (z : ∀ j, F j = F1 j + if j = i then 1 else 0) (h1 : ∀ j, F j + T j ≤ 1) (hk : kus.map (·.1) = kds.map (·.1)) (ru : RpL true S (kus.map (·.2)) (kds.map (·.2)) G) (rv : Rp true S v r Fv) (hs : ∀ j, G j + Fv j ≤ F1 j + T j) :
    ∃ w S' F2 Fr', (R.ok v (S.set i (.dK kus)) : R V) = .ok w S' ∧ S.length ≤ S'.length ∧ Fr F S S' ∧ Rp true S' (.ref i) (.dk kds) F2 ∧ Rp true S' w r Fr' ∧ ∀ j, F2 j + Fr' j ≤ F j + T j := by
  have hi := (List.getElem?_eq_some_iff.mp es).1
  have gi : G i = 0 ∧ Fv i = 0 := by have := hs i; have := h1 i; have := z i; rw [if_pos rfl] at this; omega
  have kp : ∀ {A : Ft}, (A i = 0) → Kp A S (S.set i (.dK kus)) := fun {A} ha b o e k => by
    by_cases y : b = i
    · subst y
      rw [es] at e
      cases e
      exact k.elim (fun q => by omega) fun q => (q trivial).elim
    · rw [List.getElem?_set_ne (Ne.symm y)]; exact e
  refine ⟨v, _, fun j => G j + if j = i then 1 else 0, Fv, rfl, by rw [List.length_set]; exact Nat.le_refl _, fun b o e k => ?_, .dk (.inl (List.getElem?_set_self hi)) hk (ru.mono (kp gi.1)) fun _ => rfl, rv.mono (kp gi.2), fun j => ?_⟩
  · have : b ≠ i := fun y => by subst y; have := z b; rw [if_pos rfl] at this; omega
    rw [List.getElem?_set_ne (Ne.symm this)]; exact e
  · have := hs j; have := z j
    show G j + (if j = i then 1 else 0) + Fv j ≤ F j + T j
    omega
theorem drop_keys {k : Key} : ∀ {kvs : List (Key × V)} {kds : List (Key × D)}, kvs.map (·.1) = kds.map (·.1) → (dropK kvs k).map (·.1) = (dropD kds k).map (·.1)
  | [], [], _ => rfl
  | [], _ :: _, h => by cases h
  | _ :: _, [], h => by cases h
  | p :: r, q :: s, h => by
    simp only [List.map_cons, List.cons.injEq] at h
    have ih := drop_keys (k := k) h.2
    unfold dropK dropD at ih ⊢
    by_cases e : q.1 = k
    · rw [List.filter_cons_of_neg (by simp [h.1.trans e]), List.filter_cons_of_neg (by simp [e])]; exact ih
    · rw [List.filter_cons_of_pos (by simp [h.1]; exact e), List.filter_cons_of_pos (by simp [e]), List.map_cons, List.map_cons, ih, h.1]
/-- a key's value taken out -/
theorem RpL.dropK {S : Sto} {k : Key} : ∀ {kvs : List (Key × V)} {kds : List (Key × D)} {F : Ft}, kvs.map (·.1) = kds.map (·.1) → RpL true S (kvs.map (·.2)) (kds.map (·.2)) F → ∃ R, RpL true S ((L2.dropK kvs k).map (·.2)) ((dropD kds k).map (·.2)) R ∧ ∀ i, R i ≤ F i
  | [], [], F, _, g => ⟨F, g, fun _ => Nat.le_refl _⟩
  | [], _ :: _, _, h, _ => by cases h
  | _ :: _, [], _, h, _ => by cases h
  | p :: r, q :: s, F, h, g => by
    simp only [List.map_cons, List.cons.injEq] at h
    rw [List.map_cons, List.map_cons] at g
    cases g with
    | cons a b z =>
      obtain ⟨R, h1, h2⟩ := RpL.dropK (k := k) h.2 b
      unfold L2.dropK dropD at h1 ⊢
      by_cases e : q.1 = k
      · rw [List.filter_cons_of_neg (by simp [h.1.trans e]), List.filter_cons_of_neg (by simp [e])]
        exact ⟨R, h1, fun i => by have := h2 i; have := z i; omega⟩
      · rw [List.filter_cons_of_pos (by simp [h.1]; exact e), List.filter_cons_of_pos (by simp [e]), List.map_cons, List.map_cons]
        exact ⟨_, .cons a h1 fun _ => rfl, fun i => by have := h2 i; have := z i; show _ + R i ≤ _; omega⟩
theorem RpL.dropNd {S : Sto} {k : Key} {d : D} : ∀ {kvs : List (Key × V)} {kds : List (Key × D)} {F : Ft}, (kds.map (·.1)).Nodup → kvs.map (·.1) = kds.map (·.1) → RpL true S (kvs.map (·.2)) (kds.map (·.2)) F → valD kds k = some d →
    ∃ v G R, valV kvs k = some v ∧ Rp true S v d G ∧ RpL true S ((L2.dropK kvs k).map (·.2)) ((dropD kds k).map (·.2)) R ∧ ∀ i, R i + G i ≤ F i
  | [], [], F, _, _, g, h => by cases h
  | [], _ :: _, _, _, h, _, _ => by cases h
  | _ :: _, [], _, _, h, _, _ => by cases h
  | p :: r, q :: s, F, nd, h, g, hv => by
    simp only [List.map_cons, List.cons.injEq] at h
    rw [List.map_cons, List.map_cons] at g
    rw [List.map_cons, List.nodup_cons] at nd
    cases g with
    | @cons _ A B _ _ _ _ a b z =>
      by_cases e : q.1 = k
      · have h1 : valD (q :: s) k = some q.2 := by simp [valD, List.find?_cons, e]
        rw [h1] at hv
        cases hv
        obtain ⟨R, h1, h2⟩ := RpL.dropK (k := k) h.2 b
        unfold L2.dropK dropD at h1 ⊢
        rw [List.filter_cons_of_neg (by simp [h.1.trans e]), List.filter_cons_of_neg (by simp [e])]
        exact ⟨p.2, A, R, valV_pos (h.1.trans e), a, h1, fun i => by have := h2 i; have := z i; omega⟩
      · have h1 : valD (q :: s) k = valD s k := by simp [valD, List.find?_cons, e]
        rw [h1] at hv
        obtain ⟨v, G, R, h2, h3, h4, h5⟩ := RpL.dropNd (k := k) nd.2 h.2 b hv
        unfold L2.dropK dropD at h4 ⊢
        rw [List.filter_cons_of_pos (by simp [h.1]; exact e), List.filter_cons_of_pos (by simp [e]), List.map_cons, List.map_cons]
        exact ⟨v, G, fun i => A i + R i, by rw [valV_neg (fun y => e (h.1.symm.trans y))]; exact h2, h3, .cons a h4 fun _ => rfl, fun i => by have := h5 i; have := z i; show A i + R i + G i ≤ _; omega⟩
/-- what popping a key leaves and tells -/
theorem pop_key {S : Sto} {k : Key} {d : D} {kvs : List (Key × V)} {kds : List (Key × D)} {F : Ft} (h : kvs.map (·.1) = kds.map (·.1)) (g : RpL true S (kvs.map (·.2)) (kds.map (·.2)) F) (hv : valD kds k = some d) (hi : (imm d || ndB kds) = true) :
    ∃ v G R, valV kvs k = some v ∧ Rp true S v d G ∧ RpL true S ((L2.dropK kvs k).map (·.2)) ((dropD kds k).map (·.2)) R ∧ ∀ i, R i + G i ≤ F i := by
  rw [Bool.or_eq_true] at hi
  rcases hi with hi | hi
  · have := RpL.val (k := k) h g
    rw [hv] at this
    obtain ⟨v, G, h1, h2, h3⟩ := this
    obtain ⟨R, h4, h5⟩ := RpL.dropK (k := k) h g
    exact ⟨v, fun _ => 0, R, h1, zero_imm h2 hi, h4, fun i => by have := h5 i; show R i + 0 ≤ _; omega⟩
  · exact RpL.dropNd (of_decide_eq_true hi) h g hv
theorem jm_dpop : JM oDPop mDPop := fun S x xs d ds F1 T r rs hf d' y hp => by
  unfold mDPop at hp
  split at hp
  · rename_i kds a
    cases q : keyD a with
    | none => rw [q] at hp; cases hp
    | some k =>
      rw [q] at hp
      simp only [Option.bind_some] at hp
      cases q2 : valD kds k with
      | none => rw [q2] at hp; cases hp
      | some v =>
        rw [q2] at hp
        simp only [Option.bind_some] at hp
        split at hp
        · rename_i hi
          cases hp
          obtain ⟨i, kvs, A, rfl, es, hk, ra, z⟩ := r.dkT
          obtain ⟨v0, B, rfl, rb, hb⟩ := rs.one'
          obtain ⟨v, G, R, h1, h2, h3, h4⟩ := pop_key hk ra q2 hi
          simp only [oDPop, es, rb.key q, h1]
          exact dk_set (Fv := G) (G := R) es z hf (drop_keys hk) h3 h2 fun j => by have := h4 j; omega
        · cases hp
  · rename_i kds a b
    cases q : keyD a with
    | none => rw [q] at hp; cases hp
    | some k =>
      rw [q] at hp
      simp only [Option.bind_some] at hp
      obtain ⟨i, kvs, A, rfl, es, hk, ra, z⟩ := r.dkT
      cases rs with
      | @cons _ Fk Fu _ _ _ _ rk ru zz =>
        obtain ⟨u, B, rfl, rb, hb⟩ := ru.one'
        cases q2 : valD kds k with
        | none =>
          rw [q2] at hp
          cases hp
          have := RpL.val (k := k) hk ra
          rw [q2] at this
          simp only [oDPop, es, rk.key q, this]
          exact ⟨u, S, F1, B, rfl, Nat.le_refl _, Fr.refl, r, rb, fun j => by have := hb j; have := zz j; omega⟩
        | some v =>
          rw [q2] at hp
          simp only at hp
          split at hp
          · rename_i hi
            cases hp
            obtain ⟨v, G, R, h1, h2, h3, h4⟩ := pop_key hk ra q2 hi
            simp only [oDPop, es, rk.key q, h1]
            exact dk_set (Fv := G) (G := R) es z hf (drop_keys hk) h3 h2 fun j => by have := h4 j; omega
          · cases hp
  · cases hp
end Vi
namespace Vi
open PySem PySem.Spec L2 Mi
def dSetF (tab : List (Nat × Nat)) (x : D) : D → Option D
  | .ins c fs => (look tab c).map fun j => .ins c (fs.set j x)
  | _ => none
def pSetF (tab : List (Nat × Nat)) (pl : Env → Option Plc) (a : PE) : PS := fun e => (a e).lift fun x _ e1 => if x.2.own = true then (match pl e1 with
  | some P => (match (getPl e1 P).bind (dSetF tab x.1) with
    | some d' => .nx (putPl e1 P d')
    | none => .bad)
  | none => .bad) else .bad
def dSetI (x y : D) : D → Option D
  | .lst xs => (match y with
    | .int k => (ixN xs.length k).map fun j => .lst (xs.set j x)
    | _ => none)
  | .dk kds => (keyD y).bind fun k => if kds.length < sizeLine ∧ (imm x || ndB kds) = true then some (.dk (putD kds k x)) else none
  | _ => none
def pSetI (pl : Env → Option Plc) (i : PE) (a : PE) : PS := fun e => (a e).lift fun x _ e1 => if x.2.own = true then (match pl e1 with
  | some P => (i e1).lift fun y q e2 => if q = true then (match (getPl e1 P).bind (dSetI x.1 y.1) with
    | some d' => .nx (putPl e1 P d')
    | none => .bad) else .bad
  | none => .bad) else .bad
theorem Rp.insT {S : Sto} {x : V} {c : Nat} {ds : List D} {F : Ft} (r : Rp true S x (.ins c ds) F) : ∃ i fs F1, x = .ref i ∧ S[i]? = some (.ins c fs) ∧ RpO true S fs ds F1 ∧ ∀ j, F j = F1 j + if j = i then 1 else 0 := by
  cases r with
  | ins e r z => exact ⟨_, _, _, rfl, e, r, z⟩
/-- one object changed at a place: what it is afterwards -/
theorem put_at {P : List Nat} {S S1 S2 S3 : Sto} {σ : St} {e1 : Env} {F Z F1 Z1 T Fa G F2 : Ft} {pl : Plc} {d' : D} {w : V} (n : Nx S F Z S1 F1 Z1) (I1 : EI S1 σ e1 F1 Z1) (t : Tg .fr S F Z F1 Z1 T) (hp : S1 <+: S2) (hF : ∀ i, F1 i = Fa i + G i) (hdom : ∀ i, 0 < Fa i → ∃ o, S2[i]? = some o ∧ mutO o)
    (hk : ∀ S' d' F2, Kp (fun i => G i + Z1 i) S2 S' → Rp true S' w d' F2 → EnvR S' σ (putPl e1 pl d') (fun i => F2 i + G i) Z1) (hle : S2.length ≤ S3.length) (hfr : Fr Fa S2 S3) (r : Rp true S3 w d' F2) (hs : ∀ i, F2 i ≤ Fa i + T i) : Aft P S σ F Z S3 σ (putPl e1 pl d') := by
  obtain ⟨t1, t2, t3⟩ := t
  have dj := I1.dj
  have nd := I1.nd
  have er := hk S3 d' F2 (.of_fr hfr (fun i hi => by
    have h1 := hF i
    have h2 := nd i
    by_cases z : 0 < Z1 i
    · have := dj i z; omega
    · omega) hdom) r
  refine ⟨_, Z1, ⟨Nat.le_trans n.le (Nat.le_trans hp.length_le hle), fun i ob h1 h2 => ?_, fun i => ?_, fun i hi => ?_, n.zs, fun i h => ?_⟩, er, .refl⟩
  · have hl := (List.getElem?_eq_some_iff.mp h1).1
    exact hfr i ob (pre_get' (n.fr i ob h1 h2) hp) (by have := hF i; have := n.sub i hl; omega)
  · show F2 i + G i ≤ 1
    have := hs i; have := hF i; have := t1 i; omega
  · show F2 i + G i ≤ F i
    have := hs i; have := hF i; have := t2 i hi; omega
  · show F2 i + G i = 0
    have := hs i; have := hF i; have := t3 i h; have := dj i h; omega
theorem kp_set {S : Sto} {i : Nat} {ob ob' : Ob} {A : Ft} (es : S[i]? = some ob) (hm : mutO ob) (ha : A i = 0) : Kp A S (S.set i ob') := fun b o e k => by
  by_cases y : b = i
  · subst y
    rw [es] at e
    cases e
    exact k.elim (fun q => by omega) fun q => (q hm).elim
  · rw [List.getElem?_set_ne (Ne.symm y)]; exact e
theorem fr_set {S : Sto} {i : Nat} {ob' : Ob} {F : Ft} (h : 0 < F i) : Fr F S (S.set i ob') := fun b o e k => by
  have : b ≠ i := fun y => by subst y; omega
  rw [List.getElem?_set_ne (Ne.symm this)]; exact e
theorem put_keysV {k : Key} {v : V} {d : D} {kvs : List (Key × V)} {kds : List (Key × D)} (h : kvs.map (·.1) = kds.map (·.1)) : (putK kvs k v).map (·.1) = (putD kds k d).map (·.1) := put_keys h
/-- a key's value put -/
theorem RpL.put {S : Sto} {k : Key} {v : V} {d : D} {G : Ft} {kvs : List (Key × V)} {kds : List (Key × D)} {F : Ft} (r : Rp true S v d G) (hi : (imm d || ndB kds) = true) (h : kvs.map (·.1) = kds.map (·.1)) (g : RpL true S (kvs.map (·.2)) (kds.map (·.2)) F) :
    ∃ F', RpL true S ((putK kvs k v).map (·.2)) ((putD kds k d).map (·.2)) F' ∧ ∀ i, F' i ≤ F i + G i := by
  unfold putK putD
  rw [vals_any h]
  split
  · rw [Bool.or_eq_true] at hi
    rcases hi with hi | hi
    · obtain ⟨F', h1, h2⟩ := RpL.put0 (k := k) (zero_imm r hi) h g
      exact ⟨F', h1, fun i => by have := h2 i; omega⟩
    · obtain ⟨F', h1, h2⟩ := RpL.put1 (k := k) r (of_decide_eq_true hi) h g
      exact ⟨F', h1, fun i => (h2 i).1⟩
  · rw [List.map_append, List.map_append]
    exact ⟨_, g.app (.cons r (.nil (F := fun _ => 0) fun _ => rfl) fun _ => rfl), fun i => by show F i + (G i + 0) ≤ _; omega⟩
section
variable {P : List Nat} {m mi : ME} {pl : Env → Option Plc} {p pi : PE} {mo : ME}
theorem js_setI (hp : JPl mo pl) (hi : JE mi pi) (ha : JE m p) : JS P (mSetI tSetI mo mi m) (pSetI pl pi p) := fun S σ e F Z I => PoS.lift (ha S σ e F Z I) fun ⟨d, o⟩ q e1 v S1 F1 Z1 hx n I1 ⟨T, rv, t⟩ k => by
  cases o with
  | zn => trivial
  | an => trivial
  | fr =>
    rw [if_pos (show (d, Og.fr).snd.own = true from rfl)]
    cases hP : pl e1 with
    | none => trivial
    | some Q =>
      obtain ⟨w, S2, hm, hpre, hat, hsome⟩ := hp S1 σ e1 F1 Z1 I1 Q hP
      obtain ⟨b, hb⟩ := Option.isSome_iff_exists.mp hsome
      rw [hm, lift_ok]
      have I2 := I1.pre hpre
      have h2 := hi S2 σ e1 F1 Z1 I2
      dsimp only
      cases hy : pi e1 with
      | bad => trivial
      | exc c x e2 =>
        rw [hy] at h2
        obtain ⟨S3, F3, Z3, hr, hn, he⟩ := h2
        rw [hr]
        exact ⟨σ, S3, rfl, F3, Z3, (n.trans (nx_pre I1 hpre)).trans hn, he, .refl⟩
      | ok y q2 e2 =>
        rw [hy] at h2
        obtain ⟨u, S3, F3, Z3, hr, hn, he, ⟨Fy, ru, _⟩, hqt⟩ := h2
        rw [hr, lift_ok]
        simp only [xlift_ok]
        by_cases hq : q2 = true
        · rw [if_pos hq]
          have qt := hqt hq
          simp only [hb, Option.bind_some]
          have hpre2 := hpre.trans qt.p
          obtain ⟨w2, Fa, G, hF, r1, hat2, hk, _⟩ := zoomP (I1.pre hpre2) hb
          cases (hat.pre qt.p).fn hat2
          cases hd : dSetI d y.1 b with
          | none => trivial
          | some d' =>
            have t1 := t.1
            cases b with
            | lst xs =>
              unfold dSetI at hd
              dsimp only at hd
              split at hd
              · rename_i kk hy1
                rw [hy1] at ru
                rw [ru.inv_int]
                cases hl : ixN xs.length kk with
                | none => rw [hl] at hd; cases hd
                | some j =>
                  rw [hl] at hd
                  cases hd
                  obtain ⟨i, vs, A, rfl, es, ra, z⟩ := r1.lstT
                  obtain ⟨F', h1, h2⟩ := ra.set j (rv.mono (.pre hpre2))
                  have hi := (List.getElem?_eq_some_iff.mp es).1
                  have fi : Fa i = A i + 1 := by have := z i; rw [if_pos rfl] at this; exact this
                  have gi : F' i = 0 := by have := h2 i; have := t1 i; have := hF i; omega
                  have ht : tSetI (.ref i) (.int kk) v S3 = .ok () (S3.set i (.lst (vs.set j v))) := by
                    unfold tSetI
                    simp only [es, ra.len, hl]
                  rw [ht, lift_ok]
                  refine ⟨σ, _, rfl, put_at n I1 t hpre2 hF r1.dom hk (by rw [List.length_set]; exact Nat.le_refl _) (fr_set (by omega)) (.lst (.inl (List.getElem?_set_self hi)) (h1.mono (kp_set es trivial gi)) fun _ => rfl) fun k => ?_⟩
                  have := h2 k; have := z k
                  show F' k + (if k = i then 1 else 0) ≤ _
                  omega
              · cases hd
            | dk kds =>
              unfold dSetI at hd
              dsimp only at hd
              cases hl : keyD y.1 with
              | none => rw [hl] at hd; cases hd
              | some kk =>
                rw [hl] at hd
                simp only [Option.bind_some] at hd
                split at hd
                · rename_i hz
                  cases hd
                  obtain ⟨i, kvs, A, rfl, es, hks, ra, z⟩ := r1.dkT
                  obtain ⟨F', h1, h2⟩ := RpL.put (k := kk) (rv.mono (.pre hpre2)) hz.2 hks ra
                  have hi := (List.getElem?_eq_some_iff.mp es).1
                  have fi : Fa i = A i + 1 := by have := z i; rw [if_pos rfl] at this; exact this
                  have gi : F' i = 0 := by have := h2 i; have := t1 i; have := hF i; omega
                  have ht : tSetI (.ref i) u v S3 = .ok () (S3.set i (.dK (putK kvs kk v))) := by
                    unfold tSetI
                    simp only [es, ru.key hl]
                    rw [if_pos (by rw [keys_len hks]; exact hz.1)]
                  rw [ht, lift_ok]
                  refine ⟨σ, _, rfl, put_at n I1 t hpre2 hF r1.dom hk (by rw [List.length_set]; exact Nat.le_refl _) (fr_set (by omega)) (.dk (.inl (List.getElem?_set_self hi)) (put_keysV hks) (h1.mono (kp_set es trivial gi)) fun _ => rfl) fun k => ?_⟩
                  have := h2 k; have := z k
                  show F' k + (if k = i then 1 else 0) ≤ _
                  omega
                · cases hd
            | _ => cases hd
        · rw [if_neg hq]; trivial
end
end Vi
namespace Vi
open PySem PySem.Spec L2 Mi
inductive PArg where
  | v (p : PE) | io (pl : Env → Option Plc) | d (p : PE) (pl : Env → Option Plc)
inductive AVal where
  | v (d : D) (o : Og) | io (P : Plc)
def evV (p : PE) (r : Env → X (List AVal)) : Env → X (List AVal) := fun e => (p e).bind fun x q e1 => (r e1).bind fun as q' e2 => if (x.2.st || q') = true then .ok (.v x.1 x.2 :: as) (q && q') e2 else .bad
def evI (pl : Env → Option Plc) (r : Env → X (List AVal)) : Env → X (List AVal) := fun e => match pl e with
  | some P => (r e).bind fun as q' e2 => if q' = true then .ok (.io P :: as) true e2 else .bad
  | none => .bad
def isAnX : X (D × Og) → Bool
  | .ok (_, .an) _ _ => true
  | _ => false
/-- a value, or the place where it stands if it is owned there -/
def evD (p : PE) (pl : Env → Option Plc) (r : Env → X (List AVal)) : Env → X (List AVal) := fun e => if isAnX (p e) = true then evI pl r e else evV p r e
def evA : List PArg → Env → X (List AVal)
  | [], e => .ok [] true e
  | .v p :: r, e => evV p (evA r) e
  | .io pl :: r, e => evI pl (evA r) e
  | .d p pl :: r, e => evD p pl (evA r) e
inductive AvX (S : Sto) (F Z : Ft) (S' : Sto) (σ : St) (F' T : Ft) : List V → List AVal → Ft → Prop
  | nil {U : Ft} : Zf U → AvX S F Z S' σ F' T [] [] U
  | v {U U2 Fd : Ft} {v : V} {d : D} {o : Og} {vs : List V} {as : List AVal} : Rp o.own S' v d Fd → Tga o S F Z F' T Fd → AvX S F Z S' σ F' T vs as U2 → (∀ i, U i = frp o Fd i + U2 i) → AvX S F Z S' σ F' T (v :: vs) (.v d o :: as) U
  | io {U : Ft} {v : V} {P : Plc} {vs : List V} {as : List AVal} : At S' σ P v → AvX S F Z S' σ F' T vs as U → AvX S F Z S' σ F' T (v :: vs) (.io P :: as) U
def RlX (σ : St) : Rel (List AVal) (List V) := fun S F Z S' F' Z' vs as => ∃ T, AvX S F Z S' σ F' T vs as T ∧ (∀ i, F' i + T i ≤ 1) ∧ (∀ i, i < S.length → F' i + T i ≤ F i) ∧ ∀ i, 0 < Z' i → T i = 0
def JAr (m : MA) (as : List PArg) : Prop := ∀ (S : Sto) (σ : St) (e : Env) (F Z : Ft), EI S σ e F Z → Po (RlX σ) S σ e F Z (m σ S) (evA as e)
section
variable {S S1 S2 S' : Sto} {σ : St} {e e1 e2 : Env} {F Z F1 Z1 F2 Z2 F' T T' U G Fd : Ft} {v w : V} {d : D} {o : Og} {vs : List V} {as : List AVal}
theorem AvX.tr (h : AvX S1 F1 Z1 S' σ F' T vs as U) (n : Nx S F Z S1 F1 Z1) (ht : ∀ i, T i ≤ T' i) (hz : ∀ i, (i < S1.length → 0 < Z1 i) → F' i = 0 → T i = 0 → i < S'.length → T' i = 0) : AvX S F Z S' σ F' T' vs as U := by
  induction h with
  | nil z => exact .nil z
  | io a _ ih => exact .io a ih
  | @v U U2 Fd v d o vs ds r t _ hu ih =>
    refine .v r ?_ ih hu
    cases o with
    | fr => exact fun i => Nat.le_trans (t i) (ht i)
    | zn => exact fun i k => ⟨(t i k).1, hz i (t i k).2.2 (t i k).1 (t i k).2.1 (r.lt k), fun hi => n.zs i hi ((t i k).2.2 (Nat.lt_of_lt_of_le hi n.le))⟩
    | an =>
      intro i k hi
      have h1 := t i k (Nat.lt_of_lt_of_le hi n.le)
      have h2 := n.sub i hi
      have h3 := n.zs i hi
      omega
/-- a value ahead of others -/
theorem rlx_cons {q' : Bool} (n1 : Nx S F Z S1 F1 Z1) (I1 : EI S1 σ e1 F1 Z1) (r : Rp o.own S1 v d Fd) (t : Tg o S F Z F1 Z1 Fd) (n2 : Nx S1 F1 Z1 S2 F2 Z2) (h : RlX σ S1 F1 Z1 S2 F2 Z2 vs as) (k2 : q' = true → Qt S1 e1 F1 Z1 S2 e2 F2 Z2) (z : (o.st || q') = true) : RlX σ S F Z S2 F2 Z2 (v :: vs) (.v d o :: as) := by
  obtain ⟨T, av, t1, t2, t3⟩ := h
  have zs2 := n2.zs
  cases o with
  | fr =>
    have hb : ∀ i, S1.length ≤ i → Fd i = 0 := fun i hi => r.bound hi
    refine ⟨fun i => Fd i + T i, .v (r.mono (n2.kp I1.r fun i k => by have := t.1 i; omega)) (fun i => Nat.le_add_right _ _) (av.tr n1 (fun i => Nat.le_add_left _ _) fun i hz _ h0 hl => ?_) fun i => rfl, fun i => ?_, fun i hi => ?_, fun i hi => ?_⟩
    · show Fd i + T i = 0
      by_cases q : i < S1.length
      · have := t.2.2 i (hz q); omega
      · have := hb i (by omega); omega
    · show F2 i + (Fd i + T i) ≤ 1
      by_cases q : i < S1.length
      · have := t.1 i; have := t2 i q; omega
      · have := hb i (by omega); have := t1 i; omega
    · show F2 i + (Fd i + T i) ≤ F i
      have := t.2.1 i hi
      have := t2 i (Nat.lt_of_lt_of_le hi n1.le)
      omega
    · show Fd i + T i = 0
      have := t3 i hi
      by_cases q : i < S1.length
      · have := t.2.2 i (zs2 i q hi); omega
      · have := hb i (by omega); omega
  | zn =>
    refine ⟨T, .v (r.mono (n2.kp I1.r fun i k => (t i k).1)) (fun i k => ?_) (av.tr n1 (fun i => Nat.le_refl _) fun i _ _ h _ => h) fun i => by simp [frp], t1, fun i hi => ?_, t3⟩
    · have q := r.lt k
      have := t2 i q
      have := (t i k).1
      exact ⟨by omega, by omega, (t i k).2⟩
    · have := t2 i (Nat.lt_of_lt_of_le hi n1.le)
      have := n1.sub i hi
      omega
  | an =>
    have hq : q' = true := by simpa using z
    refine ⟨T, .v (r.mono (.pre (k2 hq).p)) t (av.tr n1 (fun i => Nat.le_refl _) fun i _ _ h _ => h) fun i => by simp [frp], t1, fun i hi => ?_, t3⟩
    have := t2 i (Nat.lt_of_lt_of_le hi n1.le)
    have := n1.sub i hi
    omega
theorem jar_nil : JAr mNil [] := fun S σ e F Z I => .pure I ⟨fun _ => 0, .nil fun _ => rfl, I.nd, fun _ _ => Nat.le_refl _, fun _ _ => rfl⟩
theorem jar_v {m : ME} {p : PE} {ms : MA} {ps : List PArg} (h : JE m p) (hs : JAr ms ps) : JAr (mCons m ms) (.v p :: ps) := by
  intro S σ e F Z I
  refine Po.bind (h S σ e F Z I) fun ⟨d, o⟩ q e1 v S1 F1 Z1 hx n1 I1 ⟨Fd, r, t⟩ k1 => ?_
  have h2 := hs S1 σ e1 F1 Z1 I1
  cases hx2 : evA ps e1 with
  | bad => trivial
  | exc c x e2 =>
    rw [hx2] at h2
    obtain ⟨S', F', Z', hr, hn, he⟩ := h2
    rw [hr]
    exact ⟨S', F', Z', rfl, n1.trans hn, he⟩
  | ok ds q' e2 =>
    rw [hx2] at h2
    obtain ⟨vs, S2, F2, Z2, hr, n2, he, hl, k2⟩ := h2
    rw [hr]
    show Po (RlX σ) S σ e F Z (.ok (v :: vs) S2) (if (o.st || q') = true then .ok (.v d o :: ds) (q && q') e2 else .bad)
    by_cases z : (o.st || q') = true
    · rw [if_pos z]
      exact ⟨v :: vs, S2, F2, Z2, rfl, n1.trans n2, he, rlx_cons n1 I1 r t n2 hl k2 z, fun hh => by rw [Bool.and_eq_true] at hh; exact (k1 hh.1).trans (k2 hh.2)⟩
    · rw [if_neg z]; trivial
def isH : Option D → Bool
  | some .hole => true
  | _ => false
def holP (e : Env) : Plc → Bool
  | .sl i => match e[i]? with
    | some (.ow .hole) => true
    | _ => false
  | .fl p j => match getPl e p with
    | some (.ins _ fs) => isH fs[j]?
    | _ => false
  | .ix p k => match getPl e p with
    | some (.lst xs) => isH xs[k]?
    | some (.tup xs) => isH xs[k]?
    | _ => false
  | .ky p k => match getPl e p with
    | some (.dk kds) => isH (valD kds k)
    | _ => false
theorem isH_eq {x : Option D} (h : isH x = true) : x = some .hole := by
  cases x with
  | none => cases h
  | some d => cases d <;> first | rfl | cases h
theorem Rp.hole0 {w : Bool} {v : V} (r : Rp w S v .hole F) : Zf F := by
  cases r with
  | hole z => exact z
theorem RpO.fill {j : Nat} {G : Ft} (r : Rp true S w d G) : ∀ {vs : List (Option V)} {ds : List D} {F : Ft}, RpO true S vs ds F → ds[j]? = some .hole → vs[j]? = some (some w) → RpO true S vs (ds.set j d) fun i => F i + G i := by
  induction j with
  | zero =>
    intro vs ds F h h1 h2
    cases h with
    | nil _ => simp at h1
    | cons a b z =>
      simp at h1 h2
      subst h1 h2
      cases a with
      | hole z0 => exact .cons r b fun i => by have := z i; have := z0 i; show _ + G i = _; omega
    | hole b =>
      simp at h2
      subst h2
      exact .cons r b fun i => by show _ + G i = _; omega
  | succ j ih =>
    intro vs ds F h h1 h2
    cases h with
    | nil _ => simp at h1
    | cons a b z => exact .cons a (ih b (by simpa using h1) (by simpa using h2)) fun i => by have := z i; show _ + G i = _ + (_ + G i); omega
    | hole b => exact .hole (ih b (by simpa using h1) (by simpa using h2))
theorem RpL.fill {j : Nat} {G : Ft} (r : Rp true S w d G) : ∀ {vs : List V} {ds : List D} {F : Ft}, RpL true S vs ds F → ds[j]? = some .hole → vs[j]? = some w → RpL true S vs (ds.set j d) fun i => F i + G i := by
  induction j with
  | zero =>
    intro vs ds F h h1 h2
    cases h with
    | nil _ => simp at h1
    | cons a b z =>
      simp at h1 h2
      subst h1 h2
      cases a with
      | hole z0 => exact .cons r b fun i => by have := z i; have := z0 i; show _ + G i = _; omega
  | succ j ih =>
    intro vs ds F h h1 h2
    cases h with
    | nil _ => simp at h1
    | cons a b z => exact .cons a (ih b (by simpa using h1) (by simpa using h2)) fun i => by have := z i; show _ + G i = _ + (_ + G i); omega
theorem RpL.fillK {k : Key} {G : Ft} (r : Rp true S w d G) : ∀ {kvs : List (Key × V)} {kds : List (Key × D)} {F : Ft}, kvs.map (·.1) = kds.map (·.1) → RpL true S (kvs.map (·.2)) (kds.map (·.2)) F → valD kds k = some .hole → valV kvs k = some w → RpL true S (kvs.map (·.2)) ((rep1 kds k d).map (·.2)) fun i => F i + G i
  | [], [], _, _, _, h, _ => by cases h
  | [], _ :: _, _, h, _, _, _ => by cases h
  | _ :: _, [], _, h, _, _, _ => by cases h
  | p :: l, q :: s, F, h, g, h1, h2 => by
    simp only [List.map_cons, List.cons.injEq] at h
    rw [List.map_cons, List.map_cons] at g
    unfold rep1
    cases g with
    | cons a b z =>
      by_cases e : q.1 = k
      · rw [if_pos e]
        have x1 : valD (q :: s) k = some q.2 := by simp [valD, List.find?_cons, e]
        rw [x1] at h1
        rw [valV_pos (h.1.trans e)] at h2
        cases h2
        cases h1' : q.2 with
        | hole =>
          rw [h1'] at a
          have z0 := a.hole0
          exact .cons r b fun i => by have := z i; have := z0 i; show _ + G i = _; omega
        | _ => rw [h1'] at h1; cases h1
      · rw [if_neg e]
        have x1 : valD (q :: s) k = valD s k := by simp [valD, List.find?_cons, e]
        rw [x1] at h1
        rw [valV_neg (fun y => e (h.1.symm.trans y))] at h2
        exact .cons a (RpL.fillK r h.2 b h1 h2) fun i => by have := z i; show _ + G i = _ + (_ + G i); omega
/-- a hole filled -/
theorem fillP {A : Ft} (I : EI S σ e F Z) (r : Rp true S w d A) : ∀ {p : Plc}, holP e p = true → At S σ p w → EnvR S σ (putPl e p d) (fun i => F i + A i) Z
  | .sl i, h, hat => by
    dsimp only [holP] at h
    split at h
    · rename_i hs
      obtain ⟨F1, Z1, F2, Z2, hF, hZ, ⟨z, v, hv, rh⟩, k1, k2, k3⟩ := I.r.slot hs
      have hat : σ[i]? = some (some w) := hat
      have := k2 w d A r
      rw [set_self hat] at this
      cases rh with
      | hole zh => exact this.congr (fun j => by have := hF j; have := zh j; show F j + A j = A j + F2 j; omega) fun j => by have := hZ j; have := z j; omega
    · cases h
  | .fl p j, h, hat => by
    dsimp only [holP] at h
    split at h
    · rename_i c fs hb
      obtain ⟨i, c', vs, hp, es, hv⟩ := hat
      obtain ⟨u, F1, G, hF, rb, hat2, hk, _⟩ := zoomP I hb
      cases hp.fn hat2
      obtain ⟨i', vs', B, e', es', ro, z⟩ := rb.insT
      cases e'
      rw [es'] at es
      cases es
      rw [put_fl hb]
      exact (hk S _ _ Kp.refl (.ins es' (RpO.fill r ro (isH_eq h) hv) fun _ => rfl)).congr (fun a => by have := hF a; have := z a; show F a + A a = (B a + A a + _) + G a; omega) fun _ => rfl
    · cases h
  | .ix p j, h, hat => by
    dsimp only [holP] at h
    obtain ⟨i, vs, hp, es, hv⟩ := hat
    split at h
    · rename_i xs hb
      obtain ⟨u, F1, G, hF, rb, hat2, hk, _⟩ := zoomP I hb
      cases hp.fn hat2
      obtain ⟨i', vs', B, e', es', ro, z⟩ := rb.lstT
      cases e'
      have : vs' = vs := by rcases es with es | es <;> rw [es'] at es <;> cases es; rfl
      subst this
      rw [put_ix hb]
      exact (hk S _ _ Kp.refl (.lst (.inl es') (RpL.fill r ro (isH_eq h) hv) fun _ => rfl)).congr (fun a => by have := hF a; have := z a; show F a + A a = (B a + A a + _) + G a; omega) fun _ => rfl
    · rename_i xs hb
      obtain ⟨u, F1, G, hF, rb, hat2, hk, _⟩ := zoomP I hb
      cases hp.fn hat2
      obtain ⟨i', vs', e', hT, ro, _, _, es'⟩ := rb.rdT
      cases e'
      have : vs' = vs := by rcases es with es | es <;> rw [es'] at es <;> cases es; rfl
      subst this
      rw [put_ix hb]
      exact (hk S _ _ Kp.refl (.tup es' (RpL.fill r ro (isH_eq h) hv))).congr (fun a => by have := hF a; show F a + A a = (F1 a + A a) + G a; omega) fun _ => rfl
    · cases h
  | .ky p k, h, hat => by
    dsimp only [holP] at h
    obtain ⟨i, kvs, hp, es, hv⟩ := hat
    split at h
    · rename_i kds hb
      obtain ⟨u, F1, G, hF, rb, hat2, hk, _⟩ := zoomP I hb
      cases hp.fn hat2
      obtain ⟨i', kvs', B, e', es', hks, ro, z⟩ := rb.dkT
      cases e'
      rw [es'] at es
      cases es
      rw [put_ky hb]
      exact (hk S _ _ Kp.refl (.dk (.inl es') (hks.trans (rep1_keys k d kds).symm) (RpL.fillK r hks ro (isH_eq h) hv) fun _ => rfl)).congr (fun a => by have := hF a; have := z a; show F a + A a = (B a + A a + _) + G a; omega) fun _ => rfl
    · cases h
/-- a hole's value stays where what is around it stays -/
theorem hol_at (I : EI S σ e F Z) (kp : Kp F S S') : ∀ {p : Plc}, holP e p = true → At S σ p w → At S' σ p w
  | .sl i, h, hat => hat
  | .fl p j, h, ⟨i, c', vs, hp, es, hv⟩ => by
    dsimp only [holP] at h
    split at h
    · rename_i c fs hb
      obtain ⟨u, F1, G, hF, rb, hat2, hk, hka⟩ := zoomP I hb
      cases hp.fn hat2
      obtain ⟨i', vs', B, e', es', ro, z⟩ := rb.insT
      cases e'
      exact ⟨i, c', vs, hka S' (kp.le fun a q => by have := hF a; omega), kp i _ es (.inl (by have := hF i; have := z i; rw [if_pos rfl] at this; omega)), hv⟩
    · cases h
  | .ix p j, h, ⟨i, vs, hp, es, hv⟩ => by
    dsimp only [holP] at h
    split at h
    · rename_i xs hb
      obtain ⟨u, F1, G, hF, rb, hat2, hk, hka⟩ := zoomP I hb
      cases hp.fn hat2
      obtain ⟨i', vs', B, e', es', ro, z⟩ := rb.lstT
      cases e'
      exact ⟨i, vs, hka S' (kp.le fun a q => by have := hF a; omega), es.imp (fun es => kp i _ es (.inl (by have := hF i; have := z i; rw [if_pos rfl] at this; omega))) fun es => kp i _ es (.inl (by have := hF i; have := z i; rw [if_pos rfl] at this; omega)), hv⟩
    · rename_i xs hb
      obtain ⟨u, F1, G, hF, rb, hat2, hk, hka⟩ := zoomP I hb
      cases hp.fn hat2
      obtain ⟨i', vs', e', hT, ro, _, _, es'⟩ := rb.rdT
      cases e'
      exact ⟨i, vs, hka S' (kp.le fun a q => by have := hF a; omega), es.imp (fun es => by rw [es'] at es; cases es) fun es => kp i _ es (.inr (by exact id)), hv⟩
    · cases h
  | .ky p k, h, ⟨i, kvs, hp, es, hv⟩ => by
    dsimp only [holP] at h
    split at h
    · rename_i kds hb
      obtain ⟨u, F1, G, hF, rb, hat2, hk, hka⟩ := zoomP I hb
      cases hp.fn hat2
      obtain ⟨i', kvs', B, e', es', hks, ro, z⟩ := rb.dkT
      cases e'
      exact ⟨i, kvs, hka S' (kp.le fun a q => by have := hF a; omega), kp i _ es (.inl (by have := hF i; have := z i; rw [if_pos rfl] at this; omega)), hv⟩
    · cases h
end
end Vi
namespace Vi
open PySem PySem.Spec L2 Mi
inductive RF where
  | ok (d : D) (o : Og) (outs : List D) | exc (c : Nat) (x : Option V) (outs : List D) | bad
abbrev PF := List D → RF
def wrp : List Bool → List D → Env
  | b :: bs, d :: ds => (if b = true then .ow d else .fz d) :: wrp bs ds
  | _, _ => []
def PoF (mask : List Bool) (S : Sto) (vs : List V) (F Z : Ft) (r : R V) : RF → Prop
  | .ok d o outs => ∃ v S' F' Fd, r = .ok v S' ∧ Nx S F Z S' F' Z ∧ EnvR S' (vs.map some) (wrp mask outs) F' Z ∧ Rp o.own S' v d Fd ∧ Tg o S F Z F' Z Fd
  | .exc c x outs => ∃ S' F', r = .exc c x S' ∧ Nx S F Z S' F' Z ∧ EnvR S' (vs.map some) (wrp mask outs) F' Z
  | .bad => True
/-- the function does to values what p does to trees; the mask tells which arguments it may change -/
def JF (f : Fn) (mask : List Bool) (p : PF) : Prop := ∀ S vs ds F Z, EI S (vs.map some) (wrp mask ds) F Z → ds.length = mask.length → PoF mask S vs F Z (f vs S) (p ds)
def prep : List Bool → List AVal → Env → Option (List D × Env)
  | [], [], e => some ([], e)
  | b :: bs, .v d o :: as, e => if (!b || o.own) = true then (prep bs as e).map fun x => (d :: x.1, x.2) else none
  | b :: bs, .io P :: as, e => match getPl e P with
    | some d => (prep bs as (putPl e P .hole)).map fun x => (d :: x.1, x.2)
    | none => none
  | _, _, _ => none
def isAn : AVal → Bool
  | .v _ .an => true
  | _ => false
def noAn (mask : List Bool) (as : List AVal) : Bool := mask.all (fun b => !b) || as.all fun a => !isAn a
def isIo : AVal → Bool
  | .io _ => true
  | _ => false
def allHol (as : List AVal) (e : Env) : Bool := as.all fun a => match a with
  | .io P => holP e P
  | _ => true
def fillB : List AVal → List D → Env → Option Env
  | [], _, e => some e
  | .v _ _ :: as, _ :: ds, e => fillB as ds e
  | .io P :: as, d :: ds, e => if holP e P = true then fillB as ds (putPl e P d) else none
  | _, _, _ => none
def mixO : List Bool → List D → List D → List D
  | b :: bs, d :: ds, o :: os => (if b = true then o else d) :: mixO bs ds os
  | _, _, _ => []
def isZn : AVal → Bool
  | .v _ .zn => true
  | .v d .fr => imm d
  | _ => false
def retT (o : Og) (as : List AVal) : Og := match o with
  | .fr => .fr
  | .zn => if as.all isZn = true then .zn else .an
  | .an => .an
def callP (mask : List Bool) (p : PF) (as : List AVal) (q : Bool) (e : Env) : X (D × Og) :=
  if noAn mask as = true then (match prep mask as e with
    | some (ds, e2) => if allHol as e2 = true then (match p ds with
      | .ok d o outs => (match fillB as (mixO mask ds outs) e2 with
        | some e3 => .ok (d, retT o as) (q && as.all fun a => !isIo a) e3
        | none => .bad)
      | .exc c x outs => (match fillB as (mixO mask ds outs) e2 with
        | some e3 => .exc c x e3
        | none => .bad)
      | .bad => .bad) else .bad
    | none => .bad) else .bad
inductive PR (S : Sto) (σ : St) : List Bool → List V → List AVal → List D → Ft → Ft → Ft → Prop
  | nil {A B C : Ft} : Zf A → Zf B → Zf C → PR S σ [] [] [] [] A B C
  | ov {Fc Zt Zr Fc' A : Ft} {bs : List Bool} {vs : List V} {as : List AVal} {ds : List D} {v : V} {d : D} : Rp true S v d A → PR S σ bs vs as ds Fc Zt Zr → (∀ i, Fc' i = A i + Fc i) → PR S σ (true :: bs) (v :: vs) (.v d .fr :: as) (d :: ds) Fc' Zt Zr
  | zt {Fc Zt Zr Zt' A : Ft} {bs : List Bool} {vs : List V} {as : List AVal} {ds : List D} {v : V} {d : D} : Rp false S v d A → PR S σ bs vs as ds Fc Zt Zr → (∀ i, Zt' i = A i + Zt i) → PR S σ (false :: bs) (v :: vs) (.v d .fr :: as) (d :: ds) Fc Zt' Zr
  | zr {Fc Zt Zr Zr' A : Ft} {bs : List Bool} {vs : List V} {as : List AVal} {ds : List D} {v : V} {d : D} {o : Og} : Rp false S v d A → PR S σ bs vs as ds Fc Zt Zr → (∀ i, Zr' i = A i + Zr i) → PR S σ (false :: bs) (v :: vs) (.v d o :: as) (d :: ds) Fc Zt Zr'
  | oi {Fc Zt Zr Fc' A : Ft} {bs : List Bool} {vs : List V} {as : List AVal} {ds : List D} {v : V} {d : D} {P : Plc} : Rp true S v d A → At S σ P v → PR S σ bs vs as ds Fc Zt Zr → (∀ i, Fc' i = A i + Fc i) → PR S σ (true :: bs) (v :: vs) (.io P :: as) (d :: ds) Fc' Zt Zr
  | zi {Fc Zt Zr Zt' A : Ft} {bs : List Bool} {vs : List V} {as : List AVal} {ds : List D} {v : V} {d : D} {P : Plc} : Rp true S v d A → At S σ P v → PR S σ bs vs as ds Fc Zt Zr → (∀ i, Zt' i = A i + Zt i) → PR S σ (false :: bs) (v :: vs) (.io P :: as) (d :: ds) Fc Zt' Zr
section
variable {S S0 S1 S2 S' : Sto} {σ : St} {e e1 e2 : Env} {F Z F0 Z0 F1 Z1 F2 Z2 F' T T' U G Fd Fe : Ft} {v w : V} {d : D} {o : Og} {vs : List V} {as : List AVal} {mask : List Bool} {ds : List D}
theorem PR.env {Fc Zt Zr : Ft} (h : PR S σ mask vs as ds Fc Zt Zr) : EnvR S (vs.map some) (wrp mask ds) Fc (fun i => Zt i + Zr i) := by
  induction h with
  | nil a b c => exact .nil a fun i => by show _ + _ = 0; rw [b, c]
  | ov r _ z ih => exact .ow r ih z
  | zt r _ z ih => exact .fz r ih fun i => by have := z i; show _ + _ = _ + (_ + _); omega
  | zr r _ z ih => exact .fz r ih fun i => by have := z i; show _ + _ = _ + (_ + _); omega
  | oi r _ _ z ih => exact .ow r ih z
  | zi r _ _ z ih => exact .fz r.weak ih fun i => by have := z i; show _ + _ = _ + (_ + _); omega
theorem PR.allF {Fc Zt Zr : Ft} (h : PR S σ mask vs as ds Fc Zt Zr) (k : mask.all (fun b => !b) = true) : Zf Fc := by
  induction h with
  | nil a b c => exact a
  | ov _ _ _ _ => simp at k
  | oi _ _ _ _ _ => simp at k
  | zt _ _ _ ih => exact ih (by simpa using k)
  | zr _ _ _ ih => exact ih (by simpa using k)
  | zi _ _ _ _ ih => exact ih (by simpa using k)
theorem PR.allZ {Fc Zt Zr : Ft} (h : PR S σ mask vs as ds Fc Zt Zr) (k : as.all isZn = true) : Zf Fc ∧ Zf Zt := by
  induction h with
  | nil a b c => exact ⟨a, b⟩
  | ov r _ z ih =>
    rw [List.all_cons, Bool.and_eq_true] at k
    obtain ⟨h1, h2⟩ := ih k.2
    exact ⟨fun i => by rw [z, r.imm0 k.1 i, h1 i], h2⟩
  | zt r _ z ih =>
    rw [List.all_cons, Bool.and_eq_true] at k
    obtain ⟨h1, h2⟩ := ih k.2
    exact ⟨h1, fun i => by rw [z, r.imm0 k.1 i, h2 i]⟩
  | zr r _ z ih =>
    rw [List.all_cons, Bool.and_eq_true] at k
    exact ih k.2
  | oi _ _ _ _ _ => simp [isZn] at k
  | zi _ _ _ _ ih => simp [isZn] at k
theorem PR.bounds {Fc Zt Zr : Ft} (h : PR S σ mask vs as ds Fc Zt Zr) {i : Nat} (hi : S.length ≤ i) : Fc i = 0 ∧ Zt i + Zr i = 0 := ⟨h.env.boundF hi, h.env.boundZ hi⟩
theorem PR.lens {Fc Zt Zr : Ft} (h : PR S σ mask vs as ds Fc Zt Zr) : ds.length = mask.length ∧ vs.length = mask.length := by
  induction h with
  | nil _ _ _ => exact ⟨rfl, rfl⟩
  | ov _ _ _ ih => exact ⟨congrArg Nat.succ ih.1, congrArg Nat.succ ih.2⟩
  | zt _ _ _ ih => exact ⟨congrArg Nat.succ ih.1, congrArg Nat.succ ih.2⟩
  | zr _ _ _ ih => exact ⟨congrArg Nat.succ ih.1, congrArg Nat.succ ih.2⟩
  | oi _ _ _ _ ih => exact ⟨congrArg Nat.succ ih.1, congrArg Nat.succ ih.2⟩
  | zi _ _ _ _ ih => exact ⟨congrArg Nat.succ ih.1, congrArg Nat.succ ih.2⟩
/-- the arguments laid out -/
theorem prep_ok {Fe : Ft} (av : AvX S0 F0 Z0 S σ F1 T vs as U) (t2 : ∀ i, i < S0.length → F1 i + T i ≤ F0 i) : ∀ {mask : List Bool} {ds : List D} {e e' : Env} {Fe : Ft}, EI S σ e Fe Z → prep mask as e = some (ds, e') →
    ∃ Fc Zt Zr G, PR S σ mask vs as ds Fc Zt Zr ∧ EI S σ e' G Z ∧ (∀ i, Fc i + Zt i + G i ≤ Fe i + U i) ∧
      (∀ i, 0 < Zr i → (F1 i = 0 ∧ T i = 0 ∧ (i < S0.length → 0 < Z0 i)) ∨ (as.all (fun a => !isAn a) = false ∧ (i < S0.length → 0 < F0 i + Z0 i))) ∧ ((as.all fun a => !isIo a) = true → e' = e ∧ G = Fe) := by
  induction av with
  | nil z =>
    intro mask ds e e' Fe I h
    cases mask with
    | nil => cases h; exact ⟨fun _ => 0, fun _ => 0, fun _ => 0, Fe, .nil (fun _ => rfl) (fun _ => rfl) fun _ => rfl, I, fun i => by show 0 + 0 + Fe i ≤ _; omega, fun i k => absurd k (by simp), fun _ => ⟨rfl, rfl⟩⟩
    | cons _ _ => cases h
  | @io U v P vs as hat _ ih =>
    intro mask ds e e' Fe I h
    cases mask with
    | nil => cases h
    | cons b bs =>
      unfold prep at h
      split at h
      · rename_i d hg
        cases hq : prep bs as (putPl e P .hole) with
        | none => rw [hq] at h; cases h
        | some x =>
          rw [hq] at h
          cases h
          obtain ⟨w, A, G1, hF, r, hat2, hk, _⟩ := zoomP I hg
          cases hat.fn hat2
          have er := hk S .hole (fun _ => 0) Kp.refl (.hole fun _ => rfl)
          have nd := I.nd
          have dj := I.dj
          have I' : EI S σ (putPl e P .hole) G1 Z := ⟨er.congr (fun i => by show G1 i = 0 + G1 i; omega) fun _ => rfl, fun i => by have := nd i; have := hF i; omega, fun i h => by have := dj i h; have := hF i; omega⟩
          obtain ⟨Fc, Zt, Zr, G, pr, Ie, hs, hz, _⟩ := ih I' hq
          cases b with
          | true => exact ⟨fun i => A i + Fc i, Zt, Zr, G, .oi r hat pr fun _ => rfl, Ie, fun i => by have := hs i; have := hF i; show A i + Fc i + _ + _ ≤ _; omega, fun i k => (hz i k).imp id fun y => ⟨by rw [List.all_cons, y.1, Bool.and_false], y.2⟩, fun k => by simp [isIo] at k⟩
          | false => exact ⟨Fc, fun i => A i + Zt i, Zr, G, .zi r hat pr fun _ => rfl, Ie, fun i => by have := hs i; have := hF i; show Fc i + (A i + Zt i) + _ ≤ _; omega, fun i k => (hz i k).imp id fun y => ⟨by rw [List.all_cons, y.1, Bool.and_false], y.2⟩, fun k => by simp [isIo] at k⟩
      · cases h
  | @v U U2 Fd v d o vs as r t _ hu ih =>
    intro mask ds e e' Fe I h
    cases mask with
    | nil => cases h
    | cons b bs =>
      unfold prep at h
      split at h
      · rename_i hb
        cases hq : prep bs as e with
        | none => rw [hq] at h; cases h
        | some x =>
          rw [hq] at h
          cases h
          obtain ⟨Fc, Zt, Zr, G, pr, Ie, hs, hz, hio⟩ := ih I hq
          have hio' : ((AVal.v d o :: as).all fun a => !isIo a) = true → x.2 = e ∧ G = Fe := fun k => hio (by simpa [isIo] using k)
          have hz' : ∀ i, 0 < Zr i → (F1 i = 0 ∧ T i = 0 ∧ (i < S0.length → 0 < Z0 i)) ∨ ((AVal.v d o :: as).all (fun a => !isAn a) = false ∧ (i < S0.length → 0 < F0 i + Z0 i)) := fun i k => (hz i k).imp id fun y => ⟨by rw [List.all_cons, y.1, Bool.and_false], y.2⟩
          cases o with
          | fr =>
            cases b with
            | true => exact ⟨fun i => Fd i + Fc i, Zt, Zr, G, .ov r pr fun _ => rfl, Ie, fun i => by have := hs i; have : U i = Fd i + U2 i := hu i; show Fd i + Fc i + _ + _ ≤ _; omega, hz', hio'⟩
            | false => exact ⟨Fc, fun i => Fd i + Zt i, Zr, G, .zt r.weak pr fun _ => rfl, Ie, fun i => by have := hs i; have : U i = Fd i + U2 i := hu i; show Fc i + (Fd i + Zt i) + _ ≤ _; omega, hz', hio'⟩
          | zn =>
            cases b with
            | true => cases hb
            | false =>
              refine ⟨Fc, Zt, fun i => Fd i + Zr i, G, .zr r pr fun _ => rfl, Ie, fun i => by have := hs i; have : U i = 0 + U2 i := hu i; omega, fun i k => ?_, hio'⟩
              have k : 0 < Fd i + Zr i := k
              by_cases y : 0 < Zr i
              · exact hz' i y
              · exact .inl (t i (by omega))
          | an =>
            cases b with
            | true => cases hb
            | false =>
              refine ⟨Fc, Zt, fun i => Fd i + Zr i, G, .zr r pr fun _ => rfl, Ie, fun i => by have := hs i; have : U i = 0 + U2 i := hu i; omega, fun i k => ?_, hio'⟩
              have k : 0 < Fd i + Zr i := k
              by_cases y : 0 < Zr i
              · exact hz' i y
              · exact .inr ⟨rfl, t i (by omega)⟩
      · cases h
/-- where the arguments' places are -/
inductive Ats (S : Sto) (σ : St) : List V → List AVal → Prop
  | nil : Ats S σ [] []
  | v {v : V} {d : D} {o : Og} {vs : List V} {as : List AVal} : Ats S σ vs as → Ats S σ (v :: vs) (.v d o :: as)
  | io {v : V} {P : Plc} {vs : List V} {as : List AVal} : At S σ P v → Ats S σ vs as → Ats S σ (v :: vs) (.io P :: as)
theorem PR.ats {Fc Zt Zr : Ft} (h : PR S σ mask vs as ds Fc Zt Zr) (I : EI S σ e F Z) (kp : Kp F S S') (hh : allHol as e = true) : Ats S' σ vs as := by
  induction h with
  | nil _ _ _ => exact .nil
  | ov _ _ _ ih => exact .v (ih (by simpa [allHol] using hh))
  | zt _ _ _ ih => exact .v (ih (by simpa [allHol] using hh))
  | zr _ _ _ ih => exact .v (ih (by simpa [allHol] using hh))
  | oi _ hat _ _ ih =>
    unfold allHol at hh
    rw [List.all_cons, Bool.and_eq_true] at hh
    exact .io (hol_at I kp hh.1 hat) (ih hh.2)
  | zi _ hat _ _ ih =>
    unfold allHol at hh
    rw [List.all_cons, Bool.and_eq_true] at hh
    exact .io (hol_at I kp hh.1 hat) (ih hh.2)
/-- the places filled again -/
theorem fill_ok {Fc Zt Zr : Ft} (h : PR S σ mask vs as ds Fc Zt Zr) (ha : Ats S' σ vs as) : ∀ {outs : List D} {e e3 : Env} {G F' Zx : Ft}, Kp Zt S S' → EnvR S' (vs.map some) (wrp mask outs) F' Zx → EI S' σ e G Z → (∀ i, G i + F' i + Zt i ≤ 1) → (∀ i, 0 < Z i → G i + F' i + Zt i = 0) → fillB as (mixO mask ds outs) e = some e3 →
    ∃ F2, EnvR S' σ e3 F2 Z ∧ (∀ i, F2 i ≤ G i + F' i + Zt i) ∧ ((as.all fun a => !isIo a) = true → e3 = e ∧ F2 = G) := by
  induction h with
  | nil _ _ _ =>
    intro outs e e3 G F' Zx kp er I nd dj hf
    unfold fillB at hf
    cases hf
    exact ⟨G, I.r, fun i => by omega, fun _ => ⟨rfl, rfl⟩⟩
  | ov r _ z ih =>
    intro outs e e3 G F' Zx kp er I nd dj hf
    cases outs with
    | nil => cases hf
    | cons d' outs =>
      cases ha with
      | v ha =>
        cases er with
        | ow r' er zz =>
          obtain ⟨F2, h1, h2, h3⟩ := ih ha kp er I (fun i => by have := nd i; have := zz i; omega) (fun i h => by have := dj i h; have := zz i; omega) hf
          exact ⟨F2, h1, fun i => by have := h2 i; have := zz i; omega, fun k => h3 (by simpa [isIo] using k)⟩
  | zt r _ z ih =>
    intro outs e e3 G F' Zx kp er I nd dj hf
    cases outs with
    | nil => cases hf
    | cons d' outs =>
      cases ha with
      | v ha =>
        cases er with
        | fz r' er zz =>
          obtain ⟨F2, h1, h2, h3⟩ := ih ha (kp.le fun i q => by have := z i; omega) er I (fun i => by have := nd i; have := z i; omega) (fun i h => by have := dj i h; have := z i; omega) hf
          exact ⟨F2, h1, fun i => by have := h2 i; have := z i; omega, fun k => h3 (by simpa [isIo] using k)⟩
  | zr r _ z ih =>
    intro outs e e3 G F' Zx kp er I nd dj hf
    cases outs with
    | nil => cases hf
    | cons d' outs =>
      cases ha with
      | v ha =>
        cases er with
        | fz r' er zz =>
          obtain ⟨F2, h1, h2, h3⟩ := ih ha kp er I nd dj hf
          exact ⟨F2, h1, h2, fun k => h3 (by simpa [isIo] using k)⟩
  | oi r hat _ z ih =>
    intro outs e e3 G F' Zx kp er I nd dj hf
    cases outs with
    | nil => cases hf
    | cons d' outs =>
      cases ha with
      | io hat' ha =>
        cases er with
        | @ow _ Fa Fb _ _ _ _ _ r' er zz =>
          simp only [mixO, if_true, fillB] at hf
          split at hf
          · rename_i hh
            have er2 := fillP I r' hh hat'
            have I2 : EI S' σ _ (fun i => G i + Fa i) Z := ⟨er2, fun i => by have := nd i; have := zz i; show G i + Fa i ≤ 1; omega, fun i h => by have := dj i h; have := zz i; show G i + Fa i = 0; omega⟩
            obtain ⟨F2, h1, h2, h3⟩ := ih ha kp er I2 (fun i => by have := nd i; have := zz i; show G i + Fa i + _ + _ ≤ 1; omega) (fun i h => by have := dj i h; have := zz i; show G i + Fa i + _ + _ = 0; omega) hf
            exact ⟨F2, h1, fun i => by have := h2 i; have := zz i; omega, fun k => by simp [isIo] at k⟩
          · cases hf
  | @zi Fc Zt0 Zr Zt' A bs vs as ds v d P r hat _ z ih =>
    intro outs e e3 G F' Zx kp er I nd dj hf
    cases outs with
    | nil => cases hf
    | cons d' outs =>
      cases ha with
      | io hat' ha =>
        cases er with
        | fz r' er zz =>
          simp only [mixO, if_neg Bool.false_ne_true, fillB] at hf
          split at hf
          · rename_i hh
            have er2 := fillP I (r.mono (kp.le fun i q => by have := z i; omega)) hh hat'
            have I2 : EI S' σ _ (fun i => G i + A i) Z := ⟨er2, fun i => by have := nd i; have := z i; show G i + A i ≤ 1; omega, fun i h => by have := dj i h; have := z i; show G i + A i = 0; omega⟩
            obtain ⟨F2, h1, h2, h3⟩ := ih ha (kp.le fun i q => by have := z i; omega) er I2 (fun i => by have := nd i; have := z i; show G i + A i + _ + _ ≤ 1; omega) (fun i h => by have := dj i h; have := z i; show G i + A i + _ + _ = 0; omega) hf
            exact ⟨F2, h1, fun i => by have := h2 i; have := z i; omega, fun k => by simp [isIo] at k⟩
          · cases hf
theorem pre_of (hl : S.length ≤ S'.length) (h : ∀ (i : Nat) (o : Ob), S[i]? = some o → S'[i]? = some o) : S <+: S' := by
  rw [List.prefix_iff_getElem?]
  intro i hi
  rw [h i S[i] (List.getElem?_eq_getElem hi)]
/-- a call behind its arguments -/
theorem call_ok {f : Fn} {p : PF} {q : Bool} (hf : JF f mask p) (n : Nx S0 F0 Z0 S F1 Z1) (I : EI S σ e1 F1 Z1) (hl : RlX σ S0 F0 Z0 S F1 Z1 vs as) (kq : q = true → Qt S0 e F0 Z0 S e1 F1 Z1) : Po RlE S0 σ e F0 Z0 (f vs S) (callP mask p as q e1) := by
  obtain ⟨T, av, t1, t2, t3⟩ := hl
  unfold callP
  by_cases hna : noAn mask as = true
  · rw [if_pos hna]
    cases hp : prep mask as e1 with
    | none => trivial
    | some x =>
      obtain ⟨ds, e2⟩ := x
      dsimp only
      by_cases hh : allHol as e2 = true
      · rw [if_pos hh]
        obtain ⟨Fc, Zt, Zr, G, pr, I2, hs, hz, hio⟩ := prep_ok (Fe := F1) av t2 I hp
        have dj1 := I.dj
        have sum1 : ∀ i, Fc i + Zt i + G i ≤ 1 := fun i => by have := hs i; have := t1 i; omega
        have zr0 : ∀ i, 0 < Zr i → Fc i = 0 := fun i k => by
          rcases hz i k with h | h
          · have := hs i; omega
          · unfold noAn at hna
            rw [h.1, Bool.or_false] at hna
            exact pr.allF hna i
        have Ic : EI S (vs.map some) (wrp mask ds) Fc (fun i => Zt i + Zr i) := ⟨pr.env, fun i => by have := sum1 i; omega, fun i h => by
          have h : 0 < Zt i + Zr i := h
          by_cases y : 0 < Zr i
          · exact zr0 i y
          · have := sum1 i; have := pr.allF; omega⟩
        have hc := hf S vs ds Fc _ Ic pr.lens.1
        have fcd := pr.env.domF
        have key : ∀ {S' : Sto} {F' : Ft} {outs : List D} {e3 : Env}, Nx S Fc (fun i => Zt i + Zr i) S' F' (fun i => Zt i + Zr i) → EnvR S' (vs.map some) (wrp mask outs) F' (fun i => Zt i + Zr i) → fillB as (mixO mask ds outs) e2 = some e3 →
            ∃ F2, EnvR S' σ e3 F2 Z1 ∧ (∀ i, F2 i ≤ G i + F' i + Zt i) ∧ Nx S0 F0 Z0 S' F2 Z1 ∧ ((as.all fun a => !isIo a) = true → e3 = e1 ∧ F2 = F1) := by
          intro S' F' outs e3 nc er hfill
          have kpG : Kp G S S' := .of_fr nc.fr (fun i h => by have := sum1 i; omega) fcd
          have z1 : ∀ i, 0 < Z1 i → Fc i = 0 ∧ Zt i = 0 ∧ G i = 0 := fun i h => by have := hs i; have := dj1 i h; have := t3 i h; omega
          have kpE : Kp (fun i => G i + Z1 i) S S' := .of_fr nc.fr (fun i h => by
            have h : 0 < G i + Z1 i := h
            by_cases y : 0 < Z1 i
            · exact (z1 i y).1
            · have := sum1 i; omega) fcd
          have I3 : EI S' σ e2 G Z1 := ⟨I2.r.mono kpE, I2.nd, I2.dj⟩
          have kpZ : Kp Zt S S' := .of_fr nc.fr (fun i h => by have := sum1 i; omega) fcd
          have bG : ∀ i, S.length ≤ i → G i = 0 := fun i h => I2.r.boundF h
          have bZ : ∀ i, S.length ≤ i → Zt i = 0 := fun i h => by have := (pr.bounds h).2; omega
          have bZ1 : ∀ i, S.length ≤ i → Z1 i = 0 := fun i h => I.r.boundZ h
          have ndd : ∀ i, G i + F' i + Zt i ≤ 1 := fun i => by
            by_cases y : i < S.length
            · have := nc.sub i y; have := sum1 i; omega
            · have := bG i (by omega); have := bZ i (by omega); have := nc.nd i; omega
          have djj : ∀ i, 0 < Z1 i → G i + F' i + Zt i = 0 := fun i h => by
            by_cases y : i < S.length
            · have := nc.sub i y; have := z1 i h; omega
            · have := bZ1 i (by omega); omega
          obtain ⟨F2, h1, h2, h3⟩ := fill_ok pr (pr.ats I2 kpG hh) kpZ er I3 ndd djj hfill
          refine ⟨F2, h1, h2, ⟨Nat.le_trans n.le nc.le, fun i ob g1 g2 => ?_, fun i => by have := h2 i; have := ndd i; omega, fun i hi => ?_, n.zs, fun i h => by have := h2 i; have := djj i h; omega⟩, fun k => ?_⟩
          · have hi := (List.getElem?_eq_some_iff.mp g1).1
            exact nc.fr i ob (n.fr i ob g1 g2) (by have := hs i; have := t2 i hi; omega)
          · have := h2 i
            have := nc.sub i (Nat.lt_of_lt_of_le hi n.le)
            have := hs i
            have := t2 i hi
            omega
          · obtain ⟨a1, a2⟩ := hio k
            obtain ⟨b1, b2⟩ := h3 k
            exact ⟨b1.trans a1, b2.trans a2⟩
        cases hr : p ds with
        | bad => trivial
        | exc c x outs =>
          rw [hr] at hc
          obtain ⟨S', F', hfr, nc, er⟩ := hc
          dsimp only
          cases hfill : fillB as (mixO mask ds outs) e2 with
          | none => trivial
          | some e3 =>
            obtain ⟨F2, h1, h2, h3, _⟩ := key nc er hfill
            exact ⟨S', F2, Z1, hfr, h3, h1⟩
        | ok d o outs =>
          rw [hr] at hc
          obtain ⟨v, S', F', Fd, hfr, nc, er, rv, tv⟩ := hc
          dsimp only
          cases hfill : fillB as (mixO mask ds outs) e2 with
          | none => trivial
          | some e3 =>
            obtain ⟨F2, h1, h2, h3, h4⟩ := key nc er hfill
            have bG : ∀ i, S.length ≤ i → G i = 0 := fun i h => I2.r.boundF h
            have bZ : ∀ i, S.length ≤ i → Zt i = 0 ∧ Zr i = 0 ∧ Fc i = 0 := fun i h => by have := pr.bounds h; omega
            have bF1 : ∀ i, S.length ≤ i → F1 i = 0 := fun i h => I.r.boundF h
            have bZ1 : ∀ i, S.length ≤ i → Z1 i = 0 := fun i h => I.r.boundZ h
            have anp : ∀ i, i < S0.length → 0 < Fc i + (Zt i + Zr i) → 0 < F0 i + Z0 i := fun i hi k => by
              by_cases y : 0 < Zr i
              · rcases hz i y with g | g
                · have := g.2.2 hi; omega
                · exact g.2 hi
              · have := hs i; have := t2 i hi; omega
            refine ⟨v, S', F2, Z1, hfr, h3, h1, ⟨Fd, ?_, ?_⟩, fun k => ?_⟩
            · show Rp (retT o as).own S' v d Fd
              cases o with
              | fr => exact rv
              | zn => unfold retT; dsimp only; split <;> exact rv
              | an => exact rv
            · show Tg (retT o as) S0 F0 Z0 F2 Z1 Fd
              cases o with
              | fr =>
                refine ⟨fun i => ?_, fun i hi => ?_, fun i h => ?_⟩
                · have := h2 i
                  by_cases y : i < S.length
                  · have := tv.2.1 i y; have := sum1 i; omega
                  · have := bG i (by omega); have := bZ i (by omega); have := tv.1 i; omega
                · have := h2 i
                  have := tv.2.1 i (Nat.lt_of_lt_of_le hi n.le)
                  have := hs i
                  have := t2 i hi
                  omega
                · by_cases y : i < S.length
                  · have := tv.2.1 i y; have := hs i; have := dj1 i h; have := t3 i h; omega
                  · have := bZ1 i (by omega); omega
              | zn =>
                unfold retT
                dsimp only
                split
                · rename_i hzn
                  obtain ⟨c0, zt0⟩ := pr.allZ hzn
                  have noio : (as.all fun a => !isIo a) = true := by
                    rw [List.all_eq_true] at hzn ⊢
                    intro a ha
                    have := hzn a ha
                    cases a with
                    | io P => cases this
                    | v d o => rfl
                  have noan : as.all (fun a => !isAn a) = true := by
                    rw [List.all_eq_true] at hzn ⊢
                    intro a ha
                    have := hzn a ha
                    cases a with
                    | io P => rfl
                    | v d o => cases o <;> first | rfl | cases this
                  obtain ⟨_, e2F⟩ := h4 noio
                  intro i k
                  rw [e2F]
                  by_cases y : i < S.length
                  · have hzr : 0 < Zr i := by have h9 : 0 < Zt i + Zr i := (tv i k).2 y; have := zt0 i; omega
                    rcases hz i hzr with g | g
                    · exact ⟨g.1, g.2.2⟩
                    · rw [noan] at g; cases g.1
                  · exact ⟨bF1 i (by omega), fun hi => by have := n.le; omega⟩
                · intro i k hi
                  have y := Nat.lt_of_lt_of_le hi n.le
                  have h9 : 0 < Zt i + Zr i := (tv i k).2 y
                  exact anp i hi (by omega)
              | an =>
                intro i k hi
                have y := Nat.lt_of_lt_of_le hi n.le
                exact anp i hi (tv i k y)
            · rw [Bool.and_eq_true] at k
              obtain ⟨a1, a2⟩ := h4 k.2
              have qt := kq k.1
              refine ⟨a1.trans qt.e, pre_of (Nat.le_trans n.le nc.le) fun i ob g1 => ?_, fun i => by rw [a2]; exact qt.f i, qt.z⟩
              have hi := (List.getElem?_eq_some_iff.mp g1).1
              refine nc.fr i ob (pre_get' g1 qt.p) ?_
              have := t2 i hi
              rw [qt.f i] at this
              by_cases y : 0 < Fc i
              · have h8 := hs i
                rw [qt.f i] at h8
                have := (hio k.2).2
                rw [this] at h8
                rw [qt.f i] at h8
                omega
              · omega
      · rw [if_neg hh]; trivial
  · rw [if_neg hna]; trivial
end
def pApp (mask : List Bool) (p : PF) (as : List PArg) : PE := fun e => (evA as e).bind fun avs q e1 => callP mask p avs q e1
theorem AvX.len {S F Z S' σ F' T vs as U} (h : AvX S F Z S' σ F' T vs as U) : vs.length = as.length := by
  induction h with
  | nil _ => rfl
  | v _ _ _ _ ih => rw [List.length_cons, List.length_cons, ih]
  | io _ _ ih => rw [List.length_cons, List.length_cons, ih]
theorem evV_len {p : PE} {r : Env → X (List AVal)} {n : Nat} (hr : ∀ e avs q e1, r e = .ok avs q e1 → avs.length = n) {e : Env} {avs : List AVal} {q : Bool} {e1 : Env} (h : evV p r e = .ok avs q e1) : avs.length = n + 1 := by
  unfold evV at h
  cases hp : p e with
  | bad => rw [hp] at h; cases h
  | exc _ _ _ => rw [hp] at h; cases h
  | ok x q1 e2 =>
    rw [hp] at h
    simp only [xbind_ok] at h
    cases hq : r e2 with
    | bad => rw [hq] at h; cases h
    | exc _ _ _ => rw [hq] at h; cases h
    | ok ys q2 e3 =>
      rw [hq] at h
      simp only [xbind_ok] at h
      split at h
      · cases h; rw [List.length_cons, hr _ _ _ _ hq]
      · cases h
theorem evI_len {pl : Env → Option Plc} {r : Env → X (List AVal)} {n : Nat} (hr : ∀ e avs q e1, r e = .ok avs q e1 → avs.length = n) {e : Env} {avs : List AVal} {q : Bool} {e1 : Env} (h : evI pl r e = .ok avs q e1) : avs.length = n + 1 := by
  unfold evI at h
  split at h
  · cases hq : r e with
    | bad => rw [hq] at h; cases h
    | exc _ _ _ => rw [hq] at h; cases h
    | ok ys q2 e3 =>
      rw [hq] at h
      simp only [xbind_ok] at h
      split at h
      · cases h; rw [List.length_cons, hr _ _ _ _ hq]
      · cases h
  · cases h
theorem evA_len : ∀ {as : List PArg} {e : Env} {avs : List AVal} {q : Bool} {e1 : Env}, evA as e = .ok avs q e1 → avs.length = as.length
  | [], _, _, _, _, h => by cases h; rfl
  | .v p :: r, e, avs, q, e1, h => evV_len (fun _ _ _ _ h => evA_len (as := r) h) h
  | .io pl :: r, e, avs, q, e1, h => evI_len (fun _ _ _ _ h => evA_len (as := r) h) h
  | .d p pl :: r, e, avs, q, e1, h => by
    have h : evD p pl (evA r) e = .ok avs q e1 := h
    unfold evD at h
    split at h
    · exact evI_len (fun _ _ _ _ h => evA_len (as := r) h) h
    · exact evV_len (fun _ _ _ _ h => evA_len (as := r) h) h
theorem je_app {f : Fn} {mask : List Bool} {p : PF} {m : MA} {as : List PArg} {k : Nat} (hf : JF f mask p) (ha : JAr m as) (hn : as.length = k := by rfl) : JE (mApp k f m) (pApp mask p as) := by
  intro S σ e F Z I
  refine Po.bind (ha S σ e F Z I) fun avs q e1 vs S1 F1 Z1 hx n I1 hl kq => ?_
  have h1 : vs.length = k := by obtain ⟨T, av, _⟩ := hl; rw [av.len, evA_len hx, hn]
  rw [if_pos h1]
  exact call_ok hf n I1 hl kq
/-- methods' tables -/
inductive MtR (mask : List Bool) : List (Nat × Fn) → List (Nat × PF) → Prop
  | nil : MtR mask [] []
  | cons {c : Nat} {f : Fn} {p : PF} {r : List (Nat × Fn)} {s : List (Nat × PF)} : JF f mask p → MtR mask r s → MtR mask ((c, f) :: r) ((c, p) :: s)
theorem MtR.get {mask : List Bool} : ∀ {r : List (Nat × Fn)} {s : List (Nat × PF)} {c : Nat} {p : PF}, MtR mask r s → look s c = some p → ∃ f, look r c = some f ∧ JF f mask p
  | _, _, _, _, .nil, h => by cases h
  | _, _, c, p, .cons (c := d) hf hr, h => by
    unfold look at h ⊢
    by_cases z : d = c
    · rw [if_pos z] at h ⊢; cases h; exact ⟨_, rfl, hf⟩
    · rw [if_neg z] at h ⊢; exact hr.get h
def methV (mask : List Bool) (tab : List (Nat × PF)) (p : PE) (as : List PArg) : PE := fun e => (p e).bind fun x q e1 => match x.1 with
  | .ins c _ => (match look tab c with
    | some pf => (evA as e1).bind fun avs q' e2 => if (x.2.st || q') = true then callP mask pf (.v x.1 x.2 :: avs) (q && q') e2 else .bad
    | none => .bad)
  | _ => .bad
def methI (mask : List Bool) (tab : List (Nat × PF)) (pl : Env → Option Plc) (as : List PArg) : PE := fun e => match pl e with
  | some P => (match getPl e P with
    | some (.ins c _) => (match look tab c with
      | some pf => (evA as e).bind fun avs q' e2 => if q' = true then callP mask pf (.io P :: avs) true e2 else .bad
      | none => .bad)
    | _ => .bad)
  | none => .bad
def pMeth (mask : List Bool) (tab : List (Nat × PF)) (r : PArg) (as : List PArg) : PE := fun e => match r with
  | .v p => methV mask tab p as e
  | .io pl => methI mask tab pl as e
  | .d p pl => if isAnX (p e) = true then methI mask tab pl as e else methV mask tab p as e
end Vi
namespace Vi
open PySem PySem.Spec L2 Mi
def outsOf : List Bool → List D → Env → List D
  | true :: bs, _ :: ds, e => (match e with
    | .ow d :: _ => d
    | _ => .hole) :: outsOf bs ds e.tail
  | false :: bs, d :: ds, e => d :: outsOf bs ds e.tail
  | _, _, _ => []
def finP (mask : List Bool) (ds : List D) : XS → RF
  | .rt d o e => .ok d o (outsOf mask ds e)
  | .nx e => .ok .non .fr (outsOf mask ds e)
  | .exc c x e => .exc c x (outsOf mask ds e)
  | _ => .bad
def pFn (n : Nat) (mask : List Bool) (b : PS) : PF := fun ds => finP mask ds (b (wrp mask ds ++ List.replicate (n - ds.length) .no))
def pinsM (k : Nat) : List Bool → List Nat
  | [] => []
  | b :: bs => if b = true then k :: pinsM (k + 1) bs else pinsM (k + 1) bs
theorem pinsM_in : ∀ {mask : List Bool} {k j : Nat}, mask[j]? = some true → k + j ∈ pinsM k mask
  | [], _, _, h => by simp at h
  | b :: bs, k, 0, h => by
    simp at h
    subst h
    unfold pinsM
    rw [if_pos rfl]
    exact List.mem_cons_self
  | b :: bs, k, j + 1, h => by
    have := pinsM_in (k := k + 1) (j := j) (by simpa using h)
    unfold pinsM
    have e : k + (j + 1) = k + 1 + j := by omega
    rw [e]
    split
    · exact List.mem_cons_of_mem _ this
    · exact this
theorem EnvR.app_no {S : Sto} (n : Nat) : ∀ {σ : St} {e : Env} {F Z : Ft}, EnvR S σ e F Z → EnvR S (σ ++ List.replicate n none) (e ++ List.replicate n .no) F Z
  | _, _, _, _, .nil a b => by
    induction n with
    | zero => exact .nil a b
    | succ n ih => rw [List.nil_append, List.nil_append, List.replicate_succ, List.replicate_succ]; exact .no ih
  | _, _, _, _, .no h => .no (h.app_no n)
  | _, _, _, _, .ow r h z => .ow r (h.app_no n) z
  | _, _, _, _, .fz r h z => .fz r (h.app_no n) z
theorem outs_ok {S S' : Sto} : ∀ {mask : List Bool} {vs : List V} {ds : List D} {σ' : St} {e' : Env} {F Z F' Z' : Ft}, EnvR S (vs.map some) (wrp mask ds) F Z → Kp Z S S' → EnvR S' σ' e' F' Z' → (∀ j : Nat, mask[j]? = some true → σ'[j]? = (vs.map some)[j]?) → ds.length = mask.length →
    ∃ F'' : Ft, EnvR S' (vs.map some) (wrp mask (outsOf mask ds e')) F'' Z ∧ ∀ i, F'' i ≤ F' i
  | [], vs, ds, σ', e', F, Z, F', Z', h, kp, h', hp, hl => by
    cases ds with
    | nil =>
      cases vs with
      | nil => cases h with
        | nil a b => exact ⟨fun _ => 0, .nil (fun _ => rfl) b, fun i => by show 0 ≤ _; omega⟩
      | cons _ _ => cases h
    | cons _ _ => cases hl
  | b :: bs, vs, [], _, _, _, _, _, _, _, _, _, _, hl => by cases hl
  | b :: bs, [], d :: ds, _, _, _, _, _, _, h, _, _, _, _ => by
    unfold wrp at h
    cases b <;> cases h
  | true :: bs, v :: vs, d :: ds, σ', e', F, Z, F', Z', h, kp, h', hp, hl => by
    have h : EnvR S (some v :: vs.map some) (.ow d :: wrp bs ds) F Z := h
    cases h with
    | ow r hin z =>
      have hl : ds.length = bs.length := by simpa using hl
      have h0 := hp 0 rfl
      cases h' with
      | nil _ _ => simp at h0
      | @no _ _ o σ e hh =>
        obtain ⟨F2, h2, h3⟩   := outs_ok (mask := bs) (vs := vs) (ds := ds) hin kp hh (fun j hj => by simpa using hp (j + 1) (by simpa using hj)) hl
        exact ⟨F2, .ow (F1 := fun _ => 0) (.hole fun _ => rfl) h2 fun i => by show _ = 0 + _; omega, h3⟩
      | @ow _ Fa Fb _ v' d' σ e r' hh zz =>
        simp at h0
        subst h0
        obtain ⟨F2, h2, h3⟩   := outs_ok (mask := bs) (vs := vs) (ds := ds) hin kp hh (fun j hj => by simpa using hp (j + 1) (by simpa using hj)) hl
        exact ⟨_, .ow r' h2 fun _ => rfl, fun i => by have := h3 i; have := zz i; omega⟩
      | fz r' hh zz =>
        obtain ⟨F2, h2, h3⟩   := outs_ok (mask := bs) (vs := vs) (ds := ds) hin kp hh (fun j hj => by simpa using hp (j + 1) (by simpa using hj)) hl
        exact ⟨F2, .ow (F1 := fun _ => 0) (.hole fun _ => rfl) h2 fun i => by show _ = 0 + _; omega, h3⟩
  | false :: bs, v :: vs, d :: ds, σ', e', F, Z, F', Z', h, kp, h', hp, hl => by
    have h : EnvR S (some v :: vs.map some) (.fz d :: wrp bs ds) F Z := h
    cases h with
    | fz r h z =>
      have hl : ds.length = bs.length := by simpa using hl
      have rr := r.mono (kp.le fun i q => by have := z i; omega)
      cases h' with
      | nil a b =>
        obtain ⟨F2, h2, h3⟩ := outs_ok (mask := bs) (vs := vs) (ds := ds) (σ' := []) (e' := []) h (kp.le fun i q => by have := z i; omega) (.nil a b) (fun j hj => by have := hp (j + 1) (by simpa using hj); simpa using this) hl
        exact ⟨F2, .fz rr h2 z, h3⟩
      | no hh =>
        obtain ⟨F2, h2, h3⟩   := outs_ok (mask := bs) (vs := vs) (ds := ds) h (kp.le fun i q => by have := z i; omega) hh (fun j hj => by simpa using hp (j + 1) (by simpa using hj)) hl
        exact ⟨F2, .fz rr h2 z, h3⟩
      | ow r' hh zz =>
        obtain ⟨F2, h2, h3⟩   := outs_ok (mask := bs) (vs := vs) (ds := ds) h (kp.le fun i q => by have := z i; omega) hh (fun j hj => by simpa using hp (j + 1) (by simpa using hj)) hl
        exact ⟨F2, .fz rr h2 z, fun i => by have := h3 i; have := zz i; omega⟩
      | fz r' hh zz =>
        obtain ⟨F2, h2, h3⟩   := outs_ok (mask := bs) (vs := vs) (ds := ds) h (kp.le fun i q => by have := z i; omega) hh (fun j hj => by simpa using hp (j + 1) (by simpa using hj)) hl
        exact ⟨F2, .fz rr h2 z, h3⟩
theorem map_get_some {vs : List V} {n j : Nat} (h : j < vs.length) : (vs.map some ++ List.replicate n (none : Option V))[j]? = (vs.map some)[j]? := List.getElem?_append_left (by rw [List.length_map]; exact h)
theorem jf_of {n : Nat} {m : MS} {mask : List Bool} {b : PS} (h : JS (pinsM 0 mask) m b) : JF (fnOf n m) mask (pFn n mask b) := by
  intro S vs ds F Z I hl
  have hvl : vs.length = ds.length := by
    have := I.r.len
    rw [List.length_map] at this
    rw [this]
    clear this
    have : ∀ (mask : List Bool) (ds : List D), ds.length = mask.length → (wrp mask ds).length = ds.length := by
      intro mask
      induction mask with
      | nil => intro ds h; cases ds <;> first | rfl | cases h
      | cons b bs ih => intro ds h; cases ds with
        | nil => cases h
        | cons d ds => simp [wrp, ih ds (by simpa using h)]
    exact this mask ds hl
  have I0 : EI S (vs.map some ++ List.replicate (n - vs.length) none) (wrp mask ds ++ List.replicate (n - vs.length) .no) F Z := ⟨I.r.app_no _, I.nd, I.dj⟩
  have hb := h S _ _ F Z I0
  rw [fnOf_ap]
  unfold pFn
  rw [← hvl]
  have dz : ∀ {S' F' Z'}, Nx S F Z S' F' Z' → Kp Z S S' := fun nn => .of_fr nn.fr I.dj I.r.domF
  have pinned : ∀ {σ' : St}, Pin (pinsM 0 mask) (vs.map some ++ List.replicate (n - vs.length) none) σ' → ∀ j : Nat, mask[j]? = some true → σ'[j]? = (vs.map some)[j]? := fun hp j hj => by
    have hj2 := (List.getElem?_eq_some_iff.mp hj).1
    rw [hp j (by have := pinsM_in (k := 0) hj; simpa using this), map_get_some (by omega)]
  have nx2 : ∀ {S' F' Z' F''}, Nx S F Z S' F' Z' → (∀ i, F'' i ≤ F' i) → Nx S F Z S' F'' Z := fun nn hh => ⟨nn.le, nn.fr, fun i => Nat.le_trans (hh i) (nn.nd i), fun i hi => Nat.le_trans (hh i) (nn.sub i hi), fun i _ k => k, fun i k => by
    have := hh i
    obtain ⟨o, e, _⟩ := I.r.domZ i k
    have := nn.sub i (List.getElem?_eq_some_iff.mp e).1
    have := I.dj i k
    omega⟩
  have tg2 : ∀ {S' F' Z' F'' o Fd}, Nx S F Z S' F' Z' → (∀ i, F'' i ≤ F' i) → Tg o S F Z F' Z' Fd → Tg o S F Z F'' Z Fd := fun {S' F' Z' F'' o Fd} nn hh t => by
    cases o with
    | fr => exact ⟨fun i => by have := hh i; have := t.1 i; omega, fun i hi => by have := hh i; have := t.2.1 i hi; omega, fun i k => by
        obtain ⟨o, e, _⟩ := I.r.domZ i k
        have := t.2.1 i (List.getElem?_eq_some_iff.mp e).1
        have := I.dj i k
        omega⟩
    | zn => exact fun i k => ⟨by have := hh i; have := (t i k).1; omega, (t i k).2⟩
    | an => exact t
  cases hx : b (wrp mask ds ++ List.replicate (n - vs.length) .no) with
  | bad => trivial
  | bk e' => trivial
  | ct e' => trivial
  | nx e' =>
    rw [hx] at hb
    obtain ⟨σ', S', hr, F', Z', nn, er, hp⟩ := hb
    rw [hr]
    obtain ⟨F'', h1, h2⟩ := outs_ok I.r (dz nn) er (pinned hp) hl
    exact ⟨.non, S', F'', fun _ => 0, rfl, nx2 nn h2, h1, .non fun _ => rfl, tg_zero (fun _ => rfl) (nx2 nn h2).nd (nx2 nn h2).sub⟩
  | exc c x e' =>
    rw [hx] at hb
    obtain ⟨σ', S', hr, F', Z', nn, er, hp⟩ := hb
    rw [hr]
    obtain ⟨F'', h1, h2⟩ := outs_ok I.r (dz nn) er (pinned hp) hl
    exact ⟨S', F'', rfl, nx2 nn h2, h1⟩
  | rt d o e' =>
    rw [hx] at hb
    obtain ⟨v, S', σ', F', Z', Fd, hr, nn, er, hp, rv, t⟩ := hb
    rw [hr]
    obtain ⟨F'', h1, h2⟩ := outs_ok I.r (dz nn) er (pinned hp) hl
    exact ⟨v, S', F'', Fd, rfl, nx2 nn h2, h1, rv, tg2 nn h2 t⟩
def unC (j : Nat) : XS → XS
  | .nx e => .nx (e.set j .no)
  | .rt d o e => .rt d o e
  | .bk e => .bk (e.set j .no)
  | .ct e => .ct (e.set j .no)
  | _ => .bad
def pTry (b : PS) (sub : Nat → Bool) (j : Nat) (s : PS) : PS := fun e => match b e with
  | .exc c x e1 => if sub c = true then unC j (s (e1.set j (.ow (.exc c x)))) else .exc c x e1
  | r => r
def unB : XS → XS
  | .exc _ _ _ => .bad
  | r => r
def pTryN (b : PS) (sub : Nat → Bool) (s : PS) : PS := fun e => match b e with
  | .exc c x e1 => if sub c = true then unB (s e1) else .exc c x e1
  | r => r
section
variable {P : List Nat} {mb ms : MS} {pb ps : PS} {sub : Nat → Bool}
def pWhile (c : PT) (b : PS) : Nat → PS
  | 0 => fun _ => .bad
  | n + 1 => fun e => (c e).lift fun x _ e1 => if x = true then (match b e1 with
      | .nx e2 => pWhile c b n e2
      | .ct e2 => pWhile c b n e2
      | .bk e2 => .nx e2
      | r => r) else .nx e1
theorem js_while {mc : MT} {pc : PT} (hc : JT mc pc) (hb : JS P mb pb) : ∀ n, JS P (mWhile mc mb n) (pWhile pc pb n)
  | 0 => fun S σ e F Z I => trivial
  | n + 1 => fun S σ e F Z I => PoS.lift (hc S σ e F Z I) fun a q e1 v S1 F1 Z1 hx n1 I1 hl k => by
    cases hl
    by_cases z : a = true
    · rw [if_pos z, if_pos z]
      have h := hb S1 σ e1 F1 Z1 I1
      cases hy : pb e1 with
      | nx e2 =>
        rw [hy] at h
        obtain ⟨σ2, S2, hr, F2, Z2, n2, er, hp⟩ := h
        rw [hr]
        exact (js_while hc hb n S2 σ2 e2 F2 Z2 (n2.ei er)).after (n1.trans n2) hp
      | ct e2 =>
        rw [hy] at h
        obtain ⟨σ2, S2, hr, F2, Z2, n2, er, hp⟩ := h
        rw [hr]
        exact (js_while hc hb n S2 σ2 e2 F2 Z2 (n2.ei er)).after (n1.trans n2) hp
      | bk e2 => rw [hy] at h; obtain ⟨σ2, S2, hr, a⟩ := h; rw [hr]; exact ⟨_, _, rfl, a.tr n1 .refl⟩
      | exc c x e2 => rw [hy] at h; obtain ⟨σ2, S2, hr, a⟩ := h; rw [hr]; exact ⟨_, _, rfl, a.tr n1 .refl⟩
      | rt d o e2 => rw [hy] at h; have h := PoS.after n1 .refl h; obtain ⟨v, S', σ', F', Z', Fd, hr, rest⟩ := h; rw [hr]; exact ⟨v, S', σ', F', Z', Fd, rfl, rest⟩
      | bad => trivial
    · rw [if_neg z, if_neg z]
      exact ⟨_, _, rfl, F1, Z1, n1, I1.r, .refl⟩
end
inductive ItD where
  | v (d : D) | t (ds : List D)
inductive ItsR (S : Sto) : List Itv → List ItD → Ft → Prop
  | nil {F : Ft} : Zf F → ItsR S [] [] F
  | v {F F1 F2 : Ft} {x : V} {d : D} {r : List Itv} {s : List ItD} : Rp false S x d F1 → ItsR S r s F2 → (∀ i, F i = F1 i + F2 i) → ItsR S (.v x :: r) (.v d :: s) F
  | t {F F1 F2 : Ft} {xs : List V} {ds : List D} {r : List Itv} {s : List ItD} : RpL false S xs ds F1 → ItsR S r s F2 → (∀ i, F i = F1 i + F2 i) → ItsR S (.t xs :: r) (.t ds :: s) F
theorem ItsR.mono {S S' : Sto} : ∀ {r : List Itv} {s : List ItD} {F : Ft}, ItsR S r s F → Kp F S S' → ItsR S' r s F
  | _, _, _, .nil z, _ => .nil z
  | _, _, _, .v a b z, k => .v (a.mono (k.le fun i q => by have := z i; omega)) (b.mono (k.le fun i q => by have := z i; omega)) z
  | _, _, _, .t a b z, k => .t (a.mono (k.le fun i q => by have := z i; omega)) (b.mono (k.le fun i q => by have := z i; omega)) z
def slI (d : D) : Sl := if imm d = true then .ow d else .fz d
def setIs : List Nat → List D → Env → Option Env
  | [], [], e => some e
  | i :: is, d :: ds, e => setIs is ds (e.set i (slI d))
  | _, _, _ => none
abbrev TgD := ItD → Env → Option Env
def tdName (i : Nat) : TgD := fun it e => match it with
  | .v d => some (e.set i (slI d))
  | .t _ => none
def tdTup (is : List Nat) : TgD := fun it e => match it with
  | .t ds => setIs is ds e
  | .v (.tup ds) => setIs is ds e
  | _ => none
/-- the target does to slots what its function tells -/
inductive ItR (S : Sto) : Itv → ItD → Ft → Prop
  | v {F : Ft} {x : V} {d : D} : Rp false S x d F → ItR S (.v x) (.v d) F
  | t {F : Ft} {xs : List V} {ds : List D} : RpL false S xs ds F → ItR S (.t xs) (.t ds) F
def JG (is : List Nat) (tg : Mi.Tg) (td : TgD) : Prop := ∀ (P : List Nat) (S S' : Sto) (σ0 σ : St) (e e2 : Env) (F Z F' Z' G : Ft) (it : Itv) (itd : ItD), (∀ i ∈ is, i ∉ P) → Nx S F Z S' F' Z' → EI S' σ e F' Z' → Pin P σ0 σ → ItR S' it itd G → Tg .zn S F Z F' Z' G → td itd e = some e2 → ∃ σ2 F2 Z2, tg it σ S' = some σ2 ∧ Nx S F Z S' F2 Z2 ∧ EnvR S' σ2 e2 F2 Z2 ∧ Pin P σ0 σ2 ∧ ∀ j, F2 j ≤ F' j
theorem aft_slI {P : List Nat} {S S' : Sto} {σ0 σ : St} {e' : Env} {F Z F' Z' Fd : Ft} {v : V} {d : D} {i : Nat} (hi : i ∉ P) (n : Nx S F Z S' F' Z') (I : EI S' σ e' F' Z') (pn : Pin P σ0 σ) (r : Rp false S' v d Fd) (t : Tg .zn S F Z F' Z' Fd) : ∃ F2 Z2, Nx S F Z S' F2 Z2 ∧ EnvR S' (σ.set i (some v)) (e'.set i (slI d)) F2 Z2 ∧ Pin P σ0 (σ.set i (some v)) ∧ ∀ j, F2 j ≤ F' j := by
  unfold slI
  by_cases z : imm d = true
  · rw [if_pos z]
    obtain ⟨F2, Z2, r2, hF, hZ⟩ := I.r.setOw i (zero_imm r z)
    have hF : ∀ j, F2 j ≤ F' j + 0 := hF
    refine ⟨F2, Z2, ⟨n.le, n.fr, fun j => by have := hF j; have := I.nd j; omega, fun j hj => by have := hF j; have := n.sub j hj; omega, fun j hj h => n.zs j hj (by have := hZ j; omega), fun j h => ?_⟩, r2, pn.trans (pin_set hi), fun j => by have := hF j; omega⟩
    have := hF j; have := hZ j; have := I.dj j (by omega); omega
  · rw [if_neg z]
    obtain ⟨F2, Z2, r2, hF, hZ⟩ := I.r.setFz i r
    refine ⟨F2, Z2, ⟨n.le, n.fr, fun j => by have := hF j; have := I.nd j; omega, fun j hj => by have := hF j; have := n.sub j hj; omega, fun j hj h => ?_, fun j h => ?_⟩, r2, pn.trans (pin_set hi), hF⟩
    · by_cases y : 0 < Z' j
      · exact n.zs j hj y
      · exact (t j (by have := hZ j; omega)).2 hj
    · have := hF j
      by_cases y : 0 < Z' j
      · have := I.dj j y; omega
      · have := (t j (by have := hZ j; omega)).1; omega
theorem jg_name (i : Nat) : JG [i] (tgName i) (tdName i) := by
  intro P S S' σ0 σ e e2 F Z F' Z' G it itd hi n I pn r t h
  cases r with
  | v r =>
    cases h
    obtain ⟨F2, Z2, n2, r2, p2, hF⟩ := aft_slI (hi i List.mem_cons_self) n I pn r t
    exact ⟨_, F2, Z2, rfl, n2, r2, p2, hF⟩
  | t r => cases h
theorem set_is {P : List Nat} {S S' : Sto} {σ0 : St} {F Z : Ft} : ∀ {is : List Nat} {vs : List V} {ds : List D} {σ : St} {e e2 : Env} {F' Z' G : Ft}, (∀ i ∈ is, i ∉ P) → Nx S F Z S' F' Z' → EI S' σ e F' Z' → Pin P σ0 σ → RpL false S' vs ds G → Tg .zn S F Z F' Z' G → setIs is ds e = some e2 → ∃ σ2 F2 Z2, setAll is vs σ = some σ2 ∧ Nx S F Z S' F2 Z2 ∧ EnvR S' σ2 e2 F2 Z2 ∧ Pin P σ0 σ2 ∧ ∀ j, F2 j ≤ F' j
  | [], _, _, σ, e, e2, F', Z', G, _, n, I, pn, .nil _, t, h => by cases h; exact ⟨σ, F', Z', rfl, n, I.r, pn, fun _ => Nat.le_refl _⟩
  | [], _, _, _, _, _, _, _, _, _, _, _, _, .cons _ _ _, _, h => by cases h
  | _ :: _, _, _, _, _, _, _, _, _, _, _, _, _, .nil _, _, h => by cases h
  | i :: is, _, _, σ, e, e2, F', Z', G, hp, n, I, pn, .cons (F1 := Fa) (F2 := Fb) a b z, t, h => by
    obtain ⟨F2, Z2, n2, r2, p2, hF⟩ := aft_slI (hp i List.mem_cons_self) n I pn a (fun j h => t j (by have := z j; omega))
    obtain ⟨σ3, F3, Z3, h3, n3, r3, p3, hF3⟩ := set_is (is := is) (σ := σ.set i (some _)) (G := Fb) (fun k hk => hp k (List.mem_cons_of_mem _ hk)) n2 (n2.ei r2) p2 b (fun j h => by
      have := hF j; have := (t j (by have := z j; omega)).1; exact ⟨by omega, (t j (by have := z j; omega)).2⟩) h
    exact ⟨σ3, F3, Z3, h3, n3, r3, p3, fun j => Nat.le_trans (hF3 j) (hF j)⟩
theorem jg_tup (is : List Nat) : JG is (tgTup is) (tdTup is) := by
  intro P S S' σ0 σ e e2 F Z F' Z' G it itd hi n I pn r t h
  cases r with
  | v r =>
    rename_i x d
    cases d with
    | tup ds =>
      obtain ⟨i, vs, rfl, hT, rT, _⟩ := r.rdT
      obtain ⟨σ2, F2, Z2, h1, h2⟩ := set_is hi n I pn rT t h
      exact ⟨σ2, F2, Z2, by show (match Mi.rdT S' (.ref i) with
        | some xs => setAll is xs σ
        | none => none) = some σ2; rw [hT]; exact h1, h2⟩
    | _ => cases h
  | t r =>
    exact set_is hi n I pn r t h
def pFor1 (tg : TgD) (b : PS) : List ItD → PS
  | [], e => .nx e
  | it :: r, e => match tg it e with
    | some e1 => (match b e1 with
      | .nx e2 => pFor1 tg b r e2
      | .ct e2 => pFor1 tg b r e2
      | .bk e2 => .nx e2
      | x => x)
    | none => .bad
/-- the items, quiet; the flag tells that what is walked is no part of what is owned -/
abbrev PI := Env → X (List ItD × Bool)
def RlI : Rel (List ItD × Bool) Src := fun S F Z S' F' Z' s a => ∃ Fd Fx, ItsR S' s.its a.1 Fd ∧ (∀ i, Fd i ≤ Fx i) ∧ (∀ i, 0 < Fx i → i < S'.length) ∧ (∀ S'', Kp Fx S' S'' → s.chk S'' = true) ∧ (∀ i, 0 < Fx i → i < S.length → 0 < F i + Z i) ∧ (a.2 = true → Tg .zn S F Z F' Z' Fx)
abbrev JI (m : St → Sto → R Src) (p : PI) : Prop := JX RlI m p
def pFor (src : PI) (tg : TgD) (b : PS) : PS := fun e => (src e).lift fun x _ e1 => if x.2 = true then pFor1 tg b x.1 e1 else .bad
section
variable {P : List Nat} {mb : MS} {pb : PS} {is : List Nat} {tg : Mi.Tg} {td : TgD}
theorem for_ok (hg : JG is tg td) (hb : JS P mb pb) (hi : ∀ i ∈ is, i ∉ P) {chk : Sto → Bool} {S0 : Sto} {σ0 : St} {F0 Z0 : Ft} : ∀ {its : List Itv} {itds : List ItD} {S : Sto} {σ : St} {e : Env} {F Z Fd Fx : Ft}, Nx S0 F0 Z0 S F Z → EI S σ e F Z → Pin P σ0 σ → ItsR S its itds Fd → (∀ i, Fd i ≤ Fx i) → (∀ i, 0 < Fx i → i < S.length) → (∀ S', Kp Fx S S' → chk S' = true) → Tg .zn S0 F0 Z0 F Z Fx → PoS P S0 σ0 F0 Z0 (mFor1 chk tg mb its σ S) (pFor1 td pb itds e)
  | _, _, S, σ, e, F, Z, Fd, Fx, n, I, pn, .nil _, hle, hlt, hc, ht => by
    show PoS P S0 σ0 F0 Z0 (if chk S = true then .nx σ S else .bad) (.nx e)
    rw [if_pos (hc S Kp.refl)]
    exact ⟨σ, S, rfl, F, Z, n, I.r, pn⟩
  | it :: r, itd :: s, S, σ, e, F, Z, Fd, Fx, n, I, pn, h, hle, hlt, hc, ht => by
    have key : ∃ G R, ItR S it itd G ∧ ItsR S r s R ∧ (∀ i, Fd i = G i + R i) := by
      cases h with
      | v a b z => exact ⟨_, _, .v a, b, z⟩
      | t a b z => exact ⟨_, _, .t a, b, z⟩
    obtain ⟨G, R, hit, hrest, hz⟩ := key
    unfold mFor1 pFor1
    rw [if_pos (hc S Kp.refl)]
    cases htd : td itd e with
    | none => trivial
    | some e1 =>
      obtain ⟨σ1, F1, Z1, h1, n1, er1, pn1, hF1⟩ := hg P S0 S σ0 σ e e1 F0 Z0 F Z G it itd hi n I pn hit (fun i k => ht i (by have := hz i; have := hle i; omega)) htd
      rw [h1]
      dsimp only
      have hb1 := hb S σ1 e1 F1 Z1 (n1.ei er1)
      have f1 : ∀ i, 0 < Fx i → F1 i = 0 := fun i k => by have := (ht i k).1; have := hF1 i; omega
      have go : ∀ {σ2 S2 e2}, Aft P S σ1 F1 Z1 S2 σ2 e2 → PoS P S0 σ0 F0 Z0 (mFor1 chk tg mb r σ2 S2) (pFor1 td pb s e2) := fun {σ2 S2 e2} ⟨F2, Z2, n2, er2, p2⟩ => by
        have nn := n1.trans n2
        have kx : Kp Fx S S2 := n2.kp er1 f1
        exact for_ok hg hb hi nn (nn.ei er2) (pn1.trans p2) (hrest.mono (kx.le fun i k => by have := hz i; have := hle i; omega)) (fun i => by have := hz i; have := hle i; omega) (fun i k => Nat.lt_of_lt_of_le (hlt i k) n2.le) (fun S' k => hc S' (kx.trans k)) fun i k => ⟨by have := n2.sub i (hlt i k); have := f1 i k; omega, (ht i k).2⟩
      cases hx : pb e1 with
      | nx e2 => rw [hx] at hb1; obtain ⟨σ2, S2, hr, a⟩ := hb1; rw [hr]; exact go a
      | ct e2 => rw [hx] at hb1; obtain ⟨σ2, S2, hr, a⟩ := hb1; rw [hr]; exact go a
      | bk e2 => rw [hx] at hb1; obtain ⟨σ2, S2, hr, a⟩ := hb1; rw [hr]; exact ⟨σ2, S2, rfl, a.tr n1 pn1⟩
      | exc c x e2 => rw [hx] at hb1; obtain ⟨σ2, S2, hr, a⟩ := hb1; rw [hr]; exact ⟨σ2, S2, rfl, a.tr n1 pn1⟩
      | rt d o e2 => rw [hx] at hb1; have hb1 := PoS.after n1 pn1 hb1; obtain ⟨v, S', σ', F', Z', Fd, hr, rest⟩ := hb1; rw [hr]; exact ⟨v, S', σ', F', Z', Fd, rfl, rest⟩
      | bad => trivial
theorem js_for {src : St → Sto → R Src} {psrc : PI} (hs : JI src psrc) (hg : JG is tg td) (hb : JS P mb pb) (hi : ∀ i ∈ is, i ∉ P := by decide) : JS P (mFor src tg mb) (pFor psrc td pb) := fun S σ e F Z I => by
  rw [mFor_ap]
  refine PoS.lift (hs S σ e F Z I) fun ⟨its, ok⟩ q e1 s S1 F1 Z1 hx n I1 ⟨Fd, Fx, h1, h2, h3, h4, _, h5⟩ k => ?_
  by_cases z : ok = true
  · rw [if_pos z]
    exact for_ok hg hb hi n I1 .refl h1 h2 h3 h4 (h5 z)
  · rw [if_neg z]; trivial
end
def okSrc (o : Og) (q : Bool) : Bool := q && o.st
theorem src_zn {S S' : Sto} {F Z F' Z' Fd : Ft} {e e' : Env} {o : Og} {q : Bool} (t : Tg o S F Z F' Z' Fd) (qt : q = true → Qt S e F Z S' e' F' Z') (h : okSrc o q = true) : Tg .zn S F Z F' Z' Fd := by
  unfold okSrc at h
  rw [Bool.and_eq_true] at h
  have hq := qt h.1
  cases o with
  | an => cases h.2
  | zn => exact t
  | fr => exact fun i k => ⟨by have := t.1 i; omega, fun hi => by have := t.2.1 i hi; rw [hq.f i] at this; omega⟩
theorem src_mem {S : Sto} {F Z F' Z' Fd : Ft} {o : Og} (t : Tg o S F Z F' Z' Fd) : ∀ i, 0 < Fd i → i < S.length → 0 < F i + Z i := fun i k hi => by
  cases o with
  | fr => have := t.2.1 i hi; omega
  | zn => have := (t i k).2 hi; omega
  | an => exact t i k hi
def strIts (z : Str) : List ItD := z.cps.toList.map fun c => .v (.str ⟨#[c]⟩)
def itemsD : D → Option (List ItD)
  | .lst xs => some (xs.map .v)
  | .tup xs => some (xs.map .v)
  | .str z => some (strIts z)
  | _ => none
def pWalk (p : PE) : PI := fun e => (p e).bind fun x q e1 => match itemsD x.1 with
  | some its => .ok (its, okSrc x.2 q) q e1
  | none => .bad
theorem its_of {S : Sto} : ∀ {vs : List V} {ds : List D} {F : Ft}, RpL false S vs ds F → ItsR S (vs.map .v) (ds.map .v) F
  | _, _, _, .nil z => .nil z
  | _, _, _, .cons a b z => .v a (its_of b) z
theorem its_str {S : Sto} : ∀ l : List Nat, ItsR S (l.map fun c => .v (.str ⟨#[c]⟩)) (l.map fun c => ItD.v (.str ⟨#[c]⟩)) fun _ => 0
  | [] => .nil fun _ => rfl
  | _ :: l => .v (.str fun _ => rfl) (its_str l) fun _ => rfl
/-- a list as a source's store-side: its place, and the look at it -/
theorem Rp.srcL {S : Sto} {v : V} {xs : List D} {F : Ft} (r : Rp false S v (.lst xs) F) : ∃ i vs Fd, ∃ o : Ob, v = .ref i ∧ (o = .lst vs ∨ o = .lck (.lst vs)) ∧ S[i]? = some o ∧ RpL false S vs xs Fd ∧ (∀ j, Fd j ≤ F j) ∧ ∀ S', Kp F S S' → S'[i]? = some o := by
  cases r with
  | @lst _ F0 i vs _ es r z =>
    rcases es with es | ⟨_, es⟩
    · exact ⟨i, vs, F0, _, rfl, .inl rfl, es, r, fun j => by have := z j; omega, fun S' k => k i _ es (.inl (by have := z i; rw [if_pos rfl] at this; omega))⟩
    · exact ⟨i, vs, F0, _, rfl, .inr rfl, es, r, fun j => by have := z j; omega, fun S' k => k i _ es (.inl (by have := z i; rw [if_pos rfl] at this; omega))⟩
theorem ji_walk {m : ME} {p : PE} (h : JE m p) : JI (mWalk m) (pWalk p) := by
  intro S σ e F Z I
  rw [mWalk_ap]
  refine Po.bind (h S σ e F Z I) fun ⟨d, o⟩ q e1 v S1 F1 Z1 hx n I1 ⟨Fd, r, t⟩ k => ?_
  have r := r.relax
  cases d with
  | lst xs =>
    obtain ⟨i, vs, F0, ob, rfl, ho, es, rv, hle, hkp⟩ := r.srcL
    rcases ho with ho | ho
    · subst ho
      rw [kWalk_lst _ es]
      exact ⟨_, S1, F1, Z1, rfl, n, I1.r, ⟨F0, Fd, its_of rv, hle, fun j y => r.lt y, fun S' kp => decide_eq_true (hkp S' kp), src_mem t, fun hh => src_zn t k hh⟩, k⟩
    · subst ho
      rw [kWalk_lck _ es]
      exact ⟨_, S1, F1, Z1, rfl, n, I1.r, ⟨F0, Fd, its_of rv, hle, fun j y => r.lt y, fun S' kp => decide_eq_true (hkp S' kp), src_mem t, fun hh => src_zn t k hh⟩, k⟩
  | tup xs =>
    obtain ⟨i, vs, rfl, hT, rT, _, _, es⟩ := r.rdT
    rw [kWalk_tup _ es]
    exact ⟨_, S1, F1, Z1, rfl, n, I1.r, ⟨Fd, Fd, its_of rT, fun _ => Nat.le_refl _, fun j y => r.lt y, fun S' kp => decide_eq_true (kp i _ es (.inr (by exact id))), src_mem t, fun hh => src_zn t k hh⟩, k⟩
  | str z =>
    rw [r.inv_str]
    refine ⟨_, S1, F1, Z1, rfl, n, I1.r, ⟨fun _ => 0, fun _ => 0, its_str _, fun _ => Nat.le_refl _, fun j y => absurd y (by simp), fun S' kp => rfl, fun i y => absurd y (by simp), fun hh i y => absurd y (by simp)⟩, k⟩
  | _ => trivial
def intIts (lo : Int) (n : Nat) : List ItD := (List.range n).map fun k => .v (.int (lo + (k : Nat)))
theorem its_int {S : Sto} {lo : Int} : ∀ l : List Nat, ItsR S (l.map fun k => .v (.int (lo + (k : Nat)))) (l.map fun k => ItD.v (.int (lo + (k : Nat)))) fun _ => 0
  | [] => .nil fun _ => rfl
  | _ :: l => .v (.int fun _ => rfl) (its_int l) fun _ => rfl
theorem nat62 {j : Int} (h : j.natAbs < 4611686018427387904) : -(2 ^ 62) ≤ j ∧ j < 2 ^ 62 := by
  have e : (2 : Int) ^ 62 = 4611686018427387904 := by decide +kernel
  rw [e]
  omega
def oneI : List (D × Og) → Option Int
  | [(.int j, _)] => if j.natAbs < 4611686018427387904 then some j else none
  | _ => none
def twoI : List (D × Og) → Option (Int × Int)
  | [(.int i, _), (.int j, _)] => if i.natAbs < 4611686018427387904 ∧ j.natAbs < 4611686018427387904 then some (i, j) else none
  | _ => none
def pRange1 (a : PA) : PI := fun e => (a e).bind fun ds q e1 => match oneI ds with
  | some j => .ok (intIts 0 j.toNat, true) q e1
  | none => .bad
def pRange2 (a : PA) : PI := fun e => (a e).bind fun ds q e1 => match twoI ds with
  | some (i, j) => .ok (intIts i (j - i).toNat, true) q e1
  | none => .bad
theorem RlI.zero {S S1 : Sto} {F Z F1 Z1 : Ft} {its : List Itv} {itds : List ItD} {b : Bool} (h : ItsR S1 its itds fun _ => 0) : RlI S F Z S1 F1 Z1 ⟨its, fun _ => true⟩ (itds, b) := ⟨fun _ => 0, fun _ => 0, h, fun _ => Nat.le_refl _, fun j y => absurd y (by simp), fun S' kp => rfl, fun i y => absurd y (by simp), fun hh i y => absurd y (by simp)⟩
theorem oneI_of {S F Z S' F' T vs ds U} {j : Int} (av : AvR S F Z S' F' T vs ds U) (h : oneI ds = some j) : vs = [.int j] ∧ -(2 ^ 62) ≤ j ∧ j < 2 ^ 62 := by
  unfold oneI at h
  split at h
  · split at h
    · rename_i hz
      cases h
      cases av with
      | cons r _ av _ =>
        cases av
        rw [r.inv_int]
        exact ⟨rfl, nat62 hz⟩
    · cases h
  · cases h
theorem ji_range1 {m : MA} {p : PA} (h : JA m p) : JI (mRange1 m) (pRange1 p) := by
  intro S σ e F Z I
  refine Po.bind (h S σ e F Z I) fun ds q e1 vs S1 F1 Z1 hx n I1 ⟨T, av, t1, t2, t3⟩ k => ?_
  cases ho : oneI ds with
  | none => trivial
  | some j =>
    obtain ⟨rfl, hz⟩ := oneI_of av ho
    dsimp only
    rw [if_pos hz]
    exact ⟨_, S1, F1, Z1, rfl, n, I1.r, .zero (its_int _), k⟩
def enumD : Nat → List D → List ItD
  | _, [] => []
  | n, x :: xs => .t [.int (n : Int), x] :: enumD (n + 1) xs
def pEnum (a : PE) : PI := fun e => (a e).bind fun x q e1 => match x.1 with
  | .lst xs => .ok (enumD 0 xs, okSrc x.2 q) q e1
  | _ => .bad
def zipD : List D → List D → List ItD
  | x :: xs, y :: ys => .t [x, y] :: zipD xs ys
  | _, _ => []
def pZip (a b : PE) : PI := fun e => (a e).bind fun x q e1 => (b e1).bind fun y q' e2 => if (q && q') = true then (match x.1, y.1 with
  | .lst xs, .lst ys => .ok (zipD xs ys, okSrc x.2 true && okSrc y.2 true) true e2
  | _, _ => .bad) else .bad
end Vi
namespace Vi
open PySem PySem.Spec L2 Mi
def frz1 : Sl → Sl
  | .ow d => .fz d
  | s => s
def frzAll (e : Env) : Env := e.map frz1
theorem EnvR.frz {S : Sto} : ∀ {σ : St} {e : Env} {F Z : Ft}, EnvR S σ e F Z → EnvR S σ (frzAll e) (fun _ => 0) (fun i => F i + Z i)
  | _, _, _, _, .nil a b => .nil (fun _ => rfl) fun i => by show _ + _ = 0; rw [a, b]
  | _, _, _, _, .no h => .no h.frz
  | _, _, _, _, .ow (F1 := A) (F2 := B) (Z := Z) r h z => .fz r.weak h.frz fun i => by have := z i; show _ + Z i = A i + (B i + Z i); omega
  | _, _, F, _, .fz (Z1 := A) (Z2 := B) r h z => .fz r h.frz fun i => by have := z i; show F i + _ = A i + (F i + B i); omega
theorem EI.frz {S : Sto} {σ : St} {e : Env} {F Z : Ft} (I : EI S σ e F Z) : EI S σ (frzAll e) (fun _ => 0) (fun i => F i + Z i) := ⟨I.r.frz, fun _ => by omega, fun _ _ => rfl⟩
def wipeE (e : Env) : List Nat → Env
  | [] => e
  | v :: vs => (wipeE e vs).set v .no
theorem EnvR.wipe {S : Sto} {σ : St} {e : Env} {F Z : Ft} (h : EnvR S σ e F Z) : ∀ vs : List Nat, ∃ F' Z', EnvR S (L2.wipe σ vs) (wipeE e vs) F' Z' ∧ (∀ i, F' i ≤ F i) ∧ ∀ i, Z' i ≤ Z i
  | [] => ⟨F, Z, h, fun _ => Nat.le_refl _, fun _ => Nat.le_refl _⟩
  | v :: vs => by
    obtain ⟨F', Z', h1, h2, h3⟩ := h.wipe vs
    by_cases z : v < (wipeE e vs).length
    · obtain ⟨A, B, C, E, hF, hZ, _, k1, _⟩ := h1.slot (List.getElem?_eq_getElem z)
      exact ⟨C, E, k1 none, fun i => by have := hF i; have := h2 i; omega, fun i => by have := hZ i; have := h3 i; omega⟩
    · have e1 : L2.wipe σ (v :: vs) = L2.wipe σ vs := set_out (by rw [h1.len]; omega)
      have e2 : wipeE e (v :: vs) = wipeE e vs := set_out (by omega)
      rw [e1, e2]
      exact ⟨F', Z', h1, h2, h3⟩
def lcGoD (td : TgD) (c : PT) (p : PE) (e0 : Env) : List ItD → List D → Option (List D)
  | [], acc => some acc
  | it :: r, acc => (td it e0).bind fun e1 => match c e1 with
    | .ok b true e2 => if b = true then (match p e2 with
      | .ok (d, .fr) true _ => if acc.length < sizeLine then lcGoD td c p e0 r (acc ++ [d]) else none
      | _ => none) else lcGoD td c p e0 r acc
    | _ => none
def pLc (src : PI) (own : List Nat) (td : TgD) (c : PT) (p : PE) : PE := fun e => match src (frzAll e) with
  | .ok x true _ => (match lcGoD td c p (wipeE (frzAll e) own) x.1 [] with
    | some ds => .ok (.lst ds, .fr) true e
    | none => .bad)
  | _ => .bad
def pYes : PT := fun e => .ok true true e
theorem jt_yes : JT mYes pYes := fun S σ e F Z I => .pure I rfl
theorem ei_any {S : Sto} {σ : St} {e : Env} {F Z : Ft} (I : EI S σ e F Z) : Nx [] (fun _ => 0) (fun _ => 0) S F Z := ⟨Nat.zero_le _, fun i o h => by simp at h, I.nd, fun i h => by simp at h, fun i h => by simp at h, I.dj⟩
theorem lc_ok {is : List Nat} {tg : Mi.Tg} {td : TgD} {mc : MT} {pc : PT} {m : ME} {p : PE} (hg : JG is tg td) (hc : JT mc pc) (hp : JE m p) {chk : Sto → Bool} {S1 : Sto} {σ0 : St} {e0 : Env} {Z0 Fx : Ft} (I0 : EI S1 σ0 e0 (fun _ => 0) Z0) (hchk : ∀ S', Kp Fx S1 S' → chk S' = true) :
    ∀ {its : List Itv} {itds : List ItD} {S : Sto} {acc : List V} {ds : List D} {A Fd : Ft} {out : List D}, ItsR S1 its itds Fd → S1 <+: S → S[S1.length]? = some (.lst acc) → RpL true S acc ds A → (∀ i, 0 < A i → S1.length < i) → (∀ i, A i ≤ 1) → lcGoD td pc p e0 itds ds = some out →
    ∃ S' acc' A', lcGo S1.length chk tg mc m σ0 its S = some S' ∧ S1 <+: S' ∧ S'[S1.length]? = some (.lst acc') ∧ RpL true S' acc' out A' ∧ (∀ i, 0 < A' i → S1.length < i) ∧ ∀ i, A' i ≤ 1
  | _, _, S, acc, ds, A, Fd, out, .nil _, pr, hn, ra, ha, h1, h => by
    cases h
    refine ⟨S, acc, A, ?_, pr, hn, ra, ha, h1⟩
    unfold lcGo
    rw [if_pos (hchk S (.pre pr))]
  | it :: r, itd :: s, S, acc, ds, A, Fd, out, hi, pr, hn, ra, ha, h1, h => by
    have key : ∃ G R, ItR S1 it itd G ∧ ItsR S1 r s R := by
      cases hi with
      | v a b z => exact ⟨_, _, .v a, b⟩
      | t a b z => exact ⟨_, _, .t a, b⟩
    obtain ⟨G, R, hit, hrest⟩ := key
    unfold lcGoD at h
    unfold lcGo
    rw [if_pos (hchk S (.pre pr))]
    cases htd : td itd e0 with
    | none => rw [htd] at h; cases h
    | some e1 =>
      rw [htd] at h
      simp only [Option.bind_some] at h
      have I := I0.pre pr
      have hit' : ItR S it itd G := by
        cases hit with
        | v a => exact .v (a.mono (.pre pr))
        | t a => exact .t (a.mono (.pre pr))
      obtain ⟨σ1, F1, Z1, g1, n1, er1, _, hF1⟩ := hg [] [] S σ0 σ0 e0 e1 _ _ _ _ G it itd (fun _ _ => by simp) (ei_any I) I .refl hit' (fun i _ => ⟨rfl, fun hi => by simp at hi⟩) htd
      rw [g1]
      dsimp only
      have I1 := n1.ei er1
      have hcc := hc S σ1 e1 F1 Z1 I1
      split at h
      · rename_i b e2 hb
        rw [hb] at hcc
        obtain ⟨v, S2, F2, Z2, hr, n2, er2, hv, qt⟩ := hcc
        cases hv
        have qt := qt rfl
        rw [hr]
        dsimp only
        by_cases z : b = true
        · rw [if_pos z] at h ⊢
          have hpp := hp S2 σ1 e2 F2 Z2 (n2.ei er2)
          split at h
          · rename_i d e3 hd
            rw [hd] at hpp
            obtain ⟨u, S3, F3, Z3, hr3, n3, er3, ⟨Fd, rd, td⟩, qt3⟩ := hpp
            have qt3 := qt3 rfl
            split at h
            · rename_i hz
              rw [hr3]
              dsimp only
              have p3 := qt.p.trans qt3.p
              have hn3 := pre_get' hn p3
              rw [hn3]
              dsimp only
              rw [if_pos (by rw [ra.len]; exact hz)]
              have lt2 : S1.length < S2.length := Nat.lt_of_lt_of_le (List.getElem?_eq_some_iff.mp hn).1 qt.p.length_le
              have fd0 : ∀ i, i < S2.length → Fd i = 0 := fun i hi => by have := td.2.1 i hi; rw [qt3.f i] at this; omega
              have ra3 := (ra.mono (.pre p3)).app (.cons rd (.nil (F := fun _ => 0) fun _ => rfl) fun _ => rfl)
              have l3 := (List.getElem?_eq_some_iff.mp hn3).1
              have a0 : A S1.length = 0 := Nat.eq_zero_of_not_pos fun y => by have := ha _ y; omega
              have z3 : (fun i => A i + (Fd i + 0)) S1.length = 0 := by show A S1.length + (Fd S1.length + 0) = 0; rw [a0, fd0 _ lt2]
              exact lc_ok hg hc hp I0 hchk (A := fun i => A i + (Fd i + 0)) hrest (pre_set (pr.trans p3) (Nat.le_refl _)) (List.getElem?_set_self l3) (ra3.mono (kp_set hn3 trivial z3)) (fun i y => by
                have y : 0 < A i + (Fd i + 0) := y
                by_cases w : 0 < A i
                · exact ha i w
                · have : S2.length ≤ i := Nat.le_of_not_lt fun hh => by have := fd0 i hh; omega
                  omega) (fun i => by
                show A i + (Fd i + 0) ≤ 1
                by_cases w : 0 < A i
                · have := ra.lt w
                  have := fd0 i (Nat.lt_of_lt_of_le this qt.p.length_le)
                  have := h1 i
                  omega
                · have := td.1 i; omega) h
            · cases h
          · cases h
        · rw [if_neg z] at h ⊢
          exact lc_ok hg hc hp I0 hchk hrest (pr.trans qt.p) (pre_get' hn qt.p) (ra.mono (.pre qt.p)) ha h1 h
      · cases h
/-- from an environment all frozen back to it -/
theorem je_lc {is : List Nat} {tg : Mi.Tg} {td : TgD} {src : St → Sto → R Src} {psrc : PI} {own : List Nat} {mc : MT} {pc : PT} {m : ME} {p : PE} (hs : JI src psrc) (hg : JG is tg td) (hc : JT mc pc) (hp : JE m p) : JE (mLc src own tg mc m) (pLc psrc own td pc p) := by
  intro S σ e F Z I
  have If := I.frz
  have h := hs S σ (frzAll e) _ _ If
  unfold pLc
  split
  · rename_i x e' hx
    rw [hx] at h
    obtain ⟨s, S1, F1, Z1, hr, n1, er1, ⟨Fd, Fx, h1, h2, h3, h4, h5, h6⟩, qt⟩ := h
    have qt := qt rfl
    split
    · rename_i ds hd
      obtain ⟨Fw, Zw, ew, hw1, hw2⟩ := (If.pre qt.p).r.wipe own
      have I0 : EI S1 (L2.wipe σ own) (wipeE (frzAll e) own) (fun _ => 0) Zw := ⟨ew.congr (fun i => by have := hw1 i; omega) fun _ => rfl, fun _ => by omega, fun _ _ => rfl⟩
      have hn : (S1 ++ [Ob.lst []])[S1.length]? = some (.lst []) := by rw [get_new0]; rfl
      obtain ⟨S', acc', A', g1, g2, g3, g4, g5, g6⟩ := lc_ok hg hc hp I0 h4 (S := S1 ++ [Ob.lst []]) (acc := []) (ds := []) (A := fun _ => 0) h1 (pre_add _ _) hn (.nil fun _ => rfl) (fun i y => by simp at y) (fun _ => by omega) hd
      have e0 : mLc src own tg mc m σ S = .ok (.ref S1.length) S' := by
        show (src σ S).bind _ = _
        rw [hr, bind_ok]
        show (match lcGo S1.length s.chk tg mc m (L2.wipe σ own) s.its (S1 ++ [.lst []]) with
          | some S2 => R.ok (V.ref S1.length) S2
          | none => .bad) = _
        rw [g1]
      rw [e0]
      have pp := qt.p.trans g2
      refine .fresh I pp ⟨fun j => A' j + if j = S1.length then 1 else 0, .lst (.inl g3) g4 fun _ => rfl, fun i => ?_, fun i hi => ?_, fun i hi => ?_⟩
      · show F i + (A' i + if i = S1.length then 1 else 0) ≤ 1
        by_cases y : i < S1.length
        · rw [if_neg (by omega)]
          have : A' i = 0 := Nat.eq_zero_of_not_pos fun w => by have := g5 i w; omega
          have := I.nd i; omega
        · have : F i = 0 := I.r.boundF (by have := qt.p.length_le; omega)
          by_cases y : i = S1.length
          · rw [if_pos y]
            have : A' i = 0 := Nat.eq_zero_of_not_pos fun w => by have := g5 i w; omega
            omega
          · rw [if_neg y]; have := g6 i; omega
      · show F i + (A' i + if i = S1.length then 1 else 0) ≤ F i
        have := qt.p.length_le
        have hi : i < S.length := hi
        rw [if_neg (by omega)]
        have : A' i = 0 := Nat.eq_zero_of_not_pos fun w => by have := g5 i w; omega
        omega
      · show A' i + (if i = S1.length then 1 else 0) = 0
        have hl : i < S.length := Nat.lt_of_not_le fun w => by rw [I.r.boundZ w] at hi; omega
        have := qt.p.length_le
        rw [if_neg (by omega)]
        exact Nat.eq_zero_of_not_pos fun w => by have := g5 i w; omega
    · trivial
  · trivial
def truD : D → Option Bool
  | .non => some false
  | .bl b => some b
  | .int i => some (i != 0)
  | .str y => if y.length ≤ sizeLine then some ((y.length : Int) != 0) else none
  | .lst xs => some (!xs.isEmpty)
  | .tup xs => some (!xs.isEmpty)
  | _ => none
def pTru (a : PE) : PT := fun e => (a e).bind fun x q e1 => match truD x.1 with
  | some b => .ok b q e1
  | none => .bad
theorem emp_len {α β : Type} {xs : List α} {ys : List β} (h : xs.length = ys.length) : xs.isEmpty = ys.isEmpty := by
  cases xs <;> cases ys <;> first | rfl | cases h
theorem jt_tru {m : ME} {p : PE} (h : JE m p) : JT (mTru m) (pTru p) := by
  intro S σ e F Z I
  refine Po.bind (h S σ e F Z I) fun ⟨d, o⟩ q e1 v S1 F1 Z1 hx n I1 ⟨Fd, r, t⟩ k => ?_
  have r := r.relax
  cases d with
  | non => rw [r.inv_non]; exact ⟨_, S1, F1, Z1, rfl, n, I1.r, rfl, k⟩
  | bl b => rw [r.inv_bl]; exact ⟨_, S1, F1, Z1, rfl, n, I1.r, rfl, k⟩
  | int i => rw [r.inv_int]; exact ⟨_, S1, F1, Z1, rfl, n, I1.r, rfl, k⟩
  | str y =>
    rw [r.inv_str]
    dsimp only [truD]
    by_cases z : y.length ≤ sizeLine
    · rw [if_pos z, if_pos z]; exact ⟨_, S1, F1, Z1, rfl, n, I1.r, rfl, k⟩
    · rw [if_neg z, if_neg z]; trivial
  | lst xs =>
    obtain ⟨i, vs, G, rfl, h1, r1, _⟩ := r.rdL
    dsimp only [truD]
    rw [h1]
    exact ⟨_, S1, F1, Z1, rfl, n, I1.r, by show _ = _; rw [emp_len r1.len], k⟩
  | tup xs =>
    obtain ⟨i, vs, rfl, h1, r1, h2, _⟩ := r.rdT
    dsimp only [truD]
    rw [h2]
    dsimp only
    rw [h1]
    exact ⟨_, S1, F1, Z1, rfl, n, I1.r, by show _ = _; rw [emp_len r1.len], k⟩
  | _ => trivial
def pChain (p p' : D → D → Option D) (a b c : PE) : PE := fun e => (a e).bind fun x q e1 => (b e1).bind fun y q1 e2 => if q1 = true then (match p x.1 y.1 with
  | some (.bl true) => (c e2).bind fun w q2 e3 => if q2 = true then pOf q e3 (p' y.1 w.1) else .bad
  | some (.bl false) => .ok (.bl false, .fr) q e2
  | _ => .bad) else .bad
theorem Res.done {S S1 S2 : Sto} {σ : St} {e e1 : Env} {F Z F1 Z1 : Ft} {r : D} {x : R V} {q : Bool} (n : Nx S F Z S1 F1 Z1) (I1 : EI S1 σ e1 F1 Z1) (k : q = true → Qt S e F Z S1 e1 F1 Z1) (h : Res S1 r x) : Po RlE S σ e F Z x (.ok (r, .fr) q e1) := by
  obtain ⟨v, S', Fd, hr, hp, rp, hf, h1⟩ := h
  refine ⟨v, S', F1, Z1, hr, n.trans (nx_pre I1 hp), I1.r.mono (.pre hp), ⟨Fd, rp, fun i => ?_, fun i hi => ?_, fun i hi => ?_⟩, fun hk => (k hk).trans ⟨rfl, hp, fun _ => rfl, fun _ => rfl⟩⟩
  · by_cases z : 0 < Fd i
    · have := hf i z; have := I1.r.boundF (i := i) (by omega); have := h1 i; omega
    · have := I1.nd i; omega
  · have : Fd i = 0 := Nat.eq_zero_of_not_pos fun y => by have := hf i y; have := n.le; omega
    have := n.sub i hi
    omega
  · exact Nat.eq_zero_of_not_pos fun y => by have := hf i y; have := I1.r.boundZ (i := i) (by omega); omega
theorem Res.two {o : V → V → Sto → R V} {p : D → D → Option D} (h : JO (o2 o) (p2 p)) {S : Sto} {x y : V} {d e r : D} {F G : Ft} (a : Rp false S x d F) (b : Rp false S y e G) (hp : p d e = some r) : Res S r (o x y S) := h S [x, y] [d, e] _ (.cons a (.cons b (.nil (F := fun _ => 0) fun _ => rfl) fun _ => rfl) fun _ => rfl) r hp
theorem je_chain {o o' : V → V → Sto → R V} {p p' : D → D → Option D} {ma mb mc : ME} {pa pb pc : PE} (ho : JO (o2 o) (p2 p)) (ho' : JO (o2 o') (p2 p')) (ha : JE ma pa) (hb : JE mb pb) (hc : JE mc pc) : JE (mChain o o' ma mb mc) (pChain p p' pa pb pc) := by
  intro S σ e F Z I
  refine Po.bind (ha S σ e F Z I) fun ⟨d, og⟩ q e1 v S1 F1 Z1 hx n I1 ⟨Fd, r, t⟩ k => ?_
  have h2 := hb S1 σ e1 F1 Z1 I1
  cases hy : pb e1 with
  | bad => trivial
  | exc c x e2 => rw [hy] at h2; obtain ⟨S', F', Z', hr, hn, he⟩ := h2; rw [hr]; exact ⟨S', F', Z', rfl, n.trans hn, he⟩
  | ok y q1 e2 =>
    rw [hy] at h2
    obtain ⟨u, S2, F2, Z2, hr, n2, er2, ⟨Fe, r2, t2⟩, k2⟩ := h2
    rw [hr]
    simp only [bind_ok, xbind_ok]
    by_cases z : q1 = true
    · rw [if_pos z]
      have q2 := k2 z
      have I2 := n2.ei er2
      have ra := r.relax.mono (Kp.pre q2.p)
      have rb := r2.relax
      cases hp : p d y.1 with
      | none => trivial
      | some w =>
        obtain ⟨w', S3, Fw, hr3, hp3, rw3, hf3, h13⟩ := Res.two ho ra rb hp
        rw [hr3, bind_ok]
        cases w with
        | bl b =>
          rw [rw3.inv_bl]
          have n3 := (n.trans n2).trans (nx_pre I2 hp3)
          have I3 := I2.pre hp3
          have k3 : q = true → Qt S e F Z S3 e2 F2 Z2 := fun hq => ((k hq).trans q2).trans ⟨rfl, hp3, fun _ => rfl, fun _ => rfl⟩
          cases b with
          | false => exact Po.done n3 I3 k3 (.bl fun _ => rfl)
          | true =>
            dsimp only
            have h4 := hc S3 σ e2 F2 Z2 I3
            cases hz : pc e2 with
            | bad => trivial
            | exc c x e3 => rw [hz] at h4; obtain ⟨S', F', Z', hr, hn, he⟩ := h4; rw [hr]; exact ⟨S', F', Z', rfl, n3.trans hn, he⟩
            | ok ww q3 e3 =>
              rw [hz] at h4
              obtain ⟨u3, S4, F4, Z4, hr4, n4, er4, ⟨Fg, r4, t4⟩, k4⟩ := h4
              rw [hr4]
              simp only [bind_ok, xbind_ok]
              by_cases z3 : q3 = true
              · rw [if_pos z3]
                have q4 := k4 z3
                cases hp' : p' y.1 ww.1 with
                | none => trivial
                | some zz => exact Res.done (S2 := S4) (n3.trans n4) (n4.ei er4) (fun hq => (k3 hq).trans q4) (Res.two ho' ((rb.mono (.pre hp3)).mono (.pre q4.p)) r4.relax hp')
              · rw [if_neg z3]; trivial
        | _ => trivial
    · rw [if_neg z]; trivial
def tyD (Ty : String) : D → Bool
  | .str _ => Ty == "str"
  | .lst _ => Ty == "list"
  | .dk _ => Ty == "dict"
  | _ => false
def pBq (Ty : String) (p : List D → Option D) (a : PE) (as : PA) : PE := fun e => (a e).bind fun x q e1 => if tyD Ty x.1 = true then (as e1).bind fun ds q' e2 => if (x.2.st || q') = true then pOf (q && q') e2 (p (x.1 :: ds.map (·.1))) else .bad else .bad
def makeP (mask : List Bool) (p : PF) (c l : Nat) (as : List AVal) (q : Bool) (e : Env) : X (D × Og) :=
  if (as.all fun a => !isIo a) = true ∧ mask.all (fun b => !b) = true then (match prep mask as e with
    | some (ds, _) => (match p (.ins c (List.replicate l .hole) :: ds) with
      | .ok .non _ (o :: _) => .ok (o, .fr) q e
      | .exc c x _ => .exc c x e
      | _ => .bad)
    | none => .bad) else .bad
/-- C(..): the arguments stay as they are -/
def pMake (c l : Nat) (mask : List Bool) (p : PF) (as : List PArg) : PE := fun e => (evA as e).bind fun avs q e1 => makeP mask p c l avs q e1
end Vi
namespace Vi
open PySem PySem.Spec L2 Mi
/-- what becomes of a slot: frozen and back (j), as it was (k), whatever it is (o) -/
inductive Kd where
  | j | k | o
def frzL : List Kd → Env → Env
  | .j :: ks, .ow d :: e => .fz d :: frzL ks e
  | _ :: ks, s :: e => s :: frzL ks e
  | _, e => e
def kil : Sl → Sl
  | .fz d => if imm d = true then .ow d else .no
  | s => s
def thaw1 : Option Kd → Option Sl → Sl → Sl
  | some .j, some (.ow d), _ => .ow d
  | some .k, some (.fz d), _ => .fz d
  | some .j, some (.fz d), _ => .fz d
  | _, _, s => kil s
theorem thaw1_none (x : Option Sl) (s : Sl) : thaw1 none x s = kil s := by
  cases x with
  | none => rfl
  | some y => cases y <;> rfl
def thawL : List Kd → Env → Env → Env
  | ks, e0, s :: e => thaw1 ks.head? e0.head? s :: thawL ks.tail e0.tail e
  | _, _, [] => []
def thawS (ks : List Kd) (e0 : Env) : XS → XS
  | .nx e => .nx (thawL ks e0 e)
  | .bk e => .bk (thawL ks e0 e)
  | .ct e => .ct (thawL ks e0 e)
  | .exc c x e => .exc c x (thawL ks e0 e)
  | .rt d o e => .rt d (match o with
    | .fr => .fr
    | _ => .an) (thawL ks e0 e)
  | .bad => .bad
def pFz (ks : List Kd) (b : PS) : PS := fun e => thawS ks e (b (frzL ks e))
def pinK (n : Nat) : List Kd → List Nat
  | [] => []
  | .o :: ks => pinK (n + 1) ks
  | _ :: ks => n :: pinK (n + 1) ks
section
variable {S S' : Sto}
/-- what B of it all is, given back -/
inductive Bk (S : Sto) : List Kd → St → Env → Ft → Ft → Prop
  | end_ {ks : List Kd} {B Zk : Ft} : Zf B → Zf Zk → Bk S ks [] [] B Zk
  | out {σ : St} {e : Env} {B Zk : Ft} : Zf B → Zf Zk → Bk S [] σ e B Zk
  | j {ks : List Kd} {σ : St} {e : Env} {v : V} {d : D} {A B B' Zk : Ft} : Rp true S v d A → Bk S ks σ e B Zk → (∀ i, B' i = A i + B i) → Bk S (.j :: ks) (some v :: σ) (.ow d :: e) B' Zk
  | k {kd : Kd} {ks : List Kd} {σ : St} {e : Env} {v : V} {d : D} {A B Zk Zk' : Ft} : kd ≠ .o → Rp false S v d A → Bk S ks σ e B Zk → (∀ i, Zk' i = A i + Zk i) → Bk S (kd :: ks) (some v :: σ) (.fz d :: e) B Zk'
  | other {kd : Kd} {ks : List Kd} {σ : St} {e : Env} {o : Option V} {s : Sl} {B Zk : Ft} : (∀ d, ¬ (kd = .j ∧ s = .ow d)) → (∀ d, ¬ (kd ≠ .o ∧ s = .fz d)) → Bk S ks σ e B Zk → Bk S (kd :: ks) (o :: σ) (s :: e) B Zk
theorem Bk.mono {ks : List Kd} {σ : St} {e : Env} {B Zk : Ft} (h : Bk S ks σ e B Zk) : Kp (fun i => B i + Zk i) S S' → Bk S' ks σ e B Zk := by
  induction h with
  | end_ a b => intro _; exact .end_ a b
  | out a b => intro _; exact .out a b
  | @j ks σ e v d A B B' Zk r _ z ih => intro kp; exact .j (r.mono (kp.le fun i q => by have := z i; show 0 < B' i + Zk i; omega)) (ih (kp.le fun i q => by have := z i; have q : 0 < B i + Zk i := q; show 0 < B' i + Zk i; omega)) z
  | @k kd ks σ e v d A B Zk Zk' hk r _ z ih => intro kp; exact .k hk (r.mono (kp.le fun i q => by have := z i; show 0 < B i + Zk' i; omega)) (ih (kp.le fun i q => by have := z i; have q : 0 < B i + Zk i := q; show 0 < B i + Zk' i; omega)) z
  | other a b _ ih => intro kp; exact .other a b (ih kp)
theorem EnvR.bk : ∀ {ks : List Kd} {σ : St} {e : Env} {F Z : Ft}, EnvR S σ e F Z → ∃ A B Zk : Ft, EnvR S σ (Vi.frzL ks e) A (fun i => Z i + B i) ∧ (∀ i, F i = A i + B i) ∧ Bk S ks σ e B Zk ∧ ∀ i, Zk i ≤ Z i
  | [], σ, e, F, Z, h => by
    have e1 : Vi.frzL [] e = e := by cases e <;> rfl
    rw [e1]
    exact ⟨F, fun _ => 0, fun _ => 0, h, fun i => by show _ = F i + 0; omega, .out (fun _ => rfl) (fun _ => rfl), fun i => by show 0 ≤ _; omega⟩
  | k :: ks, _, _, F, Z, .nil a b => ⟨F, fun _ => 0, fun _ => 0, by cases k <;> exact .nil a b, fun i => by show _ = F i + 0; omega, .end_ (fun _ => rfl) (fun _ => rfl), fun i => by show 0 ≤ _; omega⟩
  | k :: ks, _, _, F, Z, .no h => by
    obtain ⟨A, B, Zk, h1, h2, h3, h4⟩ := h.bk (ks := ks)
    exact ⟨A, B, Zk, by cases k <;> exact .no h1, h2, .other (fun d q => by cases q.2) (fun d q => by cases q.2) h3, h4⟩
  | .j :: ks, _, _, F, Z, .ow (F1 := C) r h z => by
    obtain ⟨A, B, Zk, h1, h2, h3, h4⟩ := h.bk (ks := ks)
    exact ⟨A, fun i => C i + B i, Zk, .fz r.weak h1 fun i => by show Z i + (C i + B i) = C i + (Z i + B i); omega, fun i => by have := z i; have := h2 i; show F i = A i + (C i + B i); omega, .j r h3 fun _ => rfl, h4⟩
  | .k :: ks, _, _, F, Z, .ow (F1 := C) r h z => by
    obtain ⟨A, B, Zk, h1, h2, h3, h4⟩ := h.bk (ks := ks)
    exact ⟨fun i => C i + A i, B, Zk, .ow r h1 fun _ => rfl, fun i => by have := z i; have := h2 i; show F i = C i + A i + B i; omega, .other (fun d q => by cases q.1) (fun d q => by cases q.2) h3, h4⟩
  | .o :: ks, _, _, F, Z, .ow (F1 := C) r h z => by
    obtain ⟨A, B, Zk, h1, h2, h3, h4⟩ := h.bk (ks := ks)
    exact ⟨fun i => C i + A i, B, Zk, .ow r h1 fun _ => rfl, fun i => by have := z i; have := h2 i; show F i = C i + A i + B i; omega, .other (fun d q => by cases q.1) (fun d q => by cases q.2) h3, h4⟩
  | .j :: ks, _, _, F, Z, .fz (Z1 := C) (Z2 := E) r h z => by
    obtain ⟨A, B, Zk, h1, h2, h3, h4⟩ := h.bk (ks := ks)
    exact ⟨A, B, fun i => C i + Zk i, .fz r h1 fun i => (by have := z i; show Z i + B i = C i + (E i + B i); omega), h2, .k (by intro h; cases h) r h3 fun _ => rfl, fun i => by have := h4 i; have := z i; show C i + Zk i ≤ _; omega⟩
  | .o :: ks, _, _, F, Z, .fz (Z1 := C) (Z2 := E) r h z => by
    obtain ⟨A, B, Zk, h1, h2, h3, h4⟩ := h.bk (ks := ks)
    exact ⟨A, B, Zk, .fz r h1 fun i => (by have := z i; show Z i + B i = C i + (E i + B i); omega), h2, .other (fun d q => by cases q.1) (fun d q => (q.1 rfl).elim) h3, fun i => by have := h4 i; have := z i; omega⟩
  | .k :: ks, _, _, F, Z, .fz (Z1 := C) (Z2 := E) r h z => by
    obtain ⟨A, B, Zk, h1, h2, h3, h4⟩ := h.bk (ks := ks)
    exact ⟨A, B, fun i => C i + Zk i, .fz r h1 fun i => (by have := z i; show Z i + B i = C i + (E i + B i); omega), h2, .k (by intro h; cases h) r h3 fun _ => rfl, fun i => by have := h4 i; have := z i; show C i + Zk i ≤ _; omega⟩
/-- thawed -/
theorem thaw_ok : ∀ {ks : List Kd} {σ σ' : St} {e0 e' : Env} {B Zk F' Z' : Ft}, Bk S ks σ e0 B Zk → EnvR S σ' e' F' Z' → (∀ n : Nat, (ks[n]? = some .j ∨ ks[n]? = some .k) → σ'[n]? = σ[n]?) → ∃ F2 Z2, EnvR S σ' (thawL ks e0 e') F2 Z2 ∧ (∀ i, F2 i ≤ F' i + B i) ∧ ∀ i, Z2 i ≤ Zk i
  | ks, σ, _, e0, _, B, Zk, F', Z', hb, .nil a b, hp => by
    have e1 : thawL ks e0 [] = [] := by unfold thawL; rfl
    rw [e1]
    exact ⟨F', fun _ => 0, .nil a fun _ => rfl, fun i => by omega, fun i => by show 0 ≤ _; omega⟩
  | ks, σ, o :: σ', e0, s :: e', B, Zk, F', Z', hb, h', hp => by
    unfold thawL
    have tailK : ∀ {kt : List Kd} {σt : St} {et : Env} {Bt Zt F2 Zx : Ft}, Bk S kt σt et Bt Zt → EnvR S σ' e' F2 Zx → (∀ n : Nat, (kt[n]? = some .j ∨ kt[n]? = some .k) → σ'[n]? = σt[n]?) → ∃ F3 Z3, EnvR S σ' (thawL kt et e') F3 Z3 ∧ (∀ i, F3 i ≤ F2 i + Bt i) ∧ ∀ i, Z3 i ≤ Zt i := fun b h q => thaw_ok b h q
    have gen : ∀ {kt : List Kd} {σt : St} {et : Env} {Bt Zt : Ft}, Bk S kt σt et Bt Zt → (∀ n : Nat, (kt[n]? = some .j ∨ kt[n]? = some .k) → σ'[n]? = σt[n]?) → ∃ F2 Z2, EnvR S (o :: σ') (Vi.kil s :: thawL kt et e') F2 Z2 ∧ (∀ i, F2 i ≤ F' i + Bt i) ∧ ∀ i, Z2 i ≤ Zt i := by
      intro kt σt et Bt Zt b q
      cases h' with
      | no h =>
        obtain ⟨F3, Z3, h1, h2, h3⟩ := tailK b h q
        exact ⟨F3, Z3, .no h1, h2, h3⟩
      | ow r h z =>
        obtain ⟨F3, Z3, h1, h2, h3⟩ := tailK b h q
        exact ⟨_, Z3, .ow r h1 fun _ => rfl, fun i => by have := h2 i; have := z i; omega, h3⟩
      | fz r h z =>
        obtain ⟨F3, Z3, h1, h2, h3⟩ := tailK b h q
        rename_i d
        by_cases y : imm d = true
        · have e2 : Vi.kil (.fz d) = .ow d := if_pos y
          rw [e2]
          exact ⟨_, Z3, .ow (zero_imm r y) h1 fun _ => rfl, fun i => by have := h2 i; show 0 + F3 i ≤ _; omega, h3⟩
        · have e2 : Vi.kil (.fz d) = .no := if_neg y
          rw [e2]
          exact ⟨F3, Z3, .no h1, h2, h3⟩
    cases hb with
    | end_ a b =>
      have e1 : thaw1 ks.head? ([] : Env).head? s = Vi.kil s := by
        unfold thaw1
        split <;> first | rfl | (rename_i hh; cases hh)
      rw [e1]
      obtain ⟨F2, Z2, h1, h2, h3⟩ := gen (kt := ks.tail) (σt := []) (et := []) (Bk.end_ a b) (fun n hn => by
        have := hp (n + 1) (by cases ks with
          | nil => simp at hn
          | cons k ks => simpa using hn)
        simpa using this)
      exact ⟨F2, Z2, h1, h2, h3⟩
    | out a b =>
      have e1 : thaw1 ([] : List Kd).head? e0.head? s = Vi.kil s := thaw1_none _ _
      rw [e1]
      exact gen (kt := []) (σt := []) (et := e0.tail) (Bk.out a b) (fun n hn => by simp at hn)
    | @j ks σ e v d A Bt B' Zk r hb z =>
      have h0 := hp 0 (.inl rfl)
      have ho : o = some v := by simpa using h0
      subst ho
      show ∃ F2 Z2, EnvR S (some v :: σ') (.ow d :: thawL ks e e') F2 Z2 ∧ _
      have rest : ∃ F2 Zx, EnvR S σ' e' F2 Zx ∧ ∀ i, F2 i ≤ F' i := by
        cases h' with
        | no h => exact ⟨_, _, h, fun _ => Nat.le_refl _⟩
        | ow r h z => exact ⟨_, _, h, fun i => by have := z i; omega⟩
        | fz r h z => exact ⟨_, _, h, fun _ => Nat.le_refl _⟩
      obtain ⟨F2, Zx, hr, hl⟩ := rest
      obtain ⟨F3, Z3, h1, h2, h3⟩ := tailK hb hr (fun n hn => by have := hp (n + 1) (by simpa using hn); simpa using this)
      exact ⟨_, Z3, .ow r h1 fun _ => rfl, fun i => by have := h2 i; have := hl i; have := z i; show A i + F3 i ≤ _; omega, h3⟩
    | @k kd ks σ e v d A Bt Zk Zk' hkd r hb z =>
      have h0 := hp 0 (by cases kd <;> first | exact .inl rfl | exact .inr rfl | exact absurd rfl hkd)
      have ho : o = some v := by simpa using h0
      subst ho
      have ekd : thaw1 (kd :: ks).head? (Sl.fz d :: e).head? s = .fz d := by cases kd <;> first | rfl | exact absurd rfl hkd
      rw [ekd]
      show ∃ F2 Z2, EnvR S (some v :: σ') (.fz d :: thawL ks e e') F2 Z2 ∧ _
      have rest : ∃ F2 Zx, EnvR S σ' e' F2 Zx ∧ ∀ i, F2 i ≤ F' i := by
        cases h' with
        | no h => exact ⟨_, _, h, fun _ => Nat.le_refl _⟩
        | ow r h z => exact ⟨_, _, h, fun i => by have := z i; omega⟩
        | fz r h z => exact ⟨_, _, h, fun _ => Nat.le_refl _⟩
      obtain ⟨F2, Zx, hr, hl⟩ := rest
      obtain ⟨F3, Z3, h1, h2, h3⟩ := tailK hb hr (fun n hn => by have := hp (n + 1) (by simpa using hn); simpa using this)
      exact ⟨F3, _, .fz r h1 fun _ => rfl, fun i => by have := h2 i; have := hl i; omega, fun i => by have := h3 i; have := z i; show A i + Z3 i ≤ _; omega⟩
    | @other kd ks σ e o1 s1 B Zk n1 n2 hb =>
      have e1 : thaw1 (kd :: ks).head? (s1 :: e).head? s = Vi.kil s := by
        show thaw1 (some kd) (some s1) s = _
        unfold thaw1
        split
        · rename_i d h1 h2; cases h1; cases h2; exact absurd ⟨rfl, rfl⟩ (n1 d)
        · rename_i d h1 h2; cases h1; cases h2; exact absurd ⟨(fun h => nomatch h), rfl⟩ (n2 d)
        · rename_i d h1 h2; cases h1; cases h2; exact absurd ⟨(fun h => nomatch h), rfl⟩ (n2 d)
        · rfl
      rw [e1]
      exact gen hb (fun n hn => by have := hp (n + 1) (by simpa using hn); simpa using this)
theorem pinK_in : ∀ {ks : List Kd} {n j : Nat}, (ks[j]? = some .j ∨ ks[j]? = some .k) → n + j ∈ pinK n ks
  | [], _, _, h => by simp at h
  | k :: ks, n, 0, h => by
    simp at h
    rcases h with h | h <;> subst h <;> unfold pinK <;> exact List.mem_cons_self
  | k :: ks, n, j + 1, h => by
    have := pinK_in (ks := ks) (n := n + 1) (j := j) (by simpa using h)
    have e : n + (j + 1) = n + 1 + j := by omega
    rw [e]
    cases k <;> unfold pinK <;> first | exact this | exact List.mem_cons_of_mem _ this
/-- a statement with slots frozen in it -/
theorem js_fz {P : List Nat} (ks : List Kd) {m : MS} {b : PS} (h : JS (pinK 0 ks ++ P) m b) : JS P m (pFz ks b) := by
  intro S σ e F Z I
  obtain ⟨A, B, Zk, h1, h2, h3, h4⟩ := I.r.bk (ks := ks)
  have nd := I.nd
  have dj := I.dj
  have I1 : EI S σ (frzL ks e) A (fun i => Z i + B i) := ⟨h1, fun i => by have := nd i; have := h2 i; omega, fun i q => by
    have q : 0 < Z i + B i := q
    have := h2 i
    by_cases y : 0 < Z i
    · have := dj i y; omega
    · have := nd i; omega⟩
  have hb := h S σ _ A _ I1
  -- what comes back
  have back : ∀ {S' σ' e' F' Z'}, Nx S A (fun i => Z i + B i) S' F' Z' → EnvR S' σ' e' F' Z' → Pin (pinK 0 ks ++ P) σ σ' → ∃ F2 Z2, Nx S F Z S' F2 Z2 ∧ EnvR S' σ' (thawL ks e e') F2 Z2 ∧ Pin P σ σ' ∧ (∀ i, F2 i ≤ F' i + B i) ∧ ∀ i, 0 < Z2 i → i < S.length := by
    intro S' σ' e' F' Z' n r pn
    have bl : ∀ i, 0 < B i → i < S.length := fun i q => by
      obtain ⟨o, e, _⟩ := I.r.domF i (by have := h2 i; omega)
      exact (List.getElem?_eq_some_iff.mp e).1
    have zl : ∀ i, 0 < Z i → i < S.length := fun i q => by
      obtain ⟨o, e, _⟩ := I.r.domZ i q
      exact (List.getElem?_eq_some_iff.mp e).1
    have kp : Kp (fun i => B i + Zk i) S S' := n.kp h1 fun i q => by
      have q : 0 < B i + Zk i := q
      have := h2 i; have := nd i; have := h4 i
      by_cases y : 0 < Z i
      · have := dj i y; omega
      · omega
    obtain ⟨F2, Z2, g1, g2, g3⟩ := thaw_ok (h3.mono kp) r (fun j hj => pn j (List.mem_append_left _ (by have := pinK_in (n := 0) hj; simpa using this)))
    refine ⟨F2, Z2, ⟨n.le, fun i o k q => n.fr i o k (by have := h2 i; omega), fun i => ?_, fun i hi => ?_, fun i hi q => ?_, fun i q => ?_⟩, g1, fun j hj => pn j (List.mem_append_right _ hj), g2, fun i q => zl i (by have := g3 i; have := h4 i; omega)⟩
    · have := g2 i
      by_cases y : 0 < B i
      · have := n.sub i (bl i y); have := h2 i; have := nd i; omega
      · have := n.nd i; omega
    · have := g2 i; have := n.sub i hi; have := h2 i; omega
    · have := g3 i; have := h4 i; omega
    · have := g3 i; have := h4 i
      have y : 0 < Z i := by omega
      have := dj i y; have := g2 i; have := n.sub i (zl i y); have := h2 i; omega
  have aft : ∀ {S' σ' e'}, Aft (pinK 0 ks ++ P) S σ A (fun i => Z i + B i) S' σ' e' → Aft P S σ F Z S' σ' (thawL ks e e') := fun ⟨F', Z', n, r, pn⟩ => by
    obtain ⟨F2, Z2, a, b, c, _, _⟩ := back n r pn
    exact ⟨F2, Z2, a, b, c⟩
  show PoS P S σ F Z (m σ S) (thawS ks e (b (frzL ks e)))
  cases hx : b (frzL ks e) with
  | nx e' => rw [hx] at hb; obtain ⟨σ', S', hr, a⟩ := hb; exact ⟨σ', S', hr, aft a⟩
  | bk e' => rw [hx] at hb; obtain ⟨σ', S', hr, a⟩ := hb; exact ⟨σ', S', hr, aft a⟩
  | ct e' => rw [hx] at hb; obtain ⟨σ', S', hr, a⟩ := hb; exact ⟨σ', S', hr, aft a⟩
  | exc c x e' => rw [hx] at hb; obtain ⟨σ', S', hr, a⟩ := hb; exact ⟨σ', S', hr, aft a⟩
  | bad => trivial
  | rt d o e' =>
    rw [hx] at hb
    obtain ⟨v, S', σ', F', Z', Fd, hr, n, r, pn, rv, t⟩ := hb
    obtain ⟨F2, Z2, a, bb, c, hl, hz2⟩ := back n r pn
    have mem : ∀ o, Tg o S A (fun i => Z i + B i) F' Z' Fd → Tg .an S F Z F2 Z2 Fd := fun o t i q hi => by
      have := h2 i
      cases o with
      | fr => have := t.2.1 i hi; omega
      | zn => have h9 : 0 < Z i + B i := (t i q).2 hi; omega
      | an => have h9 : 0 < A i + (Z i + B i) := t i q hi; omega
    cases o with
    | fr =>
      have bl : ∀ i, 0 < B i → i < S.length := fun i q => by
        obtain ⟨o, e, _⟩ := I.r.domF i (by have := h2 i; omega)
        exact (List.getElem?_eq_some_iff.mp e).1
      refine ⟨v, S', σ', F2, Z2, Fd, hr, a, bb, c, rv, fun i => ?_, fun i hi => ?_, fun i q => ?_⟩
      · have := hl i
        by_cases y : 0 < B i
        · have := t.2.1 i (bl i y); have := h2 i; have := nd i; omega
        · have := t.1 i; omega
      · have := hl i; have := t.2.1 i hi; have := h2 i; omega
      · have y := hz2 i q
        have := a.zs i y q; have := dj i this; have := t.2.1 i y; have := h2 i; omega
    | zn => exact ⟨v, S', σ', F2, Z2, Fd, hr, a, bb, c, rv, mem .zn t⟩
    | an => exact ⟨v, S', σ', F2, Z2, Fd, hr, a, bb, c, rv, mem .an t⟩
end
/-- what the lock of a dict leaves as it is -/
def roO : Ob → Prop
  | .dK _ => False
  | _ => True
/-- m tells a value that it reads without a trace, and tells it again as long as the objects with attributes stay -/
def JV (m : ME) (p : PE) : Prop := ∀ (S : Sto) (σ : St) (e : Env) (F Z : Ft), EI S σ e F Z → match p e with
  | .ok (d, o) q e' => q = true ∧ e' = e ∧ ∃ v Fd, m σ S = .ok v S ∧ Rp o.own S v d Fd ∧ Tg o S F Z F Z Fd ∧ ∀ S' : Sto, (∀ (i : Nat) (o : Ob), S[i]? = some o → roO o → S'[i]? = some o) → m σ S' = .ok v S'
  | .exc _ _ _ => False
  | .bad => True
theorem jv_var (i : Nat) : JV (mVar i) (pVar i) := by
  intro S σ e F Z I
  unfold pVar
  cases h : e[i]? with
  | none => trivial
  | some s =>
    obtain ⟨F1, Z1, F2, Z2, hF, hZ, hs, k1, k2, k3⟩ := I.r.slot h
    cases s with
    | no => trivial
    | ow d =>
      obtain ⟨z, v, hv, r⟩ := hs
      exact ⟨rfl, rfl, v, F1, mVar_of hv, rp_tagI r.weak rfl, tg_tagI r (fun i k _ => by have := hF i; omega) I.nd fun _ _ => Nat.le_refl _, fun S' _ => mVar_of hv⟩
    | fz d =>
      obtain ⟨z, v, hv, r⟩ := hs
      exact ⟨rfl, rfl, v, Z1, mVar_of hv, rp_tagI r rfl, tg_tagI r (fun i k => ⟨I.dj i (by have := hZ i; omega), fun _ => by have := hZ i; omega⟩) I.nd fun _ _ => Nat.le_refl _, fun S' _ => mVar_of hv⟩
theorem JV.je {m : ME} {p : PE} (h : JV m p) : JE m p := by
  intro S σ e F Z I
  have k := h S σ e F Z I
  cases hx : p e with
  | bad => trivial
  | exc c x e' => rw [hx] at k; exact k.elim
  | ok a q e' =>
    obtain ⟨d, o⟩ := a
    rw [hx] at k
    obtain ⟨rfl, rfl, v, Fd, hm, r, t, _⟩ := k
    rw [hm]
    exact .pure I ⟨Fd, r, t⟩
theorem oIx_keep {x u : V} {k : Int} {S S' S1 : Sto} (h : oIx x (.int k) S = .ok u S1) (hs : ∀ (i : Nat) (o : Ob), S[i]? = some o → roO o → S'[i]? = some o) : S1 = S ∧ oIx x (.int k) S' = .ok u S' := by
  have gen : ∀ {A B : Option (List V)} , (match A with
    | some xs => (match atI xs k with
      | some v => R.ok v S
      | none => .bad)
    | none => match B with
      | some xs => (match atI xs k with
        | some v => .ok v S
        | none => .bad)
      | none => .bad) = R.ok u S1 → S1 = S ∧ (match A with
    | some xs => (match atI xs k with
      | some v => R.ok v S'
      | none => .bad)
    | none => match B with
      | some xs => (match atI xs k with
        | some v => .ok v S'
        | none => .bad)
      | none => .bad) = R.ok u S' := by
    intro A B h
    cases A with
    | some xs =>
      dsimp only at h ⊢
      cases e : atI xs k with
      | none => rw [e] at h; cases h
      | some v => rw [e] at h; cases h; exact ⟨rfl, rfl⟩
    | none =>
      cases B with
      | some xs =>
        dsimp only at h ⊢
        cases e : atI xs k with
        | none => rw [e] at h; cases h
        | some v => rw [e] at h; cases h; exact ⟨rfl, rfl⟩
      | none => cases h
  cases x with
  | str z =>
    unfold oIx at h ⊢
    dsimp only at h ⊢
    by_cases hz : z.length ≤ sizeLine
    · rw [if_pos hz] at h ⊢
      cases e : atI z.cps.toList k with
      | none => rw [e] at h; cases h
      | some c => rw [e] at h; cases h; exact ⟨rfl, rfl⟩
    · rw [if_neg hz] at h; cases h
  | ref i =>
    have e1 : Mi.rdL S' (.ref i) = Mi.rdL S (.ref i) ∧ Mi.rdT S' (.ref i) = Mi.rdT S (.ref i) := by
      have hb : ∀ {o}, S[i]? = some o → roO o → Mi.rdL S' (.ref i) = Mi.rdL S (.ref i) ∧ Mi.rdT S' (.ref i) = Mi.rdT S (.ref i) := fun es ro => by
        have es' := hs _ _ es ro
        simp only [Mi.rdL, Mi.rdT, es, es']
        exact ⟨trivial, trivial⟩
      cases es : S[i]? with
      | none => 
        exfalso
        simp only [oIx, Mi.rdL, Mi.rdT, es] at h
        cases h
      | some o =>
        cases o with
        | dK kvs =>
          exfalso
          simp only [oIx, Mi.rdL, Mi.rdT, es] at h
          cases h
        | _ => exact hb es trivial
    have h2 := gen (A := Mi.rdL S (.ref i)) (B := Mi.rdT S (.ref i)) h
    refine ⟨h2.1, ?_⟩
    show (match Mi.rdL S' (.ref i) with
      | some xs => _
      | none => _) = _
    rw [e1.1, e1.2]
    exact h2.2
  | _ => exact gen (A := none) (B := none) h
theorem jv_ix {k : Int} {m : ME} {p : PE} (h : JV m p) : JV (mBin oIx m (mC (.int k))) (pSel2 dIx p (pC (.int k))) := by
  intro S σ e F Z I
  have kk := h S σ e F Z I
  have j := je_ix h.je (je_int k) S σ e F Z I
  unfold pSel2 at j ⊢
  cases hx : p e with
  | bad => trivial
  | exc c x e' => rw [hx] at kk; exact kk.elim
  | ok a q e' =>
    obtain ⟨d, o⟩ := a
    rw [hx] at kk j
    obtain ⟨rfl, rfl, v, Fd, hm, r, t, hs⟩ := kk
    simp only [xbind_ok, pC, Og.st, Bool.or_true, if_true, Bool.and_true] at j ⊢
    cases hd : dIx d (.int k) with
    | none => trivial
    | some x =>
      rw [hd] at j
      obtain ⟨w, S', F', Z', hr, hn, he, ⟨Fw, rw', tw⟩, hq⟩ := j
      have qt := hq rfl
      have hr2 : oIx v (.int k) S = .ok w S' := by
        have : mBin oIx m (mC (.int k)) σ S = oIx v (.int k) S := by
          rw [mBin_ap, hm]
          rfl
        rw [← this]; exact hr
      have hS : S' = S := (oIx_keep hr2 fun _ _ h _ => h).1
      have ev : ∀ S2 : Sto, (∀ (i : Nat) (o : Ob), S[i]? = some o → roO o → S2[i]? = some o) → mBin oIx m (mC (.int k)) σ S2 = .ok w S2 := fun S2 k2 => by
        rw [mBin_ap, hs S2 k2]
        exact (oIx_keep hr2 k2).2
      rw [hS] at rw' 
      refine ⟨rfl, rfl, w, Fw, ev S fun _ _ h _ => h, rw', ?_, ev⟩
      revert tw
      generalize selT x [(d, o)] = oo
      intro tw
      cases oo with
      | fr => exact ⟨fun i => by have := tw.1 i; rw [qt.f i] at this; exact this, fun i hi => by have := tw.2.1 i hi; rw [qt.f i] at this; exact this, fun i h => tw.2.2 i (by rw [qt.z i]; exact h)⟩
      | zn => exact fun i y => ⟨by have := (tw i y).1; rw [qt.f i] at this; exact this, (tw i y).2⟩
      | an => exact tw
/-- the dict at i locked or not: else alike -/
structure Lk (i : Nat) (kvs : List (Key × V)) (S S' : Sto) : Prop where
  le : S.length = S'.length
  o : ∀ j : Nat, j ≠ i → S'[j]? = S[j]?
  a : S[i]? = some (.dK kvs) ∨ S[i]? = some (.lck (.dK kvs))
  b : S'[i]? = some (.dK kvs) ∨ S'[i]? = some (.lck (.dK kvs))
section
variable {i : Nat} {kvs : List (Key × V)} {S S' : Sto} {w : Bool}
mutual
theorem Rp.lk (l : Lk i kvs S S') : ∀ {v : V} {d : D} {F : Ft}, Rp w S v d F → (w = false ∨ F i = 0) → Rp w S' v d F
  | _, _, _, .non z, _ => .non z
  | _, _, _, .bl z, _ => .bl z
  | _, _, _, .int z, _ => .int z
  | _, _, _, .str z, _ => .str z
  | _, _, _, .hole z, _ => .hole z
  | _, _, _, .exc (i := k) e z, _ => .exc (by
      rw [l.o k fun h => by subst h; rcases l.a with a | a <;> rw [a] at e <;> cases e]; exact e) z
  | _, _, _, .tup (i := k) e r, h => .tup (by
      rw [l.o k fun h => by subst h; rcases l.a with a | a <;> rw [a] at e <;> cases e]; exact e) (RpL.lk l r h)
  | _, _, _, .lst (i := k) e r z, h => .lst (by
      rw [l.o k fun h => by subst h; rcases l.a with a | a <;> rcases e with e | e <;> first | (rw [a] at e; cases e.2; done) | (rw [a] at e; cases e; done)]; exact e) (RpL.lk l r (h.imp id fun q => by have := z i; omega)) z
  | _, _, _, .ins (i := k) e r z, h => .ins (by
      rw [l.o k fun h => by subst h; rcases l.a with a | a <;> rw [a] at e <;> cases e]; exact e) (RpO.lk l r (h.imp id fun q => by have := z i; omega)) z
  | _, _, _, .dk (i := k) e hk r z, h => .dk (by
      by_cases q : k = i
      · subst q
        rcases h with h | h
        · have : ∀ {ks}, S[k]? = some (.dK ks) ∨ S[k]? = some (.lck (.dK ks)) → ks = kvs := fun e => by
            rcases l.a with a | a <;> rcases e with e | e <;> rw [a] at e <;> cases e <;> rfl
          rw [this (e.imp id And.right)]
          exact l.b.imp id fun b => ⟨h, b⟩
        · have := z k; rw [if_pos rfl] at this; omega
      · rw [l.o k q]; exact e) hk (RpL.lk l r (h.imp id fun q => by have := z i; omega)) z
theorem RpL.lk (l : Lk i kvs S S') : ∀ {vs : List V} {ds : List D} {F : Ft}, RpL w S vs ds F → (w = false ∨ F i = 0) → RpL w S' vs ds F
  | _, _, _, .nil z, _ => .nil z
  | _, _, _, .cons a b z, h => .cons (Rp.lk l a (h.imp id fun q => by have := z i; omega)) (RpL.lk l b (h.imp id fun q => by have := z i; omega)) z
theorem RpO.lk (l : Lk i kvs S S') : ∀ {vs : List (Option V)} {ds : List D} {F : Ft}, RpO w S vs ds F → (w = false ∨ F i = 0) → RpO w S' vs ds F
  | _, _, _, .nil z, _ => .nil z
  | _, _, _, .cons a b z, h => .cons (Rp.lk l a (h.imp id fun q => by have := z i; omega)) (RpO.lk l b (h.imp id fun q => by have := z i; omega)) z
  | _, _, _, .hole a, h => .hole (RpO.lk l a h)
end
theorem EnvR.lk (l : Lk i kvs S S') : ∀ {σ : St} {e : Env} {F Z : Ft}, EnvR S σ e F Z → F i = 0 → EnvR S' σ e F Z
  | _, _, _, _, .nil a b, _ => .nil a b
  | _, _, _, _, .no h, q => .no (h.lk l q)
  | _, _, _, _, .ow r h z, q => .ow (r.lk l (.inr (by have := z i; omega))) (h.lk l (by have := z i; omega)) z
  | _, _, _, _, .fz r h z, q => .fz (r.lk l (.inl rfl)) (h.lk l q) z
end
/-- what is walked: the keys of a dict, or the items -/
def itemsK : D → Option (List ItD)
  | .dk kds => some (kds.map fun kv => .v (kD kv.1))
  | d => itemsD d
def pWk (its : D → Option (List ItD)) (p : PE) : PI := fun e => (p e).bind fun x q e1 => match its x.1 with
  | some l => .ok (l, okSrc x.2 q) q e1
  | none => .bad
/-- a source over what m tells, which may be a locked dict -/
def JIL (m : ME) (p : PE) (src : St → Sto → R Src) (its : D → Option (List ItD)) : Prop := ∀ (S : Sto) (σ : St) (e : Env) (F Z : Ft), EI S σ e F Z → (∀ i, pick m σ S = some i → ∀ kvs, S[i]? ≠ some (.dK kvs)) → Po RlI S σ e F Z (src σ S) (pWk its p e)
/-- a locked dict, read -/
theorem Rp.lkd {S : Sto} {i : Nat} {kds : List (Key × D)} {F : Ft} (r : Rp false S (.ref i) (.dk kds) F) (hn : ∀ kvs, S[i]? ≠ some (.dK kvs)) : ∃ kvs G, S[i]? = some (.lck (.dK kvs)) ∧ kvs.map (·.1) = kds.map (·.1) ∧ RpL false S (kvs.map (·.2)) (kds.map (·.2)) G ∧ (∀ j, G j ≤ F j) ∧ ∀ S', Kp F S S' → S'[i]? = some (.lck (.dK kvs)) := by
  cases r with
  | dk e hk r z =>
    rcases e with e | e
    · exact absurd e (hn _)
    · exact ⟨_, _, e.2, hk, r, fun j => by have := z j; omega, fun S' k => k _ _ e.2 (.inl (by have := z i; rw [if_pos rfl] at this; omega))⟩
theorem its_keys {S : Sto} : ∀ {kvs : List (Key × V)} {kds : List (Key × D)}, kvs.map (·.1) = kds.map (·.1) → ItsR S (kvs.map fun p => .v (kV p.1)) (kds.map fun kv => ItD.v (kD kv.1)) fun _ => 0
  | [], [], _ => .nil fun _ => rfl
  | [], _ :: _, h => by cases h
  | _ :: _, [], h => by cases h
  | p :: r, q :: s, h => by
    simp only [List.map_cons, List.cons.injEq] at h
    rw [List.map_cons, List.map_cons, h.1]
    exact .v (kD_rp _) (its_keys h.2) fun _ => rfl
theorem jil_walk {m : ME} {p : PE} (h : JV m p) : JIL m p (mWalk m) itemsK := by
  intro S σ e F Z I hn
  have k := h S σ e F Z I
  have jw := ji_walk h.je S σ e F Z I
  unfold pWk
  unfold pWalk at jw
  cases hx : p e with
  | bad => trivial
  | exc c x e' => rw [hx] at k; exact k.elim
  | ok a q e' =>
    obtain ⟨d, o⟩ := a
    rw [hx] at k jw
    obtain ⟨rfl, rfl, v, Fd, hm, r, t, hs⟩ := k
    simp only [xbind_ok] at jw ⊢
    cases d with
    | dk kds =>
      have r := r.relax
      obtain ⟨i, kvs0, G0, rfl, _⟩ := r.rdK
      have hn' : ∀ kvs, S[i]? ≠ some (.dK kvs) := hn i (by unfold pick; rw [hm])
      obtain ⟨kvs, G, es, hk, rv, hle, hkp⟩ := r.lkd hn'
      rw [mWalk_ap, hm, bind_ok]
      have e1 : kWalk (.ref i) S = .ok ⟨kvs.map fun p => .v (kV p.1), fun S' => decide (S'[i]? = some (.lck (.dK kvs)))⟩ S := by
        simp only [kWalk, walkOf, es]
      rw [e1]
      exact ⟨_, S, F, Z, rfl, .refl I, I.r, ⟨fun _ => 0, Fd, its_keys hk, fun _ => Nat.zero_le _, fun j y => r.lt y, fun S' kp => decide_eq_true (hkp S' kp), src_mem t, fun (hh : okSrc o true = true) => src_zn (e := []) (e' := []) (q := true) t (fun _ => .refl) hh⟩, fun _ => .refl⟩
    | _ => exact jw
/-- the place of a dict to be locked; what the lock makes -/
theorem lk_on {S : Sto} {i : Nat} {kvs : List (Key × V)} (h : S[i]? = some (.dK kvs)) : Lk i kvs S (S.set i (.lck (.dK kvs))) := ⟨by rw [List.length_set], fun j hj => List.getElem?_set_ne (Ne.symm hj), .inl h, .inr (List.getElem?_set_self (List.getElem?_eq_some_iff.mp h).1)⟩
theorem lk_off {S : Sto} {i : Nat} {kvs : List (Key × V)} (h : S[i]? = some (.lck (.dK kvs))) : Lk i kvs S (S.set i (.dK kvs)) := ⟨by rw [List.length_set], fun j hj => List.getElem?_set_ne (Ne.symm hj), .inr h, .inl (List.getElem?_set_self (List.getElem?_eq_some_iff.mp h).1)⟩
/-- a walk over a dict that is frozen, or of its own -/
def pForK (p : PE) (its : D → Option (List ItD)) (tg : TgD) (b : PS) : PS := fun e => match p e with
  | .ok (d, o) _ _ => if (isK d && !o.st) = true then .bad else pFor (pWk its p) tg b e
  | _ => .bad
theorem nx_unlock {S S2 : Sto} {i : Nat} {kvs : List (Key × V)} {F Z F2 Z2 : Ft} (h : S[i]? = some (.dK kvs)) (n : Nx (S.set i (.lck (.dK kvs))) F Z S2 F2 Z2) (fi : F i = 0) : S2[i]? = some (.lck (.dK kvs)) ∧ F2 i = 0 ∧ Nx S F Z (S2.set i (.dK kvs)) F2 Z2 := by
  have hi := (List.getElem?_eq_some_iff.mp h).1
  have e1 : S2[i]? = some (.lck (.dK kvs)) := n.fr i _ (List.getElem?_set_self hi) fi
  have hl : S.length ≤ S2.length := by have := n.le; rwa [List.length_set] at this
  have f2 : F2 i = 0 := by have := n.sub i (by rw [List.length_set]; exact hi); omega
  refine ⟨e1, f2, ⟨by rw [List.length_set]; exact hl, fun j o g k => ?_, n.nd, fun j hj => n.sub j (by rw [List.length_set]; exact hj), fun j hj => n.zs j (by rw [List.length_set]; exact hj), n.dj⟩⟩
  by_cases z : j = i
  · subst z
    rw [h] at g
    cases g
    exact List.getElem?_set_self (Nat.lt_of_lt_of_le hi hl)
  · rw [List.getElem?_set_ne (Ne.symm z)]
    exact n.fr j o (by rw [List.getElem?_set_ne (Ne.symm z)]; exact g) k
theorem js_forK {P : List Nat} {m : ME} {p : PE} {src : St → Sto → R Src} {its : D → Option (List ItD)} {is : List Nat} {tg : Mi.Tg} {td : TgD} {mb : MS} {pb : PS} (hv : JV m p) (hl : JIL m p src its) (hg : JG is tg td) (hb : JS P mb pb) (hi : ∀ i ∈ is, i ∉ P := by decide) (hh0 : its .hole = none := by rfl) : JS P (mLock (pick m) (mFor src tg mb)) (pForK p its td pb) := by
  intro S σ e F Z I
  have k := hv S σ e F Z I
  unfold pForK
  -- the loop, where nothing is to be locked
  have loop : ∀ {S' : Sto} {F' Z' : Ft}, EI S' σ e F' Z' → (∀ i, pick m σ S' = some i → ∀ kvs, S'[i]? ≠ some (.dK kvs)) → PoS P S' σ F' Z' (mFor src tg mb σ S') (pFor (pWk its p) td pb e) := fun {S' F' Z'} I' hn => by
    rw [mFor_ap]
    refine PoS.lift (hl S' σ e F' Z' I' hn) fun ⟨its, ok⟩ q e1 s S1 F1 Z1 hx n I1 ⟨Fd, Fx, h1, h2, h3, h4, _, h5⟩ k => ?_
    by_cases z : ok = true
    · rw [if_pos z]
      exact for_ok hg hb hi n I1 .refl h1 h2 h3 h4 (h5 z)
    · rw [if_neg z]; trivial
  cases hx : p e with
  | bad => trivial
  | exc c x e' => trivial
  | ok a q e' =>
    obtain ⟨d, o⟩ := a
    rw [hx] at k
    obtain ⟨rfl, rfl, v, Fd, hm, r, t, hs⟩ := k
    dsimp only
    by_cases hk : (isK d && !o.st) = true
    · rw [if_pos hk]; trivial
    · rw [if_neg hk]
      have r0 := r.relax
      by_cases hd : ∃ i kvs, v = .ref i ∧ S[i]? = some (.dK kvs)
      · obtain ⟨i, kvs, rfl, es⟩ := hd
        have hp : pick m σ S = some i := by unfold pick; rw [hm]
        have e0 : mLock (pick m) (mFor src tg mb) σ S = unlS i kvs (mFor src tg mb σ (S.set i (.lck (.dK kvs)))) := by
          unfold mLock
          rw [hp]
          dsimp only
          rw [es]
        rw [e0]
        have dk : isK d = true ∨ d = .hole := by
          cases r0 with
          | dk _ _ _ _ => exact .inl rfl
          | hole _ => exact .inr rfl
          | lst e _ _ => rcases e with e | e <;> first | (rw [es] at e; cases e.2; done) | (rw [es] at e; cases e; done)
          | tup e _ => rw [es] at e; cases e
          | exc e _ => rw [es] at e; cases e
          | ins e _ _ => rw [es] at e; cases e
        rcases dk with dk | dk
        · have ost : o.st = true := by
            rw [dk] at hk
            simpa using hk
          have fdi : 0 < Fd i := by
            cases d with
            | dk kds =>
              cases r0 with
              | dk _ _ _ z => have := z i; rw [if_pos rfl] at this; omega
            | _ => cases dk
          have fi : F i = 0 := by
            cases o with
            | an => cases ost
            | zn => exact (t i fdi).1
            | fr => have := t.1 i; omega
          have L := lk_on es
          have Il : EI (S.set i (.lck (.dK kvs))) σ e' F Z := ⟨I.r.lk L fi, I.nd, I.dj⟩
          have hsl : m σ (S.set i (.lck (.dK kvs))) = .ok (.ref i) (S.set i (.lck (.dK kvs))) := hs _ fun j o h ro => by
            rw [List.getElem?_set_ne (fun y => by subst y; rw [es] at h; cases h; exact ro)]; exact h
          have inner := loop Il fun j hj kk => by
            have : j = i := by unfold pick at hj; rw [hsl] at hj; cases hj; rfl
            subst this
            rw [List.getElem?_set_self (List.getElem?_eq_some_iff.mp es).1]
            intro y; cases y
          have unl_eq : ∀ {S2 : Sto}, S2[i]? = some (.lck (.dK kvs)) → unl i kvs S2 = some (S2.set i (.dK kvs)) := fun h => if_pos h
          have aft : ∀ {S2 σ2 e2}, Aft P (S.set i (.lck (.dK kvs))) σ F Z S2 σ2 e2 → S2[i]? = some (.lck (.dK kvs)) ∧ Aft P S σ F Z (S2.set i (.dK kvs)) σ2 e2 := fun ⟨F2, Z2, n, er, pn⟩ => by
            obtain ⟨a, b, c⟩ := nx_unlock es n fi
            exact ⟨a, F2, Z2, c, er.lk (lk_off a) b, pn⟩
          generalize pFor (pWk its p) td pb e' = x at inner
          cases x with
          | nx e2 => obtain ⟨σ2, S2, hr, a⟩ := inner; obtain ⟨a1, a2⟩ := aft a; rw [hr]; simp only [unlS, unl_eq a1]; exact ⟨_, _, rfl, a2⟩
          | bk e2 => obtain ⟨σ2, S2, hr, a⟩ := inner; obtain ⟨a1, a2⟩ := aft a; rw [hr]; simp only [unlS, unl_eq a1]; exact ⟨_, _, rfl, a2⟩
          | ct e2 => obtain ⟨σ2, S2, hr, a⟩ := inner; obtain ⟨a1, a2⟩ := aft a; rw [hr]; simp only [unlS, unl_eq a1]; exact ⟨_, _, rfl, a2⟩
          | exc c x e2 => obtain ⟨σ2, S2, hr, a⟩ := inner; obtain ⟨a1, a2⟩ := aft a; rw [hr]; simp only [unlS, unl_eq a1]; exact ⟨_, _, rfl, a2⟩
          | bad => trivial
          | rt dd oo e2 =>
            obtain ⟨u, S2, σ2, F2, Z2, Fu, hr, n, er, pn, ru, tu⟩ := inner
            obtain ⟨a, b, c⟩ := nx_unlock es n fi
            rw [hr]
            simp only [unlS, unl_eq a]
            have hi := (List.getElem?_eq_some_iff.mp es).1
            refine ⟨u, _, σ2, F2, Z2, Fu, rfl, c, er.lk (lk_off a) b, pn, ?_, ?_⟩
            · cases oo with
              | fr => exact ru.lk (lk_off a) (.inr (by have := tu.2.1 i (by rw [List.length_set]; exact hi); omega))
              | zn => exact ru.lk (lk_off a) (.inl rfl)
              | an => exact ru.lk (lk_off a) (.inl rfl)
            · cases oo with
              | fr => exact ⟨tu.1, fun j hj => tu.2.1 j (by rw [List.length_set]; exact hj), tu.2.2⟩
              | zn => exact fun j q => ⟨(tu j q).1, fun hj => (tu j q).2 (by rw [List.length_set]; exact hj)⟩
              | an => exact fun j q hj => tu j q (by rw [List.length_set]; exact hj)
        · subst dk
          have : pFor (pWk its p) td pb e' = .bad := by unfold pFor pWk; rw [hx]; simp only [xbind_ok, hh0, xlift_bad]
          rw [this]
          trivial
      · have e0 : mLock (pick m) (mFor src tg mb) σ S = mFor src tg mb σ S := by
          unfold mLock
          cases hp : pick m σ S with
          | none => rfl
          | some i =>
            have : v = .ref i := by
              unfold pick at hp
              rw [hm] at hp
              cases v <;> cases hp
              rfl
            subst this
            dsimp only
            split
            · rename_i kvs es; exact absurd ⟨i, kvs, rfl, es⟩ hd
            · rfl
        rw [e0]
        exact loop I fun i hp kvs es => hd ⟨i, kvs, by
          unfold pick at hp
          rw [hm] at hp
          cases v <;> cases hp
          rfl, es⟩
end Vi
namespace Vi
open PySem PySem.Spec L2 Mi
theorem je_lcK {is : List Nat} {tg : Mi.Tg} {td : TgD} {mv : ME} {pv : PE} {src : St → Sto → R Src} {its : D → Option (List ItD)} {own : List Nat} {mc : MT} {pc : PT} {m : ME} {p : PE} (hv : JV mv pv) (hl : JIL mv pv src its) (hg : JG is tg td) (hc : JT mc pc) (hp : JE m p) : JE (mLockE (pick mv) (mLc src own tg mc m)) (pLc (pWk its pv) own td pc p) := by
  intro S σ e F Z I
  have If := I.frz
  -- the comprehension where nothing is to be locked
  have core : ∀ {S' : Sto} {Z' : Ft}, EI S' σ (frzAll e) (fun _ => 0) Z' → (∀ i, pick mv σ S' = some i → ∀ kvs, S'[i]? ≠ some (.dK kvs)) → ∀ {x e'}, pWk its pv (frzAll e) = .ok x true e' → ∀ {ds}, lcGoD td pc p (wipeE (frzAll e) own) x.1 [] = some ds →
      ∃ S2 n acc A, mLc src own tg mc m σ S' = .ok (.ref n) S2 ∧ S' <+: S2 ∧ S'.length ≤ n ∧ S2[n]? = some (.lst acc) ∧ RpL true S2 acc ds A ∧ (∀ i, 0 < A i → n < i) ∧ ∀ i, A i ≤ 1 := by
    intro S' Z' I' hn x e' hx ds hd
    have h := hl S' σ (frzAll e) _ Z' I' hn
    rw [hx] at h
    obtain ⟨s, S1, F1, Z1, hr, n1, er1, ⟨Fd, Fx, h1, h2, h3, h4, h5, h6⟩, qt⟩ := h
    have qt := qt rfl
    obtain ⟨Fw, Zw, ew, hw1, hw2⟩ := (I'.pre qt.p).r.wipe own
    have I0 : EI S1 (L2.wipe σ own) (wipeE (frzAll e) own) (fun _ => 0) Zw := ⟨ew.congr (fun i => by have := hw1 i; omega) fun _ => rfl, fun _ => by omega, fun _ _ => rfl⟩
    have hn0 : (S1 ++ [Ob.lst []])[S1.length]? = some (.lst []) := by rw [get_new0]; rfl
    obtain ⟨S2, acc', A', g1, g2, g3, g4, g5, g6⟩ := lc_ok hg hc hp I0 h4 (S := S1 ++ [Ob.lst []]) (acc := []) (ds := []) (A := fun _ => 0) h1 (pre_add _ _) hn0 (.nil fun _ => rfl) (fun i y => by simp at y) (fun _ => by omega) hd
    refine ⟨S2, S1.length, acc', A', ?_, qt.p.trans g2, qt.p.length_le, g3, g4, g5, g6⟩
    show (src σ S').bind _ = _
    rw [hr, bind_ok]
    show (match lcGo S1.length s.chk tg mc m (L2.wipe σ own) s.its (S1 ++ [.lst []]) with
      | some S2 => R.ok (V.ref S1.length) S2
      | none => .bad) = _
    rw [g1]
  unfold pLc
  split
  · rename_i x e' hx
    split
    · rename_i ds hd
      have fin : ∀ {S3 : Sto} {n : Nat} {acc : List V} {A : Ft}, S <+: S3 → S.length ≤ n → S3[n]? = some (.lst acc) → RpL true S3 acc ds A → (∀ i, 0 < A i → n < i) → (∀ i, A i ≤ 1) → Po RlE S σ e F Z (.ok (.ref n) S3) (.ok (.lst ds, .fr) true e) := by
        intro S3 n acc A pp hln g3 g4 g5 g6
        refine .fresh I pp ⟨fun j => A j + if j = n then 1 else 0, .lst (.inl g3) g4 fun _ => rfl, fun i => ?_, fun i hi => ?_, fun i hi => ?_⟩
        · show F i + (A i + if i = n then 1 else 0) ≤ 1
          by_cases y : i < n
          · rw [if_neg (by omega)]
            have : A i = 0 := Nat.eq_zero_of_not_pos fun w => by have := g5 i w; omega
            have := I.nd i; omega
          · have : F i = 0 := I.r.boundF (by omega)
            by_cases y : i = n
            · rw [if_pos y]
              have : A i = 0 := Nat.eq_zero_of_not_pos fun w => by have := g5 i w; omega
              omega
            · rw [if_neg y]; have := g6 i; omega
        · show F i + (A i + if i = n then 1 else 0) ≤ F i
          have hi : i < S.length := hi
          rw [if_neg (by omega)]
          have : A i = 0 := Nat.eq_zero_of_not_pos fun w => by have := g5 i w; omega
          omega
        · show A i + (if i = n then 1 else 0) = 0
          have hl : i < S.length := Nat.lt_of_not_le fun w => by rw [I.r.boundZ w] at hi; omega
          rw [if_neg (by omega)]
          exact Nat.eq_zero_of_not_pos fun w => by have := g5 i w; omega
      have k := hv S σ (frzAll e) _ _ If
      have hxx : ∃ a q e2, pv (frzAll e) = .ok a q e2 := by
        unfold pWk at hx
        cases h : pv (frzAll e) with
        | ok a q e2 => exact ⟨a, q, e2, rfl⟩
        | exc c y e2 => rw [h] at hx; cases hx
        | bad => rw [h] at hx; cases hx
      obtain ⟨⟨d, o⟩, q, e2, hpv⟩ := hxx
      rw [hpv] at k
      obtain ⟨_, _, v, Fd, hm, r, t, hs⟩ := k
      by_cases hd' : ∃ i kvs, v = .ref i ∧ S[i]? = some (.dK kvs)
      · obtain ⟨i, kvs, rfl, es⟩ := hd'
        have hpk : pick mv σ S = some i := by unfold pick; rw [hm]
        have e0 : mLockE (pick mv) (mLc src own tg mc m) σ S = unlR i kvs (mLc src own tg mc m σ (S.set i (.lck (.dK kvs)))) := by
          unfold mLockE
          rw [hpk]
          dsimp only
          rw [es]
        rw [e0]
        have L := lk_on es
        have Il : EI (S.set i (.lck (.dK kvs))) σ (frzAll e) (fun _ => 0) (fun i => F i + Z i) := ⟨If.r.lk L rfl, If.nd, If.dj⟩
        have hsl : mv σ (S.set i (.lck (.dK kvs))) = .ok (.ref i) (S.set i (.lck (.dK kvs))) := hs _ fun j o h ro => by
          rw [List.getElem?_set_ne (fun y => by subst y; rw [es] at h; cases h; exact ro)]; exact h
        have hi := (List.getElem?_eq_some_iff.mp es).1
        obtain ⟨S2, n, acc, A, g0, g1, g2, g3, g4, g5, g6⟩ := core Il (fun j hj kk => by
          have : j = i := by unfold pick at hj; rw [hsl] at hj; cases hj; rfl
          subst this
          rw [List.getElem?_set_self hi]
          intro y; cases y) hx hd
        rw [g0]
        have a1 : S2[i]? = some (.lck (.dK kvs)) := pre_get' (List.getElem?_set_self hi) g1
        rw [List.length_set] at g2
        have ne : n ≠ i := Nat.ne_of_gt (Nat.lt_of_lt_of_le hi g2)
        have e1 : unlR i kvs (.ok (V.ref n) S2) = .ok (.ref n) (S2.set i (.dK kvs)) := by simp only [unlR, unl, if_pos a1]
        rw [e1]
        have l2 := g1.length_le
        rw [List.length_set] at l2
        refine fin (pre_of (by rw [List.length_set]; exact l2) fun j ob hj => ?_) g2 (by rw [List.getElem?_set_ne (Ne.symm ne)]; exact g3) (g4.lk (lk_off a1) (.inr (Nat.eq_zero_of_not_pos fun w => Nat.lt_irrefl _ (Nat.lt_trans (g5 i w) (Nat.lt_of_lt_of_le hi g2))))) g5 g6
        by_cases z : j = i
        · subst z
          rw [es] at hj
          cases hj
          exact List.getElem?_set_self (Nat.lt_of_lt_of_le hi l2)
        · rw [List.getElem?_set_ne (Ne.symm z)]
          exact pre_get' (by rw [List.getElem?_set_ne (Ne.symm z)]; exact hj) g1
      · have e0 : mLockE (pick mv) (mLc src own tg mc m) σ S = mLc src own tg mc m σ S := by
          unfold mLockE
          cases hp' : pick mv σ S with
          | none => rfl
          | some i =>
            have : v = .ref i := by
              unfold pick at hp'
              rw [hm] at hp'
              cases v <;> cases hp'
              rfl
            subst this
            dsimp only
            split
            · rename_i kvs es; exact absurd ⟨i, kvs, rfl, es⟩ hd'
            · rfl
        rw [e0]
        obtain ⟨S2, n, acc, A, g0, g1, g2, g3, g4, g5, g6⟩ := core If (fun i hp' kvs es => hd' ⟨i, kvs, by
          unfold pick at hp'
          rw [hm] at hp'
          cases v <;> cases hp'
          rfl, es⟩) hx hd
        rw [g0]
        exact fin g1 g2 g3 g4 g5 g6
    · trivial
  · trivial
def evP : List (PE × PE) → Env → Option (List (Key × D))
  | [], _ => some []
  | (k, v) :: r, e => match k e, v e with
    | .ok (a, _) true _, .ok (b, .fr) true _ => if imm b = true then (keyD a).bind fun kk => (evP r e).map fun l => (kk, b) :: l else none
    | _, _ => none
def pDisp (r : List (PE × PE)) : PE := fun e => match evP r e with
  | some kds => if kds.length ≤ 15 then .ok (.dk (mergeD [] kds), .fr) true e else .bad
  | none => .bad
def dMulL : D → D → Option D
  | .lst xs, .int k => if -(2 ^ 63) ≤ k ∧ k < 2 ^ 63 ∧ xs.length * k.toNat ≤ sizeLine ∧ xs.all imm = true then some (.lst (List.replicate k.toNat xs).flatten) else none
  | x, y => dMul x y
theorem rep_rpl {S : Sto} {vs : List V} {ds : List D} (h : RpL true S vs ds fun _ => 0) : ∀ k, RpL true S (List.replicate k vs).flatten (List.replicate k ds).flatten fun _ => 0
  | 0 => .nil fun _ => rfl
  | k + 1 => by
    rw [List.replicate_succ, List.replicate_succ, List.flatten_cons, List.flatten_cons]
    exact (h.app (rep_rpl h k)).congr fun _ => rfl
theorem all_rep {ds : List D} (h : ds.all imm = true) : ∀ k, (List.replicate k ds).flatten.all imm = true
  | 0 => rfl
  | k + 1 => by rw [List.replicate_succ, List.flatten_cons, List.all_append, h, all_rep h k]; rfl
/-- the first one strict -/
def pBinS (p : D → D → Option D) (a b : PE) : PE := fun e => (a e).bind fun x q e1 => (b e1).bind fun y q' e2 => if x.2.own = true then pOf (q && q') e2 (p x.1 y.1) else .bad
theorem je_mul {ma mb : ME} {pa pb : PE} (ha : JE ma pa) (hb : JE mb pb) : JE (mBin oMul ma mb) (pBinS dMulL pa pb) := by
  intro S σ e F Z I
  have h := ja_cons ha (ja_cons hb ja_nil) S σ e F Z I
  rw [← mBin_args, mCall_ap]
  unfold pCons pNil at h
  unfold pBinS
  cases hx : pa e with
  | bad => trivial
  | exc c x e1 => rw [hx] at h; obtain ⟨S', F', Z', hr, hn, he⟩ := h; rw [hr]; exact ⟨S', F', Z', rfl, hn, he⟩
  | ok x q e1 =>
    rw [hx] at h
    simp only [xbind_ok] at h ⊢
    cases hy : pb e1 with
    | bad => trivial
    | exc c y e2 => rw [hy] at h; obtain ⟨S', F', Z', hr, hn, he⟩ := h; rw [hr]; exact ⟨S', F', Z', rfl, hn, he⟩
    | ok y q' e2 =>
      rw [hy] at h
      obtain ⟨d, o⟩ := x
      obtain ⟨d2, o2'⟩ := y
      simp only [xbind_ok, Bool.or_true, if_true, Bool.and_true] at h ⊢
      by_cases z : o.own = true
      · rw [if_pos z]
        have z2 : (o.st || q') = true := by cases o <;> first | rfl | cases z
        rw [if_pos z2] at h
        obtain ⟨vs, S1, F1, Z1, hr, n, er, ⟨T, av, t1, t2, t3⟩, qt⟩ := h
        rw [hr, bind_ok]
        cases av with
        | cons r t av hu =>
          cases av with
          | cons r' t' av' hu' =>
            cases av' with
            | nil _ =>
              cases hp : dMulL d d2 with
              | none => trivial
              | some rr =>
                rw [z] at r
                refine Res.done (S2 := S1) n (n.ei er) qt ?_
                unfold dMulL at hp
                split at hp
                · rename_i xs k
                  split at hp
                  · rename_i hz
                    cases hp
                    obtain ⟨i, us, A, rfl, es, ra, zz⟩ := r.lstT
                    rw [r'.inv_int]
                    have e0 : o2 oMul [V.ref i, V.int k] S1 = .ok (.ref S1.length) (S1 ++ [.lst (List.replicate k.toNat us).flatten]) := by
                      show oMul (V.ref i) (V.int k) S1 = _
                      unfold oMul
                      simp only [es]
                      rw [if_pos ⟨hz.1, hz.2.1, by rw [ra.len]; exact hz.2.2.1⟩]
                    rw [e0]
                    exact .lst (rep_rpl (zero_of_imm ra hz.2.2.2) _) (all_rep hz.2.2.2 _)
                  · cases hp
                · exact Res.two jo_mul r.relax r'.relax hp
      · rw [if_neg z]; trivial
end Vi
namespace Vi
open PySem PySem.Spec L2 Mi
theorem mLock_set (p : St → Sto → Option Nat) (i : Nat) (a : ME) : mLock p (mSet i a) = mSet i (mLockE p a) := by
  funext σ S
  rw [mSet_ap]
  unfold mLock mLockE
  cases p σ S with
  | none => rfl
  | some j =>
    dsimp only
    split
    · rename_i kvs es
      rw [mSet_ap]
      generalize a σ (S.set j (.lck (.dK kvs))) = r
      cases r with
      | ok v S2 =>
        simp only [lift_ok, unlS, unlR]
        cases unl j kvs S2 <;> rfl
      | exc c d S2 =>
        simp only [lift_exc, unlS, unlR]
        cases unl j kvs S2 <;> rfl
      | bad => rfl
    · rfl
theorem js_lock_set {P : List Nat} {q : St → Sto → Option Nat} (i : Nat) {m : ME} {p : PE} (h : JE (mLockE q m) p) (hi : i ∉ P := by decide) : JS P (mLock q (mSet i m)) (pSet i p) := by
  rw [mLock_set]
  exact js_set i h hi
/-- what the trees tell of the law, the machine tells -/
theorem run_law {f : Fn} {p : PF} (hf : JF f [false] p) {ns : List Int} (h : ∃ o outs, p [.lst (ns.map .int)] = .ok (.bl true) o outs) : ∃ S, f [.ref 0] [.lck (.lst (ns.map V.int))] = .ok (.bl true) S := by
  obtain ⟨o, outs, h⟩ := h
  have r : Rp false [Ob.lck (.lst (ns.map V.int))] (.ref 0) (.lst (ns.map .int)) (one 0) := .lst (F1 := fun _ => 0) (.inr ⟨rfl, rfl⟩) (ints_rpl ns) fun _ => rfl
  have I : EI [Ob.lck (.lst (ns.map V.int))] ([V.ref 0].map some) (wrp [false] [.lst (ns.map .int)]) (fun _ => 0) (one 0) := ⟨.fz r (.nil (Z := fun _ => 0) (fun _ => rfl) fun _ => rfl) fun i => by omega, fun _ => by omega, fun _ _ => rfl⟩
  have k := hf _ [.ref 0] [.lst (ns.map .int)] _ _ I rfl
  rw [h] at k
  obtain ⟨v, S', F', Fd, hr, n, er, rv, t⟩ := k
  have rv := rv.relax
  rw [rv.inv_bl] at hr
  exact ⟨S', hr⟩
section
variable (e : Env)
@[simp] theorem pC_ap (d : D) : pC d e = .ok (d, .fr) true e := rfl
@[simp] theorem pVar_ow {i : Nat} {d : D} (h : e[i]? = some (.ow d)) : pVar i e = .ok (d, tagI d .an) true e := by unfold pVar; rw [h]
@[simp] theorem pNil_ap : pNil e = .ok [] true e := rfl
@[simp] theorem pCons_ap (a : PE) (r : PA) : pCons a r e = (a e).bind fun d q e1 => (r e1).bind fun ds q' e2 => if (d.2.st || q') = true then .ok (d :: ds) (q && q') e2 else .bad := rfl
@[simp] theorem pUn_ap (p : D → Option D) (a : PE) : pUn p a e = (a e).bind fun x q e1 => pOf q e1 (p x.1) := rfl
@[simp] theorem pBin_ap (p : D → D → Option D) (a b : PE) : pBin p a b e = (a e).bind fun x q e1 => (b e1).bind fun y q' e2 => if (x.2.st || q') = true then pOf (q && q') e2 (p x.1 y.1) else .bad := rfl
@[simp] theorem pBinS_ap (p : D → D → Option D) (a b : PE) : pBinS p a b e = (a e).bind fun x q e1 => (b e1).bind fun y q' e2 => if x.2.own = true then pOf (q && q') e2 (p x.1 y.1) else .bad := rfl
def kCall (p : List D → Option D) : List (D × Og) → Bool → Env → X (D × Og) := fun ds q e' => match p (ds.map (·.1)) with
  | some r => .ok (r, .fr) q e'
  | none => .bad
@[simp] theorem pCall_ap (p : List D → Option D) (a : PA) : pCall p a e = (a e).bind (kCall p) := rfl
theorem kCall_ap (p : List D → Option D) (ds : List (D × Og)) (q : Bool) : kCall p ds q e = pOf q e (p (ds.map (·.1))) := by
  unfold kCall
  cases p (ds.map (·.1)) <;> rfl
def kSel (t : D → Og) (q : Bool) (e : Env) : Option D → X (D × Og)
  | some r => .ok (r, t r) q e
  | none => .bad
@[simp] theorem kSel_some (t : D → Og) (q : Bool) (d : D) : kSel t q e (some d) = .ok (d, t d) q e := rfl
@[simp] theorem kSel_none (t : D → Og) (q : Bool) : kSel t q e none = .bad := rfl
theorem pSel2_ap (p : D → D → Option D) (a b : PE) : pSel2 p a b e = (a e).bind fun x q e1 => (b e1).bind fun y q' e2 => if (x.2.st || q') = true then kSel (fun r => selT r [x]) (q && q') e2 (p x.1 y.1) else .bad := by
  unfold pSel2
  congr 1
theorem pSel1_ap (p : D → Option D) (a : PE) : pSel1 p a e = (a e).bind fun x q e1 => kSel (fun r => selT r [x]) q e1 (p x.1) := by
  unfold pSel1
  congr 1
@[simp] theorem selT_zn (r d : D) (l : List (D × Og)) : selT r ((d, .zn) :: l) = tagI r .zn := rfl
@[simp] theorem selT_an (r d : D) (l : List (D × Og)) : selT r ((d, .an) :: l) = tagI r .an := rfl
@[simp] theorem selT_fr (r d : D) (l : List (D × Og)) : selT r ((d, .fr) :: l) = tagI r .an := rfl
@[simp] theorem own_fr : Og.fr.own = true := rfl
@[simp] theorem own_zn : Og.zn.own = false := rfl
@[simp] theorem own_an : Og.an.own = false := rfl
@[simp] theorem imm_int (i : Int) : imm (.int i) = true := rfl
@[simp] theorem imm_bl (i : Bool) : imm (.bl i) = true := rfl
@[simp] theorem imm_str (i : Str) : imm (.str i) = true := rfl
@[simp] theorem imm_non : imm .non = true := rfl
@[simp] theorem imm_exc (c : Nat) (x : Option V) : imm (.exc c x) = true := rfl
@[simp] theorem imm_lst (xs : List D) : imm (.lst xs) = false := rfl
@[simp] theorem imm_dk (xs : List (Key × D)) : imm (.dk xs) = false := rfl
@[simp] theorem imm_ins (c : Nat) (xs : List D) : imm (.ins c xs) = false := rfl
@[simp] theorem imm_hole : imm .hole = false := rfl
@[simp] theorem imm_tup (xs : List D) : imm (.tup xs) = xs.all imm := by unfold imm; exact immL_all xs
def kAndP (b : PE) : D × Og → Bool → Env → X (D × Og) := fun x q e1 => match x.1 with
  | .bl true => (b e1).qq q
  | .bl false => .ok (.bl false, .fr) q e1
  | _ => .bad
def kOrP (b : PE) : D × Og → Bool → Env → X (D × Og) := fun x q e1 => match x.1 with
  | .bl true => .ok (.bl true, .fr) q e1
  | .bl false => (b e1).qq q
  | _ => .bad
@[simp] theorem pAndV_ap (a b : PE) : pAndV a b e = (a e).bind (kAndP b) := rfl
@[simp] theorem pOrV_ap (a b : PE) : pOrV a b e = (a e).bind (kOrP b) := rfl
@[simp] theorem kAndP_bl (b : PE) (x : Bool) (o : Og) (q : Bool) : kAndP b (.bl x, o) q e = if x = true then (b e).qq q else .ok (.bl false, .fr) q e := by cases x <;> rfl
@[simp] theorem kOrP_bl (b : PE) (x : Bool) (o : Og) (q : Bool) : kOrP b (.bl x, o) q e = if x = true then .ok (.bl true, .fr) q e else (b e).qq q := by cases x <;> rfl
def kBP : D × Og → Bool → Env → X Bool := fun x q e1 => match x.1 with
  | .bl b => .ok b q e1
  | _ => .bad
@[simp] theorem pB_ap (a : PE) : pB a e = (a e).bind kBP := rfl
@[simp] theorem kBP_bl (b : Bool) (o : Og) (q : Bool) : kBP (.bl b, o) q e = .ok b q e := rfl
@[simp] theorem pNot_ap (a : PT) : pNot a e = (a e).bind fun x q e1 => .ok (!x) q e1 := rfl
@[simp] theorem pAnd_ap (a b : PT) : pAnd a b e = (a e).bind fun x q e1 => if x = true then (b e1).qq q else .ok false q e1 := rfl
@[simp] theorem pOr_ap (a b : PT) : pOr a b e = (a e).bind fun x q e1 => if x = true then .ok true q e1 else (b e1).qq q := rfl
@[simp] theorem pIf_ap (c : PT) (a b : PE) : pIf c a b e = (c e).bind fun x q e1 => if x = true then (a e1).qq q else (b e1).qq q := rfl
@[simp] theorem pYes_ap : pYes e = .ok true true e := rfl
def kTru : D × Og → Bool → Env → X Bool := fun x q e1 => match truD x.1 with
  | some b => .ok b q e1
  | none => .bad
@[simp] theorem pTru_ap (a : PE) : pTru a e = (a e).bind kTru := rfl
@[simp] theorem kTru_lst (xs : List D) (o : Og) (q : Bool) : kTru (.lst xs, o) q e = .ok (!xs.isEmpty) q e := rfl
@[simp] theorem kTru_bl (b : Bool) (o : Og) (q : Bool) : kTru (.bl b, o) q e = .ok b q e := rfl
def kLstP : List (D × Og) → Bool → Env → X (D × Og) := fun ds q e' => if ds.length ≤ sizeLine then .ok (.lst (ds.map (·.1)), tagL ds) q e' else .bad
def kTupP : List (D × Og) → Bool → Env → X (D × Og) := fun ds q e' => if ds.length ≤ sizeLine then .ok (.tup (ds.map (·.1)), tagL ds) q e' else .bad
@[simp] theorem pLst_ap (a : PA) : pLst a e = (a e).bind kLstP := rfl
@[simp] theorem pTup_ap (a : PA) : pTup a e = (a e).bind kTupP := rfl
@[simp] theorem pDict0_ap : pDict0 e = .ok (.dk [], .fr) true e := rfl
@[simp] theorem pSkip_ap : pSkip e = .nx e := rfl
@[simp] theorem pSeq_ap (a b : PS) : pSeq a b e = (a e).seq b := rfl
@[simp] theorem pExpr_ap (a : PE) : pExpr a e = (a e).lift fun _ _ e1 => .nx e1 := rfl
def kSet (i : Nat) : D × Og → Bool → Env → XS := fun x _ e1 => match x.2 with
  | .fr => .nx (e1.set i (.ow x.1))
  | .zn => .nx (e1.set i (.fz x.1))
  | .an => .bad
@[simp] theorem pSet_ap (i : Nat) (a : PE) : pSet i a e = (a e).lift (kSet i) := rfl
@[simp] theorem kSet_fr (i : Nat) (d : D) (q : Bool) : kSet i (d, .fr) q e = .nx (e.set i (.ow d)) := rfl
@[simp] theorem kSet_zn (i : Nat) (d : D) (q : Bool) : kSet i (d, .zn) q e = .nx (e.set i (.fz d)) := rfl
@[simp] theorem pRet_ap (a : PE) : pRet a e = (a e).lift fun x _ e1 => .rt x.1 x.2 e1 := rfl
@[simp] theorem pRetN_ap : pRetN e = .rt .non .fr e := rfl
@[simp] theorem pBrk_ap : pBrk e = .bk e := rfl
@[simp] theorem pIfS_ap (c : PT) (a b : PS) : pIfS c a b e = (c e).lift fun x _ e1 => if x = true then a e1 else b e1 := rfl
@[simp] theorem pRaise_ap (c : Nat) : pRaise c e = .exc c none e := rfl
@[simp] theorem pAug_ap (i : Nat) (o : D → D → Option D) (a : PE) : pAug i o a e = pSet i (pBin o (pVar i) a) e := rfl
def kCat (sub : Nat → Bool) (j : Nat) (s : PS) : XS → XS
  | .exc c x e1 => if sub c = true then unC j (s (e1.set j (.ow (.exc c x)))) else .exc c x e1
  | r => r
@[simp] theorem pTry_ap (b : PS) (sub : Nat → Bool) (j : Nat) (s : PS) : pTry b sub j s e = kCat sub j s (b e) := by
  unfold pTry kCat
  cases b e <;> rfl
@[simp] theorem kCat_nx (sub : Nat → Bool) (j : Nat) (s : PS) : kCat sub j s (.nx e) = .nx e := rfl
@[simp] theorem kCat_rt (sub : Nat → Bool) (j : Nat) (s : PS) (d : D) (o : Og) : kCat sub j s (.rt d o e) = .rt d o e := rfl
@[simp] theorem kCat_exc (sub : Nat → Bool) (j : Nat) (s : PS) (c : Nat) (x : Option V) : kCat sub j s (.exc c x e) = if sub c = true then unC j (s (e.set j (.ow (.exc c x)))) else .exc c x e := rfl
@[simp] theorem unC_nx (j : Nat) : unC j (.nx e) = .nx (e.set j .no) := rfl
@[simp] theorem unC_rt (j : Nat) (d : D) (o : Og) : unC j (.rt d o e) = .rt d o e := rfl
@[simp] theorem pFn_ap (n : Nat) (mask : List Bool) (b : PS) (ds : List D) : pFn n mask b ds = finP mask ds (b (wrp mask ds ++ List.replicate (n - ds.length) .no)) := rfl
@[simp] theorem finP_rt (mask : List Bool) (ds : List D) (d : D) (o : Og) : finP mask ds (.rt d o e) = .ok d o (outsOf mask ds e) := rfl
@[simp] theorem finP_nx (mask : List Bool) (ds : List D) : finP mask ds (.nx e) = .ok .non .fr (outsOf mask ds e) := rfl
@[simp] theorem finP_exc (mask : List Bool) (ds : List D) (c : Nat) (x : Option V) : finP mask ds (.exc c x e) = .exc c x (outsOf mask ds e) := rfl
@[simp] theorem wrp_nil (bs : List Bool) : wrp bs [] = [] := by cases bs <;> rfl
@[simp] theorem wrp_t (bs : List Bool) (d : D) (ds : List D) : wrp (true :: bs) (d :: ds) = .ow d :: wrp bs ds := rfl
@[simp] theorem wrp_f (bs : List Bool) (d : D) (ds : List D) : wrp (false :: bs) (d :: ds) = .fz d :: wrp bs ds := rfl
@[simp] theorem outs_nil (ds : List D) : outsOf [] ds e = [] := by cases ds <;> rfl
@[simp] theorem outs_f (bs : List Bool) (d : D) (ds : List D) : outsOf (false :: bs) (d :: ds) e = d :: outsOf bs ds e.tail := rfl
@[simp] theorem outs_t (bs : List Bool) (d x : D) (ds : List D) : outsOf (true :: bs) (d :: ds) (.ow x :: e) = x :: outsOf bs ds e := rfl
@[simp] theorem outs_tn (bs : List Bool) (d : D) (ds : List D) : outsOf (true :: bs) (d :: ds) (.no :: e) = .hole :: outsOf bs ds e := rfl
theorem pWhile_ap (c : PT) (b : PS) (n : Nat) : pWhile c b (n + 1) e = (c e).lift fun x _ e1 => if x = true then (match b e1 with
      | .nx e2 => pWhile c b n e2
      | .ct e2 => pWhile c b n e2
      | .bk e2 => .nx e2
      | r => r) else .nx e1 := rfl
end
section
variable (e : Env)
@[simp] theorem evA_nil : evA [] e = .ok [] true e := rfl
@[simp] theorem evA_v (p : PE) (r : List PArg) : evA (.v p :: r) e = (p e).bind fun x q e1 => (evA r e1).bind fun as q' e2 => if (x.2.st || q') = true then .ok (.v x.1 x.2 :: as) (q && q') e2 else .bad := rfl
@[simp] theorem evA_d (p : PE) (pl : Env → Option Plc) (r : List PArg) : evA (.d p pl :: r) e = if isAnX (p e) = true then evI pl (evA r) e else evV p (evA r) e := rfl
@[simp] theorem evV_ap (p : PE) (r : Env → X (List AVal)) : evV p r e = (p e).bind fun x q e1 => (r e1).bind fun as q' e2 => if (x.2.st || q') = true then .ok (.v x.1 x.2 :: as) (q && q') e2 else .bad := rfl
@[simp] theorem isAnX_an (d : D) (q : Bool) : isAnX (.ok (d, .an) q e) = true := rfl
@[simp] theorem isAnX_fr (d : D) (q : Bool) : isAnX (.ok (d, .fr) q e) = false := rfl
@[simp] theorem isAnX_zn (d : D) (q : Bool) : isAnX (.ok (d, .zn) q e) = false := rfl
@[simp] theorem pApp_ap (mask : List Bool) (p : PF) (as : List PArg) : pApp mask p as e = (evA as e).bind fun avs q e1 => callP mask p avs q e1 := rfl
end
def endC (mask : List Bool) (ds : List D) (as : List AVal) (q : Bool) (e2 : Env) : RF → X (D × Og)
  | .ok d o outs => (match fillB as (mixO mask ds outs) e2 with
    | some e3 => .ok (d, retT o as) (q && as.all fun a => !isIo a) e3
    | none => .bad)
  | .exc c x outs => (match fillB as (mixO mask ds outs) e2 with
    | some e3 => .exc c x e3
    | none => .bad)
  | .bad => .bad
end Vi
namespace Vi
open PySem PySem.Spec L2 Mi
section
variable {α β : Type}
@[simp high] theorem xbind_ok' (a : α) (q : Bool) (e : Env) (f : α → Bool → Env → X β) : (X.ok a q e).bind f = f a q e := Eq.trans rfl rfl
@[simp high] theorem xlift_ok' (a : α) (q : Bool) (e : Env) (f : α → Bool → Env → XS) : (X.ok a q e).lift f = f a q e := Eq.trans rfl rfl
@[simp high] theorem xseq_nx' (e : Env) (f : Env → XS) : (XS.nx e).seq f = f e := Eq.trans rfl rfl
@[simp high] theorem pSeq_ap' (e : Env) (a b : PS) : pSeq a b e = (a e).seq b := Eq.trans rfl rfl
end
section
variable (e : Env)
@[simp] theorem pVar_at (i : Nat) : pVar i e = match e[i]? with
  | some (.ow d) => .ok (d, tagI d .an) true e
  | some (.fz d) => .ok (d, tagI d .zn) true e
  | _ => .bad := rfl
@[simp] theorem pMv_at (i : Nat) : pMv i e = match e[i]? with
  | some (.ow d) => if imm d = true then .ok (d, .fr) true e else .ok (d, .fr) false (e.set i .no)
  | some (.fz d) => .ok (d, tagI d .zn) true e
  | _ => .bad := rfl
@[simp] theorem tagI_ap (d : D) (o : Og) : tagI d o = if imm d = true then .fr else o := rfl
@[simp] theorem pSel2_at (p : D → D → Option D) (a b : PE) : pSel2 p a b e = (a e).bind fun x q e1 => (b e1).bind fun y q' e2 => if (x.2.st || q') = true then kSel (fun r => selT r [x]) (q && q') e2 (p x.1 y.1) else .bad := pSel2_ap e p a b
@[simp] theorem pSel1_at (p : D → Option D) (a : PE) : pSel1 p a e = (a e).bind fun x q e1 => kSel (fun r => selT r [x]) q e1 (p x.1) := pSel1_ap e p a
@[simp] theorem kCall_at (p : List D → Option D) (ds : List (D × Og)) (q : Bool) : kCall p ds q e = pOf q e (p (ds.map (·.1))) := kCall_ap e p ds q
@[simp] theorem plVar_at (i : Nat) : plVar i e = match e[i]? with
  | some (.ow _) => some (.sl i)
  | _ => none := rfl
def kFldP (tab : List (Nat × Nat)) (e : Env) : Plc → Option Plc := fun P => match getPl e P with
  | some (.ins c _) => (look tab c).bind fun j => okPl e (.fl P j)
  | _ => none
@[simp] theorem plFld_at (tab : List (Nat × Nat)) (pl : Env → Option Plc) : plFld tab pl e = (pl e).bind (kFldP tab e) := rfl
@[simp] theorem kFldP_at (tab : List (Nat × Nat)) (P : Plc) : kFldP tab e P = match getPl e P with
  | some (.ins c _) => (look tab c).bind fun j => okPl e (.fl P j)
  | _ => none := rfl
@[simp] theorem getPl_sl (i : Nat) : getPl e (.sl i) = match e[i]? with
  | some (.ow d) => some d
  | _ => none := by rw [getPl] <;> rfl
@[simp] theorem getPl_fl (p : Plc) (j : Nat) : getPl e (.fl p j) = (getPl e p).bind (stF j) := by rw [getPl]
@[simp] theorem getPl_ix (p : Plc) (j : Nat) : getPl e (.ix p j) = (getPl e p).bind (stI j) := by rw [getPl]
@[simp] theorem getPl_ky (p : Plc) (j : Key) : getPl e (.ky p j) = (getPl e p).bind (stK j) := by rw [getPl]
@[simp] theorem stF_ins (j c : Nat) (fs : List D) : stF j (.ins c fs) = (fs[j]?).bind nh := rfl
@[simp] theorem stI_lst (j : Nat) (fs : List D) : stI j (.lst fs) = (fs[j]?).bind nh := rfl
@[simp] theorem stI_tup (j : Nat) (fs : List D) : stI j (.tup fs) = (fs[j]?).bind nh := rfl
@[simp] theorem stK_dk (j : Key) (fs : List (Key × D)) : stK j (.dk fs) = (valD fs j).bind nh := rfl
@[simp] theorem nh_lst (x : List D) : nh (.lst x) = some (.lst x) := rfl
@[simp] theorem nh_tup (x : List D) : nh (.tup x) = some (.tup x) := rfl
@[simp] theorem nh_dk (x : List (Key × D)) : nh (.dk x) = some (.dk x) := rfl
@[simp] theorem nh_ins (c : Nat) (x : List D) : nh (.ins c x) = some (.ins c x) := rfl
@[simp] theorem nh_int (x : Int) : nh (.int x) = some (.int x) := rfl
@[simp] theorem nh_bl (x : Bool) : nh (.bl x) = some (.bl x) := rfl
@[simp] theorem nh_str (x : Str) : nh (.str x) = some (.str x) := rfl
@[simp] theorem nh_non : nh .non = some .non := rfl
@[simp] theorem nh_hole : nh .hole = none := rfl
@[simp] theorem okPl_ap (P : Plc) : okPl e P = if (getPl e P).isSome = true then some P else none := rfl
@[simp] theorem putPl_sl (i : Nat) (x : D) : putPl e (.sl i) x = e.set i (.ow x) := by rw [putPl]
@[simp] theorem putPl_fl (p : Plc) (j : Nat) (x : D) : putPl e (.fl p j) x = match getPl e p with
    | some b => putPl e p (puF j x b)
    | none => e := by rw [putPl] <;> rfl
@[simp] theorem putPl_ix (p : Plc) (j : Nat) (x : D) : putPl e (.ix p j) x = match getPl e p with
    | some b => putPl e p (puI j x b)
    | none => e := by rw [putPl] <;> rfl
@[simp] theorem putPl_ky (p : Plc) (j : Key) (x : D) : putPl e (.ky p j) x = match getPl e p with
    | some b => putPl e p (puK j x b)
    | none => e := by rw [putPl] <;> rfl
@[simp] theorem puF_ins (j c : Nat) (x : D) (fs : List D) : puF j x (.ins c fs) = .ins c (fs.set j x) := rfl
@[simp] theorem puI_lst (j : Nat) (x : D) (fs : List D) : puI j x (.lst fs) = .lst (fs.set j x) := rfl
@[simp] theorem puI_tup (j : Nat) (x : D) (fs : List D) : puI j x (.tup fs) = .tup (fs.set j x) := rfl
@[simp] theorem puK_dk (j : Key) (x : D) (fs : List (Key × D)) : puK j x (.dk fs) = .dk (rep1 fs j x) := rfl
def kIxP (e : Env) (x : X (D × Og)) : Plc → Option Plc := fun P => match x with
  | .ok (.int k, _) true _ => (match getPl e P with
    | some (.lst xs) => (ixN xs.length k).bind fun j => okPl e (.ix P j)
    | some (.tup xs) => (ixN xs.length k).bind fun j => okPl e (.ix P j)
    | _ => none)
  | _ => none
@[simp] theorem kIxP_int (k : Int) (o : Og) (e1 : Env) (P : Plc) : kIxP e (.ok (.int k, o) true e1) P = match getPl e P with
    | some (.lst xs) => (ixN xs.length k).bind fun j => okPl e (.ix P j)
    | some (.tup xs) => (ixN xs.length k).bind fun j => okPl e (.ix P j)
    | _ => none := rfl
@[simp] theorem plIx_at (pl : Env → Option Plc) (pi : PE) : plIx pl pi e = (pl e).bind (kIxP e (pi e)) := rfl
def kKyP (e : Env) (x : X (D × Og)) : Plc → Option Plc := fun P => match x with
  | .ok (d, _) true _ => (match getPl e P with
    | some (.dk _) => (keyD d).bind fun k => okPl e (.ky P k)
    | _ => none)
  | _ => none
@[simp] theorem kKyP_ok (d : D) (o : Og) (e1 : Env) (P : Plc) : kKyP e (.ok (d, o) true e1) P = match getPl e P with
    | some (.dk _) => (keyD d).bind fun k => okPl e (.ky P k)
    | _ => none := rfl
@[simp] theorem plKy_at (pl : Env → Option Plc) (pi : PE) : plKy pl pi e = (pl e).bind (kKyP e (pi e)) := rfl
@[simp] theorem plSub_at (pl : Env → Option Plc) (pi : PE) : plSub pl pi e = match plIx pl pi e with
  | some P => some P
  | none => plKy pl pi e := rfl
@[simp] theorem holP_sl (i : Nat) : holP e (.sl i) = match e[i]? with
    | some (.ow .hole) => true
    | _ => false := rfl
@[simp] theorem holP_fl (p : Plc) (j : Nat) : holP e (.fl p j) = match getPl e p with
    | some (.ins _ fs) => isH fs[j]?
    | _ => false := rfl
@[simp] theorem isH_hole : isH (some .hole) = true := rfl
@[simp] theorem pSetF_at (tab : List (Nat × Nat)) (pl : Env → Option Plc) (a : PE) : pSetF tab pl a e = (a e).lift fun x _ e1 => if x.2.own = true then (match pl e1 with
  | some P => (match (getPl e1 P).bind (dSetF tab x.1) with
    | some d' => .nx (putPl e1 P d')
    | none => .bad)
  | none => .bad) else .bad := rfl
@[simp] theorem dSetF_ins (tab : List (Nat × Nat)) (x : D) (c : Nat) (fs : List D) : dSetF tab x (.ins c fs) = (look tab c).map fun j => .ins c (fs.set j x) := rfl
@[simp] theorem pSetI_at (pl : Env → Option Plc) (i a : PE) : pSetI pl i a e = (a e).lift fun x _ e1 => if x.2.own = true then (match pl e1 with
  | some P => (i e1).lift fun y q e2 => if q = true then (match (getPl e1 P).bind (dSetI x.1 y.1) with
    | some d' => .nx (putPl e1 P d')
    | none => .bad) else .bad
  | none => .bad) else .bad := rfl
@[simp] theorem dSetI_lst (x : D) (k : Int) (xs : List D) : dSetI x (.int k) (.lst xs) = (ixN xs.length k).map fun j => .lst (xs.set j x) := rfl
@[simp] theorem dSetI_dk (x y : D) (kds : List (Key × D)) : dSetI x y (.dk kds) = (keyD y).bind fun k => if kds.length < sizeLine ∧ (imm x || ndB kds) = true then some (.dk (putD kds k x)) else none := rfl
@[simp] theorem keyD_int (i : Int) : keyD (.int i) = some (.inl i) := rfl
@[simp] theorem keyD_str (i : Str) : keyD (.str i) = some (.inr i) := rfl
@[simp] theorem keyD_non : keyD .non = none := rfl
def kDo (p : D → List D → Option (D × D)) (P : Plc) (d : D) (e : Env) : List (D × Og) → Bool → Env → X (D × Og) := fun ds q e1 => if (q && allFr ds) = true then (match p d (ds.map (·.1)) with
  | some (d', r) => .ok (r, .fr) false (putPl e P d')
  | none => .bad) else .bad
@[simp] theorem doBM_ap (p : D → List D → Option (D × D)) (P : Plc) (d : D) (a : PA) : doBM p P d a e = (a e).bind (kDo p P d e) := rfl
@[simp] theorem kDo_ap (p : D → List D → Option (D × D)) (P : Plc) (d : D) (ds : List (D × Og)) (q : Bool) (e1 : Env) : kDo p P d e ds q e1 = if (q && allFr ds) = true then (match p d (ds.map (·.1)) with
  | some (d', r) => .ok (r, .fr) false (putPl e P d')
  | none => .bad) else .bad := rfl
@[simp] theorem pBM_at (ty : D → Bool) (p : D → List D → Option (D × D)) (pl : Env → Option Plc) (a : PA) : pBM ty p pl a e = match pl e with
  | none => .bad
  | some P => match getPl e P with
    | none => .bad
    | some d => if ty d = true then doBM p P d a e else .bad := rfl
@[simp] theorem pBM2_at (p p' : D → List D → Option (D × D)) (pl : Env → Option Plc) (a : PA) : pBM2 p p' pl a e = match pl e with
  | none => .bad
  | some P => match getPl e P with
    | none => .bad
    | some d => if isL d = true then doBM p P d a e else if isK d = true then doBM p' P d a e else .bad := rfl
@[simp] theorem isL_lst (x : List D) : isL (.lst x) = true := rfl
@[simp] theorem isL_dk (x : List (Key × D)) : isL (.dk x) = false := rfl
@[simp] theorem isK_dk (x : List (Key × D)) : isK (.dk x) = true := rfl
@[simp] theorem isK_lst (x : List D) : isK (.lst x) = false := rfl
@[simp] theorem isK_tup (x : List D) : isK (.tup x) = false := rfl
@[simp] theorem allFr_ap (ds : List (D × Og)) : allFr ds = ds.all fun x => x.2.own := rfl
@[simp] theorem tagL_ap (ds : List (D × Og)) : tagL ds = if allFr ds = true then .fr else .an := rfl
@[simp] theorem kLst_at (ds : List (D × Og)) (q : Bool) : kLstP ds q e = if ds.length ≤ sizeLine then .ok (.lst (ds.map (·.1)), tagL ds) q e else .bad := rfl
@[simp] theorem kTup_at (ds : List (D × Og)) (q : Bool) : kTupP ds q e = if ds.length ≤ sizeLine then .ok (.tup (ds.map (·.1)), tagL ds) q e else .bad := rfl
@[simp] theorem mAppend_lst (xs : List D) (y : D) : mAppend (.lst xs) [y] = if xs.length < sizeLine then some (.lst (xs ++ [y]), .non) else none := rfl
@[simp] theorem mExtend_lst (xs ys : List D) : mExtend (.lst xs) [.lst ys] = if xs.length + ys.length ≤ sizeLine then some (.lst (xs ++ ys), .non) else none := rfl
@[simp] theorem mPop_0 (xs : List D) : mPop (.lst xs) [] = (xs[xs.length - 1]?).map fun y => (.lst xs.dropLast, y) := rfl
@[simp] theorem mPop_1 (xs : List D) (k : Int) : mPop (.lst xs) [.int k] = if -(2 ^ 63) ≤ k ∧ k < 2 ^ 63 then (seqIndex? k xs.length).bind fun j => (xs[j]?).map fun y => (.lst (xs.eraseIdx j), y) else none := rfl
@[simp] theorem mDPop_1 (kds : List (Key × D)) (y : D) : mDPop (.dk kds) [y] = (keyD y).bind fun k => (valD kds k).bind fun v => if (imm v || ndB kds) = true then some (.dk (dropD kds k), v) else none := rfl
@[simp] theorem pFor_at (src : PI) (tg : TgD) (b : PS) : pFor src tg b e = (src e).lift fun x _ e1 => if x.2 = true then pFor1 tg b x.1 e1 else .bad := Eq.trans rfl rfl
def kForK (p : PE) (its : D → Option (List ItD)) (tg : TgD) (b : PS) (e : Env) : X (D × Og) → XS
  | .ok (d, o) _ _ => if (isK d && !o.st) = true then .bad else pFor (pWk its p) tg b e
  | _ => .bad
@[simp] theorem pForK_at (p : PE) (its : D → Option (List ItD)) (tg : TgD) (b : PS) : pForK p its tg b e = kForK p its tg b e (p e) := by
  unfold pForK kForK
  cases p e <;> rfl
@[simp] theorem kForK_ok (p : PE) (its : D → Option (List ItD)) (tg : TgD) (b : PS) (d : D) (o : Og) (q : Bool) (e1 : Env) : kForK p its tg b e (.ok (d, o) q e1) = if (isK d && !o.st) = true then .bad else pFor (pWk its p) tg b e := rfl
def kWk (its : D → Option (List ItD)) : D × Og → Bool → Env → X (List ItD × Bool) := fun x q e1 => match its x.1 with
  | some l => .ok (l, okSrc x.2 q) q e1
  | none => .bad
@[simp] theorem pWk_at (its : D → Option (List ItD)) (p : PE) : pWk its p e = (p e).bind (kWk its) := rfl
@[simp] theorem kWk_lst (xs : List D) (o : Og) (q : Bool) : kWk itemsK (.lst xs, o) q e = .ok (xs.map .v, okSrc o q) q e := rfl
@[simp] theorem kWk_tup (xs : List D) (o : Og) (q : Bool) : kWk itemsK (.tup xs, o) q e = .ok (xs.map .v, okSrc o q) q e := rfl
@[simp] theorem kWk_dk (xs : List (Key × D)) (o : Og) (q : Bool) : kWk itemsK (.dk xs, o) q e = .ok (xs.map fun kv => .v (kD kv.1), okSrc o q) q e := rfl
def kWa : D × Og → Bool → Env → X (List ItD × Bool) := fun x q e1 => match itemsD x.1 with
  | some its => .ok (its, okSrc x.2 q) q e1
  | none => .bad
@[simp] theorem pWalk_at (p : PE) : pWalk p e = (p e).bind kWa := rfl
@[simp] theorem kWa_lst (xs : List D) (o : Og) (q : Bool) : kWa (.lst xs, o) q e = .ok (xs.map .v, okSrc o q) q e := rfl
@[simp] theorem kWa_tup (xs : List D) (o : Og) (q : Bool) : kWa (.tup xs, o) q e = .ok (xs.map .v, okSrc o q) q e := rfl
@[simp] theorem kWa_str (z : Str) (o : Og) (q : Bool) : kWa (.str z, o) q e = .ok (strIts z, okSrc o q) q e := rfl
@[simp] theorem okSrc_ap (o : Og) (q : Bool) : okSrc o q = (q && o.st) := rfl
def kR1 (x : X (List (D × Og))) : X (List ItD × Bool) := x.bind fun ds q e1 => match oneI ds with
  | some j => .ok (intIts 0 j.toNat, true) q e1
  | none => .bad
@[simp] theorem pRange1_at (a : PA) : pRange1 a e = kR1 (a e) := by
  have h : pRange1 a e = kR1 (a e) := Eq.refl _
  rw [h]
theorem kR1_go (j : Int) (o : Og) (q : Bool) (h : j.natAbs < 4611686018427387904) : kR1 (.ok [(.int j, o)] q e) = .ok (intIts 0 j.toNat, true) q e := by
  unfold kR1
  have : oneI [(.int j, o)] = some j := if_pos h
  rw [xbind_ok, this]
@[simp] theorem kR1_int (j : Int) (o : Og) (q : Bool) : kR1 (.ok [(.int j, o)] q e) = if j.natAbs < 4611686018427387904 then .ok (intIts 0 j.toNat, true) q e else .bad := by
  by_cases h : j.natAbs < 4611686018427387904
  · rw [if_pos h, kR1_go _ _ _ _ h]
  · rw [if_neg h]
    unfold kR1
    have : oneI [(.int j, o)] = none := if_neg h
    rw [xbind_ok, this]
@[simp high] theorem kR1_nat (n : Nat) (o : Og) (q : Bool) (h : n < 1000000) : kR1 (.ok [(.int (n : Int), o)] q e) = .ok (intIts 0 n, true) q e := by
  rw [kR1_go _ _ _ _ (by omega), Int.toNat_natCast]
@[simp high] theorem kR1_nat1 (n : Nat) (o : Og) (q : Bool) (h : n < 1000000) : kR1 (.ok [(.int ((n : Int) + 1), o)] q e) = .ok (intIts 0 (n + 1), true) q e := by
  have := kR1_go e ((n + 1 : Nat) : Int) o q (by omega)
  rw [Int.toNat_natCast] at this
  exact this
def kR2 (x : X (List (D × Og))) : X (List ItD × Bool) := x.bind fun ds q e1 => match twoI ds with
  | some (i, j) => .ok (intIts i (j - i).toNat, true) q e1
  | none => .bad
@[simp] theorem pRange2_at (a : PA) : pRange2 a e = kR2 (a e) := by
  have h : pRange2 a e = kR2 (a e) := Eq.refl _
  rw [h]
theorem kR2_go (i j : Int) (o o' : Og) (q : Bool) (h : i.natAbs < 4611686018427387904 ∧ j.natAbs < 4611686018427387904) : kR2 (.ok [(.int i, o), (.int j, o')] q e) = .ok (intIts i (j - i).toNat, true) q e := by
  unfold kR2
  have : twoI [(.int i, o), (.int j, o')] = some (i, j) := if_pos h
  rw [xbind_ok, this]
@[simp] theorem kR2_int (i j : Int) (o o' : Og) (q : Bool) : kR2 (.ok [(.int i, o), (.int j, o')] q e) = if i.natAbs < 4611686018427387904 ∧ j.natAbs < 4611686018427387904 then .ok (intIts i (j - i).toNat, true) q e else .bad := by
  by_cases h : i.natAbs < 4611686018427387904 ∧ j.natAbs < 4611686018427387904
  · rw [if_pos h, kR2_go _ _ _ _ _ _ h]
  · rw [if_neg h]
    unfold kR2
    have : twoI [(.int i, o), (.int j, o')] = none := if_neg h
    rw [xbind_ok, this]
def kEn : D × Og → Bool → Env → X (List ItD × Bool) := fun x q e1 => match x.1 with
  | .lst xs => .ok (enumD 0 xs, okSrc x.2 q) q e1
  | _ => .bad
@[simp] theorem pEnum_at (p : PE) : pEnum p e = (p e).bind kEn := rfl
@[simp] theorem kEn_lst (xs : List D) (o : Og) (q : Bool) : kEn (.lst xs, o) q e = .ok (enumD 0 xs, okSrc o q) q e := rfl
@[simp] theorem tdName_v (i : Nat) (d : D) : tdName i (.v d) e = some (e.set i (slI d)) := rfl
@[simp] theorem tdTup_t (is : List Nat) (ds : List D) : tdTup is (.t ds) e = setIs is ds e := rfl
@[simp] theorem tdTup_v (is : List Nat) (ds : List D) : tdTup is (.v (.tup ds)) e = setIs is ds e := rfl
@[simp] theorem setIs_nil : setIs [] [] e = some e := rfl
@[simp] theorem setIs_cons (i : Nat) (is : List Nat) (d : D) (ds : List D) : setIs (i :: is) (d :: ds) e = setIs is ds (e.set i (slI d)) := rfl
@[simp] theorem slI_ap (d : D) : slI d = if imm d = true then .ow d else .fz d := rfl
@[simp] theorem pFz_at (ks : List Kd) (b : PS) : pFz ks b e = thawS ks e (b (frzL ks e)) := rfl
@[simp] theorem frzL_nil : frzL [] e = e := by cases e <;> rfl
@[simp] theorem frzL_jo (ks : List Kd) (d : D) : frzL (.j :: ks) (.ow d :: e) = .fz d :: frzL ks e := rfl
@[simp] theorem frzL_jf (ks : List Kd) (d : D) : frzL (.j :: ks) (.fz d :: e) = .fz d :: frzL ks e := rfl
@[simp] theorem frzL_jn (ks : List Kd) : frzL (.j :: ks) (.no :: e) = .no :: frzL ks e := rfl
@[simp] theorem frzL_k (ks : List Kd) (s : Sl) : frzL (.k :: ks) (s :: e) = s :: frzL ks e := by cases s <;> rfl
@[simp] theorem frzL_o (ks : List Kd) (s : Sl) : frzL (.o :: ks) (s :: e) = s :: frzL ks e := by cases s <;> rfl
@[simp] theorem frzL_e (ks : List Kd) : frzL ks [] = [] := by cases ks with
  | nil => rfl
  | cons k ks => cases k <;> rfl
@[simp] theorem thawS_nx (ks : List Kd) (e0 : Env) : thawS ks e0 (.nx e) = .nx (thawL ks e0 e) := rfl
@[simp] theorem thawS_rt (ks : List Kd) (e0 : Env) (d : D) : thawS ks e0 (.rt d .fr e) = .rt d .fr (thawL ks e0 e) := rfl
@[simp] theorem thawL_cons (ks : List Kd) (e0 : Env) (s : Sl) : thawL ks e0 (s :: e) = thaw1 ks.head? e0.head? s :: thawL ks.tail e0.tail e := by rw [thawL]
@[simp] theorem thawL_nil (ks : List Kd) (e0 : Env) : thawL ks e0 [] = [] := by rw [thawL]
@[simp] theorem thaw1_jo (d : D) (s : Sl) : thaw1 (some .j) (some (.ow d)) s = .ow d := rfl
@[simp] theorem thaw1_jf (d : D) (s : Sl) : thaw1 (some .j) (some (.fz d)) s = .fz d := rfl
@[simp] theorem thaw1_kf (d : D) (s : Sl) : thaw1 (some .k) (some (.fz d)) s = .fz d := rfl
@[simp] theorem thaw1_ko (d : D) (s : Sl) : thaw1 (some .k) (some (.ow d)) s = kil s := rfl
@[simp] theorem thaw1_kn (s : Sl) : thaw1 (some .k) (some .no) s = kil s := rfl
@[simp] theorem thaw1_jn (s : Sl) : thaw1 (some .j) (some .no) s = kil s := rfl
@[simp] theorem thaw1_o (x : Option Sl) (s : Sl) : thaw1 (some .o) x s = kil s := by cases x with
  | none => rfl
  | some y => cases y <;> rfl
@[simp] theorem kil_ow (d : D) : kil (.ow d) = .ow d := rfl
@[simp] theorem kil_no : kil .no = .no := rfl
@[simp] theorem kil_fz (d : D) : kil (.fz d) = if imm d = true then .ow d else .no := rfl
@[simp] theorem evI_ap (pl : Env → Option Plc) (r : Env → X (List AVal)) : evI pl r e = match pl e with
  | some P => (r e).bind fun as q' e2 => if q' = true then .ok (.io P :: as) true e2 else .bad
  | none => .bad := rfl
@[simp] theorem callP_at (mask : List Bool) (p : PF) (as : List AVal) (q : Bool) : callP mask p as q e = if noAn mask as = true then (match prep mask as e with
    | some (ds, e2) => if allHol as e2 = true then endC mask ds as q e2 (p ds) else .bad
    | none => .bad) else .bad := by
  unfold callP
  by_cases hc : noAn mask as = true
  · rw [if_pos hc, if_pos hc]
    cases hp : prep mask as e with
    | none => rfl
    | some x =>
      dsimp only
      by_cases hh : allHol as x.2 = true
      · rw [if_pos hh, if_pos hh]
        generalize p x.1 = r
        cases r <;> rfl
      · rw [if_neg hh, if_neg hh]
  · rw [if_neg hc, if_neg hc]
@[simp] theorem noAn_ap (mask : List Bool) (as : List AVal) : noAn mask as = (mask.all (fun b => !b) || as.all fun a => !isAn a) := rfl
@[simp] theorem isAn_io (P : Plc) : isAn (.io P) = false := rfl
@[simp] theorem isAn_fr (d : D) : isAn (.v d .fr) = false := rfl
@[simp] theorem isAn_zn (d : D) : isAn (.v d .zn) = false := rfl
@[simp] theorem isAn_an (d : D) : isAn (.v d .an) = true := rfl
@[simp] theorem isIo_io (P : Plc) : isIo (.io P) = true := rfl
@[simp] theorem isIo_v (d : D) (o : Og) : isIo (.v d o) = false := rfl
@[simp] theorem isZn_zn (d : D) : isZn (.v d .zn) = true := rfl
@[simp] theorem isZn_fr (d : D) : isZn (.v d .fr) = imm d := rfl
@[simp] theorem isZn_an (d : D) : isZn (.v d .an) = false := rfl
@[simp] theorem isZn_io (P : Plc) : isZn (.io P) = false := rfl
@[simp] theorem prep_nil : prep [] [] e = some ([], e) := rfl
@[simp] theorem prep_v (b : Bool) (bs : List Bool) (d : D) (o : Og) (as : List AVal) : prep (b :: bs) (.v d o :: as) e = if (!b || o.own) = true then (prep bs as e).map fun x => (d :: x.1, x.2) else none := rfl
@[simp] theorem prep_io (b : Bool) (bs : List Bool) (P : Plc) (as : List AVal) : prep (b :: bs) (.io P :: as) e = match getPl e P with
    | some d => (prep bs as (putPl e P .hole)).map fun x => (d :: x.1, x.2)
    | none => none := rfl
@[simp] theorem allHol_nil : allHol [] e = true := rfl
@[simp] theorem allHol_v (d : D) (o : Og) (as : List AVal) : allHol (.v d o :: as) e = allHol as e := rfl
@[simp] theorem allHol_io (P : Plc) (as : List AVal) : allHol (.io P :: as) e = (holP e P && allHol as e) := rfl
@[simp] theorem endC_ok (mask : List Bool) (ds : List D) (as : List AVal) (q : Bool) (d : D) (o : Og) (outs : List D) : endC mask ds as q e (.ok d o outs) = match fillB as (mixO mask ds outs) e with
    | some e3 => .ok (d, retT o as) (q && as.all fun a => !isIo a) e3
    | none => .bad := rfl
@[simp] theorem endC_exc (mask : List Bool) (ds : List D) (as : List AVal) (q : Bool) (c : Nat) (x : Option V) (outs : List D) : endC mask ds as q e (.exc c x outs) = match fillB as (mixO mask ds outs) e with
    | some e3 => .exc c x e3
    | none => .bad := rfl
@[simp] theorem mixO_nil (ds os : List D) : mixO [] ds os = [] := rfl
@[simp] theorem mixO_cons (b : Bool) (bs : List Bool) (d o : D) (ds os : List D) : mixO (b :: bs) (d :: ds) (o :: os) = (if b = true then o else d) :: mixO bs ds os := rfl
@[simp] theorem fillB_nil (ds : List D) : fillB [] ds e = some e := by cases ds <;> rfl
@[simp] theorem fillB_v (d : D) (o : Og) (as : List AVal) (x : D) (ds : List D) : fillB (.v d o :: as) (x :: ds) e = fillB as ds e := rfl
@[simp] theorem fillB_io (P : Plc) (as : List AVal) (x : D) (ds : List D) : fillB (.io P :: as) (x :: ds) e = if holP e P = true then fillB as ds (putPl e P x) else none := rfl
@[simp] theorem retT_fr (as : List AVal) : retT .fr as = .fr := rfl
@[simp] theorem retT_zn (as : List AVal) : retT .zn as = if as.all isZn = true then .zn else .an := rfl
@[simp] theorem retT_an (as : List AVal) : retT .an as = .an := rfl
def kMethV (mask : List Bool) (tab : List (Nat × PF)) (as : List PArg) : D × Og → Bool → Env → X (D × Og) := fun x q e1 => match x.1 with
  | .ins c _ => (match look tab c with
    | some pf => (evA as e1).bind fun avs q' e2 => if (x.2.st || q') = true then callP mask pf (.v x.1 x.2 :: avs) (q && q') e2 else .bad
    | none => .bad)
  | _ => .bad
@[simp] theorem pMeth_v (mask : List Bool) (tab : List (Nat × PF)) (p : PE) (as : List PArg) : pMeth mask tab (.v p) as e = (p e).bind (kMethV mask tab as) := rfl
@[simp] theorem kMethV_ins (mask : List Bool) (tab : List (Nat × PF)) (as : List PArg) (c : Nat) (fs : List D) (o : Og) (q : Bool) : kMethV mask tab as (.ins c fs, o) q e = match look tab c with
    | some pf => (evA as e).bind fun avs q' e2 => if (o.st || q') = true then callP mask pf (.v (.ins c fs) o :: avs) (q && q') e2 else .bad
    | none => .bad := rfl
@[simp] theorem pMeth_d (mask : List Bool) (tab : List (Nat × PF)) (p : PE) (pl : Env → Option Plc) (as : List PArg) : pMeth mask tab (.d p pl) as e = if isAnX (p e) = true then methI mask tab pl as e else (p e).bind (kMethV mask tab as) := rfl
@[simp] theorem methI_at (mask : List Bool) (tab : List (Nat × PF)) (pl : Env → Option Plc) (as : List PArg) : methI mask tab pl as e = match pl e with
  | some P => (match getPl e P with
    | some (.ins c _) => (match look tab c with
      | some pf => (evA as e).bind fun avs q' e2 => if q' = true then callP mask pf (.io P :: avs) true e2 else .bad
      | none => .bad)
    | _ => .bad)
  | none => .bad := rfl
@[simp] theorem pMake_at (c l : Nat) (mask : List Bool) (p : PF) (as : List PArg) : pMake c l mask p as e = (evA as e).bind fun avs q e1 => makeP mask p c l avs q e1 := rfl
def endM (q : Bool) (e : Env) : RF → X (D × Og)
  | .ok .non _ (o :: _) => .ok (o, .fr) q e
  | .exc c x _ => .exc c x e
  | _ => .bad
@[simp] theorem endM_ok (q : Bool) (o : Og) (d : D) (r : List D) : endM q e (.ok .non o (d :: r)) = .ok (d, .fr) q e := rfl
@[simp] theorem endM_exc (q : Bool) (c : Nat) (x : Option V) (r : List D) : endM q e (.exc c x r) = .exc c x e := rfl
@[simp] theorem makeP_at (mask : List Bool) (p : PF) (c l : Nat) (as : List AVal) (q : Bool) : makeP mask p c l as q e = if (as.all fun a => !isIo a) = true ∧ mask.all (fun b => !b) = true then (match prep mask as e with
    | some (ds, _) => endM q e (p (.ins c (List.replicate l .hole) :: ds))
    | none => .bad) else .bad := by
  unfold makeP
  by_cases hc : (as.all fun a => !isIo a) = true ∧ mask.all (fun b => !b) = true
  · rw [if_pos hc, if_pos hc]
    cases hp : prep mask as e with
    | none => rfl
    | some x =>
      dsimp only
      generalize p (.ins c (List.replicate l .hole) :: x.1) = r
      cases r with
      | ok d o outs => cases d <;> cases outs <;> rfl
      | _ => rfl
  · rw [if_neg hc, if_neg hc]
@[simp] theorem pLc_at (src : PI) (own : List Nat) (td : TgD) (c : PT) (p : PE) : pLc src own td c p e = match src (frzAll e) with
  | .ok x true _ => (match lcGoD td c p (wipeE (frzAll e) own) x.1 [] with
    | some ds => .ok (.lst ds, .fr) true e
    | none => .bad)
  | _ => .bad := rfl
@[simp] theorem frzAll_nil : frzAll [] = [] := rfl
@[simp] theorem frzAll_ow (d : D) : frzAll (.ow d :: e) = .fz d :: frzAll e := rfl
@[simp] theorem frzAll_fz (d : D) : frzAll (.fz d :: e) = .fz d :: frzAll e := rfl
@[simp] theorem frzAll_no : frzAll (.no :: e) = .no :: frzAll e := rfl
@[simp] theorem wipeE_nil : wipeE e [] = e := rfl
@[simp] theorem wipeE_cons (v : Nat) (vs : List Nat) : wipeE e (v :: vs) = (wipeE e vs).set v .no := rfl
@[simp] theorem pSl_at (a : PE) (lo hi : PO) : pSl a lo hi e = (a e).bind fun x q e1 => (lo e1).bind fun l q1 e2 => (hi e2).bind fun u q2 e3 => if (q1 && q2) = true then pOf q e3 (dSl x.1 l u) else .bad := rfl
@[simp] theorem pNoP_at : pNoP e = .ok none true e := rfl
def kPart : D × Og → Bool → Env → X (Option Int) := fun x q e1 => match x.1 with
  | .int i => .ok (some i) q e1
  | _ => .bad
@[simp] theorem pPart_at (a : PE) : pPart a e = (a e).bind kPart := rfl
@[simp] theorem kPart_int (i : Int) (o : Og) (q : Bool) : kPart (.int i, o) q e = .ok (some i) q e := rfl
@[simp] theorem pDisp_at (r : List (PE × PE)) : pDisp r e = match evP r e with
  | some kds => if kds.length ≤ 15 then .ok (.dk (mergeD [] kds), .fr) true e else .bad
  | none => .bad := rfl
@[simp] theorem evP_nil : evP [] e = some [] := rfl
def kEv (a b : X (D × Og)) (r : Option (List (Key × D))) : Option (List (Key × D)) := match a, b with
    | .ok (a, _) true _, .ok (b, .fr) true _ => if imm b = true then (keyD a).bind fun kk => r.map fun l => (kk, b) :: l else none
    | _, _ => none
@[simp] theorem evP_cons (k v : PE) (r : List (PE × PE)) : evP ((k, v) :: r) e = kEv (k e) (v e) (evP r e) := by rw [evP]; rfl
@[simp] theorem kEv_ok (a b : D) (o : Og) (e1 e2 : Env) (r : Option (List (Key × D))) : kEv (.ok (a, o) true e1) (.ok (b, .fr) true e2) r = if imm b = true then (keyD a).bind fun kk => r.map fun l => (kk, b) :: l else none := rfl
@[simp] theorem pSetT_at (is : List Nat) (a : PE) : pSetT is a e = (a e).lift fun x _ e1 => match x.1 with
  | .tup ds => (match x.2 with
    | .fr => (match setAllD is ds e1 with
      | some e2 => .nx e2
      | none => .bad)
    | .zn => (match setAllZ is ds e1 with
      | some e2 => .nx e2
      | none => .bad)
    | .an => .bad)
  | _ => .bad := rfl
@[simp] theorem setAllD_nil : setAllD [] [] e = some e := rfl
@[simp] theorem setAllD_cons (i : Nat) (is : List Nat) (d : D) (ds : List D) : setAllD (i :: is) (d :: ds) e = setAllD is ds (e.set i (.ow d)) := rfl
@[simp] theorem setAllZ_nil : setAllZ [] [] e = some e := rfl
@[simp] theorem setAllZ_cons (i : Nat) (is : List Nat) (d : D) (ds : List D) : setAllZ (i :: is) (d :: ds) e = setAllZ is ds (e.set i (.fz d)) := rfl
@[simp] theorem pBq_at (Ty : String) (p : List D → Option D) (a : PE) (as : PA) : pBq Ty p a as e = (a e).bind fun x q e1 => if tyD Ty x.1 = true then (as e1).bind fun ds q' e2 => if (x.2.st || q') = true then pOf (q && q') e2 (p (x.1 :: ds.map (·.1))) else .bad else .bad := rfl
@[simp] theorem tyD_lst (x : List D) : tyD "list" (.lst x) = true := rfl
@[simp] theorem tyD_dk (x : List (Key × D)) : tyD "dict" (.dk x) = true := rfl
@[simp] theorem tyD_str (x : Str) : tyD "str" (.str x) = true := rfl
end
section
variable (i j : Int) (x y : List D) (s t : Str) (kds : List (Key × D))
@[simp] theorem dAdd_int : dAdd (.int i) (.int j) = some (.int (i + j)) := rfl
@[simp] theorem dAdd_lst : dAdd (.lst x) (.lst y) = if x.length + y.length ≤ sizeLine ∧ (x ++ y).all imm = true then some (.lst (x ++ y)) else none := rfl
@[simp] theorem dAdd_str : dAdd (.str s) (.str t) = if s.length + t.length ≤ sizeLine then some (.str (s ++ t)) else none := rfl
@[simp] theorem dSub_int : dSub (.int i) (.int j) = some (.int (i - j)) := rfl
@[simp] theorem dIAdd_int : dIAdd (.int i) (.int j) = some (.int (i + j)) := rfl
@[simp] theorem dMulL_int : dMulL (.int i) (.int j) = if IntMulOk i j then some (.int (i * j)) else none := rfl
@[simp] theorem dMulL_lst : dMulL (.lst x) (.int j) = if -(2 ^ 63) ≤ j ∧ j < 2 ^ 63 ∧ x.length * j.toNat ≤ sizeLine ∧ x.all imm = true then some (.lst (List.replicate j.toNat x).flatten) else none := rfl
@[simp] theorem dDiv_int : dDiv (.int i) (.int j) = if DivOk j then some (.int (i / j)) else none := rfl
@[simp] theorem dMod_int : dMod (.int i) (.int j) = if 0 < j then some (.int (i % j)) else none := rfl
@[simp] theorem dPow_int : dPow (.int i) (.int j) = if 0 ≤ j ∧ j ≤ 1000000 ∧ i.natAbs < 2 ^ 64 then some (.int (i ^ j.toNat)) else none := rfl
@[simp] theorem dNeg_int : dNeg (.int i) = some (.int (-i)) := rfl
@[simp] theorem dCmp_int (p : Int → Int → Bool) : dCmp p (.int i) (.int j) = some (.bl (p i j)) := rfl
@[simp] theorem dNot_bl (b : Bool) : dNot (.bl b) = some (.bl (!b)) := rfl
@[simp] theorem dIs_non (d : D) : dIs d .non = (isN d).map .bl := by cases d <;> rfl
@[simp] theorem dIsN_non (d : D) : dIsN d .non = (isN d).map fun b => .bl (!b) := by cases d <;> rfl
@[simp] theorem isN_non : isN .non = some true := rfl
@[simp] theorem isN_int : isN (.int i) = some false := rfl
@[simp] theorem isN_bl (b : Bool) : isN (.bl b) = some false := rfl
@[simp] theorem isN_str : isN (.str s) = some false := rfl
@[simp] theorem isN_lst : isN (.lst x) = some false := rfl
@[simp] theorem isN_tup : isN (.tup x) = some false := rfl
@[simp] theorem isN_dk : isN (.dk kds) = some false := rfl
@[simp] theorem isN_exc (c : Nat) (z : Option V) : isN (.exc c z) = some false := rfl
@[simp] theorem isN_ins (c : Nat) : isN (.ins c x) = some false := rfl
@[simp] theorem dIx_lst : dIx (.lst x) (.int i) = (ixN x.length i).bind fun j => x[j]? := rfl
@[simp] theorem dIx_tup : dIx (.tup x) (.int i) = (ixN x.length i).bind fun j => x[j]? := rfl
@[simp] theorem dSub2_lst : dSub2 (.lst x) (.int i) = (ixN x.length i).bind fun j => x[j]? := rfl
@[simp] theorem dSub2_tup : dSub2 (.tup x) (.int i) = (ixN x.length i).bind fun j => x[j]? := rfl
@[simp] theorem dSub2_dk (d : D) : dSub2 (.dk kds) d = (keyD d).bind fun k => valD kds k := rfl
@[simp] theorem dDGet_dk (d : D) : dDGet (.dk kds) d = (keyD d).bind fun k => valD kds k := rfl
@[simp] theorem dFld_ins (tab : List (Nat × Nat)) (c : Nat) : dFld tab (.ins c x) = (look tab c).bind fun j => (x[j]?).bind nh := by
  show ((look tab c).bind fun j => match x[j]? with
    | some .hole => none
    | r => r) = _
  congr 1
  funext j
  cases x[j]? with
  | none => rfl
  | some d => cases d <;> rfl
@[simp] theorem dIsi_ap (tab : List (Tag × Bool)) (d : D) : dIsi tab d = ((tagD d).bind (lookT tab)).map .bl := rfl
@[simp] theorem tagD_non : tagD .non = some .non := rfl
@[simp] theorem tagD_int : tagD (.int i) = some .int := rfl
@[simp] theorem tagD_bl (b : Bool) : tagD (.bl b) = some .bl := rfl
@[simp] theorem tagD_str : tagD (.str s) = some .str := rfl
@[simp] theorem tagD_lst : tagD (.lst x) = some .lst := rfl
@[simp] theorem tagD_tup : tagD (.tup x) = some .tup := rfl
@[simp] theorem tagD_dk : tagD (.dk kds) = some .dct := rfl
@[simp] theorem tagD_exc (c : Nat) : tagD (.exc c none) = some (.exc c) := rfl
@[simp] theorem tagD_ins (c : Nat) : tagD (.ins c x) = some (.ins c) := rfl
@[simp] theorem dCalled_exc (tab : List (Nat × Str)) (c : Nat) (z : Option V) : dCalled tab (.exc c z) = (look tab c).map .str := rfl
@[simp] theorem dLen_lst : dLen [.lst x] = some (.int x.length) := rfl
@[simp] theorem dLen_tup : dLen [.tup x] = some (.int x.length) := rfl
@[simp] theorem dLen_dk : dLen [.dk kds] = some (.int kds.length) := rfl
@[simp] theorem dList_lst : dList [.lst x] = if x.all imm = true then some (.lst x) else none := rfl
@[simp] theorem dList_dk : dList [.dk kds] = some (.lst (kds.map fun kv => kD kv.1)) := rfl
@[simp] theorem dTuple_lst : dTuple [.lst x] = if x.all imm = true then some (.tup x) else none := rfl
@[simp] theorem dSorted_lst : dSorted [.lst x] = (allSome (x.map toI)).map fun ns => .lst ((sortI ns).map .int) := rfl
@[simp] theorem dSorted_dk : dSorted [.dk kds] = (keyIs kds).bind fun ns => if ns.length < 1000000 then some (.lst ((sortI ns).map .int)) else none := rfl
@[simp] theorem dSum_lst : dSum [.lst x] = (allSome (x.map toI)).map fun ns => .int ns.sum := rfl
@[simp] theorem dAll_lst : dAll [.lst x] = (allSome (x.map toB)).map fun ns => .bl (ns.all id) := rfl
@[simp] theorem dAny_lst : dAny [.lst x] = (allSome (x.map toB)).map fun ns => .bl (ns.any id) := rfl
@[simp] theorem dInt_bl (b : Bool) : dInt [.bl b] = some (.int (if b then 1 else 0)) := rfl
@[simp] theorem dInt_int : dInt [.int i] = some (.int i) := rfl
@[simp] theorem dDict_dk : dDict [.dk kds] = if (kds.map (·.2)).all imm = true then some (.dk kds) else none := rfl
@[simp] theorem dMax2_int : dMax2 [.int i, .int j] = some (.int (if j > i then j else i)) := rfl
@[simp] theorem dMin2_int : dMin2 [.int i, .int j] = some (.int (if j < i then j else i)) := rfl
@[simp] theorem dInN_dk (neg : Bool) (k : Key) : dInN neg (kD k) (.dk kds) = some (.bl (neg != (valD kds k).isSome)) := by cases k <;> rfl
@[simp] theorem dInN_dki (neg : Bool) : dInN neg (.int i) (.dk kds) = some (.bl (neg != (valD kds (.inl i)).isSome)) := rfl
@[simp] theorem dInN_dkn (neg : Bool) : dInN neg .non (.dk kds) = some (.bl (neg != false)) := rfl
theorem allSome_map {α β γ : Type} (f : α → β) (g : β → Option γ) (h : α → γ) (e : ∀ a, g (f a) = some (h a)) : ∀ l : List α, allSome ((l.map f).map g) = some (l.map h)
  | [] => rfl
  | a :: l => by rw [List.map_cons, List.map_cons, e a, allSome, allSome_map f g h e l]; rfl
@[simp] theorem toI_ints (l : List Int) : allSome ((l.map D.int).map toI) = some l := (allSome_map D.int toI id (fun _ => rfl) l).trans (by rw [List.map_id])
@[simp] theorem toB_bls (l : List Bool) : allSome ((l.map D.bl).map toB) = some l := (allSome_map D.bl toB id (fun _ => rfl) l).trans (by rw [List.map_id])
@[simp] theorem toS_strs (l : List Str) : allSome ((l.map D.str).map toS) = some l := (allSome_map D.str toS id (fun _ => rfl) l).trans (by rw [List.map_id])
@[simp] theorem scal_ints (l : List Int) : allSome ((l.map D.int).map scal) = some (l.map V.int) := allSome_map D.int scal V.int (fun _ => rfl) l
@[simp] theorem scal_bls (l : List Bool) : allSome ((l.map D.bl).map scal) = some (l.map V.bl) := allSome_map D.bl scal V.bl (fun _ => rfl) l
@[simp] theorem rdP_int (n : Nat) : rdP (n + 1) (.int i) = some (.int i) := rfl
@[simp] theorem rdP_bl (n : Nat) (b : Bool) : rdP (n + 1) (.bl b) = some (.bool b) := rfl
@[simp] theorem rdP_non (n : Nat) : rdP (n + 1) .non = some .none := rfl
@[simp] theorem rdP_str (n : Nat) : rdP (n + 1) (.str s) = some (.str s) := rfl
theorem rdP_lst (n : Nat) : rdP (n + 1) (.lst x) = (allSome (x.map (rdP n))).map .list := by rw [rdP]
theorem rdP_tup (n : Nat) : rdP (n + 1) (.tup x) = (allSome (x.map (rdP n))).map .tuple := by rw [rdP]
theorem eqD_of {neg : Bool} {d d' : D} {p p' : PyData} (h : rdP eqDepth d = some p) (h' : rdP eqDepth d' = some p') (s : SeqAt.shaped p = true) (s' : SeqAt.shaped p' = true) : dEqD neg d d' = some (.bl (neg != PyData.eqv p p')) := by
  unfold dEqD
  rw [h, h']
  exact if_pos ⟨s, s'⟩
@[simp] theorem dEqD_int (neg : Bool) : dEqD neg (.int i) (.int j) = some (.bl (neg != (i == j))) := eqD_of (p := .int i) (p' := .int j) rfl rfl rfl rfl
@[simp] theorem dEqD_bl (neg : Bool) (a b : Bool) : dEqD neg (.bl a) (.bl b) = some (.bl (neg != (a == b))) := eqD_of (p := .bool a) (p' := .bool b) rfl rfl rfl rfl
@[simp] theorem dEqD_ni (neg : Bool) : dEqD neg .non (.int j) = some (.bl (neg != false)) := eqD_of (p := .none) (p' := .int j) rfl rfl rfl rfl
@[simp] theorem dEqD_in (neg : Bool) : dEqD neg (.int i) .non = some (.bl (neg != false)) := eqD_of (p := .int i) (p' := .none) rfl rfl rfl rfl
@[simp] theorem dEqD_nn (neg : Bool) : dEqD neg .non .non = some (.bl (neg != true)) := eqD_of (p := .none) (p' := .none) rfl rfl rfl rfl
end
theorem for_invD {tg : TgD} {b : PS} (P : List ItD → Env → Prop) (h : ∀ it r e, P (it :: r) e → ∃ e1 e2, tg it e = some e1 ∧ (b e1 = .nx e2 ∨ b e1 = .ct e2) ∧ P r e2) : ∀ {its : List ItD} {e : Env}, P its e → ∃ e', pFor1 tg b its e = .nx e' ∧ P [] e'
  | [], e, p => ⟨e, rfl, p⟩
  | it :: r, e, p => by
    obtain ⟨e1, e2, h1, h2, h3⟩ := h it r e p
    obtain ⟨e', h4, h5⟩ := for_invD P h h3
    refine ⟨e', ?_, h5⟩
    unfold pFor1
    rw [h1]
    dsimp only
    rcases h2 with h2 | h2 <;> rw [h2] <;> exact h4
/-- a comprehension as a map -/
theorem lc_map {α : Type} {td : TgD} {c : PT} {p : PE} {e0 : Env} (g : α → ItD) (k : α → Bool) (f : α → D) : ∀ (l : List α) (acc : List D), acc.length + l.length ≤ sizeLine → (∀ a ∈ l, ∃ e1, td (g a) e0 = some e1 ∧ c e1 = .ok (k a) true e1 ∧ (k a = true → ∃ e2, p e1 = .ok (f a, .fr) true e2)) → lcGoD td c p e0 (l.map g) acc = some (acc ++ (l.filter k).map f)
  | [], acc, _, _ => by rw [List.map_nil, lcGoD]; simp
  | a :: l, acc, hz, h => by
    obtain ⟨e1, h1, h2, h3⟩ := h a List.mem_cons_self
    have hz' : acc.length + (l.length + 1) ≤ sizeLine := by simpa using hz
    rw [List.map_cons, lcGoD, h1]
    simp only [Option.bind_some, h2]
    cases hk : k a with
    | true =>
      obtain ⟨e2, h4⟩ := h3 hk
      simp only [if_true, h4]
      rw [if_pos (by omega), lc_map g k f l (acc ++ [f a]) (by rw [List.length_append]; simp; omega) fun b hb => h b (List.mem_cons_of_mem _ hb)]
      rw [List.filter_cons_of_pos hk, List.map_cons, List.append_assoc]
      rfl
    | false =>
      simp only [Bool.false_eq_true, if_false]
      rw [lc_map g k f l acc (by omega) fun b hb => h b (List.mem_cons_of_mem _ hb), List.filter_cons_of_neg (by simp [hk])]
end Vi
namespace Vi
open PySem PySem.Spec L2 Mi
abbrev IL := List (Int × Int)
def lk (l : IL) (t : Int) : Option Int := (l.find? fun p => decide (p.1 = t)).map (·.2)
def putI (l : IL) (t x : Int) : IL := if (l.any fun p => decide (p.1 = t)) = true then l.map (fun p => if p.1 = t then (p.1, x) else p) else l ++ [(t, x)]
theorem lk_nil (t : Int) : lk [] t = none := rfl
theorem lk_cons (p : Int × Int) (l : IL) (t : Int) : lk (p :: l) t = if p.1 = t then some p.2 else lk l t := by
  unfold lk
  rw [List.find?_cons]
  by_cases h : p.1 = t <;> simp [h]
theorem lk_none {l : IL} {t : Int} : lk l t = none ↔ t ∉ l.map (·.1) := by
  induction l with
  | nil => simp [lk_nil]
  | cons p r ih =>
    rw [lk_cons]
    by_cases h : p.1 = t
    · simp [h]
    · rw [if_neg h, ih]
      simp only [List.map_cons, List.mem_cons, not_or]
      exact ⟨fun k => ⟨fun q => h q.symm, k⟩, fun k => k.2⟩
theorem any_lk {l : IL} {t : Int} : (l.any fun p => decide (p.1 = t)) = (lk l t).isSome := by
  induction l with
  | nil => rfl
  | cons p r ih =>
    rw [lk_cons, List.any_cons, ih]
    by_cases h : p.1 = t <;> simp [h]
theorem lk_put (l : IL) (t x s : Int) : lk (putI l t x) s = if s = t then some x else lk l s := by
  unfold putI
  split
  · rename_i hany
    have key : ∀ l : IL, t ∈ l.map (·.1) ∨ s ≠ t → lk (l.map fun p => if p.1 = t then (p.1, x) else p) s = if s = t then some x else lk l s := by
      intro l
      induction l with
      | nil => intro h; rw [List.map_nil, lk_nil]; rcases h with h | h; · simp at h
               rw [if_neg h]
      | cons p r ih =>
        intro h
        rw [List.map_cons, lk_cons, lk_cons]
        by_cases e : p.1 = t
        · rw [if_pos e]
          by_cases z : s = t
          · rw [if_pos z, if_pos (by rw [e, z])]
          · rw [if_neg z, if_neg (fun q => z (by rw [← q, e])), if_neg (fun q => z (by rw [← q, e])), ih (.inr z), if_neg z]
        · rw [if_neg e]
          by_cases q : p.1 = s
          · rw [if_pos q, if_pos q, if_neg (fun z => e (by rw [q, z]))]
          · rw [if_neg q, if_neg q]
            exact ih (h.imp (fun h => by
              rw [List.map_cons, List.mem_cons] at h
              exact h.resolve_left fun z => e z.symm) id)
    by_cases z : s = t
    · refine key l ?_
      left
      rw [any_lk] at hany
      refine Decidable.byContradiction fun q => ?_
      rw [lk_none.mpr q] at hany
      cases hany
    · exact key l (.inr z)
  · rename_i h
    rw [any_lk] at h
    have h0 : lk l t = none := by
      cases e : lk l t with
      | none => rfl
      | some y => rw [e] at h; exact absurd rfl h
    have app : ∀ l : IL, lk l t = none → lk (l ++ [(t, x)]) s = if s = t then some x else lk l s := by
      intro l
      induction l with
      | nil =>
        intro _
        rw [List.nil_append, lk_cons, lk_nil]
        by_cases z : s = t
        · rw [if_pos z.symm, if_pos z]
        · rw [if_neg (fun q => z q.symm), if_neg z]
      | cons p r ih =>
        intro h
        rw [lk_cons] at h
        by_cases e : p.1 = t
        · rw [if_pos e] at h; cases h
        · rw [if_neg e] at h
          rw [List.cons_append, lk_cons, lk_cons, ih h]
          by_cases q : p.1 = s
          · rw [if_pos q, if_pos q, if_neg (fun z => e (by rw [q, z]))]
          · rw [if_neg q, if_neg q]
    exact app l h0
theorem keys_put (l : IL) (t x : Int) : (putI l t x).map (·.1) = if t ∈ l.map (·.1) then l.map (·.1) else l.map (·.1) ++ [t] := by
  unfold putI
  rw [any_lk]
  by_cases h : t ∈ l.map (·.1)
  · have : (lk l t).isSome = true := by
      cases e : lk l t with
      | none => exact absurd h (lk_none.mp e)
      | some y => rfl
    rw [if_pos this, if_pos h, List.map_map]
    apply List.map_congr_left
    intro p _
    show (if p.1 = t then (p.1, x) else p).1 = p.1
    split <;> rfl
  · rw [if_neg (by rw [lk_none.mpr h]; decide), if_neg h, List.map_append]
    rfl
theorem nd_put {l : IL} (h : (l.map (·.1)).Nodup) (t x : Int) : ((putI l t x).map (·.1)).Nodup := by
  rw [keys_put]
  split
  · exact h
  · rename_i q
    rw [List.nodup_append]
    exact ⟨h, by simp, fun a ha b hb => by rw [List.mem_singleton] at hb; subst hb; exact fun z => q (z ▸ ha)⟩
theorem perm_of_mem {a b : List Int} (ha : a.Nodup) (hb : b.Nodup) (h : ∀ x, x ∈ a ↔ x ∈ b) : a.Perm b := (List.perm_ext_iff_of_nodup ha hb).mpr h
/-- two tables alike as maps -/
structure Lk2 (A B : IL) : Prop where
  na : (A.map (·.1)).Nodup
  nb : (B.map (·.1)).Nodup
  eq : ∀ t, lk A t = lk B t
theorem Lk2.perm {A B : IL} (h : Lk2 A B) : (A.map (·.1)).Perm (B.map (·.1)) := perm_of_mem h.na h.nb fun x => by
  have := h.eq x
  constructor
  · intro m
    refine Decidable.byContradiction fun q => ?_
    rw [lk_none.mpr q] at this
    exact lk_none.mp this m
  · intro m
    refine Decidable.byContradiction fun q => ?_
    rw [lk_none.mpr q] at this
    exact lk_none.mp this.symm m
theorem Lk2.len {A B : IL} (h : Lk2 A B) : A.length = B.length := by
  have := h.perm.length_eq
  rwa [List.length_map, List.length_map] at this
theorem Lk2.put {A B : IL} (h : Lk2 A B) (t x : Int) : Lk2 (putI A t x) (putI B t x) := ⟨nd_put h.na t x, nd_put h.nb t x, fun s => by rw [lk_put, lk_put, h.eq]⟩
/-- a set of ints below n, sorted, as a part of the row of all -/
def ups (n : Nat) : List Int := (List.range n).map fun k => ((k : Nat) : Int)
theorem ups_mem {n : Nat} {x : Int} : x ∈ ups n ↔ 0 ≤ x ∧ x < n := by
  unfold ups
  rw [List.mem_map]
  constructor
  · rintro ⟨k, hk, rfl⟩
    have := List.mem_range.mp hk
    omega
  · intro h
    exact ⟨x.toNat, List.mem_range.mpr (by omega), by omega⟩
end Vi
namespace Vi
open PySem PySem.Spec L2 Mi
class Enc (α : Type) where
  en : α → D
  pd : α → PyData
  dp : Nat
  rd : ∀ (n : Nat) (a : α), dp ≤ n → rdP (n + 1) (en a) = some (pd a)
  lay : ∀ a, PyData.canLay0 (pd a) = true
  dep : ∀ a, PyData.depth (pd a) ≤ dp
  eq : ∀ a b, PyData.eqv (pd a) (pd b) = true ↔ a = b
variable {α β γ : Type}
abbrev en [Enc α] (a : α) : D := Enc.en a
theorem enc_eqv [Enc α] [DecidableEq α] (a b : α) : PyData.eqv (Enc.pd a) (Enc.pd b) = decide (a = b) := by
  by_cases h : a = b
  · rw [(Enc.eq a b).mpr h, decide_eq_true h]
  · rw [decide_eq_false h]
    cases e : PyData.eqv (Enc.pd a) (Enc.pd b) with
    | false => rfl
    | true => exact absurd ((Enc.eq a b).mp e) h
instance encInt : Enc Int where
  en := .int
  pd := .int
  dp := 0
  rd := fun n a _ => rfl
  lay := fun a => rfl
  dep := fun a => Nat.le_refl _
  eq := fun a b => by
    show (a == b) = true ↔ _
    exact beq_iff_eq
def oI : Option Int → D
  | none => .non
  | some i => .int i
def oP : Option Int → PyData
  | none => .none
  | some i => .int i
instance encOpt : Enc (Option Int) where
  en := oI
  pd := oP
  dp := 0
  rd := fun n a _ => by cases a <;> rfl
  lay := fun a => by cases a <;> rfl
  dep := fun a => by cases a <;> exact Nat.le_refl _
  eq := fun a b => by
    cases a with
    | none =>
      cases b with
      | none => exact ⟨fun _ => rfl, fun _ => rfl⟩
      | some j => exact ⟨(fun h => nomatch h), (fun h => nomatch h)⟩
    | some i =>
      cases b with
      | none => exact ⟨(fun h => nomatch h), (fun h => nomatch h)⟩
      | some j => show (i == j) = true ↔ _; rw [beq_iff_eq]; exact ⟨fun h => by rw [h], fun h => Option.some.inj h⟩
theorem depAll_le [Enc α] : ∀ l : List α, PyData.depthAll (l.map Enc.pd) ≤ Enc.dp α
  | [] => Nat.zero_le _
  | a :: l => by
    show max (PyData.depth (Enc.pd a)) (PyData.depthAll (l.map Enc.pd)) ≤ _
    exact Nat.max_le.mpr ⟨Enc.dep a, depAll_le l⟩
theorem layAll [Enc α] : ∀ l : List α, PyData.canLayAll0 (l.map Enc.pd) = true
  | [] => rfl
  | a :: l => by
    show (PyData.canLay0 (Enc.pd a) && PyData.canLayAll0 (l.map Enc.pd)) = true
    rw [Enc.lay a, layAll l]; rfl
theorem eqAll [Enc α] : ∀ l m : List α, PyData.eqvAll (l.map Enc.pd) (m.map Enc.pd) = true ↔ l = m
  | [], [] => ⟨fun _ => rfl, fun _ => rfl⟩
  | [], _ :: _ => ⟨(fun h => nomatch h), (fun h => nomatch h)⟩
  | _ :: _, [] => ⟨(fun h => nomatch h), (fun h => nomatch h)⟩
  | a :: l, b :: m => by
    show (PyData.eqv (Enc.pd a) (Enc.pd b) && PyData.eqvAll (l.map Enc.pd) (m.map Enc.pd)) = true ↔ _
    rw [Bool.and_eq_true, Enc.eq, eqAll l m, List.cons.injEq]
instance encList [Enc α] : Enc (List α) where
  en := fun l => .lst (l.map Enc.en)
  pd := fun l => .list (l.map Enc.pd)
  dp := Enc.dp α + 1
  rd := fun n l h => by
    rw [rdP_lst]
    obtain ⟨m, rfl⟩ : ∃ m, n = m + 1 := ⟨n - 1, by omega⟩
    rw [allSome_map Enc.en (rdP (m + 1)) Enc.pd (fun a => Enc.rd m a (by omega)) l]
    rfl
  lay := fun l => layAll l
  dep := fun l => by
    show PyData.depthAll (l.map Enc.pd) + 1 ≤ _
    have := depAll_le l
    omega
  eq := fun l m => eqAll l m
theorem rdP_two (n : Nat) (d e : D) (p q : PyData) (h : rdP n d = some p) (h' : rdP n e = some q) : rdP (n + 1) (.tup [d, e]) = some (.tuple [p, q]) := by
  rw [rdP_tup]
  simp [h, h', allSome]
theorem rdP_three (n : Nat) (d e f : D) (p q r : PyData) (h : rdP n d = some p) (h' : rdP n e = some q) (h'' : rdP n f = some r) : rdP (n + 1) (.tup [d, e, f]) = some (.tuple [p, q, r]) := by
  rw [rdP_tup]
  simp [h, h', h'', allSome]
instance encProd [Enc α] [Enc β] : Enc (α × β) where
  en := fun p => .tup [Enc.en p.1, Enc.en p.2]
  pd := fun p => .tuple [Enc.pd p.1, Enc.pd p.2]
  dp := max (Enc.dp α) (Enc.dp β) + 1
  rd := fun n p h => by
    obtain ⟨m, rfl⟩ : ∃ m, n = m + 1 := ⟨n - 1, by omega⟩
    exact rdP_two _ _ _ _ _ (Enc.rd m p.1 (by omega)) (Enc.rd m p.2 (by omega))
  lay := fun p => by
    show (PyData.canLay0 (Enc.pd p.1) && (PyData.canLay0 (Enc.pd p.2) && true)) = true
    rw [Enc.lay, Enc.lay]; rfl
  dep := fun p => by
    show max (PyData.depth (Enc.pd p.1)) (max (PyData.depth (Enc.pd p.2)) 0) + 1 ≤ _
    have := Enc.dep p.1
    have := Enc.dep p.2
    omega
  eq := fun p q => by
    show (PyData.eqv (Enc.pd p.1) (Enc.pd q.1) && (PyData.eqv (Enc.pd p.2) (Enc.pd q.2) && true)) = true ↔ _
    rw [Bool.and_true, Bool.and_eq_true, Enc.eq, Enc.eq]
    exact ⟨fun h => Prod.ext h.1 h.2, fun h => by rw [h]; exact ⟨rfl, rfl⟩⟩
theorem enc_shaped [Enc α] (h : Enc.dp α ≤ 64) (a : α) : SeqAt.shaped (Enc.pd a) = true := by
  unfold SeqAt.shaped
  rw [Enc.lay, Bool.true_and]
  exact decide_eq_true (Nat.le_trans (Enc.dep a) h)
/-- == and != of values of one kind -/
theorem dEqD_enc [Enc α] [DecidableEq α] (neg : Bool) (a b : α) (h : Enc.dp α ≤ 11 := by decide) : dEqD neg (Enc.en a) (Enc.en b) = some (.bl (neg != decide (a = b))) := by
  rw [eqD_of (Enc.rd 11 a h) (Enc.rd 11 b h) (enc_shaped (Nat.le_trans h (by decide)) a) (enc_shaped (Nat.le_trans h (by decide)) b), enc_eqv]
@[simp] theorem dEq_ints (neg : Bool) (a b : List Int) : dEqD neg (.lst (a.map .int)) (.lst (b.map .int)) = some (.bl (neg != decide (a = b))) := dEqD_enc neg a b
theorem all_en [Enc α] (h : ∀ a : α, imm (Enc.en a) = true) (l : List α) : (l.map (Enc.en (α := α))).all imm = true := by rw [List.all_map, List.all_eq_true]; exact fun a _ => h a
@[simp] theorem imm_oI (a : Option Int) : imm (oI a) = true := by cases a <;> rfl
@[simp] theorem all_oI (l : List (Option Int)) : (l.map oI).all imm = true := all_en (α := Option Int) imm_oI l
theorem inV_ints (t : Int) (l : List Int) : inV (.int t) (l.map V.int) = decide (t ∈ l) := by
  unfold inV
  rw [List.any_map]
  induction l with
  | nil => rfl
  | cons a r ih =>
    rw [List.any_cons, ih]
    by_cases h : a = t
    · subst h
      simp [eqV]
    · have : (a == t) = false := by simpa using h
      simp [eqV, this, Ne.symm h]
@[simp] theorem dIn_ints (neg : Bool) (t : Int) (l : List Int) : dInN neg (.int t) (.lst (l.map .int)) = some (.bl (neg != decide (t ∈ l))) := by
  unfold dInN
  have : inD (.int t) (.lst (l.map .int)) = some (decide (t ∈ l)) := by
    unfold inD
    simp only [scal_int, scal_ints, inV_ints]
  rw [this]
  rfl
theorem valD_cons (p : Key × D) (l : List (Key × D)) (k : Key) : valD (p :: l) k = if p.1 = k then some p.2 else valD l k := by
  unfold valD
  rw [List.find?_cons]
  by_cases h : p.1 = k <;> simp [h]
theorem any_valD {l : List (Key × D)} {k : Key} : (l.any fun p => decide (p.1 = k)) = (valD l k).isSome := by
  induction l with
  | nil => rfl
  | cons p r ih =>
    rw [valD_cons, List.any_cons, ih]
    by_cases h : p.1 = k <;> simp [h]
/-- the set of some ints as a dict of True -/
def gs (l : List Int) : List (Key × D) := mergeD [] (l.map fun i => (.inl i, .bl true))
/-- a comprehension without a condition -/
theorem lc_mapY {td : TgD} {p : PE} {e0 : Env} (g : α → ItD) (f : α → D) (l : List α) (hl : l.length ≤ sizeLine) (h : ∀ a ∈ l, ∃ e1 e2, td (g a) e0 = some e1 ∧ p e1 = .ok (f a, .fr) true e2) : lcGoD td pYes p e0 (l.map g) [] = some (l.map f) := by
  have k := lc_map (td := td) (c := pYes) (p := p) (e0 := e0) g (fun _ => true) f l [] (by simpa using hl) fun a ha => by
    obtain ⟨e1, e2, h1, h2⟩ := h a ha
    exact ⟨e1, h1, rfl, fun _ => ⟨e2, h2⟩⟩
  rw [k, List.filter_eq_self.mpr (fun _ _ => rfl)]
  rfl
theorem intIts_ups (n : Nat) : intIts 0 n = (ups n).map fun t => .v (.int t) := by
  unfold intIts ups
  rw [List.map_map]
  apply List.map_congr_left
  intro k _
  simp
theorem dEqD_self [Enc α] [DecidableEq α] (neg : Bool) (a : α) (h : Enc.dp α ≤ 11 := by decide) : dEqD neg (Enc.en a) (Enc.en a) = some (.bl (neg != true)) := by
  rw [dEqD_enc neg a a h, decide_eq_true rfl]
end Vi
namespace Vi
open PySem PySem.Spec L2 Mi
@[simp] theorem toI_ints' (l : List Int) : allSome (l.map (toI ∘ D.int)) = some l := by rw [← List.map_map]; exact toI_ints l
@[simp] theorem toB_bls' (l : List Bool) : allSome (l.map (toB ∘ D.bl)) = some l := by rw [← List.map_map]; exact toB_bls l
@[simp] theorem toS_strs' (l : List Str) : allSome (l.map (toS ∘ D.str)) = some l := by rw [← List.map_map]; exact toS_strs l
@[simp] theorem imm_ints (l : List Int) : (l.map D.int).all imm = true := by rw [List.all_map, List.all_eq_true]; exact fun _ _ => rfl
@[simp] theorem imm_bls (l : List Bool) : (l.map D.bl).all imm = true := by rw [List.all_map, List.all_eq_true]; exact fun _ _ => rfl
@[simp] theorem imm_strs (l : List Str) : (l.map D.str).all imm = true := by rw [List.all_map, List.all_eq_true]; exact fun _ _ => rfl
/-- a slice of a list of anything -/
def cut {α : Type} (xs : List α) (lo hi : Option Int) : List α := (xs.drop (HT.sIx xs.length 0 lo)).take (HT.sIx xs.length xs.length hi - HT.sIx xs.length 0 lo)
@[simp] theorem cutL_map {α : Type} (f : α → D) (l : List α) (lo hi : Option Int) : cutL (l.map f) lo hi = (cut l lo hi).map f := by
  unfold cutL cut
  simp only [List.map_take, List.map_drop, List.length_map]
@[simp] theorem dSl_ints (l : List Int) (lo hi : Option Int) : dSl (.lst (l.map .int)) lo hi = some (.lst ((cut l lo hi).map .int)) := by
  show (if (cutL (l.map D.int) lo hi).all imm = true then _ else _) = _
  rw [cutL_map, if_pos (imm_ints _)]
theorem cut_sub {α : Type} (l : List α) (lo hi : Option Int) : ∀ x ∈ cut l lo hi, x ∈ l := fun x h => by
  unfold cut at h
  exact List.mem_of_mem_drop (List.mem_of_mem_take h)
theorem cut_to {α : Type} (l : List α) (n : Nat) : cut l none (some (n : Int)) = l.take n := by
  unfold cut
  rw [HT.sIx_none, HT.sIx_nat, List.drop_zero, Nat.sub_zero]
  rcases Nat.le_total n l.length with h | h
  · rw [Nat.min_eq_left h]
  · rw [Nat.min_eq_right h, List.take_length, List.take_of_length_le h]
theorem cut_to_le {α : Type} (l : List α) (n : Nat) : (cut l none (some (n : Int))).length ≤ n := by
  rw [cut_to, List.length_take]
  exact Nat.min_le_left _ _
end Vi
namespace Vi
open PySem PySem.Spec L2 Mi
def pWalkF (p : PE) : PI := fun e => (p e).bind fun x q e1 => match x with
  | (.dk kds, .fr) => .ok (kds.map fun kv => .v (kD kv.1), okSrc .fr q) q e1
  | (d, o) => match itemsD d with
    | some its => .ok (its, okSrc o q) q e1
    | none => .bad
def kWf : D × Og → Bool → Env → X (List ItD × Bool) := fun x q e1 => match x with
  | (.dk kds, .fr) => .ok (kds.map fun kv => .v (kD kv.1), okSrc .fr q) q e1
  | (d, o) => match itemsD d with
    | some its => .ok (its, okSrc o q) q e1
    | none => .bad
@[simp] theorem pWalkF_at (p : PE) (e : Env) : pWalkF p e = (p e).bind kWf := Eq.trans rfl rfl
@[simp] theorem kWf_lst (xs : List D) (o : Og) (q : Bool) (e : Env) : kWf (.lst xs, o) q e = .ok (xs.map .v, okSrc o q) q e := rfl
@[simp] theorem kWf_tup (xs : List D) (o : Og) (q : Bool) (e : Env) : kWf (.tup xs, o) q e = .ok (xs.map .v, okSrc o q) q e := rfl
@[simp] theorem kWf_dk (xs : List (Key × D)) (q : Bool) (e : Env) : kWf (.dk xs, .fr) q e = .ok (xs.map fun kv => .v (kD kv.1), okSrc .fr q) q e := rfl
end Vi
namespace L2
open PySem PySem.Spec PyProof.Rows
section
variable {P : Program} {w : World} {A : Around} {E : Value → Shared → Prop} {s : Shared}
/-- the empty set as it is made -/
abbrev nSet (w : World) : Obj := { cls := .type "set", dict := none, data := .set #[] 0 (.fresh 0 0 (!w.params.followText "set-order")) }
abbrev hSet (w : World) (s : Shared) : Heap := s.heap.push (nSet w)
abbrev sSet (w : World) (s : Shared) : Shared := { s with heap := hSet w s }
abbrev aSet (s : Shared) : Addr := s.heap.objs.size
abbrev iSet (w : World) (s : Shared) : Addr := (hSet w s).objs.size
/-- what stands behind the filling -/
def Filled (w : World) (E : Value → Shared → Prop) (s : Shared) (ns : List Int) : Result → Shared → Prop := wants (fun r t => r = .none ∧ ∃ h' tk c, t = { s with heap := h', toks := tk } ∧ SetR w h' (aSet s) (fun j => decide (j ∈ ns)) c ∧ c ≤ ns.length ∧ ∀ b o, s.heap.get? b = some o → h'.get? b = some o) E
set_option maxHeartbeats 3200000 in
theorem set_of_ints {l : Addr} {items : Array Value} (ns : List Int) {Q : Value → Shared → Prop} (noH : A.handled = none) (isL : s.heap.IsList l items) (hInt : IntsAre items.toList ns) (few : ns.length + 1 < scanBound)
    (q : ∀ (h' : Heap) (tk c : Nat), SetR w h' (aSet s) (fun j => decide (j ∈ ns)) c → c ≤ ns.length → (∀ b o, s.heap.get? b = some o → h'.get? b = some o) → Q (.ref (aSet s)) { s with heap := h', toks := tk }) :
    wpAny (model P w) A (call (.type "set") [.ref l]) Q E s := by
  have hsz : items.size = ns.length := by have z := IntsAre.length hInt; rwa [Array.length_toList] at z
  obtain ⟨c0, tl0, m0⟩ := F.called_set.mro; have m1 := F.called_set.made; have m2 := F.called_set.sub
  refine wpAny_call (codeAny_of_tree ?_); show wpAny _ _ (callAny (.type "set") _) _ _ _
  refine wpAny_pure ⟨Code.quiet_builtin _ (by decide +kernel), codeAny_builtin F.entry_type_call ?_⟩ <;> rw [Around.under_plain (weight_type_call_type "set" [.ref l] []) rfl]
  have m3 := F.called_set.notType; have m4 := F.called_set.canCreate; have m5 := F.typeCall_set_1 (.ref l)
  repeat (any_goals (first | assumption | wp_step))
  refine codeAny_mono (code_set_led1 (.ref l) (E := E) (Q₁ := fun v t => v = .ref (aSet s) ∧ t = sSet w s) ⟨rfl, rfl⟩) fun r s₁ hr => ?_
  cases r with
  | error e => exact hr
  | ok fl =>
    cases fl with
    | ret obj =>
      obtain ⟨rfl, rfl⟩ := hr
      have at0 : (hSet w s).get? (aSet s) = some (nSet w) := Heap.get?_push_size _ rfl
      have ty0 : Shared.TypeIs (sSet w s) (.ref (aSet s)) "set" := ⟨_, at0, rfl⟩
      have m6 := F.called_set.init.lookup; have m7 := F.called_set.init.bind (.ref (aSet s))
      repeat (any_goals (first | assumption | wp_step))
      refine codeAny_mono (codeAny_call_builtin (R := Filled w E s ns) F.called_set.init.plain F.entry_set_init (check_set_init_1 ty0 ?_)) fun r2 s2 hr2 => ?_
      · obtain ⟨ol, hol, hcl, nl, hdl⟩ := isL; obtain ⟨ocls, odict, odata, oslots⟩ := ol
        simp only at hcl hdl
        subst hcl; subst hdl
        have at1 : (hSet w s).get? l = some { cls := .type "list", dict := odict, data := .seq items nl, slots := oslots } := Heap.get?_push_of_some _ hol
        have n1 := F.sub_list_set; have n2 := F.sub_list_frozenset; have n3 : (Value.type "list" == Value.type "dict") = false := by decide
        have isL1 : (hSet w s).IsList l items := ⟨_, at1, rfl, nl, rfl⟩
        unfold Builtin.«set.__init__» noKeywords Builtin.Frozenset.updateFrom
        generalize hPI : pyIter = PI
        wp_walk
        subst hPI
        refine wpAny_pyIter_list isL1 (wpAny_bind (wpAny_runValue ?_))
        have lt0 : l < aSet s := Heap.lt_size hol
        have sz1 : iSet w s = aSet s + 1 := Heap.size_push ..
        have ne1 : l ≠ iSet w s := by rw [sz1]; exact Nat.ne_of_lt (Nat.lt_succ_of_lt lt0)
        have nin : aSet s ∉ [iSet w s, l] := by
          rw [sz1]
          simp only [List.mem_cons, List.not_mem_nil, or_false, not_or]
          exact ⟨Nat.ne_of_lt (Nat.lt_succ_self _), Nat.ne_of_gt lt0⟩
        have vals : ∀ (i : Nat) (v : Value), items[i]? = some v → ∃ k t, ns[i]? = some k ∧ v = .int k t := fun i v hv => by
          have hi : i < ns.length := by rw [← hsz]; exact (Array.getElem?_eq_some_iff.mp hv).1
          obtain ⟨t, e⟩ := IntsAre.int_at hInt i v (by rw [Array.getElem?_toList]; exact hv)
          refine ⟨ns[i], t, List.getElem?_eq_getElem hi, ?_⟩
          rw [e, List.getD_eq_getElem?_getD, List.getElem?_eq_getElem hi] <;> rfl
        have noH3 : A.in1.in1.in1.handled = none := by simp [noH]
        refine set_update_ints ((Walks.list noH3 _ l ne1 items).toS) (aSet s) nin ns hsz few vals (items.size - 0) 0 _ (by omega) (Nat.zero_le _) ⟨⟨_, Heap.get?_push_size _ rfl, rfl, rfl⟩, (isL1.push _)⟩ ?hS0 ?hR
        case hS0 =>
          have at2 : ((hSet w s).push { cls := .type "list_iterator", data := .fields #[.ref l, .int 0 0] }).get? (aSet s) = some (nSet w) := Heap.get?_push_of_some _ at0
          exact ⟨0, Nat.le_refl 0, setR_new_at at2⟩
        case hR =>
          intro s' c' hm hc' hS'; obtain ⟨h', g2, d', tk', os'⟩ := s'
          have e1 : g2 = s.gens := hm.gens
          have e2 : d' = s.drawn := hm.drawn
          have e3 : os' = s.os := hm.os
          subst e1; subst e2; subst e3
          show wpAny _ _ _ _ _ _
          refine wpAny_pure ?_
          show wpAny _ _ (ret Value.none) _ _ _
          rw [hsz] at hc'
          refine wpAny_pure ⟨rfl, h', tk', c', rfl, hS', hc', fun b o e => ?_⟩
          have lb : b < aSet s := Heap.lt_size e
          have b2 : b ≠ iSet w s := by rw [sz1]; exact Nat.ne_of_lt (Nat.lt_succ_of_lt lb)
          exact hm.heap b o (by simp only [List.mem_cons, List.not_mem_nil, or_false, not_or]; exact ⟨Nat.ne_of_lt lb, b2⟩) (Heap.get?_push_of_some _ (Heap.get?_push_of_some _ e))
      · cases r2 with
        | error e => exact hr2
        | ok f2 =>
          cases f2 with
          | ret r =>
            obtain ⟨rfl, h', tk, c, rfl, hS', hc', hk'⟩ := hr2
            repeat (any_goals (first | assumption | wp_step))
            exact q _ _ _ hS' hc' hk'
          | _ => exact hr2.elim
    | _ => exact hr.elim
end
theorem setR_card {w : World} {h : Heap} {a : Addr} {ns : List Int} {c : Nat} (R : SetR w h a (fun j => decide (j ∈ ns)) c) : ∀ L : List Int, L.Nodup → (∀ x, x ∈ L ↔ x ∈ ns) → c = L.length := fun L nd hm => by
  obtain ⟨o, es, ep, t, _, _, _, _, nk, hk, _, _, hc, _⟩ := R
  have pm : L.Perm (es.toList.map keyOf) := (List.perm_ext_iff_of_nodup nd nk).mpr fun x => by rw [hm x, ← hk x]; simp
  rw [pm.length_eq, List.length_map, ← hc]
  simp
section
variable {X : Cx}
def rSetOfLI (K : PySem.W.Frag) (w : World) : List V → Hp → VK → Prop := fun xs H Q => ∃ (l : Addr) (ns : List Int), xs = [V.ref l] ∧ SqL K H l (ns.map V.int) ∧ ns.length < 1000 ∧
  ∀ a c, H a = none → (∀ L : List Int, L.Nodup → (∀ x, x ∈ L ↔ x ∈ ns) → c = L.length) → Q (.ref a) (upd H a (SetO w a (fun j => decide (j ∈ ns)) c))
theorem cr_setOfLI (hc : X.calm = true) : CallR X (.type "set") (rSetOfLI X.K X.w) := by
  intro pins s σ H xs us Q I r h
  obtain ⟨l, ns, rfl, hl, hf, q⟩ := h
  rw [Vals.ref1 r]
  obtain ⟨its, rv, pl, hz⟩ := I.list hl
  have hn : H s.heap.objs.size = none := I.hok.fresh (Nat.le_refl _)
  refine set_of_ints ns (I.ok.hd hc) pl.isList (by simpa using ints_of_vals rv) (by unfold scanBound; omega) fun h' tk c R hc k => ?_
  exact ⟨.ref s.heap.objs.size, upd H s.heap.objs.size (SetO X.w s.heap.objs.size (fun j => decide (j ∈ ns)) c), I.laid (t' := tk) k (Nat.le_refl _) (setO_new R), rfl, q _ c hn (setR_card R)⟩
end
end L2
namespace Mi
open PySem PySem.Spec L2
def insU (x : Int) : List Int → List Int
  | [] => [x]
  | y :: r => if x < y then x :: y :: r else if x = y then y :: r else y :: insU x r
def sortU (ns : List Int) : List Int := ns.foldr insU []
theorem insU_mem (x z : Int) : ∀ l : List Int, z ∈ insU x l ↔ z = x ∨ z ∈ l
  | [] => by simp [insU]
  | y :: r => by
    unfold insU
    split
    · simp
    · split
      · rename_i h; subst h; simp
      · simp only [List.mem_cons, insU_mem x z r]
        exact ⟨fun h => by rcases h with h | h | h <;> simp [h], fun h => by rcases h with h | h | h <;> simp [h]⟩
theorem insU_sorted (x : Int) : ∀ l : List Int, l.Pairwise (· < ·) → (insU x l).Pairwise (· < ·)
  | [], _ => by simp [insU]
  | y :: r, h => by
    obtain ⟨h1, h2⟩ := List.pairwise_cons.mp h
    unfold insU
    split
    · rename_i hx
      exact List.pairwise_cons.mpr ⟨fun z hz => by
        rcases List.mem_cons.mp hz with q | q
        · omega
        · have := h1 z q; omega, h⟩
    · split
      · exact h
      · exact List.pairwise_cons.mpr ⟨fun z hz => by
          rcases (insU_mem x z r).mp hz with q | q
          · omega
          · exact h1 z q, insU_sorted x r h2⟩
theorem sortU_mem (z : Int) : ∀ l : List Int, z ∈ sortU l ↔ z ∈ l
  | [] => Iff.rfl
  | x :: l => by
    show z ∈ insU x (sortU l) ↔ _
    rw [insU_mem, sortU_mem z l, List.mem_cons]
theorem sortU_sorted : ∀ l : List Int, (sortU l).Pairwise (· < ·)
  | [] => .nil
  | x :: l => insU_sorted x _ (sortU_sorted l)
theorem lt_uniq {a b : List Int} (ha : a.Pairwise (· < ·)) (hb : b.Pairwise (· < ·)) (h : ∀ x, x ∈ a ↔ x ∈ b) : a = b :=
  sorted_uniq ((List.perm_ext_iff_of_nodup (ha.imp fun h => Int.ne_of_lt h) (hb.imp fun h => Int.ne_of_lt h)).mpr h) (ha.imp fun h => Int.le_of_lt h) (hb.imp fun h => Int.le_of_lt h)
def oSortSet : V → Sto → R V := fun x S => match rdInts S x with
  | some ns => if ns.length < 1000 ∧ (sortU ns).length < 64 then .ok (.ref S.length) (S ++ [.lst ((sortU ns).map V.int)]) else .bad
  | none => .bad
section
variable {T : Tab} {W : WX} {X : Cx} {e : Expr} {m : ME} {p p2 pos pos2 : Pos}
theorem de_sortSet (hc : X.calm = true) (h1 : X.mg "sorted" = none) (h2 : X.mg "set" = none) (ha : DE T X W e m) (g1 : Gl X "sorted" := by rfl) (g2 : Gl X "set" := by rfl)
    (he : starEach [e] X.env = (false, eval e X.env) :: starEach [] X.env := by rfl) (hpl : (backTo pos2 (starEach [] X.env)).any (·.1) = false := by rfl) (hpl2 : (backTo pos (starEach [] X.env)).any (·.1) = false := by rfl) :
    DE T X W (.Call (.Name "sorted" p) [.Call (.Name "set" p2) [e] [] pos2] [] pos) (mUn oSortSet m) := by
  have i1 : PE X (.Call (.Name "set" p2) [e] [] pos2) _ := pe_callTy (cr_setOfLI hc) g2 h2 (by decide +kernel) (da_cons ha da_nil he) (by decide) (by decide) he hpl
  have i2 := pe_callB (p := p) (pos := pos) (cr_sortedSet hc) g1 h1 (by decide +kernel) (pa_cons i1 pa_nil (by rfl)) (by decide) (by decide) (by rfl) hpl2
  refine i2.imp fun σ H Q h => ?_
  obtain ⟨ρ, S, τ, r, l, h⟩ := h
  refine ⟨ρ, S, τ, r, l, ?_⟩
  show Post _ W VsR ρ H σ _ ((m τ S).bind fun x S1 => (mNil τ S1).bind fun xs S2 => .ok (x :: xs) S2)
  unfold mUn at h
  cases hm : m τ S with
  | bad => rw [hm] at h; exact h.elim
  | exc c d S1 => rw [hm] at h; exact h
  | ok v S1 =>
    rw [hm] at h
    intro ρ2 H2 w e2 r2 x2
    obtain ⟨w0, rfl, vr⟩ := vsr_one x2
    have h : Post _ W VR ρ H σ Q (oSortSet v S1) := h
    unfold oSortSet at h
    split at h
    · rename_i ns hn
      split at h
      · rename_i hz
        obtain ⟨a, rfl, ea⟩ := r2.rdInts hn vr
        refine ⟨a, ns, rfl, .inl ea, hz.1, fun a' c na hc => ?_⟩
        refine ⟨a', _, c, rfl, upd_same, by rw [hc _ ((sortU_sorted ns).imp fun h => Int.ne_of_lt h) fun x => sortU_mem x ns]; exact hz.2, fun ns' p' hs hm' hl np => ?_⟩
        have eu : ns' = sortU ns := lt_uniq hs (sortU_sorted ns) fun x => by rw [hm', sortU_mem]; simp
        subst eu
        exact h _ _ _ ((e2.trans (Ext.aside na)).trans (Ext.new np)) ((r2.beside na).alloc np ⟨_, rfl, ints_vsr _⟩) (new_ref r2.len)
      · exact h.elim
    · exact h.elim
end
end Mi
namespace Mi
open PySem PySem.Spec L2
open PySem.W (EqTree)
open PyProof.Rows hiding St
def eqL (f : V → V → Bool) : List V → List V → Bool
  | [], [] => true
  | x :: xs, y :: ys => f x y && eqL f xs ys
  | _, _ => false
def eqO (S : Sto) (f : V → V → Bool) (x y : V) : Bool := match rdL S x, rdL S y with
  | some xs, some ys => eqL f xs ys
  | _, _ => match rdT S x, rdT S y with
    | some xs, some ys => eqL f xs ys
    | _, _ => match rdK S x, rdK S y with
      | some ks, some ls => decide (ks.map (·.1) = ls.map (·.1)) && decide ((ks.map (·.1)).Nodup) && eqL f (ks.map (·.2)) (ls.map (·.2))
      | _, _ => false
def eqI : V → V → Bool
  | .int i, .int j => decide (i = j)
  | .non, .non => true
  | _, _ => false
def eqT (S : Sto) : Nat → V → V → Bool
  | 0 => fun _ _ => false
  | n + 1 => fun x y => eqI x y || eqO S (eqT S n) x y
section
variable {prog : Program} {w : World} {s : Shared} {n : Nat}
/-- like objects -/
inductive ET (prog : Program) (w : World) (s : Shared) (n : Nat) : Value → Value → Prop
  | l {a b : Addr} {vs us : Array Value} : s.heap.IsList a vs → s.heap.IsList b us → vs.size = us.size → (∀ j (h1 : j < vs.size) (h2 : j < us.size), EqTree prog w s n vs[j] us[j] true) → ET prog w s n (.ref a) (.ref b)
  | t {a b : Addr} {vs us : Array Value} : s.heap.IsTuple a vs → s.heap.IsTuple b us → vs.size = us.size → (∀ j (h1 : j < vs.size) (h2 : j < us.size), EqTree prog w s n vs[j] us[j] true) → ET prog w s n (.ref a) (.ref b)
  | d {a b : Addr} {ka kb : List (Key × Value)} : (a == sysModules) = false → (b == sysModules) = false → s.heap.DictOf (mixKind prog w) a ka → s.heap.DictOf (mixKind prog w) b kb → ka.length = kb.length →
      (∀ p ∈ ka, (valueAt kb p.1).isSome = true) → (∀ k v y, (k, v) ∈ ka → valueAt kb k = some y → EqTree prog w s n v y true) → ET prog w s n (.ref a) (.ref b)
theorem all_true (k : Nat) : ((List.range k).all fun _ => true) = true := by simp
theorem ET.tree {v u : Value} (h : ET prog w s n v u) : EqTree prog w s (n + 1) v u true := by
  cases h with
  | @l a b vs us h1 h2 h3 h4 =>
    by_cases e : a = b
    · subst e; exact .same
    · have := EqTree.lists (e := fun _ => true) e h1 h2 h3 h4
      rwa [all_true] at this
  | @t a b vs us h1 h2 h3 h4 =>
    by_cases e : a = b
    · subst e; exact .same
    · have := EqTree.tuples (e := fun _ => true) e h1 h2 h4
      rwa [all_true, h3, beq_self_eq_true, Bool.true_and] at this
  | @d a b ka kb z1 z2 h1 h2 h3 h4 h5 =>
    by_cases e : a = b
    · subst e; exact .same
    · have := EqTree.dicts (e := fun _ => true) e z1 z2 h1 h2 h5
      have q : (ka.all fun p => (valueAt kb p.1).isSome && true) = true := by
        rw [List.all_eq_true]; intro p hp; rw [h4 p hp]; rfl
      rwa [q, h3, beq_self_eq_true, Bool.true_and] at this
theorem eqI_sound {G : Gm} {ρ : List Addr} {x y v u : V} {a b : Value} (h : eqI x y = true) (x1 : VR ρ x v) (y1 : VR ρ y u) (r : RelV v a) (t : RelV u b) : EqTree prog w s n a b true := by
  unfold eqI at h
  split at h
  · cases x1; cases y1
    obtain ⟨c, rfl⟩ := (show ∃ t, a = Value.int _ t from r)
    obtain ⟨d, rfl⟩ := (show ∃ t, b = Value.int _ t from t)
    have e := of_decide_eq_true h
    subst e
    refine .leaf fun A hA => ?_
    rename_i i
    have := SeqAt.EqAt.int_int (A := A) (s := s) i c i d
    rwa [beq_self_eq_true] at this
  · cases x1; cases y1
    have e1 : a = Value.none := r
    have e2 : b = Value.none := t
    subst e1; subst e2
    exact .same
  · cases h
end
section
variable {T : Tab} {X : Cx} {ρ : List Addr} {S : Sto} {H : Hp} {pins : List (Addr × Obj)} {σ : St} {s : Shared} {n : Nat} {f : V → V → Bool}
abbrev FS (X : Cx) (ρ : List Addr) (s : Shared) (n : Nat) (f : V → V → Bool) : Prop := ∀ x y v u a b, f x y = true → VR ρ x v → VR ρ y u → RelV v a → RelV u b → EqTree X.prog X.w s n a b true
theorem eqL_sound (ih : FS X ρ s n f) : ∀ {xs ys ws us : List V} {as bs : List Value}, eqL f xs ys = true → VsR ρ xs ws → VsR ρ ys us → Vals ws as → Vals us bs → Paired (fun a b => EqTree X.prog X.w s n a b true) as bs
  | [], [], _, _, _, _, _, .nil, .nil, .nil, .nil => .nil
  | x :: xs, y :: ys, _, _, _, _, h, .cons r1 t1, .cons r2 t2, .cons r3 t3, .cons r4 t4 => by
    rw [eqL, Bool.and_eq_true] at h
    exact .cons (ih _ _ _ _ _ _ h.1 r1 r2 r3 r4) (eqL_sound ih h.2 t1 t2 t3 t4)
theorem prd_at {α β : Type} {F : α → β → Prop} : ∀ {as : List α} {bs : List β}, Paired F as bs → ∀ j (h1 : j < as.length) (h2 : j < bs.length), F as[j] bs[j]
  | _, _, .nil, j, h1, _ => by simp at h1
  | _, _, .cons r t, 0, _, _ => r
  | _, _, .cons r t, j + 1, h1, h2 => prd_at t j (by simpa using h1) (by simpa using h2)
theorem vAt_cons (p : Key × Value) (kvs : List (Key × Value)) (k : Key) : valueAt (p :: kvs) k = if p.1 = k then some p.2 else valueAt kvs k := by
  unfold valueAt
  rw [List.find?_cons]
  by_cases h : p.1 = k
  · simp [h]
  · simp [h]
theorem vAt_some : ∀ {kvs : List (Key × Value)} {k : Key}, k ∈ kvs.map (·.1) → (valueAt kvs k).isSome = true
  | [], _, h => by simp at h
  | p :: kvs, k, h => by
    rw [vAt_cons]
    split
    · rfl
    · rename_i z
      exact vAt_some (by rcases List.mem_cons.mp h with q | q; exact absurd q.symm z; exact q)
theorem dict_pair {P : Value → Value → Prop} : ∀ {ka kb : List (Key × Value)}, ka.map (·.1) = kb.map (·.1) → (ka.map (·.1)).Nodup → Paired P (ka.map (·.2)) (kb.map (·.2)) → ∀ k v y, (k, v) ∈ ka → valueAt kb k = some y → P v y
  | [], _, _, _, _, k, v, y, hm, _ => by simp at hm
  | (k0, v0) :: ka, [], e, _, _, _, _, _, _, _ => by simp at e
  | (k0, v0) :: ka, (l0, y0) :: kb, e, nd, .cons r t, k, v, y, hm, hv => by
    simp only [List.map_cons, List.cons.injEq] at e
    obtain ⟨rfl, e⟩ := e
    rw [vAt_cons] at hv
    simp only [List.map_cons, List.nodup_cons] at nd
    rcases List.mem_cons.mp hm with q | q
    · cases q
      rw [if_pos rfl] at hv
      cases hv
      exact r
    · by_cases z : k0 = k
      · subst z
        exact absurd (List.mem_map.mpr ⟨_, q, rfl⟩) nd.1
      · rw [if_neg z] at hv
        exact dict_pair e nd.2 t k v y q hv
theorem fr_kvs {ks ws : List (Key × V)} (h : FR ρ ks ws) : ks.map (·.1) = ws.map (·.1) ∧ VsR ρ (ks.map (·.2)) (ws.map (·.2)) := by
  induction h with
  | nil => exact ⟨rfl, .nil⟩
  | cons r t ih => exact ⟨by rw [List.map_cons, List.map_cons, ih.1, r.1], .cons r.2 ih.2⟩
theorem kv_keys {ks : List (Key × V)} {ws : List (Key × Value)} (h : KV ks ws) : ks.map (·.1) = ws.map (·.1) ∧ Vals (ks.map (·.2)) (ws.map (·.2)) := by
  unfold KV at h
  induction h with
  | nil => exact ⟨rfl, .nil⟩
  | cons r t ih => exact ⟨by rw [List.map_cons, List.map_cons, ih.1, r.1], .cons r.2 ih.2⟩
theorem eqO_sound (I : Inv X pins σ H s) (r : Rep (gm T X) ρ S H) (ih : FS X ρ s n f) {x y v u : V} {a b : Value} (h : eqO S f x y = true) (x1 : VR ρ x v) (y1 : VR ρ y u) (r1 : RelV v a) (r2 : RelV u b) : ET X.prog X.w s n a b := by
  unfold eqO at h
  split at h
  · rename_i xs ys e1 e2
    obtain ⟨ad, ws, rfl, eh, vr⟩ := r.rdL e1 x1
    obtain ⟨bd, zs, rfl, eh2, vr2⟩ := r.rdL e2 y1
    have ea : a = .ref ad := r1
    have eb : b = .ref bd := r2
    subst ea; subst eb
    obtain ⟨as, q1, p1, _⟩ := I.list (.inl eh)
    obtain ⟨bs, q2, p2, _⟩ := I.list (.inl eh2)
    have pr := eqL_sound ih h vr vr2 q1 q2
    exact .l p1.isList p2.isList (by simpa using prd_len pr) fun j h1 h2 => by simpa using prd_at pr j (by simpa using h1) (by simpa using h2)
  · split at h
    · rename_i xs ys e1 e2
      obtain ⟨ad, ws, rfl, eh, vr⟩ := r.rdT e1 x1
      obtain ⟨bd, zs, rfl, eh2, vr2⟩ := r.rdT e2 y1
      have ea : a = .ref ad := r1
      have eb : b = .ref bd := r2
      subst ea; subst eb
      obtain ⟨as, q1, ⟨o1, g1, c1, n1, d1⟩, _⟩ := I.tuple (.inl (.inl eh))
      obtain ⟨bs, q2, ⟨o2, g2, c2, n2, d2⟩, _⟩ := I.tuple (.inl (.inl eh2))
      have pr := eqL_sound ih h vr vr2 q1 q2
      exact .t ⟨o1, g1, c1, n1, d1⟩ ⟨o2, g2, c2, n2, d2⟩ (by simpa using prd_len pr) fun j h1 h2 => by simpa using prd_at pr j (by simpa using h1) (by simpa using h2)
    · split at h
      · rename_i ks ls e1 e2
        rw [Bool.and_eq_true, Bool.and_eq_true] at h
        obtain ⟨⟨k1, k2⟩, h⟩ := h
        have k1 := of_decide_eq_true k1
        have k2 := of_decide_eq_true k2
        obtain ⟨ad, ws, rfl, eh, fr1⟩ := r.rdK e1 x1
        obtain ⟨bd, zs, rfl, eh2, fr2⟩ := r.rdK e2 y1
        have ea : a = .ref ad := r1
        have eb : b = .ref bd := r2
        subst ea; subst eb
        obtain ⟨_, sm1, va, kv1, d1⟩ := eh.ok I.hok
        obtain ⟨_, sm2, vb, kv2, d2⟩ := eh2.ok I.hok
        have f1 := fr_kvs fr1
        have f2 := fr_kvs fr2
        have g1 := kv_keys kv1
        have g2 := kv_keys kv2
        have pr := eqL_sound ih h f1.2 f2.2 g1.2 g2.2
        have ek : va.map (·.1) = vb.map (·.1) := by rw [← g1.1, ← g2.1, ← f1.1, ← f2.1, k1]
        have nd : (va.map (·.1)).Nodup := by rw [← g1.1, ← f1.1]; exact k2
        refine .d sm1 sm2 d1 d2 (by simpa using congrArg List.length ek) (fun p hp => ?_) (dict_pair ek nd pr)
        exact vAt_some (by rw [← ek]; exact List.mem_map.mpr ⟨p, hp, rfl⟩)
      · cases h
theorem eqT_sound (I : Inv X pins σ H s) (r : Rep (gm T X) ρ S H) : ∀ n, FS X ρ s n (eqT S n)
  | 0 => fun _ _ _ _ _ _ h => by cases h
  | n + 1 => fun x y v u a b h x1 y1 r1 r2 => by
    rw [show eqT S (n + 1) x y = (eqI x y || eqO S (eqT S n) x y) from rfl, Bool.or_eq_true] at h
    rcases h with h | h
    · exact eqI_sound (G := gm T X) h x1 y1 r1 r2
    · exact (eqO_sound I r (eqT_sound I r n) h x1 y1 r1 r2).tree
end
end Mi
namespace Vi
open PySem PySem.Spec L2 Mi
def dSortSet : D → Option D
  | .lst xs => (allSome (xs.map toI)).bind fun ns => if ns.length < 1000 ∧ (sortU ns).length < 64 then some (.lst ((sortU ns).map .int)) else none
  | _ => none
theorem jo_sortSet : JO (o1 oSortSet) (p1 dSortSet) := jo1 fun S x d F r a h => by
  unfold dSortSet at h
  split at h
  · rename_i xs
    cases q : allSome (xs.map toI) with
    | none => rw [q] at h; cases h
    | some ns =>
      rw [q] at h
      simp only [Option.bind_some] at h
      split at h
      · rename_i hz
        cases h
        obtain ⟨i, vs, G1, rfl, h1, r1, _⟩ := a.rdL
        have e : rdInts S (.ref i) = some ns := by unfold rdInts; rw [h1]; exact RpL.conv toI_of r1 q
        rw [show oSortSet (.ref i) S = (if ns.length < 1000 ∧ (sortU ns).length < 64 then R.ok (.ref S.length) (S ++ [.lst ((sortU ns).map V.int)]) else .bad) by unfold oSortSet; rw [e], if_pos hz]
        exact .lst (w := false) (ints_rpl _) (all_ints _)
      · cases h
  · cases h
def tdL (f : D → D → Bool) : List D → List D → Bool
  | [], [] => true
  | x :: xs, y :: ys => f x y && tdL f xs ys
  | _, _ => false
def tdO (f : D → D → Bool) : D → D → Bool
  | .lst xs, .lst ys => tdL f xs ys
  | .tup xs, .tup ys => tdL f xs ys
  | .dk ks, .dk ls => decide (ks.map (·.1) = ls.map (·.1)) && decide ((ks.map (·.1)).Nodup) && tdL f (ks.map (·.2)) (ls.map (·.2))
  | _, _ => false
def tdI : D → D → Bool
  | .int i, .int j => decide (i = j)
  | .non, .non => true
  | _, _ => false
def tdT : Nat → D → D → Bool
  | 0 => fun _ _ => false
  | n + 1 => fun x y => tdI x y || tdO (tdT n) x y
def dEqT : D → D → Option D := fun x y => if tdO (tdT 8) x y = true then some (.bl true) else none
abbrev TS (S : Sto) (f : D → D → Bool) (g : V → V → Bool) : Prop := ∀ x y d e F G, Rp false S x d F → Rp false S y e G → f d e = true → g x y = true
theorem tdL_of {S : Sto} {f : D → D → Bool} {g : V → V → Bool} (ih : TS S f g) : ∀ {ds es : List D} {xs ys : List V} {F G : Ft}, RpL false S xs ds F → RpL false S ys es G → tdL f ds es = true → eqL g xs ys = true
  | [], [], _, _, _, _, .nil _, .nil _, _ => rfl
  | d :: ds, e :: es, _, _, _, _, .cons a b _, .cons a2 b2 _, h => by
    rw [tdL, Bool.and_eq_true] at h
    rw [eqL, ih _ _ _ _ _ _ a a2 h.1, tdL_of ih b b2 h.2, Bool.and_self]
theorem tdO_of {S : Sto} {f : D → D → Bool} {g : V → V → Bool} (ih : TS S f g) : TS S (tdO f) (eqO S g) := fun x y d e F G a b h => by
  unfold tdO at h
  split at h
  · obtain ⟨i, vs, _, rfl, h1, r1, _⟩ := a.rdL
    obtain ⟨j, us, _, rfl, h2, r2, _⟩ := b.rdL
    simp only [eqO, h1, h2]
    exact tdL_of ih r1 r2 h
  · obtain ⟨i, vs, rfl, h1, r1, n1, _⟩ := a.rdT
    obtain ⟨j, us, rfl, h2, r2, n2, _⟩ := b.rdT
    simp only [eqO, h1, h2, n1, n2]
    exact tdL_of ih r1 r2 h
  · obtain ⟨i, vs, _, rfl, h1, k1, r1, _, n1, m1⟩ := a.rdK
    obtain ⟨j, us, _, rfl, h2, k2, r2, _, n2, m2⟩ := b.rdK
    simp only [Bool.and_eq_true, decide_eq_true_eq] at h
    simp only [eqO, h1, h2, n1, n2, m1, m2, k1, k2, h.1.1, tdL_of ih r1 r2 h.2]
    simpa [h.1.1] using h.1.2
  · cases h
theorem tdI_of {S : Sto} : TS S tdI eqI := fun x y d e F G a b h => by
  unfold tdI at h
  split at h
  · cases a; cases b
    exact h
  · cases a; cases b
    rfl
  · cases h
theorem tdT_of {S : Sto} : ∀ n, TS S (tdT n) (eqT S n)
  | 0 => fun _ _ _ _ _ _ _ _ h => by cases h
  | n + 1 => fun x y d e F G a b h => by
    rw [show tdT (n + 1) d e = (tdI d e || tdO (tdT n) d e) from rfl, Bool.or_eq_true] at h
    show (eqI x y || eqO S (eqT S n) x y) = true
    rcases h with h | h
    · rw [tdI_of _ _ _ _ _ _ a b h]; rfl
    · rw [tdO_of (tdT_of n) _ _ _ _ _ _ a b h, Bool.or_true]
end Vi
namespace Mi
open PySem PySem.Spec L2
def oRevI : V → Sto → R V := fun x S => match rdL S x with
  | some xs => .ok (.ref S.length) (S ++ [.lst xs.reverse])
  | none => .bad
end Mi
namespace Vi
open PySem PySem.Spec L2 Mi
def dRevI : D → Option D
  | .lst xs => if xs.all imm = true then some (.lst xs.reverse) else none
  | _ => none
theorem jo_revI : JO (o1 oRevI) (p1 dRevI) := jo1 fun S x d F r a h => by
  unfold dRevI at h
  split at h
  · split at h
    · rename_i xs hz
      cases h
      obtain ⟨i, vs, G1, rfl, h1, r1, _⟩ := a.rdL
      obtain ⟨G, g, _⟩ := r1.rev
      simp only [oRevI, h1]
      exact .lst g (by rw [List.all_reverse]; exact hz)
    · cases h
  · cases h
end Vi
namespace L2
open PySem PySem.Spec
open PySem.SeqAt PySem.MeetsSeq PySem.MeetsSeq2 PySem.MeetsSeq3 PySem.SeqRoads2
open AutoSeq1 (wpAny_loadPart')
section
variable {prog : Program} {w : World}
theorem tuple_neIn (l b : Addr) (items items2 : Array Value) (n n2 : Nat) (dd dd2 : Option Addr) (sl sl2 : Array (Option Value)) (e : Nat → Bool) :
    MeetsIn prog w (Builtin.«tuple.__ne__» ⟨[.ref l, .ref b], []⟩)
      (fun A R s => s.heap.get? l = some { cls := .type "tuple", dict := dd, data := .seq items n, slots := sl } ∧ s.heap.get? b = some { cls := .type "tuple", dict := dd2, data := .seq items2 n2, slots := sl2 } ∧
        (∀ j (h1 : j < items.size) (h2 : j < items2.size), EqIn prog w A.in1 s items[j] items2[j] (e j)) ∧
        R (.ok (.ret (.bool (!((List.range (min items.size items2.size)).all e && items.size == items2.size))))) s) :=
  .of_wp fun A R s h => by
    obtain ⟨hp, g, d, tk, os⟩ := s; obtain ⟨hl, hb, he, h⟩ := h
    have f2 := AutoSeq1.sub_tuple_tuple
    have hZ : (items.toList.zip items2.toList).length = min items.size items2.size := by simp
    wp_walk using wpAny_loadPart' hl, wpAny_loadPart' hb, wpAny_forIn_list _ (fun rest b s' => b.1 = none ∧ s' = ⟨hp, g, d, tk, os⟩ ∧ ∃ i, rest = (items.toList.zip items2.toList).drop i ∧
      R (.ok (.ret (.bool (!(((List.range (min items.size items2.size)).drop i).all e && items.size == items2.size))))) ⟨hp, g, d, tk, os⟩) _
    case turn =>
      rintro ⟨y, x⟩ rest b s' ⟨hb', rfl, i, hz, hR⟩
      have hlt : i < (items.toList.zip items2.toList).length := by
        rcases Nat.lt_or_ge i (items.toList.zip items2.toList).length with h' | h'
        · exact h'
        · rw [List.drop_of_length_le h'] at hz; cases hz
      have hm : i < min items.size items2.size := hZ ▸ hlt
      have h1 : i < items.size := Nat.lt_of_lt_of_le hm (Nat.min_le_left _ _)
      have h2 : i < items2.size := Nat.lt_of_lt_of_le hm (Nat.min_le_right _ _)
      rw [List.drop_eq_getElem_cons hlt] at hz
      injection hz with hyx hrest
      have hy : y = items[i] := by have := congrArg Prod.fst hyx; simpa using this
      have hx : x = items2[i] := by have := congrArg Prod.snd hyx; simpa using this
      subst hy hx
      have hd : (List.range (min items.size items2.size)).drop i = i :: (List.range (min items.size items2.size)).drop (i + 1) := by simp [List.drop_eq_getElem_cons, hm]
      rw [hd, List.all_cons] at hR
      refine wpAny_bind (he i h1 h2 _ _ ?_)
      cases hy : e i with
      | true =>
        rw [hy] at hR
        wp_walk
        exact ⟨rfl, rfl, i + 1, hrest, by simpa using hR⟩
      | false =>
        rw [hy] at hR
        wp_walk
        exact ⟨_, rfl, by simpa using hR⟩
    case fin =>
      rintro ⟨b1, b2⟩ s' ⟨hb', rfl, i, hz, hR⟩
      simp only at hb'
      subst hb'
      have hge : min items.size items2.size ≤ i := by
        rcases Nat.lt_or_ge i (items.toList.zip items2.toList).length with h' | h'
        · rw [List.drop_eq_getElem_cons h'] at hz; cases hz
        · exact hZ ▸ h'
      rw [List.drop_of_length_le (by simpa using hge)] at hR
      wp_walk
      exact ⟨_, rfl, by simpa [Builtin.Tuple.tupleCompareSizes, bne] using hR⟩
    case h =>
      exact ⟨rfl, rfl, 0, rfl, by simpa using h⟩
end
section
variable {prog : Program} {w : World} {A : Around} {s : Shared}
theorem rcNeIn_tuples {E : Value → Shared → Prop} {l b : Addr} {items items2 : Array Value} {e : Nat → Bool} {Q : Value → Shared → Prop} (hl : s.heap.IsTuple l items) (hb : s.heap.IsTuple b items2) (hu : A.units < cLine)
    (he : ∀ j (h1 : j < items.size) (h2 : j < items2.size), EqIn prog w A.in1 s items[j] items2[j] (e j)) (h : Q (.bool (!((List.range (min items.size items2.size)).all e && items.size == items2.size))) s) :
    wpAny (model prog w) A (richCompare .NotEq (.ref l) (.ref b)) Q E s := by
  obtain ⟨⟨cls, dd, data, sl⟩, ho, hc, n, hd⟩ := id hl
  obtain ⟨⟨cls2, dd2, data2, sl2⟩, ho2, hc2, n2, hd2⟩ := id hb
  simp only at hc hd hc2 hd2
  subst hc hd hc2 hd2
  exact wpAny_richCompare_same_room (T := "tuple") (op := .NotEq) ⟨_, ho, rfl⟩ ⟨_, ho2, rfl⟩ F.slot_tuple_ne (call_meetsIn F.slot_tuple_ne ⟨_, ho, rfl⟩ F.entry_tuple_ne (F.args_tuple_ne_2 _ _) (tuple_neIn l b items items2 n n2 dd dd2 sl sl2 e)
    ⟨ho, ho2, he, show Value.bool (!((List.range (min items.size items2.size)).all e && items.size == items2.size)) ≠ Value.notImplemented ∧ Q _ s from ⟨(fun x => nomatch x), h⟩⟩) hu
end
end L2
namespace Mi
open PySem PySem.Spec L2
open PySem.W (EqTree)
def oNeT : V → V → Sto → R V := fun x y S => match Mi.rdT S x, Mi.rdT S y with
  | some xs, some ys => if eqL (eqT S 8) xs ys = true then .ok (.bl false) S else .bad
  | _, _ => .bad
section
variable {T : Tab} {X : Cx}
theorem op2_neT (hu : X.A.units + 64 < cLine) : Op2 T X (compareOp .NotEq) oNeT := by
  refine ⟨opR_of fun pins s σ H x y v u Q ρ S a b τ I rx ry r va vb h => ?_, fun x y S => ?_⟩
  · unfold oNeT at h
    split at h
    · rename_i xs ys e1 e2
      split at h
      · rename_i hz
        obtain ⟨ad, ws, rfl, eh, vr⟩ := r.rdT e1 va
        obtain ⟨bd, zs, rfl, eh2, vr2⟩ := r.rdT e2 vb
        have ea : v = .ref ad := rx
        have eb : u = .ref bd := ry
        subst ea; subst eb
        obtain ⟨as, q1, ⟨o1, g1, c1, n1, d1⟩, _⟩ := I.tuple (.inl (.inl eh))
        obtain ⟨bs, q2, ⟨o2, g2, c2, n2, d2⟩, _⟩ := I.tuple (.inl (.inl eh2))
        have pr := eqL_sound (eqT_sound I r 8) hz vr vr2 q1 q2
        have hsz : as.toArray.size = bs.toArray.size := by simpa using prd_len pr
        refine rcNeIn_tuples (e := fun _ => true) ⟨o1, g1, c1, n1, d1⟩ ⟨o2, g2, c2, n2, d2⟩ (by omega) (fun j h1 h2 => EqTree.at (n := 8) (by simpa using prd_at pr j (by simpa using h1) (by simpa using h2)) _ (by show X.A.units + 1 + 8 < cLine; omega)) ?_
        rw [all_true, hsz, beq_self_eq_true]
        exact ⟨.bl false, H, I, rfl, h ρ H _ Ext.refl r rfl⟩
      · exact h.elim
    · exact h.elim
  · unfold oNeT
    repeat' split
    all_goals trivial
end
end Mi
namespace Vi
open PySem PySem.Spec L2 Mi
def dNeT : D → D → Option D
  | .tup xs, .tup ys => if tdL (tdT 8) xs ys = true then some (.bl false) else none
  | _, _ => none
theorem jo_neT : JO (o2 oNeT) (p2 dNeT) := jo2 fun S x y d e F G r a b h => by
  unfold dNeT at h
  split at h
  · split at h
    · rename_i z
      cases h
      obtain ⟨i, vs, rfl, h1, r1, _, _⟩ := a.rdT
      obtain ⟨j, us, rfl, h2, r2, _, _⟩ := b.rdT
      have q := tdL_of (tdT_of 8) r1 r2 z
      simp only [oNeT, h1, h2, q, if_true]
      exact .bl
    · cases h
  · cases h
end Vi
namespace Vi
open PySem PySem.Spec L2 Mi
/-- what a turn of a loop's body must come to -/
def TurnQ (N : Env → Prop) (Q : XS → Prop) : XS → Prop
  | .nx e => N e
  | .ct e => N e
  | .bk e => Q (.nx e)
  | x => Q x
section
variable (N : Env → Prop) (Q : XS → Prop) (e : Env)
@[simp] theorem turn_nx : TurnQ N Q (.nx e) = N e := rfl
@[simp] theorem turn_ct : TurnQ N Q (.ct e) = N e := rfl
@[simp] theorem turn_bk : TurnQ N Q (.bk e) = Q (.nx e) := rfl
@[simp] theorem turn_rt (d : D) (o : Og) : TurnQ N Q (.rt d o e) = Q (.rt d o e) := rfl
@[simp] theorem turn_exc (c : Nat) (x : Option V) : TurnQ N Q (.exc c x e) = Q (.exc c x e) := rfl
end
theorem for_stepQ {tg : TgD} {b : PS} {it : ItD} {r : List ItD} {e e1 : Env} {Q : XS → Prop} (h1 : tg it e = some e1) (h2 : TurnQ (fun e2 => Q (pFor1 tg b r e2)) Q (b e1)) : Q (pFor1 tg b (it :: r) e) := by
  unfold pFor1
  rw [h1]
  dsimp only
  generalize b e1 = x at h2 ⊢
  cases x <;> exact h2
theorem TurnQ.mono {N N' : Env → Prop} {Q : XS → Prop} (h : ∀ e, N e → N' e) {x : XS} (t : TurnQ N Q x) : TurnQ N' Q x := by
  cases x with
  | nx e => exact h _ t
  | ct e => exact h _ t
  | bk e => exact t
  | rt _ _ _ => exact t
  | exc _ _ _ => exact t
  | bad => exact t
/-- a loop over values of Lean -/
theorem for_Q {α : Type} {tg : TgD} {b : PS} {Q : XS → Prop} (g : α → ItD) (P : List α → Env → Prop) (h : ∀ a r e, P (a :: r) e → ∃ e1, tg (g a) e = some e1 ∧ TurnQ (P r) Q (b e1)) (hd : ∀ e, P [] e → Q (.nx e)) : ∀ {l : List α} {e : Env}, P l e → Q (pFor1 tg b (l.map g) e)
  | [], e, p => hd e p
  | a :: r, e, p => by
    obtain ⟨e1, h1, h2⟩ := h a r e p
    exact for_stepQ h1 (TurnQ.mono (fun e2 p2 => for_Q g P h hd p2) h2)
/-- a loop that tells d at the first item that is not so -/
theorem for_dec {α : Type} {tg : TgD} {b : PS} (g : α → ItD) (p : α → Bool) (R : Env → Prop) (d : D) : ∀ (l : List α), (∀ a e, a ∈ l → R e → ∃ e1 e2, tg (g a) e = some e1 ∧ R e2 ∧ b e1 = if p a = true then .nx e2 else .rt d .fr e2) → ∀ (e : Env), R e → ∃ e', R e' ∧ pFor1 tg b (l.map g) e = if l.all p = true then .nx e' else .rt d .fr e'
  | [], h, e, r => ⟨e, r, rfl⟩
  | a :: l, h, e, r => by
    obtain ⟨e1, e2, h1, h2, h3⟩ := h a e List.mem_cons_self r
    obtain ⟨e', h4, h5⟩ := for_dec g p R d l (fun a e q => h a e (List.mem_cons_of_mem _ q)) e2 h2
    rw [List.map_cons]
    unfold pFor1
    rw [h1]
    dsimp only
    rw [h3]
    by_cases z : p a = true
    · rw [if_pos z]
      refine ⟨e', h4, ?_⟩
      dsimp only
      rw [h5, List.all_cons, z, Bool.true_and]
    · rw [if_neg z]
      refine ⟨e2, h2, ?_⟩
      dsimp only
      rw [List.all_cons]
      simp [z]
@[simp] theorem frz1_ow' (d : D) : frz1 (.ow d) = .fz d := rfl
@[simp] theorem frz1_no' : frz1 .no = .no := rfl
@[simp] theorem frz1_fz' (d : D) : frz1 (.fz d) = .fz d := rfl
def kZip (x : D × Og) (q : Bool) : D × Og → Bool → Env → X (List ItD × Bool) := fun y q' e2 => if (q && q') = true then (match x.1, y.1 with
  | .lst xs, .lst ys => .ok (zipD xs ys, okSrc x.2 true && okSrc y.2 true) true e2
  | _, _ => .bad) else .bad
@[simp] theorem pZip_at (a b : PE) (e : Env) : pZip a b e = (a e).bind fun x q e1 => (b e1).bind (kZip x q) := rfl
@[simp] theorem kZip_lst (xs ys : List D) (o o' : Og) (q q' : Bool) (e : Env) : kZip (.lst xs, o) q (.lst ys, o') q' e = if (q && q') = true then .ok (zipD xs ys, okSrc o true && okSrc o' true) true e else .bad := rfl
def kCatN (sub : Nat → Bool) (s : PS) : XS → XS
  | .exc c x e1 => if sub c = true then unB (s e1) else .exc c x e1
  | r => r
@[simp] theorem pTryN_ap (b : PS) (sub : Nat → Bool) (s : PS) (e : Env) : pTryN b sub s e = kCatN sub s (b e) := by
  unfold pTryN kCatN
  cases b e <;> rfl
section
variable (sub : Nat → Bool) (s : PS) (e : Env)
@[simp] theorem kCatN_nx : kCatN sub s (.nx e) = .nx e := rfl
@[simp] theorem kCatN_rt (d : D) (o : Og) : kCatN sub s (.rt d o e) = .rt d o e := rfl
@[simp] theorem kCatN_exc (c : Nat) (x : Option V) : kCatN sub s (.exc c x e) = if sub c = true then unB (s e) else .exc c x e := rfl
@[simp] theorem unB_nx : unB (.nx e) = .nx e := rfl
@[simp] theorem unB_rt (d : D) (o : Og) : unB (.rt d o e) = .rt d o e := rfl
end
end Vi
namespace Vi
open PySem PySem.Spec L2 Mi
def hid1 : Sl → Sl
  | .ow _ => .no
  | s => s
def hidO (e : Env) : Env := e.map hid1
theorem EnvR.hid {S : Sto} : ∀ {σ : St} {e : Env} {F Z : Ft}, EnvR S σ e F Z → EnvR S σ (hidO e) (fun _ => 0) Z
  | _, _, _, _, .nil a b => .nil (fun _ => rfl) b
  | _, _, _, _, .no h => .no h.hid
  | _, _, _, _, .ow r h z => .no h.hid
  | _, _, F, _, .fz r h z => .fz r h.hid z
theorem EI.hid {S : Sto} {σ : St} {e : Env} {F Z : Ft} (I : EI S σ e F Z) : EI S σ (hidO e) (fun _ => 0) Z := ⟨I.r.hid, fun _ => by omega, fun _ _ => rfl⟩
@[simp] theorem hidO_nil : hidO [] = [] := rfl
@[simp] theorem hidO_ow (d : D) (e : Env) : hidO (.ow d :: e) = .no :: hidO e := rfl
@[simp] theorem hidO_fz (d : D) (e : Env) : hidO (.fz d :: e) = .fz d :: hidO e := rfl
@[simp] theorem hidO_no (e : Env) : hidO (.no :: e) = .no :: hidO e := rfl
def zOk (x : D × Og) : Bool := imm x.1 || decide (x.2 = .zn)
theorem avs {S S' : Sto} {F Z F' T U : Ft} {vs : List V} {ds : List (D × Og)} (h : AvR S F Z S' F' T vs ds U) (hs : ds.all zOk = true) : ∃ G, RpL false S' vs (ds.map (·.1)) G ∧ ∀ i, 0 < G i → F' i = 0 ∧ (i < S.length → 0 < Z i) := by
  induction h with
  | nil z => exact ⟨fun _ => 0, .nil fun _ => rfl, fun i q => absurd q (by simp)⟩
  | @cons U U2 Fd v d o vs ds r t _ hu ih =>
    rw [List.all_cons, Bool.and_eq_true] at hs
    obtain ⟨G, g1, g2⟩ := ih hs.2
    refine ⟨fun i => Fd i + G i, .cons r.relax g1 fun _ => rfl, fun i q => ?_⟩
    have q : 0 < Fd i + G i := q
    by_cases y : 0 < G i
    · exact g2 i y
    · have y : 0 < Fd i := by omega
      have h1 : (imm d || decide (o = .zn)) = true := hs.1
      rw [Bool.or_eq_true] at h1
      rcases h1 with h1 | h1
      · have := r.imm0 h1 i; omega
      · have h1 := of_decide_eq_true h1
        subst h1
        exact ⟨(t i y).1, (t i y).2.2⟩
def pTupZ (p : PA) : PE := fun e => (p e).bind fun ds q e1 => if ds.length ≤ sizeLine ∧ ds.all zOk = true then .ok (.tup (ds.map (·.1)), .zn) q e1 else .bad
@[simp] theorem pTupZ_ap (p : PA) (e : Env) : pTupZ p e = (p e).bind fun ds q e1 => if ds.length ≤ sizeLine ∧ ds.all zOk = true then .ok (.tup (ds.map (·.1)), .zn) q e1 else .bad := Eq.trans rfl rfl
def drp1 : Sl → Sl
  | .fz _ => .no
  | s => s
def drpZ (e : Env) : Env := e.map drp1
@[simp] theorem drpZ_nil : drpZ [] = [] := rfl
@[simp] theorem drpZ_ow (d : D) (e : Env) : drpZ (.ow d :: e) = .ow d :: drpZ e := rfl
@[simp] theorem drpZ_fz (d : D) (e : Env) : drpZ (.fz d :: e) = .no :: drpZ e := rfl
@[simp] theorem drpZ_no (e : Env) : drpZ (.no :: e) = .no :: drpZ e := rfl
theorem EnvR.drp {S : Sto} : ∀ {σ : St} {e : Env} {F Z : Ft}, EnvR S σ e F Z → EnvR S σ (drpZ e) F (fun _ => 0)
  | _, _, _, _, .nil a b => .nil a fun _ => rfl
  | _, _, _, _, .no h => .no h.drp
  | _, _, _, _, .ow r h z => .ow r h.drp z
  | _, _, F, _, .fz r h z => .no h.drp
def endK : XS → XS
  | .rt d _ e => if imm d = true then .rt d .fr (drpZ e) else .bad
  | .exc c x e => .exc c x (drpZ e)
  | _ => .bad
@[simp] theorem endK_rt (d : D) (o : Og) (e : Env) : endK (.rt d o e) = if imm d = true then .rt d .fr (drpZ e) else .bad := rfl
@[simp] theorem endK_exc (c : Nat) (x : Option V) (e : Env) : endK (.exc c x e) = .exc c x (drpZ e) := rfl
@[simp] theorem endK_bad : endK .bad = .bad := rfl
section
variable {P : List Nat} {m : ME} {p : PE} {mr : MS} {pr : PS}
def kSetFz (i : Nat) (rest : PS) (x : D × Og) (e1 : Env) : XS := if x.2.st = true then endK (rest (e1.set i (.fz x.1))) else .bad
def pSetFz (i : Nat) (p : PE) (rest : PS) : PS := fun e => (p e).lift fun x _ e1 => kSetFz i rest x e1
theorem endZ {S S1 : Sto} {σ σ1 : St} {e1 : Env} {F Z F1 Z1 F2 Z2 : Ft} (hr : JS P mr pr) (n : Nx S F Z S1 F1 Z1) (pn : Pin P σ σ1) (r2 : EnvR S1 σ1 e1 F2 Z2) (hF : ∀ j, F2 j ≤ F1 j) (hd : ∀ j, 0 < Z2 j → F2 j = 0) : PoS P S σ F Z (mr σ1 S1) (endK (pr e1)) := by
  have I3 : EI S1 σ1 e1 F2 Z2 := ⟨r2, fun j => by have := hF j; have := n.nd j; omega, hd⟩
  have hb := hr _ _ _ _ _ I3
  have nx : ∀ {S' : Sto} {F' Z' : Ft}, Nx S1 F2 Z2 S' F' Z' → Nx S F Z S' F' fun _ => 0 := fun {S' F' Z'} n2 =>
    ⟨Nat.le_trans n.le n2.le, fun j o hj hz => by
      have hl := (List.getElem?_eq_some_iff.mp hj).1
      have y := n.fr j o hj hz
      exact n2.fr j o y (by have := hF j; have := n.sub j hl; omega), n2.nd, fun j hj => by
        have a1 := n2.sub j (Nat.lt_of_lt_of_le hj n.le)
        have a2 := hF j
        have a3 := n.sub j hj
        omega, fun _ _ y => absurd y (by simp), fun _ y => absurd y (by simp)⟩
  cases hx2 : pr e1 with
  | nx e' => trivial
  | bk e' => trivial
  | ct e' => trivial
  | bad => trivial
  | exc c x e' =>
    rw [hx2] at hb
    obtain ⟨σ', S', hq, F', Z', n2, r3, pn2⟩ := hb
    exact ⟨σ', S', hq, _, _, nx n2, r3.drp, pn.trans pn2⟩
  | rt d o e' =>
    rw [hx2] at hb
    obtain ⟨v, S', σ', F', Z', Fd, hq, n2, r3, pn2, rv, t⟩ := hb
    show PoS P S σ F Z _ (if imm d = true then _ else _)
    by_cases y : imm d = true
    · rw [if_pos y]
      have zf : Zf Fd := rv.imm0 y
      have nn := nx n2
      refine ⟨v, S', σ', F', fun _ => 0, Fd, hq, nn, r3.drp, pn.trans pn2, rv.relax.immW y, fun j => ?_, fun j hj => ?_, fun j hj => ?_⟩
      · show F' j + Fd j ≤ 1
        rw [zf j]; have := nn.nd j; omega
      · show F' j + Fd j ≤ F j
        rw [zf j]; have := nn.sub j hj; omega
      · exact zf j
    · rw [if_neg y]; trivial
/-- a slot, frozen from here -/
def pFrzR (i : Nat) (rest : PS) : PS := fun e => match e[i]? with
  | some (.ow d) => endK (rest (e.set i (.fz d)))
  | _ => .bad
theorem js_frzR (i : Nat) (hr : JS P mr pr) : JS P mr (pFrzR i pr) := by
  intro S σ e F Z I
  unfold pFrzR
  split
  · rename_i d hs
    obtain ⟨A, B, C, E, hF, hZ, ⟨hB, v, hv, rv⟩, k1, k2, k3⟩ := I.r.slot hs
    have es : σ.set i (some v) = σ := by
      obtain ⟨hlt, hq⟩ := List.getElem?_eq_some_iff.mp hv
      rw [← hq]
      exact List.set_getElem_self hlt
    have r2 := k3 v d A rv.weak
    rw [es] at r2
    refine endZ hr (.refl I) .refl r2 (fun j => by have := hF j; omega) fun j y => ?_
    have y : 0 < A j + E j := y
    have a1 := hF j
    have a2 := hZ j
    have a3 := I.nd j
    by_cases w : 0 < A j
    · omega
    · have := I.dj j (by omega)
      omega
  · trivial
end
@[simp] theorem pSetFz_ap (i : Nat) (p : PE) (rest : PS) (e : Env) : pSetFz i p rest e = (p e).lift fun x _ e1 => kSetFz i rest x e1 := Eq.trans rfl rfl
end Vi
namespace Vi
open PySem PySem.Spec L2 Mi
theorem avh {S S' : Sto} {Z F' T U : Ft} {vs : List V} {ds : List (D × Og)} (h : AvR S (fun _ => 0) Z S' F' T vs ds U) (hs : (ds.all fun x => x.2.st) = true) (ht : ∀ i, i < S.length → F' i + T i ≤ 0) : ∃ G, RpL false S' vs (ds.map (·.1)) G ∧ ∀ i, 0 < G i → i < S.length → 0 < Z i := by
  induction h with
  | nil z => exact ⟨fun _ => 0, .nil fun _ => rfl, fun i q => absurd q (by simp)⟩
  | @cons U U2 Fd v d o vs ds r t _ hu ih =>
    rw [List.all_cons, Bool.and_eq_true] at hs
    obtain ⟨G, g1, g2⟩ := ih hs.2
    refine ⟨fun i => Fd i + G i, .cons r.relax g1 fun _ => rfl, fun i q hl => ?_⟩
    have q : 0 < Fd i + G i := q
    by_cases y : 0 < G i
    · exact g2 i y hl
    · have y : 0 < Fd i := by omega
      cases o with
      | fr =>
        have t1 : Fd i ≤ T i := t i
        have := ht i hl
        omega
      | zn => exact (t i y).2.2 hl
      | an => simp at hs
end Vi
namespace Vi
open PySem PySem.Spec L2 Mi
def pTupH (p : PA) : PE := fun e => match p (hidO e) with
  | .ok ds true _ => if ds.length ≤ sizeLine ∧ (ds.all fun x => x.2.st) = true then .ok (.tup (ds.map (·.1)), .zn) true e else .bad
  | _ => .bad
theorem je_tupH {m : MA} {p : PA} (h : JA m p) : JE (mTup m) (pTupH p) := by
  intro S σ e F Z I
  have hh := h S σ (hidO e) _ _ I.hid
  unfold pTupH
  split
  · rename_i ds e1 hx
    rw [hx] at hh
    obtain ⟨vs, S1, F1, Z1, hr, n1, er1, ⟨T, av, t1, t2, t3⟩, qt⟩ := hh
    have qt := qt rfl
    split
    · rename_i z
      have e0 : mTup m σ S = .ok (.ref S1.length) (S1 ++ [.tup vs]) := by
        unfold mTup
        rw [hr]
        show (if vs.length ≤ sizeLine then _ else _) = _
        rw [if_pos (by rw [av.len]; exact z.1)]
      rw [e0]
      obtain ⟨G, g1, g2⟩ := avh av z.2 t2
      have p1 := pre_add S1 [Ob.tup vs]
      have e1' : (S1 ++ [Ob.tup vs])[S1.length]? = some (.tup vs) := by rw [get_new0]; rfl
      refine .fresh I (qt.p.trans p1) ⟨G, .tup e1' (g1.mono (.pre p1)), fun i hi => ?_⟩
      have hzi : i < S.length → 0 < Z i := fun hl => g2 i hi hl
      refine ⟨?_, hzi⟩
      by_cases y : i < S.length
      · exact I.dj i (hzi y)
      · exact I.r.boundF (Nat.le_of_not_lt y)
    · trivial
  · trivial
end Vi
namespace Mi
open PySem PySem.Spec L2
open PyProof.Rows hiding St
def okMul (z : Str) (k : Int) : Prop := -1000 ≤ k ∧ k ≤ 1000 ∧ z.length ≤ 1000
instance (z : Str) (k : Int) : Decidable (okMul z k) := by unfold okMul; exact inferInstance
theorem okMul.ok {z : Str} {k : Int} (h : okMul z k) : MulOk z k := by
  obtain ⟨h1, h2, h3⟩ := h
  have hz : z.length * k.toNat ≤ 1000 * 1000 := Nat.mul_le_mul h3 (by omega)
  refine ⟨?_, fun h0 _ q => ?_, fun h0 _ => ?_⟩
  · rw [Bool.or_eq_false_iff]
    exact ⟨decide_eq_false (by omega), decide_eq_false (by omega)⟩
  · have : (z.length : Int) ≤ (2 ^ 63 - 1) / k := by
      rw [Int.le_ediv_iff_mul_le (by omega)]
      have : (z.length : Int) * k ≤ 1000 * 1000 := Int.mul_le_mul (by omega) h2 (by omega) (by omega)
      omega
    omega
  · unfold Builtin.Str.tooLong
    exact decide_eq_false (by unfold sizeLine; omega)
end Mi
namespace Vi
open PySem PySem.Spec L2
open PyProof.Rows hiding St
open Mi
end Vi
namespace Vi
open PySem PySem.Spec L2 Mi
theorem mDict1 (m : ME) (σ : St) (S : Sto) : mCall oDict (mCons m mNil) σ S = (m σ S).bind fun v S1 => oDict [v] S1 := by
  rw [mCall_ap, mCons_ap]
  cases m σ S with
  | ok v S1 => rw [bind_ok, mNil_ap, bind_ok, bind_ok, bind_ok]
  | exc c x S1 => rfl
  | bad => rfl
theorem pairsM {S : Sto} : ∀ {vs : List V} {xs : List D} {G : Ft} {ps : List (Key × D)}, RpL true S vs xs G → allSome (xs.map pairD) = some ps → ∃ kvs, allSome (vs.map (rdPair S)) = some kvs ∧ kvs.map (·.1) = ps.map (·.1) ∧ ∃ G', RpL true S (kvs.map (·.2)) (ps.map (·.2)) G' ∧ ∀ i, G' i ≤ G i
  | _, _, G, ps, .nil z, h => by
    cases h
    exact ⟨[], rfl, rfl, fun _ => 0, .nil fun _ => rfl, fun i => Nat.zero_le _⟩
  | _, _, G, ps, .cons (d := d) (ds := ds) (vs := vs) a b hz, h => by
    rw [List.map_cons] at h
    unfold allSome at h
    split at h
    · rename_i q; cases q
    · cases h
    · rename_i p' r' q
      injection q with q1 q2
      subst q2
      cases e2 : allSome (ds.map pairD) with
      | none => rw [e2] at h; cases h
      | some es =>
        rw [e2] at h
        cases h
        obtain ⟨kvs, h1, h2, G', h3, h4⟩ := pairsM b e2
        unfold pairD at q1
        split at q1
        · rename_i k dd
          cases hk : keyD k with
          | none => rw [hk] at q1; cases q1
          | some kk =>
            rw [hk] at q1
            cases q1
            obtain ⟨i, us, rfl, e3, r3, _⟩ := a.rdT
            cases r3 with
            | @cons _ F1 F2 va _ us2 _ ra rb hz1 =>
              cases rb with
              | @cons _ F3 F4 vd _ us3 _ rd rn hz2 =>
                cases rn with
                | nil z4 =>
                  have hk2 := ra.key hk
                  refine ⟨(kk, vd) :: kvs, ?_, by rw [List.map_cons, List.map_cons, h2], _, .cons rd h3 fun _ => rfl, fun i => ?_⟩
                  · rw [List.map_cons]
                    have e5 : rdPair S (.ref i) = some (kk, vd) := by
                      unfold rdPair
                      rw [e3]
                      dsimp only
                      rw [hk2]
                      rfl
                    unfold allSome
                    rw [e5]
                    dsimp only
                    rw [h1]
                    rfl
                  · have := h4 i; have := hz i; have := hz1 i; have := hz2 i
                    omega
        · cases q1
theorem mergeK_nd : ∀ (more : List (Key × V)) (kvs : List (Key × V)), ((kvs ++ more).map (·.1)).Nodup → mergeK kvs more = kvs ++ more
  | [], kvs, _ => by unfold mergeK; simp
  | p :: more, kvs, h => by
    have h0 : p.1 ∉ kvs.map (·.1) := by
      rw [List.map_append, List.map_cons, List.nodup_append] at h
      exact fun q => h.2.2 _ q _ List.mem_cons_self rfl
    have hp : putK kvs p.1 p.2 = kvs ++ [p] := by
      unfold putK
      rw [if_neg]
      intro q
      rw [List.any_eq_true] at q
      obtain ⟨x, hx, e⟩ := q
      exact h0 (by rw [← of_decide_eq_true e]; exact List.mem_map.mpr ⟨x, hx, rfl⟩)
    have := mergeK_nd more (kvs ++ [p]) (by simpa using h)
    unfold mergeK at this ⊢
    rw [List.foldl_cons, hp, this]
    simp
def dictM (q : Bool) (e : Env) : D × Og → X (D × Og)
  | (.lst xs, .fr) => (match allSome (xs.map pairD) with
    | some ps => if ndB ps = true then .ok (.dk ps, .fr) q e else .bad
    | none => .bad)
  | _ => .bad
def pDictM (a : PE) : PE := fun e => (a e).bind fun x q e1 => dictM q e1 x
theorem je_dictM {ma : ME} {pa : PE} (ha : JE ma pa) : JE (mCall oDict (mCons ma mNil)) (pDictM pa) := by
  intro S σ e F Z I
  rw [mDict1]
  refine Po.bind (ha S σ e F Z I) fun ⟨d, o⟩ q e1 v S1 F1 Z1 hx n I1 ⟨Fd, r, t⟩ kq => ?_
  unfold dictM
  split
  · rename_i xs heq
    cases heq
    cases hp : allSome (xs.map pairD) with
    | none => trivial
    | some ps =>
      dsimp only
      by_cases hnd : ndB ps = true
      · rw [if_pos hnd]
        obtain ⟨i, us, A, rfl, es, ra, zz⟩ := r.lstT
        obtain ⟨kvs, h1, h2, G', h3, h4⟩ := pairsM ra hp
        have nd : (kvs.map (·.1)).Nodup := by rw [h2]; exact of_decide_eq_true hnd
        have hm : mergeK [] kvs = kvs := mergeK_nd kvs [] (by simpa using nd)
        have e0 : oDict [V.ref i] S1 = .ok (.ref S1.length) (S1 ++ [.dK kvs]) := by
          have q1 : rdL S1 (.ref i) = some us := by simp only [rdL, es]
          have q2 : rdK S1 (.ref i) = none := by simp only [rdK, es]
          unfold oDict
          simp only [q1, q2, h1, hm]
        have p := pre_add S1 [Ob.dK kvs]
        have e1' : (S1 ++ [Ob.dK kvs])[S1.length]? = some (.dK kvs) := by rw [get_new0]; rfl
        have n' := nx_pre I1 p
        have bF := fun {i} (h : S1.length ≤ i) => I1.r.boundF h
        have bZ := fun {i} (h : S1.length ≤ i) => I1.r.boundZ h
        have hab : ∀ k, G' k ≤ Fd k := fun k => by have := h4 k; have := zz k; omega
        refine ⟨_, _, F1, Z1, e0, n.trans n', I1.r.mono (.pre p), ⟨fun k => G' k + if k = S1.length then 1 else 0, .dk (.inl e1') h2 (h3.mono (.pre p)) fun _ => rfl, fun k => ?_, fun k hk => ?_, fun k hk => ?_⟩, fun hk => (kq hk).trans ⟨rfl, p, fun _ => rfl, fun _ => rfl⟩⟩
        · show F1 k + (G' k + if k = S1.length then 1 else 0) ≤ 1
          by_cases y : k = S1.length
          · have := h3.bound (i := k) (by omega)
            rw [if_pos y, this, bF (by omega)]; omega
          · rw [if_neg y]; have := t.1 k; have := hab k; omega
        · show F1 k + (G' k + if k = S1.length then 1 else 0) ≤ F k
          rw [if_neg (by have := n.le; omega)]; have := t.2.1 k hk; have := hab k; omega
        · show G' k + (if k = S1.length then 1 else 0) = 0
          have := t.2.2 k hk
          by_cases y : k = S1.length
          · rw [bZ (by omega)] at hk; omega
          · rw [if_neg y]; have := hab k; omega
      · rw [if_neg hnd]; trivial
  · trivial
end Vi
namespace Vi
open PySem PySem.Spec L2 Mi
theorem JS.sub {P Q : List Nat} {m : MS} {p : PS} (h : JS P m p) (hs : ∀ x ∈ Q, x ∈ P) : JS Q m p := by
  intro S σ e F Z I
  have k := h S σ e F Z I
  have aft : ∀ {S' σ' e'}, Aft P S σ F Z S' σ' e' → Aft Q S σ F Z S' σ' e' := fun ⟨F', Z', n, r, pn⟩ => ⟨F', Z', n, r, fun j hj => pn j (hs j hj)⟩
  cases hx : p e with
  | nx e' => rw [hx] at k; obtain ⟨a, b, c, d⟩ := k; exact ⟨a, b, c, aft d⟩
  | bk e' => rw [hx] at k; obtain ⟨a, b, c, d⟩ := k; exact ⟨a, b, c, aft d⟩
  | ct e' => rw [hx] at k; obtain ⟨a, b, c, d⟩ := k; exact ⟨a, b, c, aft d⟩
  | exc c x e' => rw [hx] at k; obtain ⟨a, b, c, d⟩ := k; exact ⟨a, b, c, aft d⟩
  | rt d o e' => rw [hx] at k; obtain ⟨v, S', σ', F', Z', Fd, h1, h2, h3, h4, h5⟩ := k; exact ⟨v, S', σ', F', Z', Fd, h1, h2, h3, fun j hj => h4 j (hs j hj), h5⟩
  | bad => trivial
end Vi
namespace RT
open PySem PySem.Spec PyProof.Rows
section
variable {prog : Program} {w : World} {A : Around} {E : Value → Shared → Prop} {s : Shared}
theorem list_init_rev {it l S : Addr} {items : Array Value} {R : Result → Shared → Prop} (hh : A.handled = none) (hit : s.heap.IsRevIter it l ((items.size : Int) - 1)) (hl : s.heap.IsList l items) (hne : l ≠ it) (hn : items.size ≤ sizeLine)
    (hSi : S ≠ it) (hSl : S ≠ l) (hS : s.heap.get? S = some { cls := .type "list", data := .seq #[] })
    (hR : ∀ s' acc' c', Moved [S, it] (fun a b => b = a) s s' → s'.heap.get? S = some { cls := .type "list", dict := none, data := .seq acc' c', slots := #[] } → ItemsOf (fun i v => items[items.size - 1 - i]? = some v) acc' items.size → R (.ok (.ret .none)) s') :
    wpAny (model prog w) A.in1 (Builtin.«list.__init__» ⟨[.ref S, .ref it], []⟩)
      (fun fin s' => match fin with | .done f => R (.ok f) s' | .again c' => c'.quiet = true ∧ codeAny (model prog w) A c' R s') (fun e s' => R (.error e) s') s := by
  have W := (Walks.listRev (prog := prog) (w := w) (A := A.in1) hh it l hne items).toS
  have hSf : S ∉ [it, l] := by simp only [List.mem_cons, List.not_mem_nil, or_false, not_or]; exact ⟨hSi, hSl⟩
  show wpAny _ A.in1 (do let old ← Builtin.List.listItems (.ref S); Builtin.List.listUpdate (.ref S) (fun _ => #[]); letGo old.toList.reverse; Builtin.List.listExtendWith (.ref S) (.ref it) .none) _ _ s
  refine wpAny_bind ?_
  unfold Builtin.List.listItems
  refine wpAny_bind (wpAny_seqItems hS rfl (wpAny_pure ?_))
  show wpAny _ A.in1 (updateSeq S (fun _ => #[]) >>= fun _ => letGo (#[] : Array Value).toList.reverse >>= fun _ => Builtin.List.listExtendWith (.ref S) (.ref it) .none) _ _ s
  refine wpAny_bind (wpAny_updateSeq hS rfl ?_)
  have hS₂ := Heap.get?_update_self (Obj.mapSeq (fun _ => (#[] : Array Value))) hS rfl
  have oth : ∀ b o, b ≠ S → s.heap.get? b = some o → (s.heap.update S (Obj.mapSeq (fun _ => (#[] : Array Value)))).get? b = some o :=
    fun b o hb e => (Heap.get?_update_other _ _ (Ne.symm hb)).trans e
  refine wpAny_bind (wpAny_letGo ?_)
  have hit1 := hit.at (h' := s.heap.update S (Obj.mapSeq (fun _ => (#[] : Array Value)))) fun o e => oth _ _ (Ne.symm hSi) e
  have hl1 : (s.heap.update S (Obj.mapSeq (fun _ => (#[] : Array Value)))).IsList l items := by
    obtain ⟨o, ho, r⟩ := hl
    exact ⟨o, oth _ _ (Ne.symm hSl) ho, r⟩
  generalize hs1 : ({ s with heap := s.heap.update S (Obj.mapSeq (fun _ => (#[] : Array Value))) } : Shared) = s1 at *
  have hh1 : s1.heap = s.heap.update S (Obj.mapSeq (fun _ => (#[] : Array Value))) := by rw [← hs1]
  have mv : Moved [S, it] (fun a b => b = a) s s1 := by
    rw [← hs1]
    exact (Moved.refl (wr := [S, it]) (G := fun a b => b = a) (fun _ => rfl)).then_heap (Nat.le_refl _) fun b o hb e => oth b o (fun h => hb (by rw [h]; exact List.mem_cons_self)) e
  rw [← hh1] at hit1 hl1 hS₂
  have hT : s1.TypeIs (.ref it) "list_reverseiterator" := hit1.typeIs
  have h1 : Builtin.List.listSameRef (.ref S) (.ref it) = false := by simp [Builtin.List.listSameRef, hSi]
  unfold Builtin.List.listExtendWith
  refine wpAny_bind (wpAny_typeOf hT ?_)
  rw [if_neg (by rw [h1]; decide)]
  refine wpAny_bind (wpAny_pyIter_revIter hit1 ?_)
  refine wpAny_bind (wpAny_holding ?_)
  unfold Builtin.List.listLengthHint
  refine wpAny_bind (wpAny_specialOf hT nolen_lri ?_)
  show wpAny _ A.in1 (specialOf (Value.ref it) (Str.ofString "__length_hint__") >>= _) _ _ _
  refine wpAny_bind (wpAny_specialOf hT hint_lri ?_)
  generalize hid : ("list_reverseiterator.__length_hint__" : String) = id0
  wp_delta
  rw [show splitId id0 = some ("list_reverseiterator", "__length_hint__") from by subst hid; decide +kernel]
  subst hid
  refine wpAny_bind (wpAny_isInstance (b := true) hT (by rw [isSubtype_type]; kernel_rfl) ?_)
  refine wpAny_pure ?_
  rw [if_neg (by decide)]
  have e0 : ((items.size : Nat) : Int) - 1 - ((0 : Nat) : Int) = (items.size : Int) - 1 := by omega
  refine wpAny_pure ⟨plainId_quiet F.plain_extend_loop _, codeAny_extend_loopS W hn _ hSf _ items.size 0 _ _ _ rfl (Nat.zero_le _) ⟨Nat.zero_le _, by rw [e0]; exact hit1, hl1⟩ hS₂ (ItemsOf.nil _) fun s' acc' c' hm hS' hacc => ?_⟩
  exact hR s' acc' c' (Moved.trans W.gtrans mv hm) hS' hacc
theorem call_list_rev {it l : Addr} {items : Array Value} {Q : Value → Shared → Prop} (hh : A.handled = none) (hit : s.heap.IsRevIter it l ((items.size : Int) - 1)) (hl : s.heap.IsList l items) (hne : l ≠ it) (hn : items.size ≤ sizeLine)
    (hQ : ∀ (h' : Heap) (tk : Nat) (acc : Array Value) (c : Nat), (∀ b o, b ≠ it → s.heap.get? b = some o → h'.get? b = some o) → h'.get? s.heap.objs.size = some { cls := .type "list", dict := none, data := .seq acc c, slots := #[] } → ItemsOf (fun i v => items[items.size - 1 - i]? = some v) acc items.size →
      Q (.ref s.heap.objs.size) { s with heap := h', toks := tk }) :
    wpAny (model prog w) A (call (.type "list") [.ref it]) Q E s := by
  obtain ⟨oi, hoi, _⟩ := id hit
  obtain ⟨ol, hol, _⟩ := id hl
  have hSi : s.heap.objs.size ≠ it := Nat.ne_of_gt (Heap.lt_size hoi)
  have hSl : s.heap.objs.size ≠ l := Nat.ne_of_gt (Heap.lt_size hol)
  refine callType_codes (Q₁ := fun obj s₁ => obj = .ref s.heap.objs.size ∧ s₁ = { s with heap := s.heap.push { cls := .type "list", data := .seq #[] } }) F.called_list (F.typeCall_list_1 _) F.entry_list_init
    (code_list_new _ ⟨rfl, rfl⟩) fun obj s₁ h₁ => ?_
  obtain ⟨rfl, rfl⟩ := h₁
  have hS : (s.heap.push { cls := .type "list", data := .seq #[] }).get? s.heap.objs.size = some { cls := .type "list", data := .seq #[] } := Heap.get?_push_size _ rfl
  refine ⟨⟨_, hS, rfl⟩, F.args_list_init_2 _ _, list_init_rev hh (hit.at fun o e => Heap.get?_push_of_some _ e) (hl.push _) hne hn hSi hSl hS fun s' acc' c' hm hS' hacc => ?_⟩
  refine ⟨rfl, ?_⟩
  rw [Moved.eq_with hm]
  refine hQ s'.heap s'.toks acc' c' (fun b o hb e => hm.heap b o (fun hmem => ?_) (Heap.get?_push_of_some _ e)) hS' hacc
  rcases List.mem_cons.mp hmem with e' | hmem
  · exact absurd (Heap.lt_size e) (by rw [e']; exact Nat.lt_irrefl _)
  · exact hb (List.mem_singleton.mp hmem)
end
end RT
namespace L2
open PySem PySem.Spec
open PyProof.Rows hiding St
/-- list(reversed(x)), x a list: a new list -/
def tLstRev (K : PySem.W.Frag) (te : TE) : TE := fun σ H Q => te σ H fun v H1 => ∃ (a : Addr) (xs : List V), v = .ref a ∧ SqL K H1 a xs ∧ ∀ q, H1 q = none → Q (.ref q) (upd H1 q (.lst xs.reverse))
section
variable {X : Cx}
theorem pe_lstRev {e : Expr} {te : TE} {p p2 pos pos2 : Pos} (hc : X.calm = true) (hg : Gl X "list") (hm : X.mg "list" = none) (hg2 : Gl X "reversed") (hm2 : X.mg "reversed" = none) (he : PE X e te)
    (hs : starEach [e] X.env = (false, eval e X.env) :: starEach [] X.env := by rfl)
    (hs2 : starEach [.Call (.Name "reversed" p2) [e] [] pos2] X.env = (false, eval (.Call (.Name "reversed" p2) [e] [] pos2) X.env) :: starEach [] X.env := by rfl) :
    PE X (.Call (.Name "list" p) [.Call (.Name "reversed" p2) [e] [] pos2] [] pos) (tLstRev X.K te) := by
  refine ⟨fun pins s σ H Q I h => ?_⟩
  refine Call_ (ld_blt I hg hm boot_list (PyProof.Rows.callWith_type1 (args_cons (Call_ (ld_blt I hg2 hm2 PyProof.Rows.boot_reversed (PyProof.Rows.callWith_type1 (args_cons (thn (he.run pins s σ H _ I h) fun u s1 ⟨v, H1, I1, r1, q1⟩ => args_nil ?_) hs) hs rfl))) hs2) hs2 rfl))
  obtain ⟨a, xs, ev, hq, q⟩ := q1
  subst ev
  obtain rfl : u = Value.ref a := r1
  obtain ⟨its, rv, p', hz⟩ := I1.list hq
  refine call_reversed_list p'.isList (args_nil ?_)
  have k0 : ∀ b o, s1.heap.get? b = some o → (s1.heap.push (revObj a ((its.toArray.size : Int) - 1))).get? b = some o := fun b o e => Heap.get?_push_of_some _ e
  have I2 : Inv X pins σ H1 { s1 with heap := s1.heap.push (revObj a ((its.toArray.size : Int) - 1)) } := I1.kept (t' := s1.toks) k0
  have fp := I1.fpOk (H' := H1) (b := s1.heap.objs.size) (Nat.le_refl _) (I1.hok.fresh (Nat.le_refl _))
  have hl := p'.isList
  obtain ⟨ol, hol, _⟩ := id hl
  have hne : a ≠ s1.heap.objs.size := Nat.ne_of_lt (Heap.lt_size hol)
  have hn : its.toArray.size ≤ sizeLine := by rw [List.size_toArray, ← rv.length]; exact hz
  refine RT.call_list_rev (s := { s1 with heap := s1.heap.push (revObj a ((its.toArray.size : Int) - 1)) }) (I1.ok.hd hc) ⟨_, Heap.get?_push_size _ rfl, rfl, rfl⟩ (hl.push _) hne hn fun h' tk acc c hk hS hi => ?_
  refine ⟨.ref _, upd H1 _ (.lst xs.reverse), I2.turnedNew (t' := tk) (ch := [s1.heap.objs.size]) (fun b o hb e => hk b o (fun z => hb (by rw [z]; exact List.mem_singleton.mpr rfl)) e) (fun b hb => by rw [List.mem_singleton.mp hb]; exact fp) (Nat.le_refl _) (show ObjOk X.prog X.w _ _ _ (.lst xs.reverse) from ⟨by rw [List.length_reverse]; exact hz, acc.toList, c, RT.vals_rev rv hi, ?_⟩), rfl, q _ (I2.hok.fresh (Nat.le_refl _))⟩
  rw [Array.toArray_toList]
  exact hS
end
end L2
namespace Mi
open PySem PySem.Spec L2
open PyProof.Rows hiding St
section
variable {T : Tab} {W : WX} {X : Cx} {e : Expr} {m : ME} {p p2 pos pos2 : Pos}
theorem de_lstRev (hc : X.calm = true) (h1 : X.mg "list" = none) (h2 : X.mg "reversed" = none) (ha : DE T X W e m) (g1 : Gl X "list" := by rfl) (g2 : Gl X "reversed" := by rfl)
    (na : starEach [e] X.env = (false, eval e X.env) :: starEach [] X.env := by rfl) (nb : starEach [.Call (.Name "reversed" p2) [e] [] pos2] X.env = (false, eval (.Call (.Name "reversed" p2) [e] [] pos2) X.env) :: starEach [] X.env := by rfl) :
    DE T X W (.Call (.Name "list" p) [.Call (.Name "reversed" p2) [e] [] pos2] [] pos) (mUn oRevI m) := by
  refine (pe_lstRev (p := p) (pos := pos) (p2 := p2) (pos2 := pos2) hc g1 h1 g2 h2 ha na nb).imp fun σ H Q h => ?_
  obtain ⟨ρ, S, τ, r, l, h⟩ := h
  refine ⟨ρ, S, τ, r, l, Post.bind h fun ρ1 S1 H1 x w p1 r1 x1 h1 => ?_⟩
  unfold oRevI at h1
  split at h1
  · rename_i xs hn
    obtain ⟨a, ws, rfl, ea, vr⟩ := r1.rdL hn x1
    exact ⟨a, ws, rfl, .inl ea, fun p np => h1 _ _ _ (Ext.new np) (r1.alloc np ⟨_, rfl, VsR.mono (prd_rev vr) (List.prefix_append _ _)⟩) (new_ref r1.len)⟩
  · exact h1.elim
end
end Mi
namespace Lw
open PySem PySem.Spec L2 Mi
open PyProof.Rows hiding St
abbrev prog : Program := PySem.Challenge.pw_stillheap_k71_papers_judged
def T : Tab := ⟨[], ["HeapError", "BadView"]⟩
def it_bool : List (Tag × Bool) := [(.non, false), (.bl, true), (.int, false), (.str, false), (.lst, false), (.tup, false), (.dct, false), (.exc 0, false), (.exc 1, false)]
def f_law_codes : Fn := fnOf 8 (mSeq (mSet 2 (mLst (mNil))) (mSeq (mSet 3 (mBin oEq (mBin oMod (mCall oSum (mCons (mVar 0) (mNil))) (mC (.int 2))) (mC (.int 1)))) (mSeq (mFor (mRange1 (mCons (mCall oLen (mCons (mVar 0) (mNil))) mNil)) (tgName 4) (mSeq (mSet 5 (mAlt (mBin oIx (mVar 0) (mVar 4)) (mBin oDGet (mVar 0) (mVar 4)))) (mSeq (mIfS (mTru (mVar 3)) (mSeq (mSet 7 (mBin oMod (mBin oMul (mBin oAdd (mBin oAdd (mBin oMod (mVar 5) (mC (.int 2147483647))) (mBin oMul (mC (.int 977)) (mVar 4))) (mC (.int 11))) (mC (.int 48271))) (mC (.int 2147483647)))) (mSeq (mSet 7 (mBin oMod (mBin oMul (mVar 7) (mVar 7)) (mC (.int 2147483647)))) (mSet 5 (mBin oAdd (mBin oMul (mBin oMul (mVar 7) (mVar 7)) (mC (.int 69621))) (mVar 7))))) (mSkip)) (mFor (mRange1 (mCons (mC (.int 4)) mNil)) (tgName 6) (mSeq (mExpr (mBM "list" oAppend (mVar 2) (mCons (mBin oMod (mVar 5) (mC (.int 1048576))) (mNil)))) (mSet 5 (mBin oDiv (mVar 5) (mC (.int 1048576))))))))) (mRet (mSl (mVar 2) (mNoP) (mPart (mVar 1)))))))
def f_law_picked : Fn := fnOf 2 (mSeq (mIfS (mOr (mB (mBin oEq (mVar 0) (mLst (mNil)))) (mB (mBin oEq (mBin oMod (mVar 1) (mC (.int 4))) (mC (.int 0))))) (mRet (mC (.non))) (mSkip)) (mRet (mAlt (mBin oIx (mVar 0) (mBin oMod (mBin oDiv (mVar 1) (mC (.int 4))) (mCall oLen (mCons (mVar 0) (mNil))))) (mBin oDGet (mVar 0) (mBin oMod (mBin oDiv (mVar 1) (mC (.int 4))) (mCall oLen (mCons (mVar 0) (mNil))))))))
def f_law_view : Fn := fnOf 12 (mSeq (mSet 1 (mBin oIx (mBin oAdd (mVar 0) (mLst (mCons (mC (.int 5)) (mNil)))) (mC (.int 0)))) (mSeq (mSet 2 (mBin oMod (mVar 1) (mC (.int 13)))) (mSeq (mSet 3 (mLc (mRange1 (mCons (mVar 2) mNil)) [6] (tgName 6) (mYes) (mBin oMul (mBin oAdd (mBin oMul (mC (.int 3)) (mVar 6)) (mBin oMod (mBin oDiv (mVar 1) (mC (.int 13))) (mC (.int 3)))) (mBin oIx (mLst (mCons (mC (.int 1)) (mCons (mC (.int 1)) (mCons (mBin oPow (mC (.int 10)) (mC (.int 50))) (mNil))))) (mBin oMod (mBin oDiv (mVar 1) (mC (.int 39))) (mC (.int 3))))))) (mSeq (mSet 4 (mSl (mVar 0) (mPart (mC (.int 1))) (mNoP))) (mSeq (mSet 5 (mDict0)) (mSeq (mFor (mRange1 (mCons (mVar 2) mNil)) (tgName 6) (mSeq (mSet 7 (mAlt (mBin oIx (mBin oAdd (mVar 4) (mBin oMul (mLst (mCons (mC (.int 0)) (mNil))) (mC (.int 20)))) (mVar 6)) (mBin oDGet (mBin oAdd (mVar 4) (mBin oMul (mLst (mCons (mC (.int 0)) (mNil))) (mC (.int 20)))) (mVar 6)))) (mSeq (mSet 11 (mLst (mNil))) (mSeq (mFor (mRange1 (mCons (mBin oMod (mVar 7) (mC (.int 7))) mNil)) (tgName 9) (mSeq (mSet 7 (mBin oMod (mBin oMul (mVar 7) (mC (.int 48271))) (mC (.int 2147483647)))) (mExpr (mBM "list" oAppend (mVar 11) (mCons (mApp 2 f_law_picked (mCons (mVar 3) (mCons (mBin oDiv (mVar 7) (mC (.int 11))) (mNil)))) (mNil)))))) (mSetI tSetI (mVar 5) (mAlt (mBin oIx (mVar 3) (mVar 6)) (mBin oDGet (mVar 3) (mVar 6))) (mVar 11)))))) (mSeq (mSet 7 (mBin oIx (mBin oAdd (mVar 4) (mBin oMul (mLst (mCons (mC (.int 0)) (mNil))) (mC (.int 20)))) (mC (.int 13)))) (mSeq (mSet 8 (mLst (mNil))) (mSeq (mFor (mRange1 (mCons (mBin oMod (mBin oDiv (mVar 7) (mC (.int 4))) (mC (.int 9))) mNil)) (tgName 9) (mSeq (mSet 7 (mBin oMod (mBin oMul (mVar 7) (mC (.int 48271))) (mC (.int 2147483647)))) (mExpr (mBM "list" oAppend (mVar 8) (mCons (mApp 2 f_law_picked (mCons (mVar 3) (mCons (mBin oDiv (mVar 7) (mC (.int 11))) (mNil)))) (mNil)))))) (mSeq (mSet 7 (mBin oIx (mBin oAdd (mVar 4) (mBin oMul (mLst (mCons (mC (.int 0)) (mNil))) (mC (.int 20)))) (mC (.int 14)))) (mSeq (mSet 10 (mLst (mNil))) (mSeq (mFor (mRange1 (mCons (mBin oMul (mBin oMod (mVar 7) (mC (.int 4))) (mCall oInt (mCons (mBin oGt (mVar 2) (mC (.int 0))) (mNil)))) mNil)) (tgName 9) (mSeq (mSet 7 (mBin oMod (mBin oMul (mVar 7) (mC (.int 48271))) (mC (.int 2147483647)))) (mExpr (mBM "list" oAppend (mVar 10) (mCons (mAlt (mBin oIx (mVar 3) (mBin oMod (mBin oDiv (mVar 7) (mC (.int 11))) (mVar 2))) (mBin oDGet (mVar 3) (mBin oMod (mBin oDiv (mVar 7) (mC (.int 11))) (mVar 2)))) (mNil)))))) (mRet (mTup (mCons (mVar 8) (mCons (mVar 5) (mCons (mVar 10) (mNil))))))))))))))))))
def f_law_walk : Fn := fnOf 11 (mSeq (mSet 3 (mLc (mRange1 (mCons (mCall oLen (mCons (mVar 0) (mNil))) mNil)) [6] (tgName 6) (mB (mBin oIsN (mAlt (mBin oIx (mVar 0) (mVar 6)) (mBin oDGet (mVar 0) (mVar 6))) (mC (.non)))) (mTup (mCons (mAlt (mBin oIx (mVar 0) (mVar 6)) (mBin oDGet (mVar 0) (mVar 6))) (mCons (mC (.non)) (mCons (mVar 6) (mNil))))))) (mSeq (mSet 4 (mDict0)) (mSeq (mSet 5 (mLst (mNil))) (mSeq (mWhile (mB (mBin oGt (mCall oLen (mCons (mVar 3) (mNil))) (mC (.int 0)))) (mSeq (mSet 2 (mBin oMod (mBin oMul (mVar 2) (mC (.int 48271))) (mC (.int 2147483647)))) (mSeq (mSetT [7, 8, 9] (mAlt (mBM "list" oPop (mVar 3) (mCons (mBin oMod (mBin oDiv (mVar 2) (mC (.int 7))) (mCall oLen (mCons (mVar 3) (mNil)))) (mNil))) (mBM "dict" oDPop (mVar 3) (mCons (mBin oMod (mBin oDiv (mVar 2) (mC (.int 7))) (mCall oLen (mCons (mVar 3) (mNil)))) (mNil))))) (mIfS (mB (mBin oNotIn (mVar 7) (mVar 4))) (mSeq (mSetI tSetI (mVar 4) (mVar 7) (mC (.bl true))) (mSeq (mExpr (mBM "list" oAppend (mVar 5) (mCons (mTup (mCons (mVar 7) (mCons (mVar 8) (mCons (mVar 9) (mNil))))) (mNil)))) (mSeq (mSet 10 (mAlt (mBin oIx (mVar 1) (mVar 7)) (mBin oDGet (mVar 1) (mVar 7)))) (mExpr (mBM "list" oExtend (mVar 3) (mCons (mLc (mRange1 (mCons (mCall oLen (mCons (mVar 10) (mNil))) mNil)) [6] (tgName 6) (mB (mBin oIsN (mAlt (mBin oIx (mVar 10) (mVar 6)) (mBin oDGet (mVar 10) (mVar 6))) (mC (.non)))) (mTup (mCons (mAlt (mBin oIx (mVar 10) (mVar 6)) (mBin oDGet (mVar 10) (mVar 6))) (mCons (mVar 7) (mCons (mVar 6) (mNil)))))) (mNil))))))) (mSkip)))) 1000) (mRet (mVar 5))))))
def f_law_other : Fn := fnOf 3 (mSeq (mSet 2 (mCall oSorted (mCons (mVar 1) (mNil)))) (mRet (mBin oIx (mLst (mCons (mC (.non)) (mCons (mBin oPow (mC (.int 10)) (mC (.int 40))) (mCons (mUn oNeg (mC (.int 1))) (mCons (mAlt (mBin oIx (mBin oAdd (mVar 2) (mLst (mCons (mC (.int 4)) (mNil)))) (mBin oMod (mVar 0) (mBin oAdd (mCall oLen (mCons (mVar 2) (mNil))) (mC (.int 1))))) (mBin oDGet (mBin oAdd (mVar 2) (mLst (mCons (mC (.int 4)) (mNil)))) (mBin oMod (mVar 0) (mBin oAdd (mCall oLen (mCons (mVar 2) (mNil))) (mC (.int 1)))))) (mNil)))))) (mBin oMod (mBin oDiv (mVar 0) (mC (.int 13))) (mC (.int 4))))))
def f_law_spoilt : Fn := fnOf 10 (mSeq (mSet 4 (mCall oList (mCons (mVar 0) (mNil)))) (mSeq (mSet 5 (mCall oList (mCons (mVar 1) (mNil)))) (mSeq (mSet 6 (mBin oMod (mVar 2) (mC (.int 12)))) (mSeq (mSet 7 (mBin oMod (mBin oDiv (mVar 2) (mC (.int 12))) (mCall oMax2 (mCons (mC (.int 1)) (mCons (mCall oLen (mCons (mVar 4) (mNil))) (mNil)))))) (mSeq (mIfS (mAnd (mB (mBin oNe (mVar 4) (mLst (mNil)))) (mB (mBin oEq (mVar 6) (mC (.int 1))))) (mExpr (mAlt (mBM "list" oPop (mVar 4) (mCons (mVar 7) (mNil))) (mBM "dict" oDPop (mVar 4) (mCons (mVar 7) (mNil))))) (mSkip)) (mSeq (mIfS (mAnd (mB (mBin oNe (mVar 4) (mLst (mNil)))) (mB (mBin oEq (mVar 6) (mC (.int 2))))) (mExpr (mBM "list" oInsert (mVar 4) (mCons (mBin oMod (mBin oDiv (mVar 2) (mC (.int 144))) (mBin oAdd (mCall oLen (mCons (mVar 4) (mNil))) (mC (.int 1)))) (mCons (mAlt (mBin oIx (mVar 4) (mVar 7)) (mBin oDGet (mVar 4) (mVar 7))) (mNil))))) (mSkip)) (mSeq (mIfS (mAnd (mB (mBin oLt (mBin oAdd (mVar 7) (mC (.int 1))) (mCall oLen (mCons (mVar 4) (mNil))))) (mB (mBin oEq (mVar 6) (mC (.int 3))))) (mSeq (mSet 8 (mAlt (mBin oIx (mVar 4) (mVar 7)) (mBin oDGet (mVar 4) (mVar 7)))) (mSeq (mSetI tSetI (mVar 4) (mVar 7) (mAlt (mBin oIx (mVar 4) (mBin oAdd (mVar 7) (mC (.int 1)))) (mBin oDGet (mVar 4) (mBin oAdd (mVar 7) (mC (.int 1)))))) (mSetI tSetI (mVar 4) (mBin oAdd (mVar 7) (mC (.int 1))) (mVar 8)))) (mSkip)) (mSeq (mIfS (mAnd (mB (mBin oNe (mVar 4) (mLst (mNil)))) (mB (mBin oEq (mVar 6) (mC (.int 4))))) (mSetI tSetI (mVar 4) (mVar 7) (mTup (mCons (mApp 2 f_law_other (mCons (mBin oDiv (mVar 2) (mC (.int 144))) (mCons (mVar 3) (mNil)))) (mCons (mBin oIx (mAlt (mBin oIx (mVar 4) (mVar 7)) (mBin oDGet (mVar 4) (mVar 7))) (mC (.int 1))) (mCons (mBin oIx (mAlt (mBin oIx (mVar 4) (mVar 7)) (mBin oDGet (mVar 4) (mVar 7))) (mC (.int 2))) (mNil)))))) (mSkip)) (mSeq (mIfS (mAnd (mB (mBin oNe (mVar 4) (mLst (mNil)))) (mB (mBin oEq (mVar 6) (mC (.int 5))))) (mSetI tSetI (mVar 4) (mVar 7) (mTup (mCons (mBin oIx (mAlt (mBin oIx (mVar 4) (mVar 7)) (mBin oDGet (mVar 4) (mVar 7))) (mC (.int 0))) (mCons (mApp 2 f_law_other (mCons (mBin oDiv (mVar 2) (mC (.int 144))) (mCons (mVar 3) (mNil)))) (mCons (mBin oIx (mAlt (mBin oIx (mVar 4) (mVar 7)) (mBin oDGet (mVar 4) (mVar 7))) (mC (.int 2))) (mNil)))))) (mSkip)) (mSeq (mIfS (mAnd (mB (mBin oNe (mVar 4) (mLst (mNil)))) (mB (mBin oEq (mVar 6) (mC (.int 6))))) (mSeq (mSet 9 (mBin oIx (mAlt (mBin oIx (mVar 4) (mVar 7)) (mBin oDGet (mVar 4) (mVar 7))) (mC (.int 2)))) (mSeq (mIfS (mB (mBin oIs (mVar 9) (mC (.non)))) (mSet 9 (mC (.int 0))) (mSkip)) (mSetI tSetI (mVar 4) (mVar 7) (mTup (mCons (mBin oIx (mAlt (mBin oIx (mVar 4) (mVar 7)) (mBin oDGet (mVar 4) (mVar 7))) (mC (.int 0))) (mCons (mBin oIx (mAlt (mBin oIx (mVar 4) (mVar 7)) (mBin oDGet (mVar 4) (mVar 7))) (mC (.int 1))) (mCons (mBin oIx (mLst (mCons (mC (.non)) (mCons (mUn oNeg (mC (.int 1))) (mCons (mBin oAdd (mVar 9) (mC (.int 1))) (mCons (mBin oMod (mBin oDiv (mVar 2) (mC (.int 576))) (mC (.int 9))) (mNil)))))) (mBin oMod (mBin oDiv (mVar 2) (mC (.int 144))) (mC (.int 4)))) (mNil)))))))) (mSkip)) (mSeq (mIfS (mAnd (mB (mBin oNe (mVar 5) (mLst (mNil)))) (mB (mBin oEq (mVar 6) (mC (.int 7))))) (mExpr (mAlt (mBM "list" oPop (mVar 5) (mCons (mBin oMod (mBin oDiv (mVar 2) (mC (.int 12))) (mCall oLen (mCons (mVar 5) (mNil)))) (mNil))) (mBM "dict" oDPop (mVar 5) (mCons (mBin oMod (mBin oDiv (mVar 2) (mC (.int 12))) (mCall oLen (mCons (mVar 5) (mNil)))) (mNil))))) (mSkip)) (mSeq (mIfS (mB (mBin oEq (mVar 6) (mC (.int 8)))) (mExpr (mBM "list" oInsert (mVar 5) (mCons (mBin oMod (mBin oDiv (mVar 2) (mC (.int 12))) (mBin oAdd (mCall oLen (mCons (mVar 5) (mNil))) (mC (.int 1)))) (mCons (mBin oIx (mLst (mCons (mBin oPow (mC (.int 10)) (mC (.int 40))) (mCons (mC (.int 0)) (mCons (mC (.int 3)) (mCons (mUn oNeg (mC (.int 1))) (mNil)))))) (mBin oMod (mBin oDiv (mVar 2) (mC (.int 144))) (mC (.int 4)))) (mNil))))) (mSkip)) (mSeq (mIfS (mB (mBin oEq (mVar 6) (mC (.int 9)))) (mSet 5 (mUn oRevI (mVar 5))) (mSkip)) (mRet (mTup (mCons (mVar 4) (mCons (mVar 5) (mNil))))))))))))))))))
def f_look_at_told : Fn := fnOf 3 (mLock (pick (mVar 1)) (mFor (mWalk (mVar 1)) (tgName 2) (mIfS (mAnd (mB (mBin oIsN (mVar 2) (mC (.non)))) (mB (mBin oNotIn (mVar 2) (mVar 0)))) (mRaise 1) (mSkip))))
def f_look_at_view : Fn := fnOf 4 (mSeq (mSetT [2, 3] (mVar 0)) (mSeq (mExpr (mApp 2 f_look_at_told (mCons (mVar 3) (mCons (mVar 2) (mNil))))) (mLock (pick (mVar 3)) (mFor (mWalk (mVar 3)) (tgName 1) (mExpr (mApp 2 f_look_at_told (mCons (mVar 3) (mCons (mAlt (mBin oIx (mVar 3) (mVar 1)) (mBin oDGet (mVar 3) (mVar 1))) (mNil)))))))))
def f_step_stands : Fn := fnOf 7 (mSeq (mSetT [4, 5, 6] (mVar 2)) (mSeq (mSet 3 (mBin oIx (mVar 0) (mC (.int 0)))) (mSeq (mIfS (mB (mBin oIsN (mVar 5) (mC (.non)))) (mSeq (mIfS (mB (mBin oNotIn (mVar 5) (mVar 1))) (mRet (mC (.bl false))) (mSkip)) (mSet 3 (mAlt (mBin oIx (mBin oIx (mVar 0) (mC (.int 1))) (mVar 5)) (mBin oDGet (mBin oIx (mVar 0) (mC (.int 1))) (mVar 5))))) (mSkip)) (mRet (mAndV (mBin oIsN (mVar 6) (mC (.non))) (mAndV (mChain oLe oLt (mC (.int 0)) (mVar 6) (mCall oLen (mCons (mVar 3) (mNil)))) (mBin oEq (mAlt (mBin oIx (mVar 3) (mVar 6)) (mBin oDGet (mVar 3) (mVar 6))) (mVar 4))))))))
def f_root_things : Fn := fnOf 2 (mRet (mLockE (pick (mBin oIx (mVar 0) (mC (.int 0)))) (mLc (mWalk (mBin oIx (mVar 0) (mC (.int 0)))) [1] (tgName 1) (mB (mBin oIsN (mVar 1) (mC (.non)))) (mVar 1))))
def f_closed_over : Fn := fnOf 5 (mSeq (mSet 2 (mApp 1 f_root_things (mCons (mVar 0) (mNil)))) (mSeq (mLock (pick (mVar 1)) (mFor (mWalk (mVar 1)) (tgName 3) (mExpr (mBM "list" oExtend (mVar 2) (mCons (mLc (mWalk (mAlt (mBin oIx (mBin oIx (mVar 0) (mC (.int 1))) (mVar 3)) (mBin oDGet (mBin oIx (mVar 0) (mC (.int 1))) (mVar 3)))) [4] (tgName 4) (mB (mBin oIsN (mVar 4) (mC (.non)))) (mVar 4)) (mNil)))))) (mRet (mCall oAll (mCons (mLockE (pick (mVar 2)) (mLc (mWalk (mVar 2)) [4] (tgName 4) (mYes) (mBin oIn (mVar 4) (mVar 1)))) (mNil))))))
def f_paper_judged : Fn := fnOf 4 (mSeq (mExpr (mApp 1 f_look_at_view (mCons (mVar 0) (mNil)))) (mSeq (mSet 2 (mDict0)) (mSeq (mLock (pick (mVar 1)) (mFor (mWalk (mVar 1)) (tgName 3) (mSeq (mIfS (mOr (mB (mBin oIs (mBin oIx (mVar 3) (mC (.int 0))) (mC (.non)))) (mOr (mB (mBin oIn (mBin oIx (mVar 3) (mC (.int 0))) (mVar 2))) (mNot (mB (mApp 3 f_step_stands (mCons (mVar 0) (mCons (mVar 2) (mCons (mVar 3) (mNil))))))))) (mRet (mC (.bl false))) (mSkip)) (mSetI tSetI (mVar 2) (mBin oIx (mVar 3) (mC (.int 0))) (mC (.bl true)))))) (mRet (mApp 2 f_closed_over (mCons (mVar 0) (mCons (mVar 2) (mNil))))))))
def f_wider : Fn := fnOf 4 (mSeq (mSet 2 (mCall oDict (mCons (mLockE (pick (mVar 1)) (mLc (mWalk (mVar 1)) [3] (tgName 3) (mYes) (mTup (mCons (mVar 3) (mCons (mC (.bl true)) (mNil)))))) (mNil)))) (mRet (mTup (mCons (mBin oAdd (mCall oList (mCons (mBin oIx (mVar 0) (mC (.int 0))) (mNil))) (mCall oSorted (mCons (mVar 2) (mNil)))) (mCons (mBin oIx (mVar 0) (mC (.int 1))) (mNil))))))
def f_others_of : Fn := fnOf 5 (mSeq (mSet 2 (mCall oDict (mCons (mLockE (pick (mVar 1)) (mLc (mWalk (mVar 1)) [4] (tgName 4) (mYes) (mTup (mCons (mBin oIx (mVar 4) (mC (.int 0))) (mCons (mC (.bl true)) (mNil)))))) (mNil)))) (mRet (mLc (mWalk (mCall oSorted (mCons (mBin oIx (mVar 0) (mC (.int 1))) (mNil)))) [3] (tgName 3) (mB (mBin oNotIn (mVar 3) (mVar 2))) (mVar 3))))
def f_round_judged : Fn := fnOf 5 (mSeq (mSetT [3, 4] (mVar 2)) (mRet (mAndV (mApp 2 f_paper_judged (mCons (mApp 2 f_wider (mCons (mVar 0) (mCons (mVar 1) (mNil)))) (mCons (mVar 3) (mNil)))) (mBin oEq (mCall oList (mCons (mVar 4) (mNil))) (mApp 2 f_others_of (mCons (mVar 0) (mCons (mVar 3) (mNil))))))))
def f_law_right : Fn := fnOf 11 (mSeq (mSet 4 (mDict0)) (mSeq (mLock (pick (mVar 2)) (mFor (mWalk (mVar 2)) (tgTup [6, 7, 8]) (mSeq (mSet 9 (mVar 0)) (mSeq (mIfS (mB (mBin oIsN (mVar 7) (mC (.non)))) (mSeq (mIfS (mB (mBin oNotIn (mVar 7) (mVar 4))) (mRet (mC (.bl false))) (mSkip)) (mSet 9 (mAlt (mBin oIx (mVar 1) (mVar 7)) (mBin oDGet (mVar 1) (mVar 7))))) (mSkip)) (mSeq (mIfS (mOr (mB (mBin oIs (mVar 6) (mC (.non)))) (mOr (mB (mBin oIn (mVar 6) (mVar 4))) (mOr (mB (mBin oIs (mVar 8) (mC (.non)))) (mOr (mNot (mB (mChain oLe oLt (mC (.int 0)) (mVar 8) (mCall oLen (mCons (mVar 9) (mNil)))))) (mB (mBin oNe (mAlt (mBin oIx (mVar 9) (mVar 8)) (mBin oDGet (mVar 9) (mVar 8))) (mVar 6))))))) (mRet (mC (.bl false))) (mSkip)) (mSetI tSetI (mVar 4) (mVar 6) (mC (.bl true)))))))) (mSeq (mLock (pick (mVar 0)) (mSet 5 (mLc (mWalk (mVar 0)) [6] (tgName 6) (mB (mBin oIsN (mVar 6) (mC (.non)))) (mVar 6)))) (mSeq (mLock (pick (mVar 4)) (mFor (mWalk (mVar 4)) (tgName 6) (mExpr (mBM "list" oExtend (mVar 5) (mCons (mLc (mWalk (mAlt (mBin oIx (mVar 1) (mVar 6)) (mBin oDGet (mVar 1) (mVar 6)))) [10] (tgName 10) (mB (mBin oIsN (mVar 10) (mC (.non)))) (mVar 10)) (mNil)))))) (mSeq (mIfS (mNot (mB (mCall oAll (mCons (mLockE (pick (mVar 5)) (mLc (mWalk (mVar 5)) [6] (tgName 6) (mYes) (mBin oIn (mVar 6) (mVar 4)))) (mNil))))) (mRet (mC (.bl false))) (mSkip)) (mRet (mBin oEq (mVar 3) (mLc (mWalk (mCall oSorted (mCons (mVar 1) (mNil)))) [6] (tgName 6) (mB (mBin oNotIn (mVar 6) (mVar 4))) (mVar 6)))))))))
def f_law : Fn := fnOf 16 (mSeq (mSet 1 (mApp 2 f_law_codes (mCons (mVar 0) (mCons (mC (.int 60)) (mNil))))) (mSeq (mSetT [11, 12, 13] (mApp 1 f_law_view (mCons (mVar 1) (mNil)))) (mSeq (mSet 2 (mBin oAdd (mVar 11) (mUn oSortSet (mVar 13)))) (mSeq (mSet 3 (mSl (mBin oAdd (mSl (mVar 1) (mPart (mC (.int 20))) (mNoP)) (mLst (mCons (mC (.int 0)) (mCons (mC (.int 0)) (mCons (mC (.int 0)) (mCons (mC (.int 0)) (mNil))))))) (mNoP) (mPart (mC (.int 4))))) (mSeq (mSet 4 (mApp 3 f_law_walk (mCons (mVar 2) (mCons (mVar 12) (mCons (mBin oAdd (mC (.int 1)) (mBin oIx (mVar 3) (mC (.int 0)))) (mNil)))))) (mSeq (mSet 5 (mLc (mWalk (mCall oSorted (mCons (mVar 12) (mNil)))) [14] (tgName 14) (mB (mBin oNotIn (mVar 14) (mLockE (pick (mVar 4)) (mLc (mWalk (mVar 4)) [15] (tgName 15) (mYes) (mBin oIx (mVar 15) (mC (.int 0))))))) (mVar 14))) (mSeq (mFor (mWalk (mSl (mVar 3) (mPart (mC (.int 1))) (mPart (mC (.int 3))))) (tgName 6) (mSetT [4, 5] (mApp 4 f_law_spoilt (mCons (mVar 4) (mCons (mVar 5) (mCons (mVar 6) (mCons (mVar 12) (mNil)))))))) (mSeq (mSet 7 (mTup (mCons (mCall oList (mCons (mVar 11) (mNil))) (mCons (mCall oDict (mCons (mLockE (pick (mVar 12)) (mLc (mWalk (mVar 12)) [14] (tgName 14) (mYes) (mTup (mCons (mVar 14) (mCons (mCall oList (mCons (mAlt (mBin oIx (mVar 12) (mVar 14)) (mBin oDGet (mVar 12) (mVar 14))) (mNil))) (mNil)))))) (mNil))) (mNil))))) (mSeq (mSet 8 (mTup (mCons (mCall oList (mCons (mVar 4) (mNil))) (mCons (mCall oList (mCons (mVar 5) (mNil))) (mNil))))) (mSeq (mSet 9 (mCall oList (mCons (mVar 13) (mNil)))) (mSeq (mSet 10 (mApp 3 f_round_judged (mCons (mVar 7) (mCons (mVar 9) (mCons (mVar 8) (mNil)))))) (mSeq (mIfS (mOr (mB (mBin oNeT (mVar 7) (mTup (mCons (mVar 11) (mCons (mVar 12) (mNil)))))) (mOr (mB (mBin oNe (mVar 8) (mTup (mCons (mVar 4) (mCons (mVar 5) (mNil)))))) (mOr (mB (mBin oNe (mVar 9) (mVar 13))) (mNot (mB (mIsi it_bool (mVar 10))))))) (mRet (mC (.bl false))) (mSkip)) (mRet (mBin oEq (mVar 10) (mApp 4 f_law_right (mCons (mVar 2) (mCons (mVar 12) (mCons (mVar 4) (mCons (mVar 5) (mNil))))))))))))))))))))
section
open Vi
def p_law_codes : PF := pFn 8 [false, false] (pSeq (pSet 2 (pLst (pNil))) (pSeq (pSet 3 (pBin dEq (pBin dMod (pCall dSum (pCons (pVar 0) (pNil))) (pC (.int 2))) (pC (.int 1)))) (pSeq (pFor (pRange1 (pCons (pCall dLen (pCons (pVar 0) (pNil))) (pNil))) (tdName 4) (pSeq (pSet 5 (pSel2 dSub2 (pVar 0) (pVar 4))) (pSeq (pIfS (pTru (pVar 3)) (pSeq (pSet 7 (pBin dMod (pBinS dMulL (pBin dAdd (pBin dAdd (pBin dMod (pVar 5) (pC (.int 2147483647))) (pBinS dMulL (pC (.int 977)) (pVar 4))) (pC (.int 11))) (pC (.int 48271))) (pC (.int 2147483647)))) (pSeq (pSet 7 (pBin dMod (pBinS dMulL (pVar 7) (pVar 7)) (pC (.int 2147483647)))) (pSet 5 (pBin dAdd (pBinS dMulL (pBinS dMulL (pVar 7) (pVar 7)) (pC (.int 69621))) (pVar 7))))) (pSkip)) (pFor (pRange1 (pCons (pC (.int 4)) (pNil))) (tdName 6) (pSeq (pExpr (pBM isL mAppend (plVar 2) (pCons (pBin dMod (pVar 5) (pC (.int 1048576))) (pNil)))) (pSet 5 (pBin dDiv (pVar 5) (pC (.int 1048576))))))))) (pRet (pSl (pVar 2) (pNoP) (pPart (pVar 1)))))))
theorem j_law_codes : JF f_law_codes [false, false] p_law_codes := jf_of (js_seq (js_set 2 (je_lst (ja_nil))) (js_seq (js_set 3 (je_bin (jo_eqD false) (je_bin jo_mod (je_call jo_sum (ja_cons (je_var 0) (ja_nil))) (je_int _)) (je_int _))) (js_seq (js_for (ji_range1 (ja_cons (je_call jo_len (ja_cons (je_var 0) (ja_nil))) (ja_nil))) (jg_name 4) (js_seq (js_set 5 (je_sub (je_var 0) (je_var 4))) (js_seq (js_if (jt_tru (je_var 3)) (js_seq (js_set 7 (je_bin jo_mod (je_mul (je_bin jo_add (je_bin jo_add (je_bin jo_mod (je_var 5) (je_int _)) (je_mul (je_int _) (je_var 4))) (je_int _)) (je_int _)) (je_int _))) (js_seq (js_set 7 (je_bin jo_mod (je_mul (je_var 7) (je_var 7)) (je_int _))) (js_set 5 (je_bin jo_add (je_mul (je_mul (je_var 7) (je_var 7)) (je_int _)) (je_var 7))))) (js_skip)) (js_for (ji_range1 (ja_cons (je_int _) (ja_nil))) (jg_name 6) (js_seq (js_expr (je_bmL jm_append (jpl_var 2) (ja_cons (je_bin jo_mod (je_var 5) (je_int _)) (ja_nil)))) (js_set 5 (je_bin jo_div (je_var 5) (je_int _)))))))) (js_ret (je_sl (je_var 2) (jop_no) (jop_some (je_var 1)))))))
def p_law_picked : PF := pFn 2 [false, false] (pSeq (pIfS (pOr (pB (pBin dEq (pVar 0) (pLst (pNil)))) (pB (pBin dEq (pBin dMod (pVar 1) (pC (.int 4))) (pC (.int 0))))) (pRet (pC (.non))) (pSkip)) (pRet (pSel2 dSub2 (pVar 0) (pBin dMod (pBin dDiv (pVar 1) (pC (.int 4))) (pCall dLen (pCons (pVar 0) (pNil)))))))
theorem j_law_picked : JF f_law_picked [false, false] p_law_picked := jf_of (js_seq (js_if (jt_or (jt_b (je_bin (jo_eqD false) (je_var 0) (je_lst (ja_nil)))) (jt_b (je_bin (jo_eqD false) (je_bin jo_mod (je_var 1) (je_int _)) (je_int _)))) (js_ret (je_non)) (js_skip)) (js_ret (je_sub (je_var 0) (je_bin jo_mod (je_bin jo_div (je_var 1) (je_int _)) (je_call jo_len (ja_cons (je_var 0) (ja_nil)))))))
def p_law_view : PF := pFn 12 [false] (pSeq (pSet 1 (pSel2 dIx (pBin dAdd (pVar 0) (pLst (pCons (pC (.int 5)) (pNil)))) (pC (.int 0)))) (pSeq (pSet 2 (pBin dMod (pVar 1) (pC (.int 13)))) (pSeq (pSet 3 (pLc (pRange1 (pCons (pVar 2) (pNil))) [6] (tdName 6) (pYes) (pBinS dMulL (pBin dAdd (pBinS dMulL (pC (.int 3)) (pVar 6)) (pBin dMod (pBin dDiv (pVar 1) (pC (.int 13))) (pC (.int 3)))) (pSel2 dIx (pLst (pCons (pC (.int 1)) (pCons (pC (.int 1)) (pCons (pBin dPow (pC (.int 10)) (pC (.int 50))) (pNil))))) (pBin dMod (pBin dDiv (pVar 1) (pC (.int 39))) (pC (.int 3))))))) (pSeq (pSet 4 (pSl (pVar 0) (pPart (pC (.int 1))) (pNoP))) (pSeq (pSet 5 (pDict0)) (pSeq (pFor (pRange1 (pCons (pVar 2) (pNil))) (tdName 6) (pSeq (pSet 7 (pSel2 dSub2 (pBin dAdd (pVar 4) (pBinS dMulL (pLst (pCons (pC (.int 0)) (pNil))) (pC (.int 20)))) (pVar 6))) (pSeq (pSet 11 (pLst (pNil))) (pSeq (pFor (pRange1 (pCons (pBin dMod (pVar 7) (pC (.int 7))) (pNil))) (tdName 9) (pSeq (pSet 7 (pBin dMod (pBinS dMulL (pVar 7) (pC (.int 48271))) (pC (.int 2147483647)))) (pExpr (pBM isL mAppend (plVar 11) (pCons (pApp [false, false] p_law_picked [.v (pVar 3), .v (pBin dDiv (pVar 7) (pC (.int 11)))]) (pNil)))))) (pSetI (plVar 5) (pSel2 dSub2 (pVar 3) (pVar 6)) (pMv 11)))))) (pSeq (pSet 7 (pSel2 dIx (pBin dAdd (pVar 4) (pBinS dMulL (pLst (pCons (pC (.int 0)) (pNil))) (pC (.int 20)))) (pC (.int 13)))) (pSeq (pSet 8 (pLst (pNil))) (pSeq (pFor (pRange1 (pCons (pBin dMod (pBin dDiv (pVar 7) (pC (.int 4))) (pC (.int 9))) (pNil))) (tdName 9) (pSeq (pSet 7 (pBin dMod (pBinS dMulL (pVar 7) (pC (.int 48271))) (pC (.int 2147483647)))) (pExpr (pBM isL mAppend (plVar 8) (pCons (pApp [false, false] p_law_picked [.v (pVar 3), .v (pBin dDiv (pVar 7) (pC (.int 11)))]) (pNil)))))) (pSeq (pSet 7 (pSel2 dIx (pBin dAdd (pVar 4) (pBinS dMulL (pLst (pCons (pC (.int 0)) (pNil))) (pC (.int 20)))) (pC (.int 14)))) (pSeq (pSet 10 (pLst (pNil))) (pSeq (pFor (pRange1 (pCons (pBinS dMulL (pBin dMod (pVar 7) (pC (.int 4))) (pCall dInt (pCons (pBin dGt (pVar 2) (pC (.int 0))) (pNil)))) (pNil))) (tdName 9) (pSeq (pSet 7 (pBin dMod (pBinS dMulL (pVar 7) (pC (.int 48271))) (pC (.int 2147483647)))) (pExpr (pBM isL mAppend (plVar 10) (pCons (pSel2 dSub2 (pVar 3) (pBin dMod (pBin dDiv (pVar 7) (pC (.int 11))) (pVar 2))) (pNil)))))) (pRet (pTup (pCons (pMv 8) (pCons (pMv 5) (pCons (pMv 10) (pNil))))))))))))))))))
theorem j_law_view : JF f_law_view [false] p_law_view := jf_of (js_seq (js_set 1 (je_ix (je_bin jo_add (je_var 0) (je_lst (ja_cons (je_int _) (ja_nil)))) (je_int _))) (js_seq (js_set 2 (je_bin jo_mod (je_var 1) (je_int _))) (js_seq (js_set 3 (je_lc (ji_range1 (ja_cons (je_var 2) (ja_nil))) (jg_name 6) (jt_yes) (je_mul (je_bin jo_add (je_mul (je_int _) (je_var 6)) (je_bin jo_mod (je_bin jo_div (je_var 1) (je_int _)) (je_int _))) (je_ix (je_lst (ja_cons (je_int _) (ja_cons (je_int _) (ja_cons (je_bin jo_pow (je_int _) (je_int _)) (ja_nil))))) (je_bin jo_mod (je_bin jo_div (je_var 1) (je_int _)) (je_int _)))))) (js_seq (js_set 4 (je_sl (je_var 0) (jop_some (je_int _)) (jop_no))) (js_seq (js_set 5 (je_dict0)) (js_seq (js_for (ji_range1 (ja_cons (je_var 2) (ja_nil))) (jg_name 6) (js_seq (js_set 7 (je_sub (je_bin jo_add (je_var 4) (je_mul (je_lst (ja_cons (je_int _) (ja_nil))) (je_int _))) (je_var 6))) (js_seq (js_set 11 (je_lst (ja_nil))) (js_seq (js_for (ji_range1 (ja_cons (je_bin jo_mod (je_var 7) (je_int _)) (ja_nil))) (jg_name 9) (js_seq (js_set 7 (je_bin jo_mod (je_mul (je_var 7) (je_int _)) (je_int _))) (js_expr (je_bmL jm_append (jpl_var 11) (ja_cons (je_app j_law_picked (jar_v (je_var 3) (jar_v (je_bin jo_div (je_var 7) (je_int _)) (jar_nil)))) (ja_nil)))))) (js_setI (jpl_var 5) (je_sub (je_var 3) (je_var 6)) (je_mv 11)))))) (js_seq (js_set 7 (je_ix (je_bin jo_add (je_var 4) (je_mul (je_lst (ja_cons (je_int _) (ja_nil))) (je_int _))) (je_int _))) (js_seq (js_set 8 (je_lst (ja_nil))) (js_seq (js_for (ji_range1 (ja_cons (je_bin jo_mod (je_bin jo_div (je_var 7) (je_int _)) (je_int _)) (ja_nil))) (jg_name 9) (js_seq (js_set 7 (je_bin jo_mod (je_mul (je_var 7) (je_int _)) (je_int _))) (js_expr (je_bmL jm_append (jpl_var 8) (ja_cons (je_app j_law_picked (jar_v (je_var 3) (jar_v (je_bin jo_div (je_var 7) (je_int _)) (jar_nil)))) (ja_nil)))))) (js_seq (js_set 7 (je_ix (je_bin jo_add (je_var 4) (je_mul (je_lst (ja_cons (je_int _) (ja_nil))) (je_int _))) (je_int _))) (js_seq (js_set 10 (je_lst (ja_nil))) (js_seq (js_for (ji_range1 (ja_cons (je_mul (je_bin jo_mod (je_var 7) (je_int _)) (je_call jo_int (ja_cons (je_bin (jo_cmp _) (je_var 2) (je_int _)) (ja_nil)))) (ja_nil))) (jg_name 9) (js_seq (js_set 7 (je_bin jo_mod (je_mul (je_var 7) (je_int _)) (je_int _))) (js_expr (je_bmL jm_append (jpl_var 10) (ja_cons (je_sub (je_var 3) (je_bin jo_mod (je_bin jo_div (je_var 7) (je_int _)) (je_var 2))) (ja_nil)))))) (js_ret (je_tup (ja_cons (je_mv 8) (ja_cons (je_mv 5) (ja_cons (je_mv 10) (ja_nil))))))))))))))))))
def p_law_walk : PF := pFn 11 [false, false, false] (pSeq (pSet 3 (pLc (pRange1 (pCons (pCall dLen (pCons (pVar 0) (pNil))) (pNil))) [6] (tdName 6) (pB (pBin dIsN (pSel2 dSub2 (pVar 0) (pVar 6)) (pC (.non)))) (pTup (pCons (pSel2 dSub2 (pVar 0) (pVar 6)) (pCons (pC (.non)) (pCons (pVar 6) (pNil))))))) (pSeq (pSet 4 (pDict0)) (pSeq (pSet 5 (pLst (pNil))) (pSeq (pWhile (pB (pBin dGt (pCall dLen (pCons (pVar 3) (pNil))) (pC (.int 0)))) (pSeq (pSet 2 (pBin dMod (pBinS dMulL (pVar 2) (pC (.int 48271))) (pC (.int 2147483647)))) (pSeq (pSetT [7, 8, 9] (pBM2 mPop mDPop (plVar 3) (pCons (pBin dMod (pBin dDiv (pVar 2) (pC (.int 7))) (pCall dLen (pCons (pVar 3) (pNil)))) (pNil)))) (pIfS (pB (pBin dNotIn (pVar 7) (pVar 4))) (pSeq (pSetI (plVar 4) (pVar 7) (pC (.bl true))) (pSeq (pExpr (pBM isL mAppend (plVar 5) (pCons (pTup (pCons (pMv 7) (pCons (pMv 8) (pCons (pMv 9) (pNil))))) (pNil)))) (pSeq (pSet 10 (pSel2 dSub2 (pVar 1) (pVar 7))) (pExpr (pBM isL mExtend (plVar 3) (pCons (pLc (pRange1 (pCons (pCall dLen (pCons (pVar 10) (pNil))) (pNil))) [6] (tdName 6) (pB (pBin dIsN (pSel2 dSub2 (pVar 10) (pVar 6)) (pC (.non)))) (pTup (pCons (pSel2 dSub2 (pVar 10) (pVar 6)) (pCons (pVar 7) (pCons (pVar 6) (pNil)))))) (pNil))))))) (pSkip)))) 1000) (pRet (pMv 5))))))
theorem j_law_walk : JF f_law_walk [false, false, false] p_law_walk := jf_of (js_seq (js_set 3 (je_lc (ji_range1 (ja_cons (je_call jo_len (ja_cons (je_var 0) (ja_nil))) (ja_nil))) (jg_name 6) (jt_b (je_bin jo_isN (je_sub (je_var 0) (je_var 6)) (je_non))) (je_tup (ja_cons (je_sub (je_var 0) (je_var 6)) (ja_cons (je_non) (ja_cons (je_var 6) (ja_nil))))))) (js_seq (js_set 4 (je_dict0)) (js_seq (js_set 5 (je_lst (ja_nil))) (js_seq (js_while (jt_b (je_bin (jo_cmp _) (je_call jo_len (ja_cons (je_var 3) (ja_nil))) (je_int _))) (js_seq (js_set 2 (je_bin jo_mod (je_mul (je_var 2) (je_int _)) (je_int _))) (js_seq (js_setT [7, 8, 9] (je_bm2 jm_pop jm_dpop (jpl_var 3) (ja_cons (je_bin jo_mod (je_bin jo_div (je_var 2) (je_int _)) (je_call jo_len (ja_cons (je_var 3) (ja_nil)))) (ja_nil)))) (js_if (jt_b (je_bin (jo_inN true) (je_var 7) (je_var 4))) (js_seq (js_setI (jpl_var 4) (je_var 7) (je_bl _)) (js_seq (js_expr (je_bmL jm_append (jpl_var 5) (ja_cons (je_tup (ja_cons (je_mv 7) (ja_cons (je_mv 8) (ja_cons (je_mv 9) (ja_nil))))) (ja_nil)))) (js_seq (js_set 10 (je_sub (je_var 1) (je_var 7))) (js_expr (je_bmL jm_extend (jpl_var 3) (ja_cons (je_lc (ji_range1 (ja_cons (je_call jo_len (ja_cons (je_var 10) (ja_nil))) (ja_nil))) (jg_name 6) (jt_b (je_bin jo_isN (je_sub (je_var 10) (je_var 6)) (je_non))) (je_tup (ja_cons (je_sub (je_var 10) (je_var 6)) (ja_cons (je_var 7) (ja_cons (je_var 6) (ja_nil)))))) (ja_nil))))))) (js_skip)))) 1000) (js_ret (je_mv 5))))))
def p_law_other : PF := pFn 3 [false, false] (pSeq (pSet 2 (pCall dSorted (pCons (pVar 1) (pNil)))) (pRet (pSel2 dIx (pLst (pCons (pC (.non)) (pCons (pBin dPow (pC (.int 10)) (pC (.int 40))) (pCons (pUn dNeg (pC (.int 1))) (pCons (pSel2 dSub2 (pBin dAdd (pVar 2) (pLst (pCons (pC (.int 4)) (pNil)))) (pBin dMod (pVar 0) (pBin dAdd (pCall dLen (pCons (pVar 2) (pNil))) (pC (.int 1))))) (pNil)))))) (pBin dMod (pBin dDiv (pVar 0) (pC (.int 13))) (pC (.int 4))))))
theorem j_law_other : JF f_law_other [false, false] p_law_other := jf_of (js_seq (js_set 2 (je_call jo_sorted (ja_cons (je_var 1) (ja_nil)))) (js_ret (je_ix (je_lst (ja_cons (je_non) (ja_cons (je_bin jo_pow (je_int _) (je_int _)) (ja_cons (je_un (o := oNeg) jo_neg (je_int _)) (ja_cons (je_sub (je_bin jo_add (je_var 2) (je_lst (ja_cons (je_int _) (ja_nil)))) (je_bin jo_mod (je_var 0) (je_bin jo_add (je_call jo_len (ja_cons (je_var 2) (ja_nil))) (je_int _)))) (ja_nil)))))) (je_bin jo_mod (je_bin jo_div (je_var 0) (je_int _)) (je_int _)))))
def p_law_spoilt : PF := pFn 10 [false, false, false, false] (pSeq (pSet 4 (pCall dList (pCons (pVar 0) (pNil)))) (pSeq (pSet 5 (pCall dList (pCons (pVar 1) (pNil)))) (pSeq (pSet 6 (pBin dMod (pVar 2) (pC (.int 12)))) (pSeq (pSet 7 (pBin dMod (pBin dDiv (pVar 2) (pC (.int 12))) (pCall dMax2 (pCons (pC (.int 1)) (pCons (pCall dLen (pCons (pVar 4) (pNil))) (pNil)))))) (pSeq (pIfS (pAnd (pB (pBin dNe (pVar 4) (pLst (pNil)))) (pB (pBin dEq (pVar 6) (pC (.int 1))))) (pExpr (pBM2 mPop mDPop (plVar 4) (pCons (pMv 7) (pNil)))) (pSkip)) (pSeq (pIfS (pAnd (pB (pBin dNe (pVar 4) (pLst (pNil)))) (pB (pBin dEq (pVar 6) (pC (.int 2))))) (pExpr (pBM isL mInsert (plVar 4) (pCons (pBin dMod (pBin dDiv (pVar 2) (pC (.int 144))) (pBin dAdd (pCall dLen (pCons (pVar 4) (pNil))) (pC (.int 1)))) (pCons (pSel2 dSub2 (pVar 4) (pVar 7)) (pNil))))) (pSkip)) (pSeq (pIfS (pAnd (pB (pBin dLt (pBin dAdd (pVar 7) (pC (.int 1))) (pCall dLen (pCons (pVar 4) (pNil))))) (pB (pBin dEq (pVar 6) (pC (.int 3))))) (pSeq (pSet 8 (pSel2 dSub2 (pVar 4) (pVar 7))) (pSeq (pSetI (plVar 4) (pVar 7) (pSel2 dSub2 (pVar 4) (pBin dAdd (pVar 7) (pC (.int 1))))) (pSetI (plVar 4) (pBin dAdd (pVar 7) (pC (.int 1))) (pMv 8)))) (pSkip)) (pSeq (pIfS (pAnd (pB (pBin dNe (pVar 4) (pLst (pNil)))) (pB (pBin dEq (pVar 6) (pC (.int 4))))) (pSetI (plVar 4) (pVar 7) (pTup (pCons (pApp [false, false] p_law_other [.v (pBin dDiv (pVar 2) (pC (.int 144))), .v (pVar 3)]) (pCons (pSel2 dIx (pSel2 dSub2 (pVar 4) (pVar 7)) (pC (.int 1))) (pCons (pSel2 dIx (pSel2 dSub2 (pVar 4) (pVar 7)) (pC (.int 2))) (pNil)))))) (pSkip)) (pSeq (pIfS (pAnd (pB (pBin dNe (pVar 4) (pLst (pNil)))) (pB (pBin dEq (pVar 6) (pC (.int 5))))) (pSetI (plVar 4) (pVar 7) (pTup (pCons (pSel2 dIx (pSel2 dSub2 (pVar 4) (pVar 7)) (pC (.int 0))) (pCons (pApp [false, false] p_law_other [.v (pBin dDiv (pVar 2) (pC (.int 144))), .v (pVar 3)]) (pCons (pSel2 dIx (pSel2 dSub2 (pVar 4) (pVar 7)) (pC (.int 2))) (pNil)))))) (pSkip)) (pSeq (pIfS (pAnd (pB (pBin dNe (pVar 4) (pLst (pNil)))) (pB (pBin dEq (pVar 6) (pC (.int 6))))) (pSeq (pSet 9 (pSel2 dIx (pSel2 dSub2 (pVar 4) (pVar 7)) (pC (.int 2)))) (pSeq (pIfS (pB (pBin dIs (pVar 9) (pC (.non)))) (pSet 9 (pC (.int 0))) (pSkip)) (pSetI (plVar 4) (pVar 7) (pTup (pCons (pSel2 dIx (pSel2 dSub2 (pVar 4) (pVar 7)) (pC (.int 0))) (pCons (pSel2 dIx (pSel2 dSub2 (pVar 4) (pVar 7)) (pC (.int 1))) (pCons (pSel2 dIx (pLst (pCons (pC (.non)) (pCons (pUn dNeg (pC (.int 1))) (pCons (pBin dAdd (pVar 9) (pC (.int 1))) (pCons (pBin dMod (pBin dDiv (pVar 2) (pC (.int 576))) (pC (.int 9))) (pNil)))))) (pBin dMod (pBin dDiv (pVar 2) (pC (.int 144))) (pC (.int 4)))) (pNil)))))))) (pSkip)) (pSeq (pIfS (pAnd (pB (pBin dNe (pVar 5) (pLst (pNil)))) (pB (pBin dEq (pVar 6) (pC (.int 7))))) (pExpr (pBM2 mPop mDPop (plVar 5) (pCons (pBin dMod (pBin dDiv (pVar 2) (pC (.int 12))) (pCall dLen (pCons (pVar 5) (pNil)))) (pNil)))) (pSkip)) (pSeq (pIfS (pB (pBin dEq (pVar 6) (pC (.int 8)))) (pExpr (pBM isL mInsert (plVar 5) (pCons (pBin dMod (pBin dDiv (pVar 2) (pC (.int 12))) (pBin dAdd (pCall dLen (pCons (pVar 5) (pNil))) (pC (.int 1)))) (pCons (pSel2 dIx (pLst (pCons (pBin dPow (pC (.int 10)) (pC (.int 40))) (pCons (pC (.int 0)) (pCons (pC (.int 3)) (pCons (pUn dNeg (pC (.int 1))) (pNil)))))) (pBin dMod (pBin dDiv (pVar 2) (pC (.int 144))) (pC (.int 4)))) (pNil))))) (pSkip)) (pSeq (pIfS (pB (pBin dEq (pVar 6) (pC (.int 9)))) (pSet 5 (pUn dRevI (pVar 5))) (pSkip)) (pRet (pTup (pCons (pMv 4) (pCons (pMv 5) (pNil))))))))))))))))))
theorem j_law_spoilt : JF f_law_spoilt [false, false, false, false] p_law_spoilt := jf_of (js_seq (js_set 4 (je_call jo_list (ja_cons (je_var 0) (ja_nil)))) (js_seq (js_set 5 (je_call jo_list (ja_cons (je_var 1) (ja_nil)))) (js_seq (js_set 6 (je_bin jo_mod (je_var 2) (je_int _))) (js_seq (js_set 7 (je_bin jo_mod (je_bin jo_div (je_var 2) (je_int _)) (je_call jo_max2 (ja_cons (je_int _) (ja_cons (je_call jo_len (ja_cons (je_var 4) (ja_nil))) (ja_nil)))))) (js_seq (js_if (jt_and (jt_b (je_bin (jo_eqD true) (je_var 4) (je_lst (ja_nil)))) (jt_b (je_bin (jo_eqD false) (je_var 6) (je_int _)))) (js_expr (je_bm2 jm_pop jm_dpop (jpl_var 4) (ja_cons (je_mv 7) (ja_nil)))) (js_skip)) (js_seq (js_if (jt_and (jt_b (je_bin (jo_eqD true) (je_var 4) (je_lst (ja_nil)))) (jt_b (je_bin (jo_eqD false) (je_var 6) (je_int _)))) (js_expr (je_bmL jm_insert (jpl_var 4) (ja_cons (je_bin jo_mod (je_bin jo_div (je_var 2) (je_int _)) (je_bin jo_add (je_call jo_len (ja_cons (je_var 4) (ja_nil))) (je_int _))) (ja_cons (je_sub (je_var 4) (je_var 7)) (ja_nil))))) (js_skip)) (js_seq (js_if (jt_and (jt_b (je_bin (jo_cmp _) (je_bin jo_add (je_var 7) (je_int _)) (je_call jo_len (ja_cons (je_var 4) (ja_nil))))) (jt_b (je_bin (jo_eqD false) (je_var 6) (je_int _)))) (js_seq (js_set 8 (je_sub (je_var 4) (je_var 7))) (js_seq (js_setI (jpl_var 4) (je_var 7) (je_sub (je_var 4) (je_bin jo_add (je_var 7) (je_int _)))) (js_setI (jpl_var 4) (je_bin jo_add (je_var 7) (je_int _)) (je_mv 8)))) (js_skip)) (js_seq (js_if (jt_and (jt_b (je_bin (jo_eqD true) (je_var 4) (je_lst (ja_nil)))) (jt_b (je_bin (jo_eqD false) (je_var 6) (je_int _)))) (js_setI (jpl_var 4) (je_var 7) (je_tup (ja_cons (je_app j_law_other (jar_v (je_bin jo_div (je_var 2) (je_int _)) (jar_v (je_var 3) (jar_nil)))) (ja_cons (je_ix (je_sub (je_var 4) (je_var 7)) (je_int _)) (ja_cons (je_ix (je_sub (je_var 4) (je_var 7)) (je_int _)) (ja_nil)))))) (js_skip)) (js_seq (js_if (jt_and (jt_b (je_bin (jo_eqD true) (je_var 4) (je_lst (ja_nil)))) (jt_b (je_bin (jo_eqD false) (je_var 6) (je_int _)))) (js_setI (jpl_var 4) (je_var 7) (je_tup (ja_cons (je_ix (je_sub (je_var 4) (je_var 7)) (je_int _)) (ja_cons (je_app j_law_other (jar_v (je_bin jo_div (je_var 2) (je_int _)) (jar_v (je_var 3) (jar_nil)))) (ja_cons (je_ix (je_sub (je_var 4) (je_var 7)) (je_int _)) (ja_nil)))))) (js_skip)) (js_seq (js_if (jt_and (jt_b (je_bin (jo_eqD true) (je_var 4) (je_lst (ja_nil)))) (jt_b (je_bin (jo_eqD false) (je_var 6) (je_int _)))) (js_seq (js_set 9 (je_ix (je_sub (je_var 4) (je_var 7)) (je_int _))) (js_seq (js_if (jt_b (je_bin jo_is (je_var 9) (je_non))) (js_set 9 (je_int _)) (js_skip)) (js_setI (jpl_var 4) (je_var 7) (je_tup (ja_cons (je_ix (je_sub (je_var 4) (je_var 7)) (je_int _)) (ja_cons (je_ix (je_sub (je_var 4) (je_var 7)) (je_int _)) (ja_cons (je_ix (je_lst (ja_cons (je_non) (ja_cons (je_un (o := oNeg) jo_neg (je_int _)) (ja_cons (je_bin jo_add (je_var 9) (je_int _)) (ja_cons (je_bin jo_mod (je_bin jo_div (je_var 2) (je_int _)) (je_int _)) (ja_nil)))))) (je_bin jo_mod (je_bin jo_div (je_var 2) (je_int _)) (je_int _))) (ja_nil)))))))) (js_skip)) (js_seq (js_if (jt_and (jt_b (je_bin (jo_eqD true) (je_var 5) (je_lst (ja_nil)))) (jt_b (je_bin (jo_eqD false) (je_var 6) (je_int _)))) (js_expr (je_bm2 jm_pop jm_dpop (jpl_var 5) (ja_cons (je_bin jo_mod (je_bin jo_div (je_var 2) (je_int _)) (je_call jo_len (ja_cons (je_var 5) (ja_nil)))) (ja_nil)))) (js_skip)) (js_seq (js_if (jt_b (je_bin (jo_eqD false) (je_var 6) (je_int _))) (js_expr (je_bmL jm_insert (jpl_var 5) (ja_cons (je_bin jo_mod (je_bin jo_div (je_var 2) (je_int _)) (je_bin jo_add (je_call jo_len (ja_cons (je_var 5) (ja_nil))) (je_int _))) (ja_cons (je_ix (je_lst (ja_cons (je_bin jo_pow (je_int _) (je_int _)) (ja_cons (je_int _) (ja_cons (je_int _) (ja_cons (je_un (o := oNeg) jo_neg (je_int _)) (ja_nil)))))) (je_bin jo_mod (je_bin jo_div (je_var 2) (je_int _)) (je_int _))) (ja_nil))))) (js_skip)) (js_seq (js_if (jt_b (je_bin (jo_eqD false) (je_var 6) (je_int _))) (js_set 5 (je_un (o := oRevI) jo_revI (je_var 5))) (js_skip)) (js_ret (je_tup (ja_cons (je_mv 4) (ja_cons (je_mv 5) (ja_nil))))))))))))))))))
def p_look_at_told : PF := pFn 3 [false, false] (pForK (pVar 1) itemsK (tdName 2) (pIfS (pAnd (pB (pBin dIsN (pVar 2) (pC (.non)))) (pB (pBin dNotIn (pVar 2) (pVar 0)))) (pRaise 1) (pSkip)))
theorem j_look_at_told : JF f_look_at_told [false, false] p_look_at_told := jf_of (js_forK (jv_var 1) (jil_walk (jv_var 1)) (jg_name 2) (js_if (jt_and (jt_b (je_bin jo_isN (je_var 2) (je_non))) (jt_b (je_bin (jo_inN true) (je_var 2) (je_var 0)))) (js_raise) (js_skip)))
def p_look_at_view : PF := pFn 4 [false] (pSeq (pSetT [2, 3] (pVar 0)) (pSeq (pExpr (pApp [false, false] p_look_at_told [.v (pVar 3), .v (pVar 2)])) (pFz [.k, .o, .k, .j] (pForK (pVar 3) itemsK (tdName 1) (pExpr (pApp [false, false] p_look_at_told [.v (pVar 3), .v (pSel2 dSub2 (pVar 3) (pVar 1))]))))))
theorem j_look_at_view : JF f_look_at_view [false] p_look_at_view := jf_of (js_seq (js_setT [2, 3] (je_var 0)) (js_seq (js_expr (je_app j_look_at_told (jar_v (je_var 3) (jar_v (je_var 2) (jar_nil))))) (js_fz [.k, .o, .k, .j] (js_forK (jv_var 3) (jil_walk (jv_var 3)) (jg_name 1) (js_expr (je_app j_look_at_told (jar_v (je_var 3) (jar_v (je_sub (je_var 3) (je_var 1)) (jar_nil)))))))))
def p_step_stands : PF := pFn 7 [false, false, false] (pSeq (pSetT [4, 5, 6] (pVar 2)) (pSeq (pSet 3 (pSel2 dIx (pVar 0) (pC (.int 0)))) (pSeq (pIfS (pB (pBin dIsN (pVar 5) (pC (.non)))) (pSeq (pIfS (pB (pBin dNotIn (pVar 5) (pVar 1))) (pRet (pC (.bl false))) (pSkip)) (pSet 3 (pSel2 dSub2 (pSel2 dIx (pVar 0) (pC (.int 1))) (pVar 5)))) (pSkip)) (pRet (pAndV (pBin dIsN (pVar 6) (pC (.non))) (pAndV (pChain dLe dLt (pC (.int 0)) (pVar 6) (pCall dLen (pCons (pVar 3) (pNil)))) (pBin dEq (pSel2 dSub2 (pVar 3) (pVar 6)) (pVar 4))))))))
theorem j_step_stands : JF f_step_stands [false, false, false] p_step_stands := jf_of (js_seq (js_setT [4, 5, 6] (je_var 2)) (js_seq (js_set 3 (je_ix (je_var 0) (je_int _))) (js_seq (js_if (jt_b (je_bin jo_isN (je_var 5) (je_non))) (js_seq (js_if (jt_b (je_bin (jo_inN true) (je_var 5) (je_var 1))) (js_ret (je_bl _)) (js_skip)) (js_set 3 (je_sub (je_ix (je_var 0) (je_int _)) (je_var 5)))) (js_skip)) (js_ret (je_and (je_bin jo_isN (je_var 6) (je_non)) (je_and (je_chain (jo_cmp _) (jo_cmp _) (je_int _) (je_var 6) (je_call jo_len (ja_cons (je_var 3) (ja_nil)))) (je_bin (jo_eqD false) (je_sub (je_var 3) (je_var 6)) (je_var 4))))))))
def p_root_things : PF := pFn 2 [false] (pRet (pLc (pWk itemsK (pSel2 dIx (pVar 0) (pC (.int 0)))) [1] (tdName 1) (pB (pBin dIsN (pVar 1) (pC (.non)))) (pVar 1)))
theorem j_root_things : JF f_root_things [false] p_root_things := jf_of (js_ret (je_lcK (jv_ix (jv_var 0)) (jil_walk (jv_ix (jv_var 0))) (jg_name 1) (jt_b (je_bin jo_isN (je_var 1) (je_non))) (je_var 1)))
def p_closed_over : PF := pFn 5 [false, false] (pSeq (pSet 2 (pApp [false] p_root_things [.v (pVar 0)])) (pSeq (pForK (pVar 1) itemsK (tdName 3) (pExpr (pBM isL mExtend (plVar 2) (pCons (pLc (pWalk (pSel2 dSub2 (pSel2 dIx (pVar 0) (pC (.int 1))) (pVar 3))) [4] (tdName 4) (pB (pBin dIsN (pVar 4) (pC (.non)))) (pVar 4)) (pNil))))) (pRet (pCall dAll (pCons (pLc (pWk itemsK (pVar 2)) [4] (tdName 4) (pYes) (pBin dIn (pVar 4) (pVar 1))) (pNil))))))
theorem j_closed_over : JF f_closed_over [false, false] p_closed_over := jf_of (js_seq (js_set 2 (je_app j_root_things (jar_v (je_var 0) (jar_nil)))) (js_seq (js_forK (jv_var 1) (jil_walk (jv_var 1)) (jg_name 3) (js_expr (je_bmL jm_extend (jpl_var 2) (ja_cons (je_lc (ji_walk (je_sub (je_ix (je_var 0) (je_int _)) (je_var 3))) (jg_name 4) (jt_b (je_bin jo_isN (je_var 4) (je_non))) (je_var 4)) (ja_nil))))) (js_ret (je_call jo_all (ja_cons (je_lcK (jv_var 2) (jil_walk (jv_var 2)) (jg_name 4) (jt_yes) (je_bin (jo_inN false) (je_var 4) (je_var 1))) (ja_nil))))))
def p_paper_judged : PF := pFn 4 [false, false] (pSeq (pExpr (pApp [false] p_look_at_view [.v (pVar 0)])) (pSeq (pSet 2 (pDict0)) (pSeq (pForK (pVar 1) itemsK (tdName 3) (pSeq (pIfS (pOr (pB (pBin dIs (pSel2 dIx (pVar 3) (pC (.int 0))) (pC (.non)))) (pOr (pB (pBin dIn (pSel2 dIx (pVar 3) (pC (.int 0))) (pVar 2))) (pNot (pB (pApp [false, false, false] p_step_stands [.v (pVar 0), .v (pVar 2), .v (pVar 3)]))))) (pRet (pC (.bl false))) (pSkip)) (pSetI (plVar 2) (pSel2 dIx (pVar 3) (pC (.int 0))) (pC (.bl true))))) (pRet (pApp [false, false] p_closed_over [.v (pVar 0), .v (pVar 2)])))))
theorem j_paper_judged : JF f_paper_judged [false, false] p_paper_judged := jf_of (js_seq (js_expr (je_app j_look_at_view (jar_v (je_var 0) (jar_nil)))) (js_seq (js_set 2 (je_dict0)) (js_seq (js_forK (jv_var 1) (jil_walk (jv_var 1)) (jg_name 3) (js_seq (js_if (jt_or (jt_b (je_bin jo_is (je_ix (je_var 3) (je_int _)) (je_non))) (jt_or (jt_b (je_bin (jo_inN false) (je_ix (je_var 3) (je_int _)) (je_var 2))) (jt_not (jt_b (je_app j_step_stands (jar_v (je_var 0) (jar_v (je_var 2) (jar_v (je_var 3) (jar_nil))))))))) (js_ret (je_bl _)) (js_skip)) (js_setI (jpl_var 2) (je_ix (je_var 3) (je_int _)) (je_bl _)))) (js_ret (je_app j_closed_over (jar_v (je_var 0) (jar_v (je_var 2) (jar_nil))))))))
def p_wider : PF := pFn 4 [false, false] (pSeq (pSet 2 (pCall dDict (pCons (pLc (pWk itemsK (pVar 1)) [3] (tdName 3) (pYes) (pTup (pCons (pVar 3) (pCons (pC (.bl true)) (pNil))))) (pNil)))) (pRet (pTup (pCons (pBin dAdd (pCall dList (pCons (pSel2 dIx (pVar 0) (pC (.int 0))) (pNil))) (pCall dSorted (pCons (pVar 2) (pNil)))) (pCons (pSel2 dIx (pVar 0) (pC (.int 1))) (pNil))))))
theorem j_wider : JF f_wider [false, false] p_wider := jf_of (js_seq (js_set 2 (je_call jo_dict (ja_cons (je_lcK (jv_var 1) (jil_walk (jv_var 1)) (jg_name 3) (jt_yes) (je_tup (ja_cons (je_var 3) (ja_cons (je_bl _) (ja_nil))))) (ja_nil)))) (js_ret (je_tup (ja_cons (je_bin jo_add (je_call jo_list (ja_cons (je_ix (je_var 0) (je_int _)) (ja_nil))) (je_call jo_sorted (ja_cons (je_var 2) (ja_nil)))) (ja_cons (je_ix (je_var 0) (je_int _)) (ja_nil))))))
def p_others_of : PF := pFn 5 [false, false] (pSeq (pSet 2 (pCall dDict (pCons (pLc (pWk itemsK (pVar 1)) [4] (tdName 4) (pYes) (pTup (pCons (pSel2 dIx (pVar 4) (pC (.int 0))) (pCons (pC (.bl true)) (pNil))))) (pNil)))) (pRet (pLc (pWalk (pCall dSorted (pCons (pSel2 dIx (pVar 0) (pC (.int 1))) (pNil)))) [3] (tdName 3) (pB (pBin dNotIn (pVar 3) (pVar 2))) (pVar 3))))
theorem j_others_of : JF f_others_of [false, false] p_others_of := jf_of (js_seq (js_set 2 (je_call jo_dict (ja_cons (je_lcK (jv_var 1) (jil_walk (jv_var 1)) (jg_name 4) (jt_yes) (je_tup (ja_cons (je_ix (je_var 4) (je_int _)) (ja_cons (je_bl _) (ja_nil))))) (ja_nil)))) (js_ret (je_lc (ji_walk (je_call jo_sorted (ja_cons (je_ix (je_var 0) (je_int _)) (ja_nil)))) (jg_name 3) (jt_b (je_bin (jo_inN true) (je_var 3) (je_var 2))) (je_var 3))))
def p_round_judged : PF := pFn 5 [false, false, false] (pSeq (pSetT [3, 4] (pVar 2)) (pRet (pAndV (pApp [false, false] p_paper_judged [.v (pApp [false, false] p_wider [.v (pVar 0), .v (pVar 1)]), .v (pVar 3)]) (pBin dEq (pCall dList (pCons (pVar 4) (pNil))) (pApp [false, false] p_others_of [.v (pVar 0), .v (pVar 3)])))))
theorem j_round_judged : JF f_round_judged [false, false, false] p_round_judged := jf_of (js_seq (js_setT [3, 4] (je_var 2)) (js_ret (je_and (je_app j_paper_judged (jar_v (je_app j_wider (jar_v (je_var 0) (jar_v (je_var 1) (jar_nil)))) (jar_v (je_var 3) (jar_nil)))) (je_bin (jo_eqD false) (je_call jo_list (ja_cons (je_var 4) (ja_nil))) (je_app j_others_of (jar_v (je_var 0) (jar_v (je_var 3) (jar_nil))))))))
def p_law_right : PF := pFn 11 [false, false, false, false] (pSeq (pSet 4 (pDict0)) (pSeq (pForK (pVar 2) itemsK (tdTup [6, 7, 8]) (pSeq (pSet 9 (pMv 0)) (pSeq (pIfS (pB (pBin dIsN (pVar 7) (pC (.non)))) (pSeq (pIfS (pB (pBin dNotIn (pVar 7) (pVar 4))) (pRet (pC (.bl false))) (pSkip)) (pSet 9 (pSel2 dSub2 (pVar 1) (pVar 7)))) (pSkip)) (pSeq (pIfS (pOr (pB (pBin dIs (pVar 6) (pC (.non)))) (pOr (pB (pBin dIn (pVar 6) (pVar 4))) (pOr (pB (pBin dIs (pVar 8) (pC (.non)))) (pOr (pNot (pB (pChain dLe dLt (pC (.int 0)) (pVar 8) (pCall dLen (pCons (pVar 9) (pNil)))))) (pB (pBin dNe (pSel2 dSub2 (pVar 9) (pVar 8)) (pVar 6))))))) (pRet (pC (.bl false))) (pSkip)) (pSetI (plVar 4) (pVar 6) (pC (.bl true))))))) (pSeq (pSet 5 (pLc (pWk itemsK (pVar 0)) [6] (tdName 6) (pB (pBin dIsN (pVar 6) (pC (.non)))) (pVar 6))) (pSeq (pFz [.k, .k, .k, .k, .j, .k, .o, .k, .k, .k, .k] (pForK (pVar 4) itemsK (tdName 6) (pExpr (pBM isL mExtend (plVar 5) (pCons (pLc (pWalk (pSel2 dSub2 (pVar 1) (pVar 6))) [10] (tdName 10) (pB (pBin dIsN (pVar 10) (pC (.non)))) (pVar 10)) (pNil)))))) (pSeq (pIfS (pNot (pB (pCall dAll (pCons (pLc (pWk itemsK (pVar 5)) [6] (tdName 6) (pYes) (pBin dIn (pVar 6) (pVar 4))) (pNil))))) (pRet (pC (.bl false))) (pSkip)) (pRet (pBin dEq (pVar 3) (pLc (pWalk (pCall dSorted (pCons (pVar 1) (pNil)))) [6] (tdName 6) (pB (pBin dNotIn (pVar 6) (pVar 4))) (pVar 6)))))))))
theorem j_law_right : JF f_law_right [false, false, false, false] p_law_right := jf_of (js_seq (js_set 4 (je_dict0)) (js_seq (js_forK (jv_var 2) (jil_walk (jv_var 2)) (jg_tup [6, 7, 8]) (js_seq (js_set 9 (je_mv 0)) (js_seq (js_if (jt_b (je_bin jo_isN (je_var 7) (je_non))) (js_seq (js_if (jt_b (je_bin (jo_inN true) (je_var 7) (je_var 4))) (js_ret (je_bl _)) (js_skip)) (js_set 9 (je_sub (je_var 1) (je_var 7)))) (js_skip)) (js_seq (js_if (jt_or (jt_b (je_bin jo_is (je_var 6) (je_non))) (jt_or (jt_b (je_bin (jo_inN false) (je_var 6) (je_var 4))) (jt_or (jt_b (je_bin jo_is (je_var 8) (je_non))) (jt_or (jt_not (jt_b (je_chain (jo_cmp _) (jo_cmp _) (je_int _) (je_var 8) (je_call jo_len (ja_cons (je_var 9) (ja_nil)))))) (jt_b (je_bin (jo_eqD true) (je_sub (je_var 9) (je_var 8)) (je_var 6))))))) (js_ret (je_bl _)) (js_skip)) (js_setI (jpl_var 4) (je_var 6) (je_bl _)))))) (js_seq (js_lock_set 5 (je_lcK (jv_var 0) (jil_walk (jv_var 0)) (jg_name 6) (jt_b (je_bin jo_isN (je_var 6) (je_non))) (je_var 6))) (js_seq (js_fz [.k, .k, .k, .k, .j, .k, .o, .k, .k, .k, .k] (js_forK (jv_var 4) (jil_walk (jv_var 4)) (jg_name 6) (js_expr (je_bmL jm_extend (jpl_var 5) (ja_cons (je_lc (ji_walk (je_sub (je_var 1) (je_var 6))) (jg_name 10) (jt_b (je_bin jo_isN (je_var 10) (je_non))) (je_var 10)) (ja_nil)))))) (js_seq (js_if (jt_not (jt_b (je_call jo_all (ja_cons (je_lcK (jv_var 5) (jil_walk (jv_var 5)) (jg_name 6) (jt_yes) (je_bin (jo_inN false) (je_var 6) (je_var 4))) (ja_nil))))) (js_ret (je_bl _)) (js_skip)) (js_ret (je_bin (jo_eqD false) (je_var 3) (je_lc (ji_walk (je_call jo_sorted (ja_cons (je_var 1) (ja_nil)))) (jg_name 6) (jt_b (je_bin (jo_inN true) (je_var 6) (je_var 4))) (je_var 6)))))))))
def p_law : PF := pFn 16 [false] (pSeq (pSet 1 (pApp [false, false] p_law_codes [.v (pVar 0), .v (pC (.int 60))])) (pSeq (pSetT [11, 12, 13] (pApp [false] p_law_view [.v (pVar 1)])) (pFrzR 13 (pFrzR 12 (pFrzR 11 (pSeq (pSet 2 (pBin dAdd (pVar 11) (pUn dSortSet (pVar 13)))) (pSeq (pSet 3 (pSl (pBin dAdd (pSl (pVar 1) (pPart (pC (.int 20))) (pNoP)) (pLst (pCons (pC (.int 0)) (pCons (pC (.int 0)) (pCons (pC (.int 0)) (pCons (pC (.int 0)) (pNil))))))) (pNoP) (pPart (pC (.int 4))))) (pSeq (pSet 4 (pApp [false, false, false] p_law_walk [.v (pVar 2), .v (pVar 12), .v (pBin dAdd (pC (.int 1)) (pSel2 dIx (pVar 3) (pC (.int 0))))])) (pSeq (pSet 5 (pLc (pWalk (pCall dSorted (pCons (pVar 12) (pNil)))) [14] (tdName 14) (pB (pBin dNotIn (pVar 14) (pLc (pWk itemsK (pVar 4)) [15] (tdName 15) (pYes) (pSel2 dIx (pVar 15) (pC (.int 0)))))) (pVar 14))) (pSeq (pFor (pWalk (pSl (pVar 3) (pPart (pC (.int 1))) (pPart (pC (.int 3))))) (tdName 6) (pSetT [4, 5] (pApp [false, false, false, false] p_law_spoilt [.v (pVar 4), .v (pVar 5), .v (pVar 6), .v (pVar 12)]))) (pSeq (pSet 7 (pTup (pCons (pCall dList (pCons (pVar 11) (pNil))) (pCons (pDictM (pLc (pWk itemsK (pVar 12)) [14] (tdName 14) (pYes) (pTup (pCons (pVar 14) (pCons (pCall dList (pCons (pSel2 dSub2 (pVar 12) (pVar 14)) (pNil))) (pNil)))))) (pNil))))) (pSeq (pSet 8 (pTup (pCons (pCall dList (pCons (pVar 4) (pNil))) (pCons (pCall dList (pCons (pVar 5) (pNil))) (pNil))))) (pFrzR 5 (pFrzR 4 (pSeq (pSet 9 (pCall dList (pCons (pVar 13) (pNil)))) (pSeq (pSet 10 (pApp [false, false, false] p_round_judged [.v (pVar 7), .v (pVar 9), .v (pVar 8)])) (pSeq (pIfS (pOr (pB (pBin dNeT (pVar 7) (pTupH (pCons (pVar 11) (pCons (pVar 12) (pNil)))))) (pOr (pB (pBin dNe (pVar 8) (pTupH (pCons (pVar 4) (pCons (pVar 5) (pNil)))))) (pOr (pB (pBin dNe (pVar 9) (pVar 13))) (pNot (pB (pUn (dIsi it_bool) (pVar 10))))))) (pRet (pC (.bl false))) (pSkip)) (pRet (pBin dEq (pVar 10) (pApp [false, false, false, false] p_law_right [.v (pVar 2), .v (pVar 12), .v (pVar 4), .v (pVar 5)]))))))))))))))))))))
theorem j_law : JF f_law [false] p_law := jf_of (js_seq (js_set 1 (je_app j_law_codes (jar_v (je_var 0) (jar_v (je_int _) (jar_nil))))) (js_seq (js_setT [11, 12, 13] (je_app j_law_view (jar_v (je_var 1) (jar_nil)))) (js_frzR 13 (js_frzR 12 (js_frzR 11 (js_seq (js_set 2 (je_bin jo_add (je_var 11) (je_un (o := oSortSet) jo_sortSet (je_var 13)))) (js_seq (js_set 3 (je_sl (je_bin jo_add (je_sl (je_var 1) (jop_some (je_int _)) (jop_no)) (je_lst (ja_cons (je_int _) (ja_cons (je_int _) (ja_cons (je_int _) (ja_cons (je_int _) (ja_nil))))))) (jop_no) (jop_some (je_int _)))) (js_seq (js_set 4 (je_app j_law_walk (jar_v (je_var 2) (jar_v (je_var 12) (jar_v (je_bin jo_add (je_int _) (je_ix (je_var 3) (je_int _))) (jar_nil)))))) (js_seq (js_set 5 (je_lc (ji_walk (je_call jo_sorted (ja_cons (je_var 12) (ja_nil)))) (jg_name 14) (jt_b (je_bin (jo_inN true) (je_var 14) (je_lcK (jv_var 4) (jil_walk (jv_var 4)) (jg_name 15) (jt_yes) (je_ix (je_var 15) (je_int _))))) (je_var 14))) (js_seq (js_for (ji_walk (je_sl (je_var 3) (jop_some (je_int _)) (jop_some (je_int _)))) (jg_name 6) (js_setT [4, 5] (je_app j_law_spoilt (jar_v (je_var 4) (jar_v (je_var 5) (jar_v (je_var 6) (jar_v (je_var 12) (jar_nil)))))))) (js_seq (js_set 7 (je_tup (ja_cons (je_call jo_list (ja_cons (je_var 11) (ja_nil))) (ja_cons (je_dictM (je_lcK (jv_var 12) (jil_walk (jv_var 12)) (jg_name 14) (jt_yes) (je_tup (ja_cons (je_var 14) (ja_cons (je_call jo_list (ja_cons (je_sub (je_var 12) (je_var 14)) (ja_nil))) (ja_nil)))))) (ja_nil))))) (js_seq (js_set 8 (je_tup (ja_cons (je_call jo_list (ja_cons (je_var 4) (ja_nil))) (ja_cons (je_call jo_list (ja_cons (je_var 5) (ja_nil))) (ja_nil))))) (js_frzR 5 (js_frzR 4 (js_seq (js_set 9 (je_call jo_list (ja_cons (je_var 13) (ja_nil)))) (js_seq (js_set 10 (je_app j_round_judged (jar_v (je_var 7) (jar_v (je_var 9) (jar_v (je_var 8) (jar_nil)))))) (js_seq (js_if (jt_or (jt_b (je_bin jo_neT (je_var 7) (je_tupH (ja_cons (je_var 11) (ja_cons (je_var 12) (ja_nil)))))) (jt_or (jt_b (je_bin (jo_eqD true) (je_var 8) (je_tupH (ja_cons (je_var 4) (ja_cons (je_var 5) (ja_nil)))))) (jt_or (jt_b (je_bin (jo_eqD true) (je_var 9) (je_var 13))) (jt_not (jt_b (je_isi (je_var 10))))))) (js_ret (je_bl _)) (js_skip)) (js_ret (je_bin (jo_eqD false) (je_var 10) (je_app j_law_right (jar_v (je_var 2) (jar_v (je_var 12) (jar_v (je_var 4) (jar_v (je_var 5) (jar_nil)))))))))))))))))))))))))
end
structure Fx (K : PySem.W.Frag) (mg : Str → Option Value) : Prop where
  bi_all : mg "all" = none
  bi_len : mg "len" = none
  bi_dict : mg "dict" = none
  bi_list : mg "list" = none
  bi_sorted : mg "sorted" = none
  bi_sum : mg "sum" = none
  bi_range : mg "range" = none
  bi_int : mg "int" = none
  bi_max : mg "max" = none
  bi_reversed : mg "reversed" = none
  bi_set : mg "set" = none
  bi_isinstance : mg "isinstance" = none
  xc_BadView : XcF T K mg 1 "BadView"
  is_bool : IsiF T K mg ["bool"] it_bool
section
variable {w : World} {K : PySem.W.Frag} {mg : Str → Option Value} {base : Heap}
theorem ok_f_law_codes (Q : Fx K mg)  {f : Addr} {fd : FuncData} (F : Fun K "_law_codes" "_law_codes" (atTop prog 17) f fd) : FnOk prog w K mg base (L2.CX prog w) 1 f fd ["script", "many"] (spOf ⟨K, mg, T.cs, T.xs⟩ 2 f_law_codes) := by
  refine fnOk_of (k := 0) (N := ["script", "many", "codes", "mixed", "k", "rest", "j", "step"]) F ⟨rfl, rfl, rfl, by decide +kernel, rfl, by decide +kernel, by decide +kernel⟩ rfl rfl (fun X cdv A outer s H E hX C => ?_)
  subst hX
  exact ds_cons (ds_set C.nd (de_lst (da_nil))) (ds_cons (ds_set C.nd (de_cmp (op2_eq C.u64) (de_bin op2_mod (de_callB (cal_sum C.calm) Q.bi_sum (by decide +kernel) (da_cons (de_var 0) (da_nil))) (de_int)) (de_int) rfl)) (ds_cons (ds_for C.toCtx (di_range1 Q.bi_range (da_cons (de_callB cal_len Q.bi_len (by decide +kernel) (da_cons (de_var 0) (da_nil))) da_nil)) (dg_name C.nd) (ds_cons (ds_set C.nd (de_sub C.u1 (de_var 0) (de_var 4))) (ds_cons (ds_if (dt_tru (de_var 3)) (ds_cons (ds_set C.nd (de_bin op2_mod (de_bin op2_mul (de_bin op2_add (de_bin op2_add (de_bin op2_mod (de_var 5) (de_int)) (de_bin op2_mul (de_int) (de_var 4))) (de_int)) (de_int)) (de_int))) (ds_cons (ds_set C.nd (de_bin op2_mod (de_bin op2_mul (de_var 7) (de_var 7)) (de_int))) (ds_one (ds_set C.nd (de_bin op2_add (de_bin op2_mul (de_bin op2_mul (de_var 7) (de_var 7)) (de_int)) (de_var 7)))))) (ds_nil)) (ds_one (ds_for C.toCtx (di_range1 Q.bi_range (da_cons (de_int) da_nil)) (dg_name C.nd) (ds_cons (ds_expr (de_bm PySem.F.plainAttrs_list PySem.F.slot_list_append PySem.F.type_list_append mth_append (de_var 2) (da_cons (de_bin op2_mod (de_var 5) (de_int)) (da_nil)))) (ds_one (ds_set C.nd (de_bin op2_div (de_var 5) (de_int)))))))))) (ds_one (ds_ret (de_slice (de_var 2) (do_none) (do_some (de_var 1)))))))
theorem ok_f_law_picked (Q : Fx K mg)  {f : Addr} {fd : FuncData} (F : Fun K "_law_picked" "_law_picked" (atTop prog 18) f fd) : FnOk prog w K mg base (L2.CX prog w) 1 f fd ["things", "number"] (spOf ⟨K, mg, T.cs, T.xs⟩ 2 f_law_picked) := by
  refine fnOk_of (k := 0) (N := ["things", "number"]) F ⟨rfl, rfl, rfl, by decide +kernel, rfl, by decide +kernel, by decide +kernel⟩ rfl rfl (fun X cdv A outer s H E hX C => ?_)
  subst hX
  exact ds_cons (ds_if (dt_w (dw_or (dt_cmp (op2_eq C.u64) (de_var 0) (de_lst (da_nil)) rfl) (dw_or1 (dt_cmp (op2_eq C.u64) (de_bin op2_mod (de_var 1) (de_int)) (de_int) rfl)))) (ds_one (ds_ret (de_non))) (ds_nil)) (ds_one (ds_ret (de_sub C.u1 (de_var 0) (de_bin op2_mod (de_bin op2_div (de_var 1) (de_int)) (de_callB cal_len Q.bi_len (by decide +kernel) (da_cons (de_var 0) (da_nil)))))))
theorem ok_f_law_view (Q : Fx K mg) (h_law_picked : FnF T prog w K mg base "_law_picked" 2 1 f_law_picked) {f : Addr} {fd : FuncData} (F : Fun K "_law_view" "_law_view" (atTop prog 19) f fd) : FnOk prog w K mg base (L2.CX prog w) 2 f fd ["codes"] (spOf ⟨K, mg, T.cs, T.xs⟩ 1 f_law_view) := by
  refine fnOk_of (k := 1) (N := ["codes", "head", "many", "things", "rest", "fields", "j", "code", "roots", "k", "back", "row"]) F ⟨rfl, rfl, rfl, by decide +kernel, rfl, by decide +kernel, by decide +kernel⟩ rfl rfl (fun X cdv A outer s H E hX C => ?_)
  subst hX
  exact ds_cons (ds_set C.nd (de_ix (de_bin op2_add (de_var 0) (de_lst (da_cons (de_int) (da_nil)))) (de_int))) (ds_cons (ds_set C.nd (de_bin op2_mod (de_var 1) (de_int))) (ds_cons (ds_setLc (i := 3) (own := [("j", 6)]) (is := [6]) C.toCtx (di_range1 Q.bi_range (da_cons (de_var 2) da_nil)) (show BlkOk ["codes", "head", "many", "things", "rest", "fields", "j", "code", "roots", "k", "back", "row"] (defScope (atTop prog 19)) _ _ from ⟨rfl, by decide +kernel, by decide +kernel, by decide +kernel, by decide +kernel⟩) (fun s H cC cl fp => pg_name (i := 6) (by exact C.nd) rfl (by first | exact Or.inl rfl | exact Or.inr rfl) (by first | exact .inl rfl | exact .inr rfl)) tgok_name (by decide) (fun s H cC cl fp C => dts_nil) (fun s H cC cl fp C => de_bin op2_mul (de_bin op2_add (de_bin op2_mul (de_int) (de_var 6)) (de_bin op2_mod (de_bin op2_div (de_var 1) (de_int)) (de_int))) (de_ix (de_lst (da_cons (de_int) (da_cons (de_int) (da_cons (de_bin op2_pow (de_int) (de_int)) (da_nil))))) (de_bin op2_mod (de_bin op2_div (de_var 1) (de_int)) (de_int))))) (ds_cons (ds_set C.nd (de_slice (de_var 0) (do_some (de_int)) (do_none))) (ds_cons (ds_set C.nd (de_dict0)) (ds_cons (ds_for C.toCtx (di_range1 Q.bi_range (da_cons (de_var 2) da_nil)) (dg_name C.nd) (ds_cons (ds_set C.nd (de_sub C.u1 (de_bin op2_add (de_var 4) (de_bin op2_mul (de_lst (da_cons (de_int) (da_nil))) (de_int))) (de_var 6))) (ds_cons (ds_set C.nd (de_lst (da_nil))) (ds_cons (ds_for C.toCtx (di_range1 Q.bi_range (da_cons (de_bin op2_mod (de_var 7) (de_int)) da_nil)) (dg_name C.nd) (ds_cons (ds_set C.nd (de_bin op2_mod (de_bin op2_mul (de_var 7) (de_int)) (de_int))) (ds_one (ds_expr (de_bm PySem.F.plainAttrs_list PySem.F.slot_list_append PySem.F.type_list_append mth_append (de_var 11) (da_cons (de_call C.toCtx h_law_picked (by decide) (da_cons (de_var 3) (da_cons (de_bin op2_div (de_var 7) (de_int)) (da_nil)))) (da_nil))))))) (ds_one (ds_setI (st3_set C.u1) (de_var 5) (de_sub C.u1 (de_var 3) (de_var 6)) (de_var 11))))))) (ds_cons (ds_set C.nd (de_ix (de_bin op2_add (de_var 4) (de_bin op2_mul (de_lst (da_cons (de_int) (da_nil))) (de_int))) (de_int))) (ds_cons (ds_set C.nd (de_lst (da_nil))) (ds_cons (ds_for C.toCtx (di_range1 Q.bi_range (da_cons (de_bin op2_mod (de_bin op2_div (de_var 7) (de_int)) (de_int)) da_nil)) (dg_name C.nd) (ds_cons (ds_set C.nd (de_bin op2_mod (de_bin op2_mul (de_var 7) (de_int)) (de_int))) (ds_one (ds_expr (de_bm PySem.F.plainAttrs_list PySem.F.slot_list_append PySem.F.type_list_append mth_append (de_var 8) (da_cons (de_call C.toCtx h_law_picked (by decide) (da_cons (de_var 3) (da_cons (de_bin op2_div (de_var 7) (de_int)) (da_nil)))) (da_nil))))))) (ds_cons (ds_set C.nd (de_ix (de_bin op2_add (de_var 4) (de_bin op2_mul (de_lst (da_cons (de_int) (da_nil))) (de_int))) (de_int))) (ds_cons (ds_set C.nd (de_lst (da_nil))) (ds_cons (ds_for C.toCtx (di_range1 Q.bi_range (da_cons (de_bin op2_mul (de_bin op2_mod (de_var 7) (de_int)) (de_callTy cal_int Q.bi_int (by decide +kernel) (da_cons (de_cmp op2_gt (de_var 2) (de_int) rfl) (da_nil)))) da_nil)) (dg_name C.nd) (ds_cons (ds_set C.nd (de_bin op2_mod (de_bin op2_mul (de_var 7) (de_int)) (de_int))) (ds_one (ds_expr (de_bm PySem.F.plainAttrs_list PySem.F.slot_list_append PySem.F.type_list_append mth_append (de_var 10) (da_cons (de_sub C.u1 (de_var 3) (de_bin op2_mod (de_bin op2_div (de_var 7) (de_int)) (de_var 2))) (da_nil))))))) (ds_one (ds_ret (de_tup (da_cons (de_var 8) (da_cons (de_var 5) (da_cons (de_var 10) (da_nil))))))))))))))))))
theorem ok_f_law_walk (Q : Fx K mg)  {f : Addr} {fd : FuncData} (F : Fun K "_law_walk" "_law_walk" (atTop prog 21) f fd) : FnOk prog w K mg base (L2.CX prog w) 1 f fd ["roots", "fields", "number"] (spOf ⟨K, mg, T.cs, T.xs⟩ 3 f_law_walk) := by
  refine fnOk_of (k := 0) (N := ["roots", "fields", "number", "line", "met", "triples", "k", "t", "since", "place", "row"]) F ⟨rfl, rfl, rfl, by decide +kernel, rfl, by decide +kernel, by decide +kernel⟩ rfl rfl (fun X cdv A outer s H E hX C => ?_)
  subst hX
  exact ds_cons (ds_setLc (i := 3) (own := [("k", 6)]) (is := [6]) C.toCtx (di_range1 Q.bi_range (da_cons (de_callB cal_len Q.bi_len (by decide +kernel) (da_cons (de_var 0) (da_nil))) da_nil)) (show BlkOk ["roots", "fields", "number", "line", "met", "triples", "k", "t", "since", "place", "row"] (defScope (atTop prog 21)) _ _ from ⟨rfl, by decide +kernel, by decide +kernel, by decide +kernel, by decide +kernel⟩) (fun s H cC cl fp => pg_name (i := 6) (by exact C.nd) rfl (by first | exact Or.inl rfl | exact Or.inr rfl) (by first | exact .inl rfl | exact .inr rfl)) tgok_name (by decide) (fun s H cC cl fp C => dts_one (dt_cmp op2_isN (de_sub C.u1 (de_var 0) (de_var 6)) (de_non) rfl)) (fun s H cC cl fp C => de_tup (da_cons (de_sub C.u1 (de_var 0) (de_var 6)) (da_cons (de_non) (da_cons (de_var 6) (da_nil)))))) (ds_cons (ds_set C.nd (de_dict0)) (ds_cons (ds_set C.nd (de_lst (da_nil))) (ds_cons (ds_while 1000 C.toCtx (dt_cmp op2_gt (de_callB cal_len Q.bi_len (by decide +kernel) (da_cons (de_var 3) (da_nil))) (de_int) rfl) (ds_cons (ds_set C.nd (de_bin op2_mod (de_bin op2_mul (de_var 2) (de_int)) (de_int))) (ds_cons (ds_setT (is := [7, 8, 9]) C.calm (pgs_cons (pg_name (i := 7) C.nd rfl (by first | exact Or.inl rfl | exact Or.inr rfl) (by first | exact .inl rfl | exact .inr rfl)) (pgs_cons (pg_name (i := 8) C.nd rfl (by first | exact Or.inl rfl | exact Or.inr rfl) (by first | exact .inl rfl | exact .inr rfl)) (pgs_cons (pg_name (i := 9) C.nd rfl (by first | exact Or.inl rfl | exact Or.inr rfl) (by first | exact .inl rfl | exact .inr rfl)) (pgs_nil)))) (de_alt (de_bm PySem.F.plainAttrs_list PySem.F.slot_list_pop PySem.F.type_list_pop mth_pop (de_var 3) (da_cons (de_bin op2_mod (de_bin op2_div (de_var 2) (de_int)) (de_callB cal_len Q.bi_len (by decide +kernel) (da_cons (de_var 3) (da_nil)))) (da_nil))) (de_bm PySem.F.plainAttrs_dict PySem.F.slot_dict_pop PySem.F.type_dict_pop mth_dpop (de_var 3) (da_cons (de_bin op2_mod (de_bin op2_div (de_var 2) (de_int)) (de_callB cal_len Q.bi_len (by decide +kernel) (da_cons (de_var 3) (da_nil)))) (da_nil))))) (ds_one (ds_if (dt_cmp (op2_notIn C.u65) (de_var 7) (de_var 4) rfl) (ds_cons (ds_setI (st3_set C.u1) (de_var 4) (de_var 7) (de_bl)) (ds_cons (ds_expr (de_bm PySem.F.plainAttrs_list PySem.F.slot_list_append PySem.F.type_list_append mth_append (de_var 5) (da_cons (de_tup (da_cons (de_var 7) (da_cons (de_var 8) (da_cons (de_var 9) (da_nil))))) (da_nil)))) (ds_cons (ds_set C.nd (de_sub C.u1 (de_var 1) (de_var 7))) (ds_one (ds_expr (de_bm PySem.F.plainAttrs_list PySem.F.slot_list_extend PySem.F.type_list_extend mth_extend (de_var 3) (da_cons (de_lc (own := [("k", 6)]) (is := [6]) C.toCtx (di_range1 Q.bi_range (da_cons (de_callB cal_len Q.bi_len (by decide +kernel) (da_cons (de_var 10) (da_nil))) da_nil)) (show BlkOk ["roots", "fields", "number", "line", "met", "triples", "k", "t", "since", "place", "row"] (defScope (atTop prog 21)) _ _ from ⟨rfl, by decide +kernel, by decide +kernel, by decide +kernel, by decide +kernel⟩) (fun s H cC cl fp => pg_name (i := 6) (by exact C.nd) rfl (by first | exact Or.inl rfl | exact Or.inr rfl) (by first | exact .inl rfl | exact .inr rfl)) tgok_name (by decide) (fun s H cC cl fp C => dts_one (dt_cmp op2_isN (de_sub C.u1 (de_var 10) (de_var 6)) (de_non) rfl)) (fun s H cC cl fp C => de_tup (da_cons (de_sub C.u1 (de_var 10) (de_var 6)) (da_cons (de_var 7) (da_cons (de_var 6) (da_nil)))))) (da_nil)))))))) (ds_nil)))))) (ds_one (ds_ret (de_var 5))))))
theorem ok_f_law_other (Q : Fx K mg)  {f : Addr} {fd : FuncData} (F : Fun K "_law_other" "_law_other" (atTop prog 22) f fd) : FnOk prog w K mg base (L2.CX prog w) 1 f fd ["number", "fields"] (spOf ⟨K, mg, T.cs, T.xs⟩ 2 f_law_other) := by
  refine fnOk_of (k := 0) (N := ["number", "fields", "things"]) F ⟨rfl, rfl, rfl, by decide +kernel, rfl, by decide +kernel, by decide +kernel⟩ rfl rfl (fun X cdv A outer s H E hX C => ?_)
  subst hX
  exact ds_cons (ds_set C.nd (de_callB (cal_sorted C.calm) Q.bi_sorted (by decide +kernel) (da_cons (de_var 1) (da_nil)))) (ds_one (ds_ret (de_ix (de_lst (da_cons (de_non) (da_cons (de_bin op2_pow (de_int) (de_int)) (da_cons (de_un op1_neg (de_int)) (da_cons (de_sub C.u1 (de_bin op2_add (de_var 2) (de_lst (da_cons (de_int) (da_nil)))) (de_bin op2_mod (de_var 0) (de_bin op2_add (de_callB cal_len Q.bi_len (by decide +kernel) (da_cons (de_var 2) (da_nil))) (de_int)))) (da_nil)))))) (de_bin op2_mod (de_bin op2_div (de_var 0) (de_int)) (de_int)))))
theorem ok_f_law_spoilt (Q : Fx K mg) (h_law_other : FnF T prog w K mg base "_law_other" 2 1 f_law_other) {f : Addr} {fd : FuncData} (F : Fun K "_law_spoilt" "_law_spoilt" (atTop prog 23) f fd) : FnOk prog w K mg base (L2.CX prog w) 2 f fd ["triples", "gone", "code", "fields"] (spOf ⟨K, mg, T.cs, T.xs⟩ 4 f_law_spoilt) := by
  refine fnOk_of (k := 1) (N := ["triples", "gone", "code", "fields", "some", "left", "way", "at", "kept", "place"]) F ⟨rfl, rfl, rfl, by decide +kernel, rfl, by decide +kernel, by decide +kernel⟩ rfl rfl (fun X cdv A outer s H E hX C => ?_)
  subst hX
  exact ds_cons (ds_set C.nd (de_callTy (cal_list C.calm) Q.bi_list (by decide +kernel) (da_cons (de_var 0) (da_nil)))) (ds_cons (ds_set C.nd (de_callTy (cal_list C.calm) Q.bi_list (by decide +kernel) (da_cons (de_var 1) (da_nil)))) (ds_cons (ds_set C.nd (de_bin op2_mod (de_var 2) (de_int))) (ds_cons (ds_set C.nd (de_bin op2_mod (de_bin op2_div (de_var 2) (de_int)) (de_callB (cal_max2 C.calm) Q.bi_max (by decide +kernel) (da_cons (de_int) (da_cons (de_callB cal_len Q.bi_len (by decide +kernel) (da_cons (de_var 4) (da_nil))) (da_nil)))))) (ds_cons (ds_if (dt_w (dw_and (dt_cmp (op2_ne C.u64) (de_var 4) (de_lst (da_nil)) rfl) (dw_and1 (dt_cmp (op2_eq C.u64) (de_var 6) (de_int) rfl)))) (ds_one (ds_expr (de_alt (de_bm PySem.F.plainAttrs_list PySem.F.slot_list_pop PySem.F.type_list_pop mth_pop (de_var 4) (da_cons (de_var 7) (da_nil))) (de_bm PySem.F.plainAttrs_dict PySem.F.slot_dict_pop PySem.F.type_dict_pop mth_dpop (de_var 4) (da_cons (de_var 7) (da_nil)))))) (ds_nil)) (ds_cons (ds_if (dt_w (dw_and (dt_cmp (op2_ne C.u64) (de_var 4) (de_lst (da_nil)) rfl) (dw_and1 (dt_cmp (op2_eq C.u64) (de_var 6) (de_int) rfl)))) (ds_one (ds_expr (de_bm PySem.F.plainAttrs_list PySem.F.slot_list_insert PySem.F.type_list_insert mth_insert (de_var 4) (da_cons (de_bin op2_mod (de_bin op2_div (de_var 2) (de_int)) (de_bin op2_add (de_callB cal_len Q.bi_len (by decide +kernel) (da_cons (de_var 4) (da_nil))) (de_int))) (da_cons (de_sub C.u1 (de_var 4) (de_var 7)) (da_nil)))))) (ds_nil)) (ds_cons (ds_if (dt_w (dw_and (dt_cmp op2_lt (de_bin op2_add (de_var 7) (de_int)) (de_callB cal_len Q.bi_len (by decide +kernel) (da_cons (de_var 4) (da_nil))) rfl) (dw_and1 (dt_cmp (op2_eq C.u64) (de_var 6) (de_int) rfl)))) (ds_cons (ds_set C.nd (de_sub C.u1 (de_var 4) (de_var 7))) (ds_cons (ds_setI (st3_set C.u1) (de_var 4) (de_var 7) (de_sub C.u1 (de_var 4) (de_bin op2_add (de_var 7) (de_int)))) (ds_one (ds_setI (st3_set C.u1) (de_var 4) (de_bin op2_add (de_var 7) (de_int)) (de_var 8))))) (ds_nil)) (ds_cons (ds_if (dt_w (dw_and (dt_cmp (op2_ne C.u64) (de_var 4) (de_lst (da_nil)) rfl) (dw_and1 (dt_cmp (op2_eq C.u64) (de_var 6) (de_int) rfl)))) (ds_one (ds_setI (st3_set C.u1) (de_var 4) (de_var 7) (de_tup (da_cons (de_call C.toCtx h_law_other (by decide) (da_cons (de_bin op2_div (de_var 2) (de_int)) (da_cons (de_var 3) (da_nil)))) (da_cons (de_ix (de_sub C.u1 (de_var 4) (de_var 7)) (de_int)) (da_cons (de_ix (de_sub C.u1 (de_var 4) (de_var 7)) (de_int)) (da_nil))))))) (ds_nil)) (ds_cons (ds_if (dt_w (dw_and (dt_cmp (op2_ne C.u64) (de_var 4) (de_lst (da_nil)) rfl) (dw_and1 (dt_cmp (op2_eq C.u64) (de_var 6) (de_int) rfl)))) (ds_one (ds_setI (st3_set C.u1) (de_var 4) (de_var 7) (de_tup (da_cons (de_ix (de_sub C.u1 (de_var 4) (de_var 7)) (de_int)) (da_cons (de_call C.toCtx h_law_other (by decide) (da_cons (de_bin op2_div (de_var 2) (de_int)) (da_cons (de_var 3) (da_nil)))) (da_cons (de_ix (de_sub C.u1 (de_var 4) (de_var 7)) (de_int)) (da_nil))))))) (ds_nil)) (ds_cons (ds_if (dt_w (dw_and (dt_cmp (op2_ne C.u64) (de_var 4) (de_lst (da_nil)) rfl) (dw_and1 (dt_cmp (op2_eq C.u64) (de_var 6) (de_int) rfl)))) (ds_cons (ds_set C.nd (de_ix (de_sub C.u1 (de_var 4) (de_var 7)) (de_int))) (ds_cons (ds_if (dt_cmp op2_is (de_var 9) (de_non) rfl) (ds_one (ds_set C.nd (de_int))) (ds_nil)) (ds_one (ds_setI (st3_set C.u1) (de_var 4) (de_var 7) (de_tup (da_cons (de_ix (de_sub C.u1 (de_var 4) (de_var 7)) (de_int)) (da_cons (de_ix (de_sub C.u1 (de_var 4) (de_var 7)) (de_int)) (da_cons (de_ix (de_lst (da_cons (de_non) (da_cons (de_un op1_neg (de_int)) (da_cons (de_bin op2_add (de_var 9) (de_int)) (da_cons (de_bin op2_mod (de_bin op2_div (de_var 2) (de_int)) (de_int)) (da_nil)))))) (de_bin op2_mod (de_bin op2_div (de_var 2) (de_int)) (de_int))) (da_nil))))))))) (ds_nil)) (ds_cons (ds_if (dt_w (dw_and (dt_cmp (op2_ne C.u64) (de_var 5) (de_lst (da_nil)) rfl) (dw_and1 (dt_cmp (op2_eq C.u64) (de_var 6) (de_int) rfl)))) (ds_one (ds_expr (de_alt (de_bm PySem.F.plainAttrs_list PySem.F.slot_list_pop PySem.F.type_list_pop mth_pop (de_var 5) (da_cons (de_bin op2_mod (de_bin op2_div (de_var 2) (de_int)) (de_callB cal_len Q.bi_len (by decide +kernel) (da_cons (de_var 5) (da_nil)))) (da_nil))) (de_bm PySem.F.plainAttrs_dict PySem.F.slot_dict_pop PySem.F.type_dict_pop mth_dpop (de_var 5) (da_cons (de_bin op2_mod (de_bin op2_div (de_var 2) (de_int)) (de_callB cal_len Q.bi_len (by decide +kernel) (da_cons (de_var 5) (da_nil)))) (da_nil)))))) (ds_nil)) (ds_cons (ds_if (dt_cmp (op2_eq C.u64) (de_var 6) (de_int) rfl) (ds_one (ds_expr (de_bm PySem.F.plainAttrs_list PySem.F.slot_list_insert PySem.F.type_list_insert mth_insert (de_var 5) (da_cons (de_bin op2_mod (de_bin op2_div (de_var 2) (de_int)) (de_bin op2_add (de_callB cal_len Q.bi_len (by decide +kernel) (da_cons (de_var 5) (da_nil))) (de_int))) (da_cons (de_ix (de_lst (da_cons (de_bin op2_pow (de_int) (de_int)) (da_cons (de_int) (da_cons (de_int) (da_cons (de_un op1_neg (de_int)) (da_nil)))))) (de_bin op2_mod (de_bin op2_div (de_var 2) (de_int)) (de_int))) (da_nil)))))) (ds_nil)) (ds_cons (ds_if (dt_cmp (op2_eq C.u64) (de_var 6) (de_int) rfl) (ds_one (ds_set C.nd (de_lstRev C.calm Q.bi_list Q.bi_reversed (de_var 5)))) (ds_nil)) (ds_one (ds_ret (de_tup (da_cons (de_var 4) (da_cons (de_var 5) (da_nil))))))))))))))))))
theorem ok_f_look_at_told (Q : Fx K mg)  {f : Addr} {fd : FuncData} (F : Fun K "look_at_told" "look_at_told" (atTop prog 5) f fd) : FnOk prog w K mg base (L2.CX prog w) 1 f fd ["fields", "told"] (spOf ⟨K, mg, T.cs, T.xs⟩ 2 f_look_at_told) := by
  refine fnOk_of (k := 0) (N := ["fields", "told", "thing"]) F ⟨rfl, rfl, rfl, by decide +kernel, rfl, by decide +kernel, by decide +kernel⟩ rfl rfl (fun X cdv A outer s H E hX C => ?_)
  subst hX
  exact ds_one (ds_lock (p := pick (mVar 1)) C (fun W C => ds_for C.toCtx (di_walk (de_var 1)) (dg_name C.nd) (ds_one (ds_if (dt_w (dw_and (dt_cmp op2_isN (de_var 2) (de_non) rfl) (dw_and1 (dt_cmp (op2_notIn C.u65) (de_var 2) (de_var 0) rfl)))) (ds_one (ds_raise C Q.xc_BadView)) (ds_nil)))))
theorem ok_f_look_at_view (Q : Fx K mg) (h_look_at_told : FnF T prog w K mg base "look_at_told" 2 1 f_look_at_told) {f : Addr} {fd : FuncData} (F : Fun K "look_at_view" "look_at_view" (atTop prog 6) f fd) : FnOk prog w K mg base (L2.CX prog w) 2 f fd ["view"] (spOf ⟨K, mg, T.cs, T.xs⟩ 1 f_look_at_view) := by
  refine fnOk_of (k := 1) (N := ["view", "thing", "roots", "fields"]) F ⟨rfl, rfl, rfl, by decide +kernel, rfl, by decide +kernel, by decide +kernel⟩ rfl rfl (fun X cdv A outer s H E hX C => ?_)
  subst hX
  exact ds_cons (ds_setT (is := [2, 3]) C.calm (pgs_cons (pg_name (i := 2) C.nd rfl (by first | exact Or.inl rfl | exact Or.inr rfl) (by first | exact .inl rfl | exact .inr rfl)) (pgs_cons (pg_name (i := 3) C.nd rfl (by first | exact Or.inl rfl | exact Or.inr rfl) (by first | exact .inl rfl | exact .inr rfl)) (pgs_nil))) (de_var 0)) (ds_cons (ds_expr (de_call C.toCtx h_look_at_told (by decide) (da_cons (de_var 3) (da_cons (de_var 2) (da_nil))))) (ds_one (ds_lock (p := pick (mVar 3)) C (fun W C => ds_for C.toCtx (di_walk (de_var 3)) (dg_name C.nd) (ds_one (ds_expr (de_call C.toCtx h_look_at_told (by decide) (da_cons (de_var 3) (da_cons (de_sub C.u1 (de_var 3) (de_var 1)) (da_nil))))))))))
theorem ok_f_step_stands (Q : Fx K mg)  {f : Addr} {fd : FuncData} (F : Fun K "step_stands" "step_stands" (atTop prog 10) f fd) : FnOk prog w K mg base (L2.CX prog w) 1 f fd ["view", "ahead", "triple"] (spOf ⟨K, mg, T.cs, T.xs⟩ 3 f_step_stands) := by
  refine fnOk_of (k := 0) (N := ["view", "ahead", "triple", "told", "thing", "since", "place"]) F ⟨rfl, rfl, rfl, by decide +kernel, rfl, by decide +kernel, by decide +kernel⟩ rfl rfl (fun X cdv A outer s H E hX C => ?_)
  subst hX
  exact ds_cons (ds_setT (is := [4, 5, 6]) C.calm (pgs_cons (pg_name (i := 4) C.nd rfl (by first | exact Or.inl rfl | exact Or.inr rfl) (by first | exact .inl rfl | exact .inr rfl)) (pgs_cons (pg_name (i := 5) C.nd rfl (by first | exact Or.inl rfl | exact Or.inr rfl) (by first | exact .inl rfl | exact .inr rfl)) (pgs_cons (pg_name (i := 6) C.nd rfl (by first | exact Or.inl rfl | exact Or.inr rfl) (by first | exact .inl rfl | exact .inr rfl)) (pgs_nil)))) (de_var 2)) (ds_cons (ds_set C.nd (de_ix (de_var 0) (de_int))) (ds_cons (ds_if (dt_cmp op2_isN (de_var 5) (de_non) rfl) (ds_cons (ds_if (dt_cmp (op2_notIn C.u65) (de_var 5) (de_var 1) rfl) (ds_one (ds_ret (de_bl))) (ds_nil)) (ds_one (ds_set C.nd (de_sub C.u1 (de_ix (de_var 0) (de_int)) (de_var 5))))) (ds_nil)) (ds_one (ds_ret (de_and (de_cmp op2_isN (de_var 6) (de_non) rfl) (de_and (de_chain op2_le op2_lt (de_int) (de_var 6) (de_callB cal_len Q.bi_len (by decide +kernel) (da_cons (de_var 3) (da_nil)))) (de_one (de_cmp (op2_eq C.u64) (de_sub C.u1 (de_var 3) (de_var 6)) (de_var 4) rfl))))))))
theorem ok_f_root_things (Q : Fx K mg)  {f : Addr} {fd : FuncData} (F : Fun K "root_things" "root_things" (atTop prog 7) f fd) : FnOk prog w K mg base (L2.CX prog w) 1 f fd ["view"] (spOf ⟨K, mg, T.cs, T.xs⟩ 1 f_root_things) := by
  refine fnOk_of (k := 0) (N := ["view", "thing"]) F ⟨rfl, rfl, rfl, by decide +kernel, rfl, by decide +kernel, by decide +kernel⟩ rfl rfl (fun X cdv A outer s H E hX C => ?_)
  subst hX
  exact ds_one (ds_ret (de_lock (p := pick (mBin oIx (mVar 0) (mC (.int 0)))) C.toCtx (fun W C => de_lc (own := [("thing", 1)]) (is := [1]) C.toCtx (di_walk (de_ix (de_var 0) (de_int))) (show BlkOk ["view", "thing"] (defScope (atTop prog 7)) _ _ from ⟨rfl, by decide +kernel, by decide +kernel, by decide +kernel, by decide +kernel⟩) (fun s H cC cl fp => pg_name (i := 1) (by exact C.nd) rfl (by first | exact Or.inl rfl | exact Or.inr rfl) (by first | exact .inl rfl | exact .inr rfl)) tgok_name (by decide) (fun s H cC cl fp C => dts_one (dt_cmp op2_isN (de_var 1) (de_non) rfl)) (fun s H cC cl fp C => de_var 1))))
theorem ok_f_closed_over (Q : Fx K mg) (h_root_things : FnF T prog w K mg base "root_things" 1 1 f_root_things) {f : Addr} {fd : FuncData} (F : Fun K "closed_over" "closed_over" (atTop prog 9) f fd) : FnOk prog w K mg base (L2.CX prog w) 2 f fd ["view", "things"] (spOf ⟨K, mg, T.cs, T.xs⟩ 2 f_closed_over) := by
  refine fnOk_of (k := 1) (N := ["view", "things", "told", "thing", "other"]) F ⟨rfl, rfl, rfl, by decide +kernel, rfl, by decide +kernel, by decide +kernel⟩ rfl rfl (fun X cdv A outer s H E hX C => ?_)
  subst hX
  exact ds_cons (ds_set C.nd (de_call C.toCtx h_root_things (by decide) (da_cons (de_var 0) (da_nil)))) (ds_cons (ds_lock (p := pick (mVar 1)) C (fun W C => ds_for C.toCtx (di_walk (de_var 1)) (dg_name C.nd) (ds_one (ds_expr (de_bm PySem.F.plainAttrs_list PySem.F.slot_list_extend PySem.F.type_list_extend mth_extend (de_var 2) (da_cons (de_lc (own := [("other", 4)]) (is := [4]) C.toCtx (di_walk (de_sub C.u1 (de_ix (de_var 0) (de_int)) (de_var 3))) (show BlkOk ["view", "things", "told", "thing", "other"] (defScope (atTop prog 9)) _ _ from ⟨rfl, by decide +kernel, by decide +kernel, by decide +kernel, by decide +kernel⟩) (fun s H cC cl fp => pg_name (i := 4) (by exact C.nd) rfl (by first | exact Or.inl rfl | exact Or.inr rfl) (by first | exact .inl rfl | exact .inr rfl)) tgok_name (by decide) (fun s H cC cl fp C => dts_one (dt_cmp op2_isN (de_var 4) (de_non) rfl)) (fun s H cC cl fp C => de_var 4)) (da_nil))))))) (ds_one (ds_ret (de_callB (cal_all C.calm) Q.bi_all (by decide +kernel) (da_cons (de_lock (p := pick (mVar 2)) C.toCtx (fun W C => de_lc (own := [("other", 4)]) (is := [4]) C.toCtx (di_walk (de_var 2)) (show BlkOk ["view", "things", "told", "thing", "other"] (defScope (atTop prog 9)) _ _ from ⟨rfl, by decide +kernel, by decide +kernel, by decide +kernel, by decide +kernel⟩) (fun s H cC cl fp => pg_name (i := 4) (by exact C.nd) rfl (by first | exact Or.inl rfl | exact Or.inr rfl) (by first | exact .inl rfl | exact .inr rfl)) tgok_name (by decide) (fun s H cC cl fp C => dts_nil) (fun s H cC cl fp C => de_cmp (op2_in C.u65) (de_var 4) (de_var 1) rfl))) (da_nil))))))
theorem ok_f_paper_judged (Q : Fx K mg) (h_look_at_view : FnF T prog w K mg base "look_at_view" 1 2 f_look_at_view) (h_step_stands : FnF T prog w K mg base "step_stands" 3 1 f_step_stands) (h_closed_over : FnF T prog w K mg base "closed_over" 2 2 f_closed_over) {f : Addr} {fd : FuncData} (F : Fun K "paper_judged" "paper_judged" (atTop prog 11) f fd) : FnOk prog w K mg base (L2.CX prog w) 3 f fd ["view", "triples"] (spOf ⟨K, mg, T.cs, T.xs⟩ 2 f_paper_judged) := by
  refine fnOk_of (k := 2) (N := ["view", "triples", "ahead", "triple"]) F ⟨rfl, rfl, rfl, by decide +kernel, rfl, by decide +kernel, by decide +kernel⟩ rfl rfl (fun X cdv A outer s H E hX C => ?_)
  subst hX
  exact ds_cons (ds_expr (de_call C.toCtx h_look_at_view (by decide) (da_cons (de_var 0) (da_nil)))) (ds_cons (ds_set C.nd (de_dict0)) (ds_cons (ds_lock (p := pick (mVar 1)) C (fun W C => ds_for C.toCtx (di_walk (de_var 1)) (dg_name C.nd) (ds_cons (ds_if (dt_w (dw_or (dt_cmp op2_is (de_ix (de_var 3) (de_int)) (de_non) rfl) (dw_or (dt_cmp (op2_in C.u65) (de_ix (de_var 3) (de_int)) (de_var 2) rfl) (dw_or1 (dt_not (dt_val (de_call C.toCtx h_step_stands (by decide) (da_cons (de_var 0) (da_cons (de_var 2) (da_cons (de_var 3) (da_nil))))))))))) (ds_one (ds_ret (de_bl))) (ds_nil)) (ds_one (ds_setI (st3_set C.u1) (de_var 2) (de_ix (de_var 3) (de_int)) (de_bl)))))) (ds_one (ds_ret (de_call C.toCtx h_closed_over (by decide) (da_cons (de_var 0) (da_cons (de_var 2) (da_nil))))))))
theorem ok_f_wider (Q : Fx K mg)  {f : Addr} {fd : FuncData} (F : Fun K "wider" "wider" (atTop prog 13) f fd) : FnOk prog w K mg base (L2.CX prog w) 1 f fd ["view", "read"] (spOf ⟨K, mg, T.cs, T.xs⟩ 2 f_wider) := by
  refine fnOk_of (k := 0) (N := ["view", "read", "back", "t"]) F ⟨rfl, rfl, rfl, by decide +kernel, rfl, by decide +kernel, by decide +kernel⟩ rfl rfl (fun X cdv A outer s H E hX C => ?_)
  subst hX
  exact ds_cons (ds_set C.nd (de_callTy (cal_dict C.calm) Q.bi_dict (by decide +kernel) (da_cons (de_lock (p := pick (mVar 1)) C.toCtx (fun W C => de_lc (own := [("t", 3)]) (is := [3]) C.toCtx (di_walk (de_var 1)) (show BlkOk ["view", "read", "back", "t"] (defScope (atTop prog 13)) _ _ from ⟨rfl, by decide +kernel, by decide +kernel, by decide +kernel, by decide +kernel⟩) (fun s H cC cl fp => pg_name (i := 3) (by exact C.nd) rfl (by first | exact Or.inl rfl | exact Or.inr rfl) (by first | exact .inl rfl | exact .inr rfl)) tgok_name (by decide) (fun s H cC cl fp C => dts_nil) (fun s H cC cl fp C => de_tup (da_cons (de_var 3) (da_cons (de_bl) (da_nil)))))) (da_nil)))) (ds_one (ds_ret (de_tup (da_cons (de_bin op2_add (de_callTy (cal_list C.calm) Q.bi_list (by decide +kernel) (da_cons (de_ix (de_var 0) (de_int)) (da_nil))) (de_callB (cal_sorted C.calm) Q.bi_sorted (by decide +kernel) (da_cons (de_var 2) (da_nil)))) (da_cons (de_ix (de_var 0) (de_int)) (da_nil))))))
theorem ok_f_others_of (Q : Fx K mg)  {f : Addr} {fd : FuncData} (F : Fun K "others_of" "others_of" (atTop prog 14) f fd) : FnOk prog w K mg base (L2.CX prog w) 1 f fd ["view", "triples"] (spOf ⟨K, mg, T.cs, T.xs⟩ 2 f_others_of) := by
  refine fnOk_of (k := 0) (N := ["view", "triples", "told", "t", "triple"]) F ⟨rfl, rfl, rfl, by decide +kernel, rfl, by decide +kernel, by decide +kernel⟩ rfl rfl (fun X cdv A outer s H E hX C => ?_)
  subst hX
  exact ds_cons (ds_set C.nd (de_callTy (cal_dict C.calm) Q.bi_dict (by decide +kernel) (da_cons (de_lock (p := pick (mVar 1)) C.toCtx (fun W C => de_lc (own := [("triple", 4)]) (is := [4]) C.toCtx (di_walk (de_var 1)) (show BlkOk ["view", "triples", "told", "t", "triple"] (defScope (atTop prog 14)) _ _ from ⟨rfl, by decide +kernel, by decide +kernel, by decide +kernel, by decide +kernel⟩) (fun s H cC cl fp => pg_name (i := 4) (by exact C.nd) rfl (by first | exact Or.inl rfl | exact Or.inr rfl) (by first | exact .inl rfl | exact .inr rfl)) tgok_name (by decide) (fun s H cC cl fp C => dts_nil) (fun s H cC cl fp C => de_tup (da_cons (de_ix (de_var 4) (de_int)) (da_cons (de_bl) (da_nil)))))) (da_nil)))) (ds_one (ds_ret (de_lc (own := [("t", 3)]) (is := [3]) C.toCtx (di_walk (de_callB (cal_sorted C.calm) Q.bi_sorted (by decide +kernel) (da_cons (de_ix (de_var 0) (de_int)) (da_nil)))) (show BlkOk ["view", "triples", "told", "t", "triple"] (defScope (atTop prog 14)) _ _ from ⟨rfl, by decide +kernel, by decide +kernel, by decide +kernel, by decide +kernel⟩) (fun s H cC cl fp => pg_name (i := 3) (by exact C.nd) rfl (by first | exact Or.inl rfl | exact Or.inr rfl) (by first | exact .inl rfl | exact .inr rfl)) tgok_name (by decide) (fun s H cC cl fp C => dts_one (dt_cmp (op2_notIn C.u65) (de_var 3) (de_var 2) rfl)) (fun s H cC cl fp C => de_var 3))))
theorem ok_f_round_judged (Q : Fx K mg) (h_paper_judged : FnF T prog w K mg base "paper_judged" 2 3 f_paper_judged) (h_wider : FnF T prog w K mg base "wider" 2 1 f_wider) (h_others_of : FnF T prog w K mg base "others_of" 2 1 f_others_of) {f : Addr} {fd : FuncData} (F : Fun K "round_judged" "round_judged" (atTop prog 15) f fd) : FnOk prog w K mg base (L2.CX prog w) 4 f fd ["view", "read", "paper"] (spOf ⟨K, mg, T.cs, T.xs⟩ 3 f_round_judged) := by
  refine fnOk_of (k := 3) (N := ["view", "read", "paper", "triples", "gone"]) F ⟨rfl, rfl, rfl, by decide +kernel, rfl, by decide +kernel, by decide +kernel⟩ rfl rfl (fun X cdv A outer s H E hX C => ?_)
  subst hX
  exact ds_cons (ds_setT (is := [3, 4]) C.calm (pgs_cons (pg_name (i := 3) C.nd rfl (by first | exact Or.inl rfl | exact Or.inr rfl) (by first | exact .inl rfl | exact .inr rfl)) (pgs_cons (pg_name (i := 4) C.nd rfl (by first | exact Or.inl rfl | exact Or.inr rfl) (by first | exact .inl rfl | exact .inr rfl)) (pgs_nil))) (de_var 2)) (ds_one (ds_ret (de_and (de_call C.toCtx h_paper_judged (by decide) (da_cons (de_call C.toCtx h_wider (by decide) (da_cons (de_var 0) (da_cons (de_var 1) (da_nil)))) (da_cons (de_var 3) (da_nil)))) (de_one (de_cmp (op2_eq C.u64) (de_callTy (cal_list C.calm) Q.bi_list (by decide +kernel) (da_cons (de_var 4) (da_nil))) (de_call C.toCtx h_others_of (by decide) (da_cons (de_var 0) (da_cons (de_var 3) (da_nil)))) rfl)))))
theorem ok_f_law_right (Q : Fx K mg)  {f : Addr} {fd : FuncData} (F : Fun K "_law_right" "_law_right" (atTop prog 20) f fd) : FnOk prog w K mg base (L2.CX prog w) 1 f fd ["roots", "fields", "triples", "gone"] (spOf ⟨K, mg, T.cs, T.xs⟩ 4 f_law_right) := by
  refine fnOk_of (k := 0) (N := ["roots", "fields", "triples", "gone", "ahead", "due", "t", "since", "place", "told", "other"]) F ⟨rfl, rfl, rfl, by decide +kernel, rfl, by decide +kernel, by decide +kernel⟩ rfl rfl (fun X cdv A outer s H E hX C => ?_)
  subst hX
  exact ds_cons (ds_set C.nd (de_dict0)) (ds_cons (ds_lock (p := pick (mVar 2)) C (fun W C => ds_for C.toCtx (di_walk (de_var 2)) (dg_tup (is := [6, 7, 8]) C.calm (pgs_cons (pg_name (i := 6) C.nd rfl (by first | exact Or.inl rfl | exact Or.inr rfl) (by first | exact .inl rfl | exact .inr rfl)) (pgs_cons (pg_name (i := 7) C.nd rfl (by first | exact Or.inl rfl | exact Or.inr rfl) (by first | exact .inl rfl | exact .inr rfl)) (pgs_cons (pg_name (i := 8) C.nd rfl (by first | exact Or.inl rfl | exact Or.inr rfl) (by first | exact .inl rfl | exact .inr rfl)) (pgs_nil))))) (ds_cons (ds_set C.nd (de_var 0)) (ds_cons (ds_if (dt_cmp op2_isN (de_var 7) (de_non) rfl) (ds_cons (ds_if (dt_cmp (op2_notIn C.u65) (de_var 7) (de_var 4) rfl) (ds_one (ds_ret (de_bl))) (ds_nil)) (ds_one (ds_set C.nd (de_sub C.u1 (de_var 1) (de_var 7))))) (ds_nil)) (ds_cons (ds_if (dt_w (dw_or (dt_cmp op2_is (de_var 6) (de_non) rfl) (dw_or (dt_cmp (op2_in C.u65) (de_var 6) (de_var 4) rfl) (dw_or (dt_cmp op2_is (de_var 8) (de_non) rfl) (dw_or (dt_not (dt_chain op2_le op2_lt (de_int) (de_var 8) (de_callB cal_len Q.bi_len (by decide +kernel) (da_cons (de_var 9) (da_nil))))) (dw_or1 (dt_cmp (op2_ne C.u64) (de_sub C.u1 (de_var 9) (de_var 8)) (de_var 6) rfl))))))) (ds_one (ds_ret (de_bl))) (ds_nil)) (ds_one (ds_setI (st3_set C.u1) (de_var 4) (de_var 6) (de_bl)))))))) (ds_cons (ds_lock (p := pick (mVar 0)) C (fun W C => ds_setLc (i := 5) (own := [("t", 6)]) (is := [6]) C.toCtx (di_walk (de_var 0)) (show BlkOk ["roots", "fields", "triples", "gone", "ahead", "due", "t", "since", "place", "told", "other"] (defScope (atTop prog 20)) _ _ from ⟨rfl, by decide +kernel, by decide +kernel, by decide +kernel, by decide +kernel⟩) (fun s H cC cl fp => pg_name (i := 6) (by exact C.nd) rfl (by first | exact Or.inl rfl | exact Or.inr rfl) (by first | exact .inl rfl | exact .inr rfl)) tgok_name (by decide) (fun s H cC cl fp C => dts_one (dt_cmp op2_isN (de_var 6) (de_non) rfl)) (fun s H cC cl fp C => de_var 6))) (ds_cons (ds_lock (p := pick (mVar 4)) C (fun W C => ds_for C.toCtx (di_walk (de_var 4)) (dg_name C.nd) (ds_one (ds_expr (de_bm PySem.F.plainAttrs_list PySem.F.slot_list_extend PySem.F.type_list_extend mth_extend (de_var 5) (da_cons (de_lc (own := [("other", 10)]) (is := [10]) C.toCtx (di_walk (de_sub C.u1 (de_var 1) (de_var 6))) (show BlkOk ["roots", "fields", "triples", "gone", "ahead", "due", "t", "since", "place", "told", "other"] (defScope (atTop prog 20)) _ _ from ⟨rfl, by decide +kernel, by decide +kernel, by decide +kernel, by decide +kernel⟩) (fun s H cC cl fp => pg_name (i := 10) (by exact C.nd) rfl (by first | exact Or.inl rfl | exact Or.inr rfl) (by first | exact .inl rfl | exact .inr rfl)) tgok_name (by decide) (fun s H cC cl fp C => dts_one (dt_cmp op2_isN (de_var 10) (de_non) rfl)) (fun s H cC cl fp C => de_var 10)) (da_nil))))))) (ds_cons (ds_if (dt_not (dt_val (de_callB (cal_all C.calm) Q.bi_all (by decide +kernel) (da_cons (de_lock (p := pick (mVar 5)) C.toCtx (fun W C => de_lc (own := [("t", 6)]) (is := [6]) C.toCtx (di_walk (de_var 5)) (show BlkOk ["roots", "fields", "triples", "gone", "ahead", "due", "t", "since", "place", "told", "other"] (defScope (atTop prog 20)) _ _ from ⟨rfl, by decide +kernel, by decide +kernel, by decide +kernel, by decide +kernel⟩) (fun s H cC cl fp => pg_name (i := 6) (by exact C.nd) rfl (by first | exact Or.inl rfl | exact Or.inr rfl) (by first | exact .inl rfl | exact .inr rfl)) tgok_name (by decide) (fun s H cC cl fp C => dts_nil) (fun s H cC cl fp C => de_cmp (op2_in C.u65) (de_var 6) (de_var 4) rfl))) (da_nil))))) (ds_one (ds_ret (de_bl))) (ds_nil)) (ds_one (ds_ret (de_cmp (op2_eq C.u64) (de_var 3) (de_lc (own := [("t", 6)]) (is := [6]) C.toCtx (di_walk (de_callB (cal_sorted C.calm) Q.bi_sorted (by decide +kernel) (da_cons (de_var 1) (da_nil)))) (show BlkOk ["roots", "fields", "triples", "gone", "ahead", "due", "t", "since", "place", "told", "other"] (defScope (atTop prog 20)) _ _ from ⟨rfl, by decide +kernel, by decide +kernel, by decide +kernel, by decide +kernel⟩) (fun s H cC cl fp => pg_name (i := 6) (by exact C.nd) rfl (by first | exact Or.inl rfl | exact Or.inr rfl) (by first | exact .inl rfl | exact .inr rfl)) tgok_name (by decide) (fun s H cC cl fp C => dts_one (dt_cmp (op2_notIn C.u65) (de_var 6) (de_var 4) rfl)) (fun s H cC cl fp C => de_var 6)) rfl)))))))
theorem ok_f_law (Q : Fx K mg) (h_law_codes : FnF T prog w K mg base "_law_codes" 2 1 f_law_codes) (h_law_view : FnF T prog w K mg base "_law_view" 1 2 f_law_view) (h_law_walk : FnF T prog w K mg base "_law_walk" 3 1 f_law_walk) (h_law_spoilt : FnF T prog w K mg base "_law_spoilt" 4 2 f_law_spoilt) (h_round_judged : FnF T prog w K mg base "round_judged" 3 4 f_round_judged) (h_law_right : FnF T prog w K mg base "_law_right" 4 1 f_law_right) {f : Addr} {fd : FuncData} (F : Fun K "law" "law" (atTop prog 24) f fd) : FnOk prog w K mg base (L2.CX prog w) 5 f fd ["script"] (spOf ⟨K, mg, T.cs, T.xs⟩ 1 f_law) := by
  refine fnOk_of (k := 4) (N := ["script", "codes", "wide", "more", "triples", "gone", "code", "view", "paper", "handed", "told", "roots", "fields", "back", "t", "triple"]) F ⟨rfl, rfl, rfl, by decide +kernel, rfl, by decide +kernel, by decide +kernel⟩ rfl rfl (fun X cdv A outer s H E hX C => ?_)
  subst hX
  exact ds_cons (ds_set C.nd (de_call C.toCtx h_law_codes (by decide) (da_cons (de_var 0) (da_cons (de_int) (da_nil))))) (ds_cons (ds_setT (is := [11, 12, 13]) C.calm (pgs_cons (pg_name (i := 11) C.nd rfl (by first | exact Or.inl rfl | exact Or.inr rfl) (by first | exact .inl rfl | exact .inr rfl)) (pgs_cons (pg_name (i := 12) C.nd rfl (by first | exact Or.inl rfl | exact Or.inr rfl) (by first | exact .inl rfl | exact .inr rfl)) (pgs_cons (pg_name (i := 13) C.nd rfl (by first | exact Or.inl rfl | exact Or.inr rfl) (by first | exact .inl rfl | exact .inr rfl)) (pgs_nil)))) (de_call C.toCtx h_law_view (by decide) (da_cons (de_var 1) (da_nil)))) (ds_cons (ds_set C.nd (de_bin op2_add (de_var 11) (de_sortSet C.calm Q.bi_sorted Q.bi_set (de_var 13)))) (ds_cons (ds_set C.nd (de_slice (de_bin op2_add (de_slice (de_var 1) (do_some (de_int)) (do_none)) (de_lst (da_cons (de_int) (da_cons (de_int) (da_cons (de_int) (da_cons (de_int) (da_nil))))))) (do_none) (do_some (de_int)))) (ds_cons (ds_set C.nd (de_call C.toCtx h_law_walk (by decide) (da_cons (de_var 2) (da_cons (de_var 12) (da_cons (de_bin op2_add (de_int) (de_ix (de_var 3) (de_int))) (da_nil)))))) (ds_cons (ds_setLc (i := 5) (own := [("t", 14)]) (is := [14]) C.toCtx (di_walk (de_callB (cal_sorted C.calm) Q.bi_sorted (by decide +kernel) (da_cons (de_var 12) (da_nil)))) (show BlkOk ["script", "codes", "wide", "more", "triples", "gone", "code", "view", "paper", "handed", "told", "roots", "fields", "back", "t", "triple"] (defScope (atTop prog 24)) _ _ from ⟨rfl, by decide +kernel, by decide +kernel, by decide +kernel, by decide +kernel⟩) (fun s H cC cl fp => pg_name (i := 14) (by exact C.nd) rfl (by first | exact Or.inl rfl | exact Or.inr rfl) (by first | exact .inl rfl | exact .inr rfl)) tgok_name (by decide) (fun s H cC cl fp C => dts_one (dt_cmp (op2_notIn C.u65) (de_var 14) (de_lock (p := pick (mVar 4)) C.toCtx (fun W C => de_lc (own := [("triple", 15)]) (is := [15]) C.toCtx (di_walk (de_var 4)) (show BlkOk ["script", "codes", "wide", "more", "triples", "gone", "code", "view", "paper", "handed", "told", "roots", "fields", "back", "t", "triple"] ({ kind := .function, names := [(".0", .local), ("t", .local), ("triples", .cell)], isGenerator := false, isCoroutine := false } : Scope) ({ kind := .function, names := [(".0", .local), ("triple", .local)], isGenerator := false, isCoroutine := false } : Scope) [("triple", 15)] from ⟨rfl, by decide +kernel, by decide +kernel, by decide +kernel, by decide +kernel⟩) (fun s H cC cl fp => pg_name (i := 15) (by exact C.nd) rfl (by first | exact Or.inl rfl | exact Or.inr rfl) (by first | exact .inl rfl | exact .inr rfl)) tgok_name (by decide) (fun s H cC cl fp C => dts_nil) (fun s H cC cl fp C => de_ix (de_var 15) (de_int)))) rfl)) (fun s H cC cl fp C => de_var 14)) (ds_cons (ds_for C.toCtx (di_walk (de_slice (de_var 3) (do_some (de_int)) (do_some (de_int)))) (dg_name C.nd) (ds_one (ds_setT (is := [4, 5]) C.calm (pgs_cons (pg_name (i := 4) C.nd rfl (by first | exact Or.inl rfl | exact Or.inr rfl) (by first | exact .inl rfl | exact .inr rfl)) (pgs_cons (pg_name (i := 5) C.nd rfl (by first | exact Or.inl rfl | exact Or.inr rfl) (by first | exact .inl rfl | exact .inr rfl)) (pgs_nil))) (de_call C.toCtx h_law_spoilt (by decide) (da_cons (de_var 4) (da_cons (de_var 5) (da_cons (de_var 6) (da_cons (de_var 12) (da_nil))))))))) (ds_cons (ds_set C.nd (de_tup (da_cons (de_callTy (cal_list C.calm) Q.bi_list (by decide +kernel) (da_cons (de_var 11) (da_nil))) (da_cons (de_callTy (cal_dict C.calm) Q.bi_dict (by decide +kernel) (da_cons (de_lock (p := pick (mVar 12)) C.toCtx (fun W C => de_lc (own := [("t", 14)]) (is := [14]) C.toCtx (di_walk (de_var 12)) (show BlkOk ["script", "codes", "wide", "more", "triples", "gone", "code", "view", "paper", "handed", "told", "roots", "fields", "back", "t", "triple"] (defScope (atTop prog 24)) _ _ from ⟨rfl, by decide +kernel, by decide +kernel, by decide +kernel, by decide +kernel⟩) (fun s H cC cl fp => pg_name (i := 14) (by exact C.nd) rfl (by first | exact Or.inl rfl | exact Or.inr rfl) (by first | exact .inl rfl | exact .inr rfl)) tgok_name (by decide) (fun s H cC cl fp C => dts_nil) (fun s H cC cl fp C => de_tup (da_cons (de_var 14) (da_cons (de_callTy (cal_list C.calm) Q.bi_list (by decide +kernel) (da_cons (de_sub C.u1 (de_var 12) (de_var 14)) (da_nil))) (da_nil)))))) (da_nil))) (da_nil))))) (ds_cons (ds_set C.nd (de_tup (da_cons (de_callTy (cal_list C.calm) Q.bi_list (by decide +kernel) (da_cons (de_var 4) (da_nil))) (da_cons (de_callTy (cal_list C.calm) Q.bi_list (by decide +kernel) (da_cons (de_var 5) (da_nil))) (da_nil))))) (ds_cons (ds_set C.nd (de_callTy (cal_list C.calm) Q.bi_list (by decide +kernel) (da_cons (de_var 13) (da_nil)))) (ds_cons (ds_set C.nd (de_call C.toCtx h_round_judged (by decide) (da_cons (de_var 7) (da_cons (de_var 9) (da_cons (de_var 8) (da_nil)))))) (ds_cons (ds_if (dt_w (dw_or (dt_cmp (op2_neT C.u64) (de_var 7) (de_tup (da_cons (de_var 11) (da_cons (de_var 12) (da_nil)))) rfl) (dw_or (dt_cmp (op2_ne C.u64) (de_var 8) (de_tup (da_cons (de_var 4) (da_cons (de_var 5) (da_nil)))) rfl) (dw_or (dt_cmp (op2_ne C.u64) (de_var 9) (de_var 13) rfl) (dw_or1 (dt_not (dt_val (de_is1 Q.bi_isinstance Q.is_bool (de_var 10))))))))) (ds_one (ds_ret (de_bl))) (ds_nil)) (ds_one (ds_ret (de_cmp (op2_eq C.u64) (de_var 10) (de_call C.toCtx h_law_right (by decide) (da_cons (de_var 2) (da_cons (de_var 12) (da_cons (de_var 4) (da_cons (de_var 5) (da_nil)))))) rfl))))))))))))))
end
set_option linter.unusedVariables false in
theorem all_mk {w : World} {K : PySem.W.Frag} {h : Heap} {mg : Str → Option Value} (X : K.In h) (G : h.Ns mainGlobals mg) {fa X0 X1 f0 f1 f2 f3 f4 f5 f6 f7 f8 f9 f10 f11 f12 f13 f14 f15 f16 : Addr} (hfa : mg "law" = some (.ref fa))
    {od0 an0 od1 an1 od2 an2 od3 an3 od4 an4 od5 an5 od6 an6 od7 an7 od8 an8 od9 an9 od10 an10 od11 an11 od12 an12 od13 an13 od14 an14 od15 an15 od16 an16 : Option Addr} {sl0 sl1 sl2 sl3 sl4 sl5 sl6 sl7 sl8 sl9 sl10 sl11 sl12 sl13 sl14 sl15 sl16 : Array (Option Value)} {oc0 kV0 dc0 pm0 cd0 ct0 oc1 kV1 dc1 pm1 cd1 ct1 oc2 kV2 dc2 pm2 cd2 ct2 oc3 kV3 dc3 pm3 cd3 ct3 oc4 kV4 dc4 pm4 cd4 ct4 oc5 kV5 dc5 pm5 cd5 ct5 oc6 kV6 dc6 pm6 cd6 ct6 oc7 kV7 dc7 pm7 cd7 ct7 oc8 kV8 dc8 pm8 cd8 ct8 oc9 kV9 dc9 pm9 cd9 ct9 oc10 kV10 dc10 pm10 cd10 ct10 oc11 kV11 dc11 pm11 cd11 ct11 oc12 kV12 dc12 pm12 cd12 ct12 oc13 kV13 dc13 pm13 cd13 ct13 oc14 kV14 dc14 pm14 cd14 ct14 oc15 kV15 dc15 pm15 cd15 ct15 oc16 kV16 dc16 pm16 cd16 ct16 : Value}
    (ax0 : PySem.W.nsIn K mainGlobals "HeapError" = some (some (.ref X0)))
    (ax1 : PySem.W.nsIn K mainGlobals "BadView" = some (some (.ref X1)))
    (zb_all : PySem.W.nsIn K mainGlobals "all" = some none)
    (zb_len : PySem.W.nsIn K mainGlobals "len" = some none)
    (zb_dict : PySem.W.nsIn K mainGlobals "dict" = some none)
    (zb_list : PySem.W.nsIn K mainGlobals "list" = some none)
    (zb_sorted : PySem.W.nsIn K mainGlobals "sorted" = some none)
    (zb_sum : PySem.W.nsIn K mainGlobals "sum" = some none)
    (zb_range : PySem.W.nsIn K mainGlobals "range" = some none)
    (zb_int : PySem.W.nsIn K mainGlobals "int" = some none)
    (zb_max : PySem.W.nsIn K mainGlobals "max" = some none)
    (zb_reversed : PySem.W.nsIn K mainGlobals "reversed" = some none)
    (zb_set : PySem.W.nsIn K mainGlobals "set" = some none)
    (zb_isinstance : PySem.W.nsIn K mainGlobals "isinstance" = some none)
    (zb_bool : PySem.W.nsIn K mainGlobals "bool" = some none)
    (jc1 : PySem.W.specialIn K (.builtin "object.__class__") "__get__" = some (some (.builtin "getset_descriptor.__get__")))
    (jc2 : PySem.W.takesIn K (.builtin "object.__class__") = some true)
    (ex0_1 : PySem.W.findIn K (.ref X0) "__getattribute__" = some (some (.builtin "BaseException.__getattribute__")))
    (ex0_2 : PySem.W.findIn K (.ref X0) "__getattr__" = some none)
    (ex0_3 : PySem.W.subIn K (.ref X0) (.type "BaseException") = some true)
    (ex0_4 : PySem.W.hasDictIn K X0 = true)
    (ex0_5 : PySem.W.findIn K (.ref X0) "__class__" = some (some (.builtin "object.__class__")))
    (ex0_6 : PySem.W.mroIn K X0 (.type "object") = some true)
    (ex1_1 : PySem.W.findIn K (.ref X1) "__getattribute__" = some (some (.builtin "BaseException.__getattribute__")))
    (ex1_2 : PySem.W.findIn K (.ref X1) "__getattr__" = some none)
    (ex1_3 : PySem.W.subIn K (.ref X1) (.type "BaseException") = some true)
    (ex1_4 : PySem.W.hasDictIn K X1 = true)
    (ex1_5 : PySem.W.findIn K (.ref X1) "__class__" = some (some (.builtin "object.__class__")))
    (ex1_6 : PySem.W.mroIn K X1 (.type "object") = some true)
    (ki_bool_0 : PySem.W.kitAny K (.ref X0) [(.type "bool")] = some false)
    (ki_bool_1 : PySem.W.kitAny K (.ref X1) [(.type "bool")] = some false)
    (kt_bool_NoneType : PySem.W.kitAny K (.type "NoneType") [(.type "bool")] = some false)
    (kt_bool_bool : PySem.W.kitAny K (.type "bool") [(.type "bool")] = some true)
    (kt_bool_int : PySem.W.kitAny K (.type "int") [(.type "bool")] = some false)
    (kt_bool_str : PySem.W.kitAny K (.type "str") [(.type "bool")] = some false)
    (kt_bool_list : PySem.W.kitAny K (.type "list") [(.type "bool")] = some false)
    (kt_bool_tuple : PySem.W.kitAny K (.type "tuple") [(.type "bool")] = some false)
    (kt_bool_dict : PySem.W.kitAny K (.type "dict") [(.type "bool")] = some false)
    (xi_BadView : PySem.W.excIn K X1 [.type "ValueError", .type "Exception", .type "BaseException", .type "object"] "ValueError.__new__" = true)
    (xk_BadView : PySem.W.keepIn K (.ref X1) = true)
    (xt_BadView : PySem.W.typeIn K (.ref X1) = some (.type "type"))
    (a0 : PySem.W.nsIn K mainGlobals "_law_codes" = some (some (.ref f0)))
    (l0 : K.lookup f0 = some ⟨oc0, od0, .func (PySem.W.fnOf "_law_codes" "_law_codes" (defArgs (atTop prog 17)) (defBody (atTop prog 17)) (defScope (atTop prog 17)) .none kV0 dc0 pm0 an0 cd0 ct0), sl0⟩)
    (c0 : PySem.W.codeIn K cd0 "_law_codes" = true)
    (k0 : PySem.W.keepIn K (.ref f0) = true)
    (a1 : PySem.W.nsIn K mainGlobals "_law_picked" = some (some (.ref f1)))
    (l1 : K.lookup f1 = some ⟨oc1, od1, .func (PySem.W.fnOf "_law_picked" "_law_picked" (defArgs (atTop prog 18)) (defBody (atTop prog 18)) (defScope (atTop prog 18)) .none kV1 dc1 pm1 an1 cd1 ct1), sl1⟩)
    (c1 : PySem.W.codeIn K cd1 "_law_picked" = true)
    (k1 : PySem.W.keepIn K (.ref f1) = true)
    (a2 : PySem.W.nsIn K mainGlobals "_law_view" = some (some (.ref f2)))
    (l2 : K.lookup f2 = some ⟨oc2, od2, .func (PySem.W.fnOf "_law_view" "_law_view" (defArgs (atTop prog 19)) (defBody (atTop prog 19)) (defScope (atTop prog 19)) .none kV2 dc2 pm2 an2 cd2 ct2), sl2⟩)
    (c2 : PySem.W.codeIn K cd2 "_law_view" = true)
    (k2 : PySem.W.keepIn K (.ref f2) = true)
    (a3 : PySem.W.nsIn K mainGlobals "_law_walk" = some (some (.ref f3)))
    (l3 : K.lookup f3 = some ⟨oc3, od3, .func (PySem.W.fnOf "_law_walk" "_law_walk" (defArgs (atTop prog 21)) (defBody (atTop prog 21)) (defScope (atTop prog 21)) .none kV3 dc3 pm3 an3 cd3 ct3), sl3⟩)
    (c3 : PySem.W.codeIn K cd3 "_law_walk" = true)
    (k3 : PySem.W.keepIn K (.ref f3) = true)
    (a4 : PySem.W.nsIn K mainGlobals "_law_other" = some (some (.ref f4)))
    (l4 : K.lookup f4 = some ⟨oc4, od4, .func (PySem.W.fnOf "_law_other" "_law_other" (defArgs (atTop prog 22)) (defBody (atTop prog 22)) (defScope (atTop prog 22)) .none kV4 dc4 pm4 an4 cd4 ct4), sl4⟩)
    (c4 : PySem.W.codeIn K cd4 "_law_other" = true)
    (k4 : PySem.W.keepIn K (.ref f4) = true)
    (a5 : PySem.W.nsIn K mainGlobals "_law_spoilt" = some (some (.ref f5)))
    (l5 : K.lookup f5 = some ⟨oc5, od5, .func (PySem.W.fnOf "_law_spoilt" "_law_spoilt" (defArgs (atTop prog 23)) (defBody (atTop prog 23)) (defScope (atTop prog 23)) .none kV5 dc5 pm5 an5 cd5 ct5), sl5⟩)
    (c5 : PySem.W.codeIn K cd5 "_law_spoilt" = true)
    (k5 : PySem.W.keepIn K (.ref f5) = true)
    (a6 : PySem.W.nsIn K mainGlobals "look_at_told" = some (some (.ref f6)))
    (l6 : K.lookup f6 = some ⟨oc6, od6, .func (PySem.W.fnOf "look_at_told" "look_at_told" (defArgs (atTop prog 5)) (defBody (atTop prog 5)) (defScope (atTop prog 5)) .none kV6 dc6 pm6 an6 cd6 ct6), sl6⟩)
    (c6 : PySem.W.codeIn K cd6 "look_at_told" = true)
    (k6 : PySem.W.keepIn K (.ref f6) = true)
    (a7 : PySem.W.nsIn K mainGlobals "look_at_view" = some (some (.ref f7)))
    (l7 : K.lookup f7 = some ⟨oc7, od7, .func (PySem.W.fnOf "look_at_view" "look_at_view" (defArgs (atTop prog 6)) (defBody (atTop prog 6)) (defScope (atTop prog 6)) .none kV7 dc7 pm7 an7 cd7 ct7), sl7⟩)
    (c7 : PySem.W.codeIn K cd7 "look_at_view" = true)
    (k7 : PySem.W.keepIn K (.ref f7) = true)
    (a8 : PySem.W.nsIn K mainGlobals "step_stands" = some (some (.ref f8)))
    (l8 : K.lookup f8 = some ⟨oc8, od8, .func (PySem.W.fnOf "step_stands" "step_stands" (defArgs (atTop prog 10)) (defBody (atTop prog 10)) (defScope (atTop prog 10)) .none kV8 dc8 pm8 an8 cd8 ct8), sl8⟩)
    (c8 : PySem.W.codeIn K cd8 "step_stands" = true)
    (k8 : PySem.W.keepIn K (.ref f8) = true)
    (a9 : PySem.W.nsIn K mainGlobals "root_things" = some (some (.ref f9)))
    (l9 : K.lookup f9 = some ⟨oc9, od9, .func (PySem.W.fnOf "root_things" "root_things" (defArgs (atTop prog 7)) (defBody (atTop prog 7)) (defScope (atTop prog 7)) .none kV9 dc9 pm9 an9 cd9 ct9), sl9⟩)
    (c9 : PySem.W.codeIn K cd9 "root_things" = true)
    (k9 : PySem.W.keepIn K (.ref f9) = true)
    (a10 : PySem.W.nsIn K mainGlobals "closed_over" = some (some (.ref f10)))
    (l10 : K.lookup f10 = some ⟨oc10, od10, .func (PySem.W.fnOf "closed_over" "closed_over" (defArgs (atTop prog 9)) (defBody (atTop prog 9)) (defScope (atTop prog 9)) .none kV10 dc10 pm10 an10 cd10 ct10), sl10⟩)
    (c10 : PySem.W.codeIn K cd10 "closed_over" = true)
    (k10 : PySem.W.keepIn K (.ref f10) = true)
    (a11 : PySem.W.nsIn K mainGlobals "paper_judged" = some (some (.ref f11)))
    (l11 : K.lookup f11 = some ⟨oc11, od11, .func (PySem.W.fnOf "paper_judged" "paper_judged" (defArgs (atTop prog 11)) (defBody (atTop prog 11)) (defScope (atTop prog 11)) .none kV11 dc11 pm11 an11 cd11 ct11), sl11⟩)
    (c11 : PySem.W.codeIn K cd11 "paper_judged" = true)
    (k11 : PySem.W.keepIn K (.ref f11) = true)
    (a12 : PySem.W.nsIn K mainGlobals "wider" = some (some (.ref f12)))
    (l12 : K.lookup f12 = some ⟨oc12, od12, .func (PySem.W.fnOf "wider" "wider" (defArgs (atTop prog 13)) (defBody (atTop prog 13)) (defScope (atTop prog 13)) .none kV12 dc12 pm12 an12 cd12 ct12), sl12⟩)
    (c12 : PySem.W.codeIn K cd12 "wider" = true)
    (k12 : PySem.W.keepIn K (.ref f12) = true)
    (a13 : PySem.W.nsIn K mainGlobals "others_of" = some (some (.ref f13)))
    (l13 : K.lookup f13 = some ⟨oc13, od13, .func (PySem.W.fnOf "others_of" "others_of" (defArgs (atTop prog 14)) (defBody (atTop prog 14)) (defScope (atTop prog 14)) .none kV13 dc13 pm13 an13 cd13 ct13), sl13⟩)
    (c13 : PySem.W.codeIn K cd13 "others_of" = true)
    (k13 : PySem.W.keepIn K (.ref f13) = true)
    (a14 : PySem.W.nsIn K mainGlobals "round_judged" = some (some (.ref f14)))
    (l14 : K.lookup f14 = some ⟨oc14, od14, .func (PySem.W.fnOf "round_judged" "round_judged" (defArgs (atTop prog 15)) (defBody (atTop prog 15)) (defScope (atTop prog 15)) .none kV14 dc14 pm14 an14 cd14 ct14), sl14⟩)
    (c14 : PySem.W.codeIn K cd14 "round_judged" = true)
    (k14 : PySem.W.keepIn K (.ref f14) = true)
    (a15 : PySem.W.nsIn K mainGlobals "_law_right" = some (some (.ref f15)))
    (l15 : K.lookup f15 = some ⟨oc15, od15, .func (PySem.W.fnOf "_law_right" "_law_right" (defArgs (atTop prog 20)) (defBody (atTop prog 20)) (defScope (atTop prog 20)) .none kV15 dc15 pm15 an15 cd15 ct15), sl15⟩)
    (c15 : PySem.W.codeIn K cd15 "_law_right" = true)
    (k15 : PySem.W.keepIn K (.ref f15) = true)
    (a16 : PySem.W.nsIn K mainGlobals "law" = some (some (.ref f16)))
    (l16 : K.lookup f16 = some ⟨oc16, od16, .func (PySem.W.fnOf "law" "law" (defArgs (atTop prog 24)) (defBody (atTop prog 24)) (defScope (atTop prog 24)) .none kV16 dc16 pm16 an16 cd16 ct16), sl16⟩)
    (c16 : PySem.W.codeIn K cd16 "law" = true)
    (k16 : PySem.W.keepIn K (.ref f16) = true)
    : ∃ fd : FuncData, (∀ (s : Shared) (v : Value), BindsTo s fd ⟨[v], []⟩ [("script", v)]) ∧ ∀ base : Heap, K.In base → base.Ns mainGlobals mg → FnOk prog w K mg base (L2.CX prog w) 5 fa fd ["script"] (spOf ⟨K, mg, T.cs, T.xs⟩ 1 f_law) := by
  have e := hfa.symm.trans (PySem.W.mg_of X G a16)
  cases e
  have XC0 : ExcC K X0 := ⟨ex0_1, ex0_2, ex0_3, ex0_4, ex0_5, jc1, jc2, ex0_6⟩
  have XC1 : ExcC K X1 := ⟨ex1_1, ex1_2, ex1_3, ex1_4, ex1_5, jc1, jc2, ex1_6⟩
  have Q : Fx K mg := {
    bi_all := PySem.W.mg_none_of X G zb_all,
    bi_len := PySem.W.mg_none_of X G zb_len,
    bi_dict := PySem.W.mg_none_of X G zb_dict,
    bi_list := PySem.W.mg_none_of X G zb_list,
    bi_sorted := PySem.W.mg_none_of X G zb_sorted,
    bi_sum := PySem.W.mg_none_of X G zb_sum,
    bi_range := PySem.W.mg_none_of X G zb_range,
    bi_int := PySem.W.mg_none_of X G zb_int,
    bi_max := PySem.W.mg_none_of X G zb_max,
    bi_reversed := PySem.W.mg_none_of X G zb_reversed,
    bi_set := PySem.W.mg_none_of X G zb_set,
    bi_isinstance := PySem.W.mg_none_of X G zb_isinstance,
    xc_BadView := ⟨rfl, X1, PySem.W.mg_of X G ax1, xi_BadView, xk_BadView, ex1_3, xt_BadView⟩,
    is_bool := ⟨_, .cons (.inr ⟨_, PySem.W.mg_none_of X G zb_bool, by decide +kernel, rfl⟩) (.nil), itab_ty (rfl) kt_bool_NoneType (itab_ty (rfl) kt_bool_bool (itab_ty (rfl) kt_bool_int (itab_ty (rfl) kt_bool_str (itab_ty (rfl) kt_bool_list (itab_ty (rfl) kt_bool_tuple (itab_ty (rfl) kt_bool_dict (itab_ty (⟨_, _, rfl, PySem.W.mg_of X G ax0, rfl, XC0⟩) ki_bool_0 (itab_ty (⟨_, _, rfl, PySem.W.mg_of X G ax1, rfl, XC1⟩) ki_bool_1 (itab_nil)))))))))⟩ }
  have F0 := fun_mk (st := (atTop prog 17)) l0 c0 k0
  have b0 := F0.binds (ps := ["script", "many"]) fun _ _ _ _ _ _ us hl => match us, hl with | [_, _], _ => rfl
  have F1 := fun_mk (st := (atTop prog 18)) l1 c1 k1
  have b1 := F1.binds (ps := ["things", "number"]) fun _ _ _ _ _ _ us hl => match us, hl with | [_, _], _ => rfl
  have F2 := fun_mk (st := (atTop prog 19)) l2 c2 k2
  have b2 := F2.binds (ps := ["codes"]) fun _ _ _ _ _ _ us hl => match us, hl with | [_], _ => rfl
  have F3 := fun_mk (st := (atTop prog 21)) l3 c3 k3
  have b3 := F3.binds (ps := ["roots", "fields", "number"]) fun _ _ _ _ _ _ us hl => match us, hl with | [_, _, _], _ => rfl
  have F4 := fun_mk (st := (atTop prog 22)) l4 c4 k4
  have b4 := F4.binds (ps := ["number", "fields"]) fun _ _ _ _ _ _ us hl => match us, hl with | [_, _], _ => rfl
  have F5 := fun_mk (st := (atTop prog 23)) l5 c5 k5
  have b5 := F5.binds (ps := ["triples", "gone", "code", "fields"]) fun _ _ _ _ _ _ us hl => match us, hl with | [_, _, _, _], _ => rfl
  have F6 := fun_mk (st := (atTop prog 5)) l6 c6 k6
  have b6 := F6.binds (ps := ["fields", "told"]) fun _ _ _ _ _ _ us hl => match us, hl with | [_, _], _ => rfl
  have F7 := fun_mk (st := (atTop prog 6)) l7 c7 k7
  have b7 := F7.binds (ps := ["view"]) fun _ _ _ _ _ _ us hl => match us, hl with | [_], _ => rfl
  have F8 := fun_mk (st := (atTop prog 10)) l8 c8 k8
  have b8 := F8.binds (ps := ["view", "ahead", "triple"]) fun _ _ _ _ _ _ us hl => match us, hl with | [_, _, _], _ => rfl
  have F9 := fun_mk (st := (atTop prog 7)) l9 c9 k9
  have b9 := F9.binds (ps := ["view"]) fun _ _ _ _ _ _ us hl => match us, hl with | [_], _ => rfl
  have F10 := fun_mk (st := (atTop prog 9)) l10 c10 k10
  have b10 := F10.binds (ps := ["view", "things"]) fun _ _ _ _ _ _ us hl => match us, hl with | [_, _], _ => rfl
  have F11 := fun_mk (st := (atTop prog 11)) l11 c11 k11
  have b11 := F11.binds (ps := ["view", "triples"]) fun _ _ _ _ _ _ us hl => match us, hl with | [_, _], _ => rfl
  have F12 := fun_mk (st := (atTop prog 13)) l12 c12 k12
  have b12 := F12.binds (ps := ["view", "read"]) fun _ _ _ _ _ _ us hl => match us, hl with | [_, _], _ => rfl
  have F13 := fun_mk (st := (atTop prog 14)) l13 c13 k13
  have b13 := F13.binds (ps := ["view", "triples"]) fun _ _ _ _ _ _ us hl => match us, hl with | [_, _], _ => rfl
  have F14 := fun_mk (st := (atTop prog 15)) l14 c14 k14
  have b14 := F14.binds (ps := ["view", "read", "paper"]) fun _ _ _ _ _ _ us hl => match us, hl with | [_, _, _], _ => rfl
  have F15 := fun_mk (st := (atTop prog 20)) l15 c15 k15
  have b15 := F15.binds (ps := ["roots", "fields", "triples", "gone"]) fun _ _ _ _ _ _ us hl => match us, hl with | [_, _, _, _], _ => rfl
  have F16 := fun_mk (st := (atTop prog 24)) l16 c16 k16
  have b16 := F16.binds (ps := ["script"]) fun _ _ _ _ _ _ us hl => match us, hl with | [_], _ => rfl
  refine ⟨PySem.W.fnOf "law" "law" (defArgs (atTop prog 24)) (defBody (atTop prog 24)) (defScope (atTop prog 24)) .none kV16 dc16 pm16 an16 cd16 ct16, fun s v => .of_eq rfl, fun base _ _ => ?_⟩
  have O0 := ok_f_law_codes (w := w) (base := base) Q  F0
  have N0 := fnF_of (T := T) (PySem.W.mg_of X G a0) k0 b0 O0
  have O1 := ok_f_law_picked (w := w) (base := base) Q  F1
  have N1 := fnF_of (T := T) (PySem.W.mg_of X G a1) k1 b1 O1
  have O2 := ok_f_law_view (w := w) (base := base) Q N1 F2
  have N2 := fnF_of (T := T) (PySem.W.mg_of X G a2) k2 b2 O2
  have O3 := ok_f_law_walk (w := w) (base := base) Q  F3
  have N3 := fnF_of (T := T) (PySem.W.mg_of X G a3) k3 b3 O3
  have O4 := ok_f_law_other (w := w) (base := base) Q  F4
  have N4 := fnF_of (T := T) (PySem.W.mg_of X G a4) k4 b4 O4
  have O5 := ok_f_law_spoilt (w := w) (base := base) Q N4 F5
  have N5 := fnF_of (T := T) (PySem.W.mg_of X G a5) k5 b5 O5
  have O6 := ok_f_look_at_told (w := w) (base := base) Q  F6
  have N6 := fnF_of (T := T) (PySem.W.mg_of X G a6) k6 b6 O6
  have O7 := ok_f_look_at_view (w := w) (base := base) Q N6 F7
  have N7 := fnF_of (T := T) (PySem.W.mg_of X G a7) k7 b7 O7
  have O8 := ok_f_step_stands (w := w) (base := base) Q  F8
  have N8 := fnF_of (T := T) (PySem.W.mg_of X G a8) k8 b8 O8
  have O9 := ok_f_root_things (w := w) (base := base) Q  F9
  have N9 := fnF_of (T := T) (PySem.W.mg_of X G a9) k9 b9 O9
  have O10 := ok_f_closed_over (w := w) (base := base) Q N9 F10
  have N10 := fnF_of (T := T) (PySem.W.mg_of X G a10) k10 b10 O10
  have O11 := ok_f_paper_judged (w := w) (base := base) Q N7 N8 N10 F11
  have N11 := fnF_of (T := T) (PySem.W.mg_of X G a11) k11 b11 O11
  have O12 := ok_f_wider (w := w) (base := base) Q  F12
  have N12 := fnF_of (T := T) (PySem.W.mg_of X G a12) k12 b12 O12
  have O13 := ok_f_others_of (w := w) (base := base) Q  F13
  have N13 := fnF_of (T := T) (PySem.W.mg_of X G a13) k13 b13 O13
  have O14 := ok_f_round_judged (w := w) (base := base) Q N11 N12 N13 F14
  have N14 := fnF_of (T := T) (PySem.W.mg_of X G a14) k14 b14 O14
  have O15 := ok_f_law_right (w := w) (base := base) Q  F15
  have N15 := fnF_of (T := T) (PySem.W.mg_of X G a15) k15 b15 O15
  have O16 := ok_f_law (w := w) (base := base) Q N0 N2 N3 N5 N14 N15 F16
  have N16 := fnF_of (T := T) (PySem.W.mg_of X G a16) k16 b16 O16
  exact O16
end Lw
namespace Lw
open PySem PySem.Spec L2 Mi Vi
def lt_b1 : Vi.PS := pIfS (pAnd (pB (pBin dIsN (pVar 2) (pC (.non)))) (pB (pBin dNotIn (pVar 2) (pVar 0)))) (pRaise 1) (pSkip)
theorem lt_def : p_look_at_told = pFn 3 [false, false] (pForK (pVar 1) itemsK (tdName 2) lt_b1) := rfl
def lv_b1 : Vi.PS := pExpr (pApp [false, false] p_look_at_told [.v (pVar 3), .v (pSel2 dSub2 (pVar 3) (pVar 1))])
theorem lv_def : p_look_at_view = pFn 4 [false] (pSeq (pSetT [2, 3] (pVar 0)) (pSeq (pExpr (pApp [false, false] p_look_at_told [.v (pVar 3), .v (pVar 2)])) (pFz [.k, .o, .k, .j] (pForK (pVar 3) itemsK (tdName 1) lv_b1)))) := rfl
def co_b1 : Vi.PS := pExpr (pBM isL mExtend (plVar 2) (pCons (pLc (pWalk (pSel2 dSub2 (pSel2 dIx (pVar 0) (pC (.int 1))) (pVar 3))) [4] (tdName 4) (pB (pBin dIsN (pVar 4) (pC (.non)))) (pVar 4)) (pNil)))
theorem co_def : p_closed_over = pFn 5 [false, false] (pSeq (pSet 2 (pApp [false] p_root_things [.v (pVar 0)])) (pSeq (pForK (pVar 1) itemsK (tdName 3) co_b1) (pRet (pCall dAll (pCons (pLc (pWk itemsK (pVar 2)) [4] (tdName 4) (pYes) (pBin dIn (pVar 4) (pVar 1))) (pNil)))))) := rfl
def pj_b1 : Vi.PS := pSeq (pIfS (pOr (pB (pBin dIs (pSel2 dIx (pVar 3) (pC (.int 0))) (pC (.non)))) (pOr (pB (pBin dIn (pSel2 dIx (pVar 3) (pC (.int 0))) (pVar 2))) (pNot (pB (pApp [false, false, false] p_step_stands [.v (pVar 0), .v (pVar 2), .v (pVar 3)]))))) (pRet (pC (.bl false))) (pSkip)) (pSetI (plVar 2) (pSel2 dIx (pVar 3) (pC (.int 0))) (pC (.bl true)))
theorem pj_def : p_paper_judged = pFn 4 [false, false] (pSeq (pExpr (pApp [false] p_look_at_view [.v (pVar 0)])) (pSeq (pSet 2 (pDict0)) (pSeq (pForK (pVar 1) itemsK (tdName 3) pj_b1) (pRet (pApp [false, false] p_closed_over [.v (pVar 0), .v (pVar 2)]))))) := rfl
theorem wd_def : p_wider = pFn 4 [false, false] (pSeq (pSet 2 (pCall dDict (pCons (pLc (pWk itemsK (pVar 1)) [3] (tdName 3) (pYes) (pTup (pCons (pVar 3) (pCons (pC (.bl true)) (pNil))))) (pNil)))) (pRet (pTup (pCons (pBin dAdd (pCall dList (pCons (pSel2 dIx (pVar 0) (pC (.int 0))) (pNil))) (pCall dSorted (pCons (pVar 2) (pNil)))) (pCons (pSel2 dIx (pVar 0) (pC (.int 1))) (pNil)))))) := rfl
theorem ot_def : p_others_of = pFn 5 [false, false] (pSeq (pSet 2 (pCall dDict (pCons (pLc (pWk itemsK (pVar 1)) [4] (tdName 4) (pYes) (pTup (pCons (pSel2 dIx (pVar 4) (pC (.int 0))) (pCons (pC (.bl true)) (pNil))))) (pNil)))) (pRet (pLc (pWalk (pCall dSorted (pCons (pSel2 dIx (pVar 0) (pC (.int 1))) (pNil)))) [3] (tdName 3) (pB (pBin dNotIn (pVar 3) (pVar 2))) (pVar 3)))) := rfl
theorem rj_def : p_round_judged = pFn 5 [false, false, false] (pSeq (pSetT [3, 4] (pVar 2)) (pRet (pAndV (pApp [false, false] p_paper_judged [.v (pApp [false, false] p_wider [.v (pVar 0), .v (pVar 1)]), .v (pVar 3)]) (pBin dEq (pCall dList (pCons (pVar 4) (pNil))) (pApp [false, false] p_others_of [.v (pVar 0), .v (pVar 3)]))))) := rfl
def lc_b1 : Vi.PS := pSeq (pExpr (pBM isL mAppend (plVar 2) (pCons (pBin dMod (pVar 5) (pC (.int 1048576))) (pNil)))) (pSet 5 (pBin dDiv (pVar 5) (pC (.int 1048576))))
def lc_b2 : Vi.PS := pSeq (pSet 5 (pSel2 dSub2 (pVar 0) (pVar 4))) (pSeq (pIfS (pTru (pVar 3)) (pSeq (pSet 7 (pBin dMod (pBinS dMulL (pBin dAdd (pBin dAdd (pBin dMod (pVar 5) (pC (.int 2147483647))) (pBinS dMulL (pC (.int 977)) (pVar 4))) (pC (.int 11))) (pC (.int 48271))) (pC (.int 2147483647)))) (pSeq (pSet 7 (pBin dMod (pBinS dMulL (pVar 7) (pVar 7)) (pC (.int 2147483647)))) (pSet 5 (pBin dAdd (pBinS dMulL (pBinS dMulL (pVar 7) (pVar 7)) (pC (.int 69621))) (pVar 7))))) (pSkip)) (pFor (pRange1 (pCons (pC (.int 4)) (pNil))) (tdName 6) lc_b1))
theorem lc_def : p_law_codes = pFn 8 [false, false] (pSeq (pSet 2 (pLst (pNil))) (pSeq (pSet 3 (pBin dEq (pBin dMod (pCall dSum (pCons (pVar 0) (pNil))) (pC (.int 2))) (pC (.int 1)))) (pSeq (pFor (pRange1 (pCons (pCall dLen (pCons (pVar 0) (pNil))) (pNil))) (tdName 4) lc_b2) (pRet (pSl (pVar 2) (pNoP) (pPart (pVar 1))))))) := rfl
theorem lp_def : p_law_picked = pFn 2 [false, false] (pSeq (pIfS (pOr (pB (pBin dEq (pVar 0) (pLst (pNil)))) (pB (pBin dEq (pBin dMod (pVar 1) (pC (.int 4))) (pC (.int 0))))) (pRet (pC (.non))) (pSkip)) (pRet (pSel2 dSub2 (pVar 0) (pBin dMod (pBin dDiv (pVar 1) (pC (.int 4))) (pCall dLen (pCons (pVar 0) (pNil))))))) := rfl
def vw_b1 : Vi.PS := pSeq (pSet 7 (pBin dMod (pBinS dMulL (pVar 7) (pC (.int 48271))) (pC (.int 2147483647)))) (pExpr (pBM isL mAppend (plVar 11) (pCons (pApp [false, false] p_law_picked [.v (pVar 3), .v (pBin dDiv (pVar 7) (pC (.int 11)))]) (pNil))))
def vw_b2 : Vi.PS := pSeq (pSet 7 (pSel2 dSub2 (pBin dAdd (pVar 4) (pBinS dMulL (pLst (pCons (pC (.int 0)) (pNil))) (pC (.int 20)))) (pVar 6))) (pSeq (pSet 11 (pLst (pNil))) (pSeq (pFor (pRange1 (pCons (pBin dMod (pVar 7) (pC (.int 7))) (pNil))) (tdName 9) vw_b1) (pSetI (plVar 5) (pSel2 dSub2 (pVar 3) (pVar 6)) (pMv 11))))
def vw_b3 : Vi.PS := pSeq (pSet 7 (pBin dMod (pBinS dMulL (pVar 7) (pC (.int 48271))) (pC (.int 2147483647)))) (pExpr (pBM isL mAppend (plVar 8) (pCons (pApp [false, false] p_law_picked [.v (pVar 3), .v (pBin dDiv (pVar 7) (pC (.int 11)))]) (pNil))))
def vw_b4 : Vi.PS := pSeq (pSet 7 (pBin dMod (pBinS dMulL (pVar 7) (pC (.int 48271))) (pC (.int 2147483647)))) (pExpr (pBM isL mAppend (plVar 10) (pCons (pSel2 dSub2 (pVar 3) (pBin dMod (pBin dDiv (pVar 7) (pC (.int 11))) (pVar 2))) (pNil))))
def rg_b1 : Vi.PS := pSeq (pSet 9 (pMv 0)) (pSeq (pIfS (pB (pBin dIsN (pVar 7) (pC (.non)))) (pSeq (pIfS (pB (pBin dNotIn (pVar 7) (pVar 4))) (pRet (pC (.bl false))) (pSkip)) (pSet 9 (pSel2 dSub2 (pVar 1) (pVar 7)))) (pSkip)) (pSeq (pIfS (pOr (pB (pBin dIs (pVar 6) (pC (.non)))) (pOr (pB (pBin dIn (pVar 6) (pVar 4))) (pOr (pB (pBin dIs (pVar 8) (pC (.non)))) (pOr (pNot (pB (pChain dLe dLt (pC (.int 0)) (pVar 8) (pCall dLen (pCons (pVar 9) (pNil)))))) (pB (pBin dNe (pSel2 dSub2 (pVar 9) (pVar 8)) (pVar 6))))))) (pRet (pC (.bl false))) (pSkip)) (pSetI (plVar 4) (pVar 6) (pC (.bl true)))))
def rg_b2 : Vi.PS := pExpr (pBM isL mExtend (plVar 5) (pCons (pLc (pWalk (pSel2 dSub2 (pVar 1) (pVar 6))) [10] (tdName 10) (pB (pBin dIsN (pVar 10) (pC (.non)))) (pVar 10)) (pNil)))
theorem lo_def : p_law_other = pFn 3 [false, false] (pSeq (pSet 2 (pCall dSorted (pCons (pVar 1) (pNil)))) (pRet (pSel2 dIx (pLst (pCons (pC (.non)) (pCons (pBin dPow (pC (.int 10)) (pC (.int 40))) (pCons (pUn dNeg (pC (.int 1))) (pCons (pSel2 dSub2 (pBin dAdd (pVar 2) (pLst (pCons (pC (.int 4)) (pNil)))) (pBin dMod (pVar 0) (pBin dAdd (pCall dLen (pCons (pVar 2) (pNil))) (pC (.int 1))))) (pNil)))))) (pBin dMod (pBin dDiv (pVar 0) (pC (.int 13))) (pC (.int 4)))))) := rfl
end Lw
namespace Lw
open PySem PySem.Spec L2 Mi Vi
abbrev FL := List (Int × List (Option Int))
def kF (fs : FL) : List (Key × D) := fs.map fun p => (.inl p.1, .lst (p.2.map oI))
abbrev eF (fs : FL) : D := .dk (kF fs)
abbrev eV (rs : List (Option Int)) (fs : FL) : D := .tup [.lst (rs.map oI), .dk (kF fs)]
def ks (fs : FL) : List Int := fs.map (·.1)
def fo (fs : FL) (t : Int) : List (Option Int) := ((fs.find? fun p => decide (p.1 = t)).map (·.2)).getD []
theorem fo_some : ∀ {fs : FL} {t : Int}, t ∈ ks fs → valD (kF fs) (.inl t) = some (.lst ((fo fs t).map oI))
  | [], t, h => by simp [ks] at h
  | p :: fs, t, h => by
    show valD ((.inl p.1, .lst (p.2.map oI)) :: kF fs) (.inl t) = _
    rw [valD_cons]
    by_cases e : p.1 = t
    · subst e; simp [fo]
    · have e' : ¬ (Sum.inl p.1 : Key) = .inl t := fun z => e (Sum.inl.inj z)
      rw [if_neg e', fo_some (by rcases List.mem_cons.mp h with q | q; exact absurd q.symm e; exact q)]
      simp [fo, e]
theorem fo_none : ∀ {fs : FL} {t : Int}, t ∉ ks fs → valD (kF fs) (.inl t) = none
  | [], t, h => rfl
  | p :: fs, t, h => by
    show valD ((.inl p.1, .lst (p.2.map oI)) :: kF fs) (.inl t) = _
    simp only [ks, List.map_cons, List.mem_cons, not_or] at h
    rw [valD_cons, if_neg fun z => h.1 (Sum.inl.inj z).symm, fo_none h.2]
@[simp] theorem vF (fs : FL) (t : Int) : (valD (kF fs) (.inl t)).isSome = decide (t ∈ ks fs) := by
  by_cases h : t ∈ ks fs
  · rw [fo_some h]; simp [h]
  · rw [fo_none h]; simp [h]
structure Wf (rs : List (Option Int)) (fs : FL) : Prop where
  nd : (ks fs).Pairwise (· < ·)
  len : fs.length ≤ 12
  rl : rs.length ≤ 30
  fl : ∀ p ∈ fs, p.2.length ≤ 6
  ri : ∀ x, some x ∈ rs → x ∈ ks fs
  fi : ∀ p ∈ fs, ∀ x, some x ∈ p.2 → x ∈ ks fs
theorem fo_mem {fs : FL} {t : Int} (h : t ∈ ks fs) : (t, fo fs t) ∈ fs := by
  unfold fo
  cases e : fs.find? fun p => decide (p.1 = t) with
  | none =>
    obtain ⟨p, hp, rfl⟩ := List.mem_map.mp h
    have := List.find?_eq_none.mp e p hp
    simp at this
  | some p =>
    have h1 := List.find?_some e
    have h2 := List.mem_of_find?_eq_some e
    simp only [decide_eq_true_eq] at h1
    subst h1
    exact h2
section
variable {fs : FL} {rs : List (Option Int)}
theorem for_dec {α : Type} {tg : TgD} {b : Vi.PS} (g : α → ItD) (p : α → Bool) (R : Vi.Env → Prop) (d : D) : ∀ (l : List α), (∀ a e, a ∈ l → R e → ∃ e1 e2, tg (g a) e = some e1 ∧ R e2 ∧ b e1 = if p a = true then .nx e2 else .rt d .fr e2) → ∀ (e : Vi.Env), R e → ∃ e', R e' ∧ pFor1 tg b (l.map g) e = if l.all p = true then .nx e' else .rt d .fr e'
  | [], h, e, r => ⟨e, r, rfl⟩
  | a :: l, h, e, r => by
    obtain ⟨e1, e2, h1, h2, h3⟩ := h a e List.mem_cons_self r
    obtain ⟨e', h4, h5⟩ := for_dec g p R d l (fun a e q => h a e (List.mem_cons_of_mem _ q)) e2 h2
    rw [List.map_cons]
    unfold pFor1
    rw [h1]
    dsimp only
    rw [h3]
    by_cases z : p a = true
    · rw [if_pos z]
      refine ⟨e', h4, ?_⟩
      dsimp only
      rw [h5, List.all_cons, z, Bool.true_and]
    · rw [if_neg z]
      refine ⟨e2, h2, ?_⟩
      dsimp only
      rw [List.all_cons]
      simp [z]
theorem told_ok (l : List (Option Int)) (h : ∀ x, some x ∈ l → x ∈ ks fs) (hl : l.length ≤ 1000) : p_look_at_told [eF fs, .lst (l.map oI)] = .ok .non .fr [eF fs, .lst (l.map oI)] := by
  rw [lt_def]
  obtain ⟨e', ⟨s, rfl⟩, h2⟩ := for_dec (tg := tdName 2) (b := lt_b1) (fun o => ItD.v (oI o)) (fun _ => true) (fun e => ∃ s, e = [.fz (eF fs), .fz (.lst (l.map oI)), s]) .non l (fun a e ha ⟨s, q⟩ => by
    subst q
    cases a with
    | none => exact ⟨_, [.fz (eF fs), .fz (.lst (l.map oI)), .ow .non], rfl, ⟨_, rfl⟩, by simp [lt_b1, oI, dIsN]⟩
    | some x =>
      have hx := h x ha
      exact ⟨_, [.fz (eF fs), .fz (.lst (l.map oI)), .ow (.int x)], rfl, ⟨_, rfl⟩, by simp [lt_b1, oI, dIsN, hx]⟩) [.fz (eF fs), .fz (.lst (l.map oI)), .no] ⟨_, rfl⟩
  have h3 : pFor1 (tdName 2) lt_b1 (l.map (ItD.v ∘ oI)) [.fz (eF fs), .fz (.lst (l.map oI)), .no] = .nx [.fz (eF fs), .fz (.lst (l.map oI)), s] := by
    have : (l.all fun _ => true) = true := by simp
    rw [this] at h2
    exact h2
  simp [h3]
end
end Lw
namespace Lw
open PySem PySem.Spec L2 Mi Vi
def rt (l : List (Option Int)) : List Int := l.filterMap id
theorem rt_map (l : List (Option Int)) : (l.filter fun o => o.isSome).map oI = (rt l).map .int := by
  induction l with
  | nil => rfl
  | cons o l ih =>
    cases o with
    | none => simpa [rt] using ih
    | some x =>
      simp only [rt] at ih
      simp [rt, oI, ih]
theorem rt_mem {l : List (Option Int)} {x : Int} : x ∈ rt l ↔ some x ∈ l := by simp [rt, List.mem_filterMap]
theorem rt_len (l : List (Option Int)) : (rt l).length ≤ l.length := List.length_filterMap_le _ _
/-- [x for x in l if x is not None] -/
theorem lc_rt (i : Nat) (e0 : Vi.Env) (hi : i < e0.length) (l : List (Option Int)) (hl : l.length ≤ 1000) : lcGoD (tdName i) (pB (pBin dIsN (pVar i) (pC .non))) (pVar i) e0 (l.map (ItD.v ∘ oI)) [] = some ((rt l).map .int) := by
  have h := lc_map (td := tdName i) (c := pB (pBin dIsN (pVar i) (pC .non))) (p := pVar i) (e0 := e0) (fun o => ItD.v (oI o)) (fun o => o.isSome) (fun o => oI o) l [] (by simp [sizeLine]; omega) fun o _ => ⟨e0.set i (.ow (oI o)), by cases o <;> rfl, by cases o <;> simp [hi, oI, dIsN], fun _ => ⟨e0.set i (.ow (oI o)), by cases o <;> simp [hi, oI]⟩⟩
  rw [rt_map] at h
  exact h
theorem kF_its (fs : FL) : ((kF fs).map fun kv => ItD.v (Vi.kD kv.1)) = fs.map fun p => ItD.v (.int p.1) := by
  unfold kF
  rw [List.map_map]
  rfl
section
variable {fs : FL} {rs : List (Option Int)} (w : Wf rs fs)
include w
theorem view_ok : p_look_at_view [eV rs fs] = .ok .non .fr [eV rs fs] := by
  rw [lv_def]
  have h1 := told_ok (fs := fs) rs w.ri (by have := w.rl; omega)
  obtain ⟨e', ⟨s, rfl⟩, h2⟩ := for_dec (tg := tdName 1) (b := lv_b1) (fun p : Int × List (Option Int) => ItD.v (.int p.1)) (fun _ => true) (fun e => ∃ s, e = [.fz (eV rs fs), s, .fz (.lst (rs.map oI)), .fz (eF fs)]) .non fs (fun a e ha ⟨s, q⟩ => by
    subst q
    have hk : a.1 ∈ ks fs := List.mem_map.mpr ⟨_, ha, rfl⟩
    have hm := fo_mem hk
    have h3 := told_ok (fs := fs) (fo fs a.1) (w.fi _ hm) (by have := w.fl _ hm; dsimp only at this; omega)
    have hv := fo_some hk
    exact ⟨_, [.fz (eV rs fs), .ow (.int a.1), .fz (.lst (rs.map oI)), .fz (eF fs)], rfl, ⟨_, rfl⟩, by simp [lv_b1, hv, h3]⟩) [.fz (eV rs fs), .no, .fz (.lst (rs.map oI)), .fz (eF fs)] ⟨_, rfl⟩
  rw [show (fs.all fun _ => true) = true by simp, if_pos rfl, ← kF_its] at h2
  simp [h1, h2]
theorem roots_ok : p_root_things [eV rs fs] = .ok (.lst ((rt rs).map .int)) .fr [eV rs fs] := by
  have h := lc_rt 1 [.fz (eV rs fs), .no] (by simp) rs (by have := w.rl; omega)
  have i0 : ixN 2 0 = some 0 := rfl
  simp [p_root_things, i0, h]
end
theorem sortSet_ok {ns : List Int} (hl : ns.length < 1000) (hs : (sortU ns).length < 64) : dSortSet (.lst (ns.map .int)) = some (.lst ((sortU ns).map .int)) := by
  show (allSome ((ns.map D.int).map toI)).bind _ = _
  rw [toI_ints, Option.bind_some, if_pos ⟨hl, hs⟩]
end Lw
namespace Lw
open PySem PySem.Spec L2 Mi Vi
theorem kF_keys (fs : FL) : (kF fs).map (·.1) = (ks fs).map .inl := by simp [kF, ks, List.map_map, Function.comp_def]
theorem kF_app (a b : FL) : kF (a ++ b) = kF a ++ kF b := by simp [kF]
theorem ks_app (a b : FL) : ks (a ++ b) = ks a ++ ks b := by simp [ks]
theorem putD_new {l : List (Key × D)} {k : Key} {x : D} (h : valD l k = none) : putD l k x = l ++ [(k, x)] := by
  unfold putD
  rw [any_valD, h]
  rfl
theorem ndB_kF {fs : FL} (h : (ks fs).Nodup) : ndB (kF fs) = true := by
  unfold ndB
  rw [kF_keys]
  refine decide_eq_true ?_
  rw [List.Nodup, List.pairwise_map]
  exact List.Pairwise.imp (fun h z => h (Sum.inl.inj z)) h
theorem fo_eq : ∀ {fs : FL} {t : Int} {l : List (Option Int)}, (ks fs).Nodup → (t, l) ∈ fs → fo fs t = l
  | p :: fs, t, l, nd, h => by
    simp only [ks, List.map_cons, List.nodup_cons] at nd
    rcases List.mem_cons.mp h with q | q
    · subst q; simp [fo]
    · have hne : ¬ p.1 = t := fun z => nd.1 (z ▸ List.mem_map.mpr ⟨_, q, rfl⟩)
      have := fo_eq nd.2 q
      unfold fo at this ⊢
      rw [List.find?_cons]
      simpa [hne] using this
theorem tdL_self {f : D → D → Bool} : ∀ {l : List D}, (∀ d ∈ l, f d d = true) → tdL f l l = true
  | [], _ => rfl
  | d :: l, h => by
    rw [tdL, h d List.mem_cons_self, tdL_self fun x hx => h x (List.mem_cons_of_mem _ hx)]
    rfl
theorem tdT_oI (n : Nat) (l : List (Option Int)) : tdL (tdT (n + 1)) (l.map oI) (l.map oI) = true := tdL_self fun d hd => by
  obtain ⟨o, _, rfl⟩ := List.mem_map.mp hd
  cases o with
  | none => rfl
  | some x => show (tdI (.int x) (.int x) || _) = true; simp [tdI]
theorem eqV_self {rs : List (Option Int)} {fs : FL} (h : (ks fs).Nodup) : dEqT (eV rs fs) (eV rs fs) = some (.bl true) := by
  unfold dEqT
  refine if_pos ?_
  show (tdT 8 (.lst (rs.map oI)) (.lst (rs.map oI)) && (tdT 8 (.dk (kF fs)) (.dk (kF fs)) && true)) = true
  have h1 : tdT 8 (.lst (rs.map oI)) (.lst (rs.map oI)) = true := by
    show (false || tdL (tdT 7) (rs.map oI) (rs.map oI)) = true
    rw [tdT_oI]; rfl
  have h2 : tdT 8 (.dk (kF fs)) (.dk (kF fs)) = true := by
    show (false || (decide ((kF fs).map (·.1) = (kF fs).map (·.1)) && decide (((kF fs).map (·.1)).Nodup) && tdL (tdT 7) ((kF fs).map (·.2)) ((kF fs).map (·.2)))) = true
    have h3 : decide (((kF fs).map (·.1)).Nodup) = true := ndB_kF h
    have h4 : tdL (tdT 7) ((kF fs).map (·.2)) ((kF fs).map (·.2)) = true := tdL_self fun d hd => by
      obtain ⟨p, hp, rfl⟩ := List.mem_map.mp hd
      unfold kF at hp
      obtain ⟨q, _, rfl⟩ := List.mem_map.mp hp
      show (false || tdL (tdT 6) (q.2.map oI) (q.2.map oI)) = true
      rw [tdT_oI]; rfl
    rw [h3, h4, decide_eq_true rfl]
    rfl
  rw [h1, h2]
  rfl
/-- what some things lead to -/
inductive Rch (fs : FL) (l : List Int) : Int → Prop
  | base {x : Int} : x ∈ l → Rch fs l x
  | step {y z : Int} : Rch fs l y → some z ∈ fo fs y → Rch fs l z
theorem Rch.trans {fs : FL} {l m : List Int} (h : ∀ x ∈ m, Rch fs l x) {x : Int} (r : Rch fs m x) : Rch fs l x := by
  induction r with
  | base q => exact h _ q
  | step _ q ih => exact .step ih q
end Lw
namespace Lw
open PySem PySem.Spec L2 Mi Vi
theorem while_step {c : Vi.PT} {b : Vi.PS} {n : Nat} {e e1 e2 : Vi.Env} {q : Bool} (hc : c e = .ok true q e1) (hb : b e1 = .nx e2) : pWhile c b (n + 1) e = pWhile c b n e2 := by
  rw [pWhile_ap]
  rw [hc]
  show (match b e1 with
      | .nx e2 => pWhile c b n e2
      | .ct e2 => pWhile c b n e2
      | .bk e2 => .nx e2
      | r => r) = _
  rw [hb]
theorem while_stop {c : Vi.PT} {b : Vi.PS} {n : Nat} {e e1 : Vi.Env} {q : Bool} (hc : c e = .ok false q e1) : pWhile c b (n + 1) e = .nx e1 := by
  rw [pWhile_ap]
  rw [hc]
  rfl
/-- a dict that tells True of each -/
def gT (T : List Int) : List (Key × D) := T.map fun t => (.inl t, .bl true)
def addT (T : List Int) (t : Int) : List Int := if t ∈ T then T else T ++ [t]
@[simp] theorem gT_isS : ∀ (T : List Int) (t : Int), (valD (gT T) (.inl t)).isSome = decide (t ∈ T)
  | [], t => rfl
  | a :: T, t => by
    show (valD ((.inl a, .bl true) :: gT T) (.inl t)).isSome = _
    rw [valD_cons]
    by_cases e : a = t
    · subst e; simp
    · have e' : ¬ (Sum.inl a : Key) = .inl t := fun z => e (Sum.inl.inj z)
      have e2 : ¬ t = a := fun z => e z.symm
      rw [if_neg e', gT_isS T t]
      simp [e2]
theorem gT_put (T : List Int) (t : Int) : putD (gT T) (.inl t) (.bl true) = gT (addT T t) := by
  unfold putD addT
  rw [any_valD, gT_isS]
  by_cases h : t ∈ T
  · rw [if_pos h, if_pos (by simpa using h)]
    unfold gT
    rw [List.map_map]
    refine List.map_congr_left fun x _ => ?_
    show (if (Sum.inl x : Key) = .inl t then _ else _) = _
    split <;> rfl
  · rw [if_neg h, if_neg (by simpa using h)]
    simp [gT]
@[simp] theorem gT_len (T : List Int) : (gT T).length = T.length := by simp [gT]
theorem gT_keys (T : List Int) : ((gT T).map fun kv => Vi.kD kv.1) = T.map .int := by
  unfold gT
  rw [List.map_map]
  rfl
@[simp] theorem dList_gT (T : List Int) : dList [.dk (gT T)] = some (.lst (T.map .int)) := by
  show some (D.lst _) = _
  rw [gT_keys]
abbrev Tr := Option Int × Option Int × Option Int
def eT (p : Tr) : D := .tup [oI p.1, oI p.2.1, oI p.2.2]
@[simp] theorem imm_eT (p : Tr) : imm (eT p) = true := by
  obtain ⟨a, b, c⟩ := p
  cases a <;> cases b <;> cases c <;> rfl
@[simp] theorem all_eT (l : List Tr) : (l.map eT).all imm = true := by rw [List.all_map, List.all_eq_true]; exact fun _ _ => imm_eT _
@[simp] theorem all_eT' (l : List Tr) : l.all (imm ∘ eT) = true := by rw [List.all_eq_true]; exact fun _ _ => imm_eT _
@[simp] theorem dEqD_oI (neg : Bool) (a b : Option Int) : dEqD neg (oI a) (oI b) = some (.bl (neg != decide (a = b))) := dEqD_enc neg a b
def tol (rs : List (Option Int)) (fs : FL) : Option Int → List (Option Int)
  | none => rs
  | some s => fo fs s
def sin (met : List Int) : Option Int → Bool
  | none => true
  | some s => decide (s ∈ met)
def spl (told : List (Option Int)) (a : Option Int) : Option Int → Bool
  | none => false
  | some p => decide (0 ≤ p) && decide (p < told.length) && decide (told.getD p.toNat none = a)
def stp (rs : List (Option Int)) (fs : FL) (met : List Int) (p : Tr) : Bool := sin met p.2.1 && spl (tol rs fs p.2.1) p.1 p.2.2
theorem oI_n : oI none = .non := rfl
theorem oI_s (x : Int) : oI (some x) = .int x := rfl
def ss_r : Vi.PS := (pRet (pAndV (pBin dIsN (pVar 6) (pC (.non))) (pAndV (pChain dLe dLt (pC (.int 0)) (pVar 6) (pCall dLen (pCons (pVar 3) (pNil)))) (pBin dEq (pSel2 dSub2 (pVar 3) (pVar 6)) (pVar 4)))))
theorem ss_def2 : p_step_stands = pFn 7 [false, false, false] (pSeq (pSetT [4, 5, 6] (pVar 2)) (pSeq (pSet 3 (pSel2 dIx (pVar 0) (pC (.int 0)))) (pSeq (pIfS (pB (pBin dIsN (pVar 5) (pC (.non)))) (pSeq (pIfS (pB (pBin dNotIn (pVar 5) (pVar 1))) (pRet (pC (.bl false))) (pSkip)) (pSet 3 (pSel2 dSub2 (pSel2 dIx (pVar 0) (pC (.int 1))) (pVar 5)))) (pSkip)) ss_r))) := rfl
theorem at_last (told : List (Option Int)) (q : Int) (h1 : 0 ≤ q) (h2 : q < told.length) : ixN told.length q = some q.toNat ∧ told[q.toNat]? = some (told.getD q.toNat none) := by
  have h3 : q.toNat < told.length := by omega
  refine ⟨?_, by rw [List.getD_eq_getElem?_getD, List.getElem?_eq_getElem h3]; rfl⟩
  have := ixN_nat h3
  rwa [show ((q.toNat : Nat) : Int) = q by omega] at this
theorem ssr_ok (V A E s5 : Sl) (told : List (Option Int)) (a q : Option Int) : ss_r [V, A, E, .fz (.lst (told.map oI)), .ow (oI a), s5, .ow (oI q)] = .rt (.bl (spl told a q)) .fr [V, A, E, .fz (.lst (told.map oI)), .ow (oI a), s5, .ow (oI q)] := by
  cases q with
  | none => simp [ss_r, oI_n, oI_s, pChain, spl, dIsN]
  | some q =>
    by_cases h1 : 0 ≤ q
    · by_cases h2 : q < told.length
      · obtain ⟨e1, e2⟩ := at_last told q h1 h2
        simp only [spl, h1, h2, decide_true, Bool.true_and]
        generalize told.getD q.toNat none = y at e2
        have h3 : q.toNat < told.length := by omega
        rw [List.getElem?_eq_getElem h3] at e2
        have e3 := Option.some.inj e2
        simp [ss_r, oI_n, oI_s, pChain, dIsN, h1, h2, e1, e2]
      · simp [ss_r, oI_n, oI_s, pChain, spl, dIsN, h1, h2]
    · simp [ss_r, oI_n, oI_s, pChain, spl, dIsN, h1]
section
variable {fs : FL} {rs : List (Option Int)} (w : Wf rs fs)
include w
theorem ss_ok (met : List Int) (hm : ∀ x ∈ met, x ∈ ks fs) (p : Tr) : p_step_stands [eV rs fs, .dk (gT met), eT p] = .ok (.bl (stp rs fs met p)) .fr [eV rs fs, .dk (gT met), eT p] := by
  rw [ss_def2]
  obtain ⟨a, s, q⟩ := p
  have i0 : ixN 2 0 = some 0 := rfl
  have i1 : ixN 2 1 = some 1 := rfl
  have hr := ssr_ok
  cases s with
  | none =>
    have h := ssr_ok (.fz (eV rs fs)) (.fz (.dk (gT met))) (.fz (eT (a, none, q))) (.ow .non) rs a q
    simp only [eT] at h ⊢
    simp [stp, sin, tol, i0, dIsN, oI_n, oI_s] at h ⊢
    simp [h]
  | some s =>
    by_cases hs : s ∈ met
    · have h := ssr_ok (.fz (eV rs fs)) (.fz (.dk (gT met))) (.fz (eT (a, some s, q))) (.ow (.int s)) (fo fs s) a q
      have hv := fo_some (hm s hs)
      simp only [eT] at h ⊢
      simp [stp, sin, tol, i0, i1, dIsN, oI_n, oI_s, hs, hv] at h ⊢
      simp [h]
    · simp only [eT]
      simp [stp, sin, tol, i0, i1, dIsN, oI_n, oI_s, hs]
def gd (rs : List (Option Int)) (fs : FL) (met : List Int) (p : Tr) : Bool := match p.1 with
  | none => false
  | some x => decide (x ∉ met) && stp rs fs met p
def th (p : Tr) : Int := p.1.getD 0
def run (rs : List (Option Int)) (fs : FL) : List Tr → List Int → Option (List Int)
  | [], met => some met
  | p :: r, met => if gd rs fs met p = true then run rs fs r (met ++ [th p]) else none
omit w in
theorem spl_mem {told : List (Option Int)} {a q : Option Int} (h : spl told a q = true) : a ∈ told := by
  cases q with
  | none => cases h
  | some q =>
    simp only [spl, Bool.and_eq_true, decide_eq_true_eq] at h
    obtain ⟨⟨h1, h2⟩, h3⟩ := h
    rw [← h3, List.getD_eq_getElem?_getD, List.getElem?_eq_getElem (by omega)]
    exact List.getElem_mem _
structure Mt (rs : List (Option Int)) (fs : FL) (met : List Int) : Prop where
  nd : met.Nodup
  sub : ∀ x ∈ met, x ∈ ks fs
  rch : ∀ x ∈ met, Rch fs (rt rs) x
theorem gd_mt {met : List Int} (m : Mt rs fs met) {p : Tr} (h : gd rs fs met p = true) : Mt rs fs (met ++ [th p]) ∧ p.1 = some (th p) := by
  obtain ⟨a, s, q⟩ := p
  cases a with
  | none => cases h
  | some x =>
    simp only [gd, Bool.and_eq_true, decide_eq_true_eq, stp] at h
    obtain ⟨h1, h2, h3⟩ := h
    have hx := spl_mem h3
    have hk : x ∈ ks fs ∧ Rch fs (rt rs) x := by
      cases s with
      | none => exact ⟨w.ri x hx, .base (rt_mem.mpr hx)⟩
      | some s =>
        have hs : s ∈ met := by simpa [sin] using h2
        exact ⟨w.fi _ (fo_mem (m.sub s hs)) x hx, .step (m.rch s hs) hx⟩
    refine ⟨⟨?_, fun y hy => ?_, fun y hy => ?_⟩, rfl⟩
    · rw [List.nodup_append]
      exact ⟨m.nd, by simp, fun a ha b hb e => by rw [List.mem_singleton.mp hb] at e; have e : a = x := e; exact h1 (e ▸ ha)⟩
    · rcases List.mem_append.mp hy with q | q
      · exact m.sub y q
      · rw [List.mem_singleton.mp q]; exact hk.1
    · rcases List.mem_append.mp hy with q | q
      · exact m.rch y q
      · rw [List.mem_singleton.mp q]; exact hk.2
theorem run_mt : ∀ {l : List Tr} {met m2 : List Int}, Mt rs fs met → run rs fs l met = some m2 → Mt rs fs m2 ∧ m2 = met ++ l.map th ∧ ∀ p ∈ l, p.1 = some (th p)
  | [], met, m2, m, h => by
    cases h
    exact ⟨m, by simp, fun p hp => by simp at hp⟩
  | p :: l, met, m2, m, h => by
    rw [run] at h
    split at h
    · rename_i hg
      obtain ⟨m1, hp⟩ := gd_mt w m hg
      obtain ⟨a1, a2, a3⟩ := run_mt m1 h
      refine ⟨a1, by rw [a2]; simp, fun q hq => ?_⟩
      rcases List.mem_cons.mp hq with e | e
      · rw [e]; exact hp
      · exact a3 q e
    · cases h
end
end Lw
namespace Lw
open PySem PySem.Spec L2 Mi Vi
theorem dAll_map {α : Type} (f : α → Bool) (l : List α) : dAll [.lst (l.map fun x => D.bl (f x))] = some (.bl (l.all f)) := by
  have e : (l.map fun x => D.bl (f x)) = (l.map f).map .bl := by rw [List.map_map]; rfl
  rw [e]
  show (allSome (((l.map f).map D.bl).map toB)).map _ = _
  rw [toB_bls, Option.map_some, List.all_map]
  rfl
def clT (fs : FL) (ns : List Int) : List Int := (ns.map fun t => rt (fo fs t)).flatten
def clB (rs : List (Option Int)) (fs : FL) (ns : List Int) : Bool := (rt rs ++ clT fs ns).all fun x => decide (x ∈ ns)
theorem clT_len {fs : FL} (hf : ∀ p ∈ fs, p.2.length ≤ 6) : ∀ {ns : List Int}, (∀ t ∈ ns, t ∈ ks fs) → (clT fs ns).length ≤ 6 * ns.length
  | [], _ => by simp [clT]
  | t :: ns, h => by
    have h1 := clT_len hf (ns := ns) fun x hx => h x (List.mem_cons_of_mem _ hx)
    have h2 := hf _ (fo_mem (h t List.mem_cons_self))
    have h3 := rt_len (fo fs t)
    simp only [clT, List.map_cons, List.flatten_cons, List.length_append, List.length_cons] at h1 ⊢
    dsimp only at h2
    omega
theorem gT_its (T : List Int) : ((gT T).map fun kv => ItD.v (Vi.kD kv.1)) = T.map (ItD.v ∘ D.int) := by
  unfold gT
  rw [List.map_map]
  rfl
section
variable {fs : FL} {rs : List (Option Int)} (w : Wf rs fs)
include w
theorem closed_ok (ns : List Int) (hl : ns.length ≤ 100) (hk : ∀ t ∈ ns, t ∈ ks fs) : p_closed_over [eV rs fs, .dk (gT ns)] = .ok (.bl (clB rs fs ns)) .fr [eV rs fs, .dk (gT ns)] := by
  rw [co_def]
  have h1 := roots_ok w
  have i1 : ixN 2 1 = some 1 := rfl
  have hrl := w.rl
  have hr := rt_len rs
  have hcl := clT_len w.fl hk
  obtain ⟨e', h2, h3⟩ := for_invD (tg := tdName 3) (b := co_b1) (fun its e => ∃ (a b : List Int) (s : Sl), its = b.map (ItD.v ∘ D.int) ∧ a ++ b = ns ∧ e = [.fz (eV rs fs), .fz (.dk (gT ns)), .ow (.lst ((rt rs ++ clT fs a).map .int)), s, .no]) (fun it r e ⟨a, b, s, q1, q2, q3⟩ => by
    subst q3
    cases b with
    | nil => cases q1
    | cons t b =>
      rw [List.map_cons, List.cons.injEq] at q1
      obtain ⟨rfl, rfl⟩ := q1
      have ht : t ∈ ks fs := hk t (by rw [← q2]; simp)
      have hv := fo_some ht
      have hm := w.fl _ (fo_mem ht)
      dsimp only at hm
      have hlc := lc_rt 4 [.fz (eV rs fs), .fz (.dk (gT ns)), .fz (.lst ((rt rs ++ clT fs a).map .int)), .fz (.int t), .no] (by simp) (fo fs t) (by omega)
      have ha : (clT fs a).length ≤ 6 * a.length := clT_len w.fl fun x hx => hk x (by rw [← q2]; exact List.mem_append_left _ hx)
      have hal : a.length ≤ ns.length := by rw [← q2]; simp
      have hfl := rt_len (fo fs t)
      have e1 : clT fs (a ++ [t]) = clT fs a ++ rt (fo fs t) := by simp [clT]
      have hz : (rt rs).length + (clT fs a).length + (rt (fo fs t)).length ≤ sizeLine := by unfold sizeLine; omega
      simp only [List.map_append] at hlc
      exact ⟨_, [.fz (eV rs fs), .fz (.dk (gT ns)), .ow (.lst ((rt rs ++ clT fs (a ++ [t])).map .int)), .ow (.int t), .no], rfl, .inl (by simp [co_b1, i1, hv, hlc, hz, e1]), a ++ [t], b, _, rfl, by rw [← q2]; simp, rfl⟩) (its := ns.map (ItD.v ∘ D.int)) (e := [.fz (eV rs fs), .fz (.dk (gT ns)), .ow (.lst ((rt rs).map .int)), .no, .no]) ⟨[], ns, .no, rfl, rfl, by simp [clT]⟩
  obtain ⟨a_, b, s, q1, q2, q3⟩ := h3
  have hb : b = [] := by cases b with
    | nil => rfl
    | cons _ _ => cases q1
  subst hb
  rw [List.append_nil] at q2
  subst q2
  subst q3
  have ha : ∀ s' : Sl, lcGoD (tdName 4) pYes (pBin dIn (pVar 4) (pVar 1)) [.fz (eV rs fs), .fz (.dk (gT a_)), .fz (.lst ((rt rs ++ clT fs a_).map .int)), s', .no] ((rt rs ++ clT fs a_).map (ItD.v ∘ D.int)) [] = some ((rt rs ++ clT fs a_).map fun x => .bl (decide (x ∈ a_))) := fun s' =>
    lc_mapY (fun x : Int => ItD.v (.int x)) (fun x => D.bl (decide (x ∈ a_))) _ (by simp [sizeLine]; omega) fun x _ => ⟨[.fz (eV rs fs), .fz (.dk (gT a_)), .fz (.lst ((rt rs ++ clT fs a_).map .int)), s', .ow (.int x)], [.fz (eV rs fs), .fz (.dk (gT a_)), .fz (.lst ((rt rs ++ clT fs a_).map .int)), s', .ow (.int x)], rfl, by simp⟩
  unfold clB
  rw [List.map_append] at h2
  generalize hT : rt rs ++ clT fs a_ = tl at ha ⊢
  rw [← List.map_append, hT] at h2
  have e1 : dAll [.lst (tl.map fun x => D.bl (decide (x ∈ a_)))] = some (.bl (tl.all fun x => decide (x ∈ a_))) := by
    exact dAll_map _ _
  cases s <;> simp [h1, h2, ha, e1, gT_its]
theorem pjb_ok (L : D) {met : List Int} (m : Mt rs fs met) (p : Tr) : pj_b1 [.fz (eV rs fs), .fz L, .ow (.dk (gT met)), .ow (eT p)] = if gd rs fs met p = true then .nx [.fz (eV rs fs), .fz L, .ow (.dk (gT (met ++ [th p]))), .ow (eT p)] else .rt (.bl false) .fr [.fz (eV rs fs), .fz L, .ow (.dk (gT met)), .ow (eT p)] := by
  have hs := ss_ok w met m.sub p
  have i0 : ixN 3 0 = some 0 := rfl
  have hml : met.length ≤ 12 := by
    have hlen := w.len
    have : met.length ≤ (ks fs).length := List.Nodup.length_le_of_subset m.nd fun x hx => m.sub x hx
    simp only [ks, List.length_map] at this
    omega
  have hz : met.length < sizeLine := by unfold sizeLine; omega
  obtain ⟨a, s, q⟩ := p
  cases a with
  | none => simp [pj_b1, gd, eT, i0, oI_n, dIs]
  | some x =>
    by_cases hx : x ∈ met
    · simp [pj_b1, gd, eT, i0, oI_s, dIs, hx]
    · have hp := gT_put met x
      unfold addT at hp
      rw [if_neg hx] at hp
      have ht : th (some x, s, q) = x := rfl
      rw [ht]
      unfold gd
      generalize stp rs fs met (some x, s, q) = b at hs
      simp only [eT, oI_s] at hs
      cases b <;> simp [pj_b1, eT, i0, oI_s, dIs, hx, hs, hp, hz]
end
end Lw
namespace Lw
open PySem PySem.Spec L2 Mi Vi
def jd (rs : List (Option Int)) (fs : FL) (L : List Tr) : Bool := match run rs fs L [] with
  | none => false
  | some met => clB rs fs met
theorem mt_nil {rs : List (Option Int)} {fs : FL} : Mt rs fs [] := ⟨.nil, fun x hx => by simp at hx, fun x hx => by simp at hx⟩
theorem for_nx {tg : TgD} {b : Vi.PS} {it : ItD} {r : List ItD} {e e1 e2 : Vi.Env} (h1 : tg it e = some e1) (h2 : b e1 = .nx e2) : pFor1 tg b (it :: r) e = pFor1 tg b r e2 := by
  conv => lhs; unfold pFor1
  rw [h1]
  dsimp only
  rw [h2]
theorem for_rt {tg : TgD} {b : Vi.PS} {it : ItD} {r : List ItD} {e e1 e2 : Vi.Env} {d : D} {o : Og} (h1 : tg it e = some e1) (h2 : b e1 = .rt d o e2) : pFor1 tg b (it :: r) e = .rt d o e2 := by
  conv => lhs; unfold pFor1
  rw [h1]
  dsimp only
  rw [h2]
def gx (met : List Int) (told : List (Option Int)) (q : Option Int) : Option Int → Bool
  | none => false
  | some x => decide (x ∉ met) && spl told (some x) q
section
variable {fs : FL} {rs : List (Option Int)} (w : Wf rs fs)
include w
theorem mt_len {met : List Int} (m : Mt rs fs met) : met.length ≤ 12 := by
  have hlen := w.len
  have : met.length ≤ (ks fs).length := List.Nodup.length_le_of_subset m.nd fun x hx => m.sub x hx
  simp only [ks, List.length_map] at this
  omega
theorem run_for {tg : TgD} {b : Vi.PS} (g : Tr → ItD) (R : List Int → Vi.Env → Prop) (d : D) (h : ∀ met p e, Mt rs fs met → R met e → ∃ e1 e2, tg (g p) e = some e1 ∧ b e1 = (if gd rs fs met p = true then .nx e2 else .rt d .fr e2) ∧ ∃ m2, R m2 e2 ∧ (gd rs fs met p = true → m2 = met ++ [th p])) :
    ∀ (l : List Tr) (met : List Int) (e : Vi.Env), Mt rs fs met → R met e → ∃ m2 e2, R m2 e2 ∧ pFor1 tg b (l.map g) e = (match run rs fs l met with
    | some _ => .nx e2
    | none => .rt d .fr e2) ∧ ∀ m, run rs fs l met = some m → m2 = m
  | [], met, e, m, r => ⟨met, e, r, rfl, fun m h => by cases h; rfl⟩
  | p :: l, met, e, m, r => by
    obtain ⟨e1, e2, h1, h2, m2, r2, h3⟩ := h met p e m r
    rw [run]
    by_cases hg : gd rs fs met p = true
    · rw [if_pos hg] at h2 ⊢
      have := h3 hg
      subst this
      obtain ⟨m3, e3, r3, h4, h5⟩ := run_for g R d h l _ e2 (gd_mt w m hg).1 r2
      exact ⟨m3, e3, r3, by rw [List.map_cons, for_nx h1 h2]; exact h4, h5⟩
    · rw [if_neg hg] at h2 ⊢
      exact ⟨m2, e2, r2, by rw [List.map_cons, for_rt h1 h2], fun m h => by cases h⟩
theorem judged_ok (L : List Tr) : p_paper_judged [eV rs fs, .lst (L.map eT)] = .ok (.bl (jd rs fs L)) .fr [eV rs fs, .lst (L.map eT)] := by
  rw [pj_def]
  have h1 := view_ok w
  obtain ⟨m2, e2, ⟨s4, rfl⟩, h2, h3⟩ := run_for w (tg := tdName 3) (b := pj_b1) (fun p => ItD.v (eT p)) (fun met e => ∃ s, e = [.fz (eV rs fs), .fz (.lst (L.map eT)), .ow (.dk (gT met)), s]) (.bl false) (fun met p e m ⟨s, q⟩ => by
    subst q
    have hb := pjb_ok w (.lst (L.map eT)) m p
    by_cases hg : gd rs fs met p = true
    · rw [if_pos hg] at hb
      exact ⟨[.fz (eV rs fs), .fz (.lst (L.map eT)), .ow (.dk (gT met)), .ow (eT p)], _, by simp, by rw [if_pos hg]; exact hb, met ++ [th p], ⟨_, rfl⟩, fun _ => rfl⟩
    · rw [if_neg hg] at hb
      exact ⟨[.fz (eV rs fs), .fz (.lst (L.map eT)), .ow (.dk (gT met)), .ow (eT p)], _, by simp, by rw [if_neg hg]; exact hb, met, ⟨_, rfl⟩, fun h => absurd h hg⟩) L [] [.fz (eV rs fs), .fz (.lst (L.map eT)), .ow (.dk (gT [])), .no] mt_nil ⟨_, rfl⟩
  have g0 : gT [] = [] := rfl
  rw [g0] at h2
  have h2 : pFor1 (tdName 3) pj_b1 (L.map (ItD.v ∘ eT)) [.fz (eV rs fs), .fz (.lst (L.map eT)), .ow (.dk []), .no] = _ := h2
  unfold jd
  cases hr : run rs fs L [] with
  | none =>
    rw [hr] at h2
    dsimp only at h2
    simp [h1, h2]
  | some met =>
    have e := h3 met hr
    subst e
    rw [hr] at h2
    dsimp only at h2
    have m := (run_mt w mt_nil hr).1
    have hc := closed_ok w m2 (by have := mt_len w m; omega) m.sub
    simp [h1, h2, hc]
end
end Lw
namespace Lw
open PySem PySem.Spec L2 Mi Vi
def ddT (l : List Int) : List Int := l.foldl addT []
theorem addT_mem (T : List Int) (t x : Int) : x ∈ addT T t ↔ x ∈ T ∨ x = t := by
  unfold addT
  split
  · rename_i h
    exact ⟨.inl, fun q => q.elim id fun e => e ▸ h⟩
  · simp
theorem addT_nd {T : List Int} (h : T.Nodup) (t : Int) : (addT T t).Nodup := by
  unfold addT
  split
  · exact h
  · rename_i hn
    rw [List.nodup_append]
    exact ⟨h, by simp, fun a ha b hb e => by rw [List.mem_singleton.mp hb] at e; exact hn (e ▸ ha)⟩
theorem fold_mem : ∀ (l T : List Int) (x : Int), x ∈ l.foldl addT T ↔ x ∈ T ∨ x ∈ l
  | [], T, x => by simp
  | t :: l, T, x => by rw [List.foldl_cons, fold_mem l, addT_mem, List.mem_cons, or_assoc]
theorem fold_nd : ∀ (l : List Int) {T : List Int}, T.Nodup → (l.foldl addT T).Nodup
  | [], T, h => h
  | t :: l, T, h => fold_nd l (addT_nd h t)
theorem dd_mem (l : List Int) (x : Int) : x ∈ ddT l ↔ x ∈ l := by unfold ddT; rw [fold_mem]; simp
theorem dd_nd (l : List Int) : (ddT l).Nodup := fold_nd l .nil
theorem fold_len : ∀ (l : List Int) {T : List Int}, (l.foldl addT T).length ≤ T.length + l.length
  | [], T => by simp
  | t :: l, T => by
    have := fold_len l (T := addT T t)
    have h : (addT T t).length ≤ T.length + 1 := by unfold addT; split <;> simp
    rw [List.foldl_cons, List.length_cons]
    omega
theorem merge_true : ∀ (l T : List Int), mergeD (gT T) (l.map fun x => ((.inl x : Key), D.bl true)) = gT (l.foldl addT T)
  | [], T => rfl
  | t :: l, T => by
    have := merge_true l (addT T t)
    unfold mergeD at this ⊢
    rw [List.map_cons, List.foldl_cons]
    dsimp only
    rw [gT_put, this, List.foldl_cons]
theorem dDict_true (l : List Int) : dDict [.lst (l.map fun x => .tup [.int x, .bl true])] = some (.dk (gT (ddT l))) := by
  have h1 : allSome ((l.map fun x => D.tup [.int x, .bl true]).map pairD) = some (l.map fun x => ((.inl x : Key), D.bl true)) := allSome_map (fun x : Int => D.tup [.int x, .bl true]) pairD (fun x => ((.inl x : Key), D.bl true)) (fun _ => rfl) l
  show (allSome ((l.map fun x => D.tup [.int x, .bl true]).map pairD)).bind _ = _
  rw [h1, Option.bind_some, if_pos (by simp [imm])]
  have := merge_true l []
  exact congrArg (fun z => some (D.dk z)) this
theorem dSorted_gT (T : List Int) (hl : T.length < 1000000) : dSorted [.dk (gT T)] = some (.lst ((sortI T).map .int)) := by
  have h : Vi.keyIs (gT T) = some T := by
    induction T with
    | nil => rfl
    | cons t T ih =>
      show (Vi.keyIs (gT T)).map (t :: ·) = _
      rw [ih (by simp at hl; omega)]; rfl
  unfold dSorted
  simp [h, hl]
theorem lt_of_sort {l : List Int} (h : l.Nodup) : (sortI l).Pairwise (· < ·) := by
  have h1 := sortI_sorted l
  have h2 : (sortI l).Nodup := (sortI_perm l).nodup_iff.mpr h
  exact List.Pairwise.imp₂ (fun a b q r => by have q : a ≤ b := q; have r : a ≠ b := r; omega) h1 h2
theorem srt_dd (l : List Int) : sortI (ddT l) = sortU l := lt_uniq (lt_of_sort (dd_nd l)) (sortU_sorted l) fun x => by rw [(sortI_perm _).mem_iff, dd_mem, sortU_mem]
theorem keyIs_kF : ∀ fs : FL, Vi.keyIs (kF fs) = some (ks fs)
  | [] => rfl
  | p :: fs => by
    show (Vi.keyIs (kF fs)).map (p.1 :: ·) = _
    rw [keyIs_kF fs]
    rfl
theorem dSorted_kF (fs : FL) (hl : (ks fs).length < 1000000) : dSorted [.dk (kF fs)] = some (.lst ((sortI (ks fs)).map .int)) := by
  unfold dSorted
  simp [keyIs_kF, hl]
def oth (fs : FL) (T : List Int) : List Int := (sortI (ks fs)).filter fun x => decide (x ∉ T)
def wid (rs : List (Option Int)) (ns : List Int) : List (Option Int) := rs ++ (sortU ns).map some
section
variable {fs : FL} {rs : List (Option Int)}
theorem wider_ok (hr : rs.length ≤ 100) (ns : List Int) (hn : ns.length ≤ 100) (hu : (sortU ns).length ≤ 100) : p_wider [eV rs fs, .lst (ns.map .int)] = .ok (eV (wid rs ns) fs) .an [eV rs fs, .lst (ns.map .int)] := by
  rw [wd_def]
  have i0 : ixN 2 0 = some 0 := rfl
  have i1 : ixN 2 1 = some 1 := rfl
  have h1 : lcGoD (tdName 3) pYes (pTup (pCons (pVar 3) (pCons (pC (.bl true)) (pNil)))) [.fz (eV rs fs), .fz (.lst (ns.map .int)), .no, .no] (ns.map (ItD.v ∘ D.int)) [] = some (ns.map fun x => .tup [.int x, .bl true]) :=
    lc_mapY (fun x : Int => ItD.v (.int x)) (fun x => D.tup [.int x, .bl true]) ns (by unfold sizeLine; omega) fun x _ => ⟨[.fz (eV rs fs), .fz (.lst (ns.map .int)), .no, .ow (.int x)], [.fz (eV rs fs), .fz (.lst (ns.map .int)), .no, .ow (.int x)], rfl, by simp [sizeLine]⟩
  have h2 := dDict_true ns
  have h3 := dSorted_gT (ddT ns) (by have := fold_len ns (T := []); simp at this; unfold ddT; omega)
  rw [srt_dd] at h3
  have e : (wid rs ns).map oI = rs.map oI ++ (sortU ns).map .int := by
    unfold wid
    rw [List.map_append, List.map_map]
    rfl
  have hz : rs.length + (sortU ns).length ≤ 16777216 := by omega
  simp only [eV, e]
  generalize hS : (sortU ns) = S at *
  simp [i0, i1, h1, h2, h3, dList, hz, sizeLine]
  done
end
end Lw
namespace Lw
open PySem PySem.Spec L2 Mi Vi
section
variable {fs : FL}
theorem oth_f (T U : List Int) (h : ∀ x, x ∈ T ↔ x ∈ U) : (sortI (ks fs)).filter (fun x => decide (x ∉ T)) = oth fs U := by
  unfold oth
  refine List.filter_congr fun x _ => ?_
  simp [h x]
theorem dd_len (l : List Int) : (ddT l).length ≤ l.length := by have := fold_len l (T := []); simpa [ddT] using this
theorem others_ok (rs : List (Option Int)) (L : List Tr) (h : ∀ p ∈ L, p.1 = some (th p)) (hl : L.length ≤ 1000) (hk : (ks fs).length ≤ 1000) : p_others_of [eV rs fs, .lst (L.map eT)] = .ok (.lst ((oth fs (L.map th)).map .int)) .fr [eV rs fs, .lst (L.map eT)] := by
  rw [ot_def]
  have i1 : ixN 2 1 = some 1 := rfl
  have j0 : ixN 3 0 = some 0 := rfl
  have hd := dd_len (L.map th)
  rw [List.length_map] at hd
  have h1 : lcGoD (tdName 4) pYes (pTup (pCons (pSel2 dIx (pVar 4) (pC (.int 0))) (pCons (pC (.bl true)) (pNil)))) [.fz (eV rs fs), .fz (.lst (L.map eT)), .no, .no, .no] (L.map (ItD.v ∘ eT)) [] = some ((L.map th).map fun x => .tup [.int x, .bl true]) := by
    rw [List.map_map]
    exact lc_mapY (fun p : Tr => ItD.v (eT p)) (fun p => D.tup [.int (th p), .bl true]) L (by unfold sizeLine; omega) fun p hp => ⟨[.fz (eV rs fs), .fz (.lst (L.map eT)), .no, .no, .ow (eT p)], [.fz (eV rs fs), .fz (.lst (L.map eT)), .no, .no, .ow (eT p)], by simp, by
      have := h p hp
      obtain ⟨a, s, q⟩ := p
      cases a with
      | none => cases this
      | some a => cases s <;> cases q <;> simp [eT, oI, j0, th, sizeLine]⟩
  have h2 := dDict_true (L.map th)
  have h3 := dSorted_kF fs (by omega)
  have h4 : ∀ z : Sl, lcGoD (tdName 3) (pB (pBin dNotIn (pVar 3) (pVar 2))) (pVar 3) [.fz (eV rs fs), .fz (.lst (L.map eT)), .fz (.dk (gT (ddT (L.map th)))), .no, z] ((sortI (ks fs)).map (ItD.v ∘ D.int)) [] = some ((oth fs (L.map th)).map .int) := fun z => by
    have := lc_map (td := tdName 3) (c := pB (pBin dNotIn (pVar 3) (pVar 2))) (p := pVar 3) (e0 := [.fz (eV rs fs), .fz (.lst (L.map eT)), .fz (.dk (gT (ddT (L.map th)))), .no, z]) (fun x : Int => ItD.v (.int x)) (fun x => decide (x ∉ ddT (L.map th))) (fun x => D.int x) (sortI (ks fs)) [] (by
      have := (sortI_perm (ks fs)).length_eq
      simp [sizeLine]; omega) fun x _ => ⟨[.fz (eV rs fs), .fz (.lst (L.map eT)), .fz (.dk (gT (ddT (L.map th)))), .ow (.int x), z], rfl, by simp, fun _ => ⟨[.fz (eV rs fs), .fz (.lst (L.map eT)), .fz (.dk (gT (ddT (L.map th)))), .ow (.int x), z], by simp⟩⟩
    rw [oth_f _ (L.map th) (fun x => dd_mem _ x)] at this
    exact this
  generalize oth fs (L.map th) = O at *
  rw [List.map_map] at h1 h2
  simp [i1, h1, h2, h3, h4]
end
section
variable {fs : FL} {rs : List (Option Int)} (w : Wf rs fs)
include w
theorem jd_len {L : List Tr} (h : jd rs fs L = true) : L.length ≤ 12 ∧ ∀ p ∈ L, p.1 = some (th p) := by
  unfold jd at h
  split at h
  · cases h
  · rename_i met hr
    obtain ⟨m, e, h3⟩ := run_mt w mt_nil hr
    have := mt_len w m
    rw [e] at this
    simp at this
    exact ⟨this, h3⟩
end
theorem dEqD_intsL (a b : List Int) : dEqD false (.lst (a.map .int)) (.lst (b.map .int)) = some (.bl (decide (a = b))) := by
  have := dEqD_enc (α := List Int) false a b
  simpa using this
theorem round_ok {rs : List (Option Int)} {fs : FL} (ns : List Int) (w : Wf (wid rs ns) fs) (hr : rs.length ≤ 100) (hn : ns.length ≤ 100) (hu : (sortU ns).length ≤ 100) (L : List Tr) (G : List Int) :
    p_round_judged [eV rs fs, .lst (ns.map .int), .tup [.lst (L.map eT), .lst (G.map .int)]] = .ok (.bl (jd (wid rs ns) fs L && decide (G = oth fs (L.map th)))) .fr [eV rs fs, .lst (ns.map .int), .tup [.lst (L.map eT), .lst (G.map .int)]] := by
  rw [rj_def]
  have h1 := wider_ok (fs := fs) hr ns hn hu
  have h2 := judged_ok w L
  cases hj : jd (wid rs ns) fs L with
  | false =>
    rw [hj] at h2
    simp [h1, h2]
  | true =>
    rw [hj] at h2
    obtain ⟨hl, ht⟩ := jd_len w hj
    have h3 := others_ok (fs := fs) rs L ht (by omega) (by have := w.len; simp [ks]; omega)
    have h4 := dEqD_intsL G (oth fs (L.map th))
    simp [h1, h2, h3, h4, dList]
end Lw
namespace Lw
open PySem PySem.Spec L2 Mi Vi
def rg_r : Vi.PS := (pSeq (pIfS (pOr (pB (pBin dIs (pVar 6) (pC (.non)))) (pOr (pB (pBin dIn (pVar 6) (pVar 4))) (pOr (pB (pBin dIs (pVar 8) (pC (.non)))) (pOr (pNot (pB (pChain dLe dLt (pC (.int 0)) (pVar 8) (pCall dLen (pCons (pVar 9) (pNil)))))) (pB (pBin dNe (pSel2 dSub2 (pVar 9) (pVar 8)) (pVar 6))))))) (pRet (pC (.bl false))) (pSkip)) (pSetI (plVar 4) (pVar 6) (pC (.bl true))))
theorem rg_b1_def : rg_b1 = pSeq (pSet 9 (pMv 0)) (pSeq (pIfS (pB (pBin dIsN (pVar 7) (pC (.non)))) (pSeq (pIfS (pB (pBin dNotIn (pVar 7) (pVar 4))) (pRet (pC (.bl false))) (pSkip)) (pSet 9 (pSel2 dSub2 (pVar 1) (pVar 7)))) (pSkip)) rg_r) := rfl
theorem rgr_ok (A B L G s5 s7 s10 : Sl) (told : List (Option Int)) (met : List Int) (hz : met.length < sizeLine) (a q : Option Int) : rg_r [A, B, L, G, .ow (.dk (gT met)), s5, .ow (oI a), s7, .ow (oI q), .fz (.lst (told.map oI)), s10] = if gx met told q a = true then .nx [A, B, L, G, .ow (.dk (gT (met ++ [a.getD 0]))), s5, .ow (oI a), s7, .ow (oI q), .fz (.lst (told.map oI)), s10] else .rt (.bl false) .fr [A, B, L, G, .ow (.dk (gT met)), s5, .ow (oI a), s7, .ow (oI q), .fz (.lst (told.map oI)), s10] := by
  cases a with
  | none => simp [rg_r, oI_n, oI_s, dIs, gx]
  | some x =>
    by_cases hx : x ∈ met
    · simp [rg_r, oI_n, oI_s, dIs, gx, hx]
    · have hp := gT_put met x
      unfold addT at hp
      rw [if_neg hx] at hp
      cases q with
      | none => simp [rg_r, oI_n, oI_s, dIs, gx, hx, spl]
      | some q =>
        by_cases h1 : 0 ≤ q
        · by_cases h2 : q < told.length
          · obtain ⟨e1, e2⟩ := at_last told q h1 h2
            simp only [gx, spl, h1, h2, hx, decide_true, Bool.true_and, not_false_eq_true]
            generalize told.getD q.toNat none = y at e2
            have h3 : q.toNat < told.length := by omega
            rw [List.getElem?_eq_getElem h3] at e2
            have e3 := Option.some.inj e2
            have e4 := dEqD_oI true y (some x)
            rw [oI_s] at e4
            by_cases hy : y = some x
            · simp [rg_r, oI_n, oI_s, pChain, dIs, h1, h2, hx, e1, e2, e4, hy, hp, hz]
            · simp [rg_r, oI_n, oI_s, pChain, dIs, h1, h2, hx, e1, e2, e4, hy]
          · simp [rg_r, oI_n, oI_s, pChain, gx, spl, dIs, h1, h2, hx]
        · simp [rg_r, oI_n, oI_s, pChain, gx, spl, dIs, h1, hx]
section
variable {fs : FL} {rs : List (Option Int)} (w : Wf rs fs)
include w
theorem rgb_ok (L G : D) {met : List Int} (m : Mt rs fs met) (p : Tr) (s9 : Sl) : ∃ s9', rg_b1 [.fz (.lst (rs.map oI)), .fz (eF fs), .fz L, .fz G, .ow (.dk (gT met)), .no, .ow (oI p.1), .ow (oI p.2.1), .ow (oI p.2.2), s9, .no] = if gd rs fs met p = true then .nx [.fz (.lst (rs.map oI)), .fz (eF fs), .fz L, .fz G, .ow (.dk (gT (met ++ [th p]))), .no, .ow (oI p.1), .ow (oI p.2.1), .ow (oI p.2.2), s9', .no] else .rt (.bl false) .fr [.fz (.lst (rs.map oI)), .fz (eF fs), .fz L, .fz G, .ow (.dk (gT met)), .no, .ow (oI p.1), .ow (oI p.2.1), .ow (oI p.2.2), s9', .no] := by
  rw [rg_b1_def]
  have hml := mt_len w m
  have hz : met.length < sizeLine := by unfold sizeLine; omega
  obtain ⟨a, s, q⟩ := p
  cases s with
  | none =>
    have h := rgr_ok (.fz (.lst (rs.map oI))) (.fz (eF fs)) (.fz L) (.fz G) .no (.ow .non) .no rs met hz a q
    have e : gd rs fs met (a, none, q) = gx met rs q a := by cases a <;> simp [gd, gx, stp, sin, tol]
    refine ⟨.fz (.lst (rs.map oI)), ?_⟩
    rw [e]
    show _ = if gx met rs q a = true then XS.nx [.fz (.lst (rs.map oI)), .fz (eF fs), .fz L, .fz G, .ow (.dk (gT (met ++ [a.getD 0]))), .no, .ow (oI a), .ow .non, .ow (oI q), .fz (.lst (rs.map oI)), .no] else .rt (.bl false) .fr [.fz (.lst (rs.map oI)), .fz (eF fs), .fz L, .fz G, .ow (.dk (gT met)), .no, .ow (oI a), .ow .non, .ow (oI q), .fz (.lst (rs.map oI)), .no]
    rw [← h]
    cases s9 <;> simp [oI_n, dIsN]
  | some s =>
    by_cases hs : s ∈ met
    · have h := rgr_ok (.fz (.lst (rs.map oI))) (.fz (eF fs)) (.fz L) (.fz G) .no (.ow (.int s)) .no (fo fs s) met hz a q
      have hv := fo_some (m.sub s hs)
      have e : gd rs fs met (a, some s, q) = gx met (fo fs s) q a := by cases a <;> simp [gd, gx, stp, sin, tol, hs]
      refine ⟨.fz (.lst ((fo fs s).map oI)), ?_⟩
      rw [e]
      show _ = if gx met (fo fs s) q a = true then XS.nx [.fz (.lst (rs.map oI)), .fz (eF fs), .fz L, .fz G, .ow (.dk (gT (met ++ [a.getD 0]))), .no, .ow (oI a), .ow (.int s), .ow (oI q), .fz (.lst ((fo fs s).map oI)), .no] else .rt (.bl false) .fr [.fz (.lst (rs.map oI)), .fz (eF fs), .fz L, .fz G, .ow (.dk (gT met)), .no, .ow (oI a), .ow (.int s), .ow (oI q), .fz (.lst ((fo fs s).map oI)), .no]
      rw [← h]
      cases s9 <;> simp [oI_s, dIsN, hs, hv]
    · have e : gd rs fs met (a, some s, q) = false := by cases a <;> simp [gd, stp, sin, hs]
      refine ⟨.fz (.lst (rs.map oI)), ?_⟩
      rw [e]
      cases s9 <;> simp [oI_s, dIsN, hs]
end
end Lw
namespace Lw
open PySem PySem.Spec L2 Mi Vi
def rg_t : Vi.PS := (pSeq (pIfS (pNot (pB (pCall dAll (pCons (pLc (pWk itemsK (pVar 5)) [6] (tdName 6) (pYes) (pBin dIn (pVar 6) (pVar 4))) (pNil))))) (pRet (pC (.bl false))) (pSkip)) (pRet (pBin dEq (pVar 3) (pLc (pWalk (pCall dSorted (pCons (pVar 1) (pNil)))) [6] (tdName 6) (pB (pBin dNotIn (pVar 6) (pVar 4))) (pVar 6)))))
def rg_s : Vi.PS := (pSeq (pSet 5 (pLc (pWk itemsK (pVar 0)) [6] (tdName 6) (pB (pBin dIsN (pVar 6) (pC (.non)))) (pVar 6))) (pSeq (pFz [.k, .k, .k, .k, .j, .k, .o, .k, .k, .k, .k] (pForK (pVar 4) itemsK (tdName 6) rg_b2)) rg_t))
theorem rg_def2 : p_law_right = pFn 11 [false, false, false, false] (pSeq (pSet 4 (pDict0)) (pSeq (pForK (pVar 2) itemsK (tdTup [6, 7, 8]) rg_b1) rg_s)) := rfl
@[local simp] theorem frzAll_any (s : Sl) (e : Vi.Env) : frzAll (s :: e) = frz1 s :: frzAll e := rfl
@[local simp] theorem frz1_ow (d : D) : frz1 (.ow d) = .fz d := rfl
@[local simp] theorem frz1_fz (d : D) : frz1 (.fz d) = .fz d := rfl
@[local simp] theorem frz1_no : frz1 .no = .no := rfl
section
variable {fs : FL}
theorem rgt_ok (A L s6 s7 s8 s9 : Sl) (met tl G : List Int) (hk : (ks fs).length ≤ 1000) (hl : tl.length ≤ 1000) : rg_t [A, .fz (eF fs), L, .fz (.lst (G.map .int)), .ow (.dk (gT met)), .ow (.lst (tl.map .int)), s6, s7, s8, s9, .no] = .rt (.bl ((tl.all fun x => decide (x ∈ met)) && decide (G = oth fs met))) .fr [A, .fz (eF fs), L, .fz (.lst (G.map .int)), .ow (.dk (gT met)), .ow (.lst (tl.map .int)), s6, s7, s8, s9, .no] := by
  have h1 : lcGoD (tdName 6) pYes (pBin dIn (pVar 6) (pVar 4)) [frz1 A, .fz (eF fs), frz1 L, .fz (.lst (G.map .int)), .fz (.dk (gT met)), .fz (.lst (tl.map .int)), .no, frz1 s7, frz1 s8, frz1 s9, .no] (tl.map (ItD.v ∘ D.int)) [] = some (tl.map fun x => .bl (decide (x ∈ met))) :=
    lc_mapY (fun x : Int => ItD.v (.int x)) (fun x => D.bl (decide (x ∈ met))) _ (by simp [sizeLine]; omega) fun x _ => ⟨[frz1 A, .fz (eF fs), frz1 L, .fz (.lst (G.map .int)), .fz (.dk (gT met)), .fz (.lst (tl.map .int)), .ow (.int x), frz1 s7, frz1 s8, frz1 s9, .no], [frz1 A, .fz (eF fs), frz1 L, .fz (.lst (G.map .int)), .fz (.dk (gT met)), .fz (.lst (tl.map .int)), .ow (.int x), frz1 s7, frz1 s8, frz1 s9, .no], rfl, by simp⟩
  have h2 := dAll_map (fun x => decide (x ∈ met)) tl
  have h3 := dSorted_kF fs (by omega)
  have h4 : lcGoD (tdName 6) (pB (pBin dNotIn (pVar 6) (pVar 4))) (pVar 6) [frz1 A, .fz (eF fs), frz1 L, .fz (.lst (G.map .int)), .fz (.dk (gT met)), .fz (.lst (tl.map .int)), .no, frz1 s7, frz1 s8, frz1 s9, .no] ((sortI (ks fs)).map (ItD.v ∘ D.int)) [] = some ((oth fs met).map .int) := by
    have := lc_map (td := tdName 6) (c := pB (pBin dNotIn (pVar 6) (pVar 4))) (p := pVar 6) (e0 := [frz1 A, .fz (eF fs), frz1 L, .fz (.lst (G.map .int)), .fz (.dk (gT met)), .fz (.lst (tl.map .int)), .no, frz1 s7, frz1 s8, frz1 s9, .no]) (fun x : Int => ItD.v (.int x)) (fun x => decide (x ∉ met)) (fun x => D.int x) (sortI (ks fs)) [] (by
      have := (sortI_perm (ks fs)).length_eq
      simp [sizeLine]; omega) fun x _ => ⟨[frz1 A, .fz (eF fs), frz1 L, .fz (.lst (G.map .int)), .fz (.dk (gT met)), .fz (.lst (tl.map .int)), .ow (.int x), frz1 s7, frz1 s8, frz1 s9, .no], rfl, by simp, fun _ => ⟨[frz1 A, .fz (eF fs), frz1 L, .fz (.lst (G.map .int)), .fz (.dk (gT met)), .fz (.lst (tl.map .int)), .ow (.int x), frz1 s7, frz1 s8, frz1 s9, .no], by simp⟩⟩
    exact this
  have h5 := dEqD_intsL G (oth fs met)
  generalize oth fs met = O at *
  cases hb : tl.all fun x => decide (x ∈ met) with
  | false =>
    rw [hb] at h2
    cases s6 <;> simp [rg_t, h1, h2]
  | true =>
    rw [hb] at h2
    cases s6 <;> simp [rg_t, h1, h2, h3, h4, h5]
end
section
variable {fs : FL} {rs : List (Option Int)} (w : Wf rs fs)
include w
theorem rgs_ok (L : D) {met : List Int} (m : Mt rs fs met) (G : List Int) (s6 s7 s8 s9 : Sl) : ∃ e', rg_s [.fz (.lst (rs.map oI)), .fz (eF fs), .fz L, .fz (.lst (G.map .int)), .ow (.dk (gT met)), .no, s6, s7, s8, s9, .no] = .rt (.bl (clB rs fs met && decide (G = oth fs met))) .fr (.fz (.lst (rs.map oI)) :: .fz (eF fs) :: .fz L :: .fz (.lst (G.map .int)) :: e') := by
  have hml := mt_len w m
  have hrl := w.rl
  have hr := rt_len rs
  have hcl := clT_len w.fl m.sub
  obtain ⟨e', h2, h3⟩ := for_invD (tg := tdName 6) (b := rg_b2) (fun its e => ∃ (a b : List Int) (s : Sl), its = b.map (ItD.v ∘ D.int) ∧ a ++ b = met ∧ e = [.fz (.lst (rs.map oI)), .fz (eF fs), .fz L, .fz (.lst (G.map .int)), .fz (.dk (gT met)), .ow (.lst ((rt rs ++ clT fs a).map .int)), s, s7, s8, s9, .no]) (fun it r e ⟨a, b, s, q1, q2, q3⟩ => by
    subst q3
    cases b with
    | nil => cases q1
    | cons t b =>
      rw [List.map_cons, List.cons.injEq] at q1
      obtain ⟨rfl, rfl⟩ := q1
      have ht : t ∈ ks fs := m.sub t (by rw [← q2]; simp)
      have hv := fo_some ht
      have hm := w.fl _ (fo_mem ht)
      dsimp only at hm
      have hlc := lc_rt 10 [.fz (.lst (rs.map oI)), .fz (eF fs), .fz L, .fz (.lst (G.map .int)), .fz (.dk (gT met)), .fz (.lst ((rt rs ++ clT fs a).map .int)), .fz (.int t), frz1 s7, frz1 s8, frz1 s9, .no] (by simp) (fo fs t) (by omega)
      have ha : (clT fs a).length ≤ 6 * a.length := clT_len w.fl fun x hx => m.sub x (by rw [← q2]; exact List.mem_append_left _ hx)
      have hal : a.length ≤ met.length := by rw [← q2]; simp
      have hfl := rt_len (fo fs t)
      have e1 : clT fs (a ++ [t]) = clT fs a ++ rt (fo fs t) := by simp [clT]
      have hz : (rt rs).length + (clT fs a).length + (rt (fo fs t)).length ≤ sizeLine := by unfold sizeLine; omega
      simp only [List.map_append] at hlc
      exact ⟨_, [.fz (.lst (rs.map oI)), .fz (eF fs), .fz L, .fz (.lst (G.map .int)), .fz (.dk (gT met)), .ow (.lst ((rt rs ++ clT fs (a ++ [t])).map .int)), .ow (.int t), s7, s8, s9, .no], rfl, .inl (by simp [rg_b2, hv, hlc, hz, e1]), a ++ [t], b, _, rfl, by rw [← q2]; simp, rfl⟩) (its := met.map (ItD.v ∘ D.int)) (e := [.fz (.lst (rs.map oI)), .fz (eF fs), .fz L, .fz (.lst (G.map .int)), .fz (.dk (gT met)), .ow (.lst ((rt rs).map .int)), s6, s7, s8, s9, .no]) ⟨[], met, s6, rfl, rfl, by simp [clT]⟩
  obtain ⟨a_, b, s, q1, q2, q3⟩ := h3
  have hb : b = [] := by cases b with
    | nil => rfl
    | cons _ _ => cases q1
  subst hb
  rw [List.append_nil] at q2
  subst q2
  subst q3
  have hlc := lc_rt 6 [.fz (.lst (rs.map oI)), .fz (eF fs), .fz L, .fz (.lst (G.map .int)), .fz (.dk (gT a_)), .no, .no, frz1 s7, frz1 s8, frz1 s9, .no] (by simp) rs (by omega)
  have ht := fun s s7 s8 s9 => rgt_ok (fs := fs) (.fz (.lst (rs.map oI))) (.fz L) s s7 s8 s9 a_ (rt rs ++ clT fs a_) G (by have := w.len; simp [ks]; omega) (by simp; omega)
  unfold clB
  generalize (((rt rs ++ clT fs a_).all fun x => decide (x ∈ a_)) && decide (G = oth fs a_)) = B at ht ⊢
  rw [List.map_append] at h2
  simp only [List.map_append] at ht
  refine ⟨[.ow (.dk (gT a_)), .ow (.lst ((rt rs).map .int ++ (clT fs a_).map .int)), kil s, thaw1 (some Kd.k) (some s7) s7, thaw1 (some Kd.k) (some s8) s8, thaw1 (some Kd.k) (some s9) s9, .no], ?_⟩
  simp [rg_s, hlc, h2, ht, gT_its]
theorem right_ok (L : List Tr) (G : List Int) : p_law_right [.lst (rs.map oI), eF fs, .lst (L.map eT), .lst (G.map .int)] = .ok (.bl (jd rs fs L && decide (G = oth fs (L.map th)))) .fr [.lst (rs.map oI), eF fs, .lst (L.map eT), .lst (G.map .int)] := by
  rw [rg_def2]
  obtain ⟨m2, e2, ⟨s6, s7, s8, s9, rfl⟩, h2, h3⟩ := run_for w (tg := tdTup [6, 7, 8]) (b := rg_b1) (fun p => ItD.v (eT p)) (fun met e => ∃ s6 s7 s8 s9, e = [.fz (.lst (rs.map oI)), .fz (eF fs), .fz (.lst (L.map eT)), .fz (.lst (G.map .int)), .ow (.dk (gT met)), .no, s6, s7, s8, s9, .no]) (.bl false) (fun met p e m ⟨s6, s7, s8, s9, q⟩ => by
    subst q
    obtain ⟨s9', hb⟩ := rgb_ok w (.lst (L.map eT)) (.lst (G.map .int)) m p s9
    have ht : tdTup [6, 7, 8] (ItD.v (eT p)) [.fz (.lst (rs.map oI)), .fz (eF fs), .fz (.lst (L.map eT)), .fz (.lst (G.map .int)), .ow (.dk (gT met)), .no, s6, s7, s8, s9, .no] = some [.fz (.lst (rs.map oI)), .fz (eF fs), .fz (.lst (L.map eT)), .fz (.lst (G.map .int)), .ow (.dk (gT met)), .no, .ow (oI p.1), .ow (oI p.2.1), .ow (oI p.2.2), s9, .no] := by
      obtain ⟨a, s, q⟩ := p
      cases a <;> cases s <;> cases q <;> rfl
    by_cases hg : gd rs fs met p = true
    · rw [if_pos hg] at hb
      exact ⟨_, _, ht, by rw [if_pos hg]; exact hb, met ++ [th p], ⟨_, _, _, _, rfl⟩, fun _ => rfl⟩
    · rw [if_neg hg] at hb
      exact ⟨_, _, ht, by rw [if_neg hg]; exact hb, met, ⟨_, _, _, _, rfl⟩, fun h => absurd h hg⟩) L [] [.fz (.lst (rs.map oI)), .fz (eF fs), .fz (.lst (L.map eT)), .fz (.lst (G.map .int)), .ow (.dk (gT [])), .no, .no, .no, .no, .no, .no] mt_nil ⟨_, _, _, _, rfl⟩
  have g0 : gT [] = [] := rfl
  rw [g0] at h2
  have h2 : pFor1 (tdTup [6, 7, 8]) rg_b1 (L.map (ItD.v ∘ eT)) [.fz (.lst (rs.map oI)), .fz (eF fs), .fz (.lst (L.map eT)), .fz (.lst (G.map .int)), .ow (.dk []), .no, .no, .no, .no, .no, .no] = _ := h2
  unfold jd
  cases hr : run rs fs L [] with
  | none =>
    rw [hr] at h2
    dsimp only at h2
    simp [h2]
  | some met =>
    have e := h3 met hr
    subst e
    rw [hr] at h2
    dsimp only at h2
    obtain ⟨m, em, _⟩ := run_mt w mt_nil hr
    obtain ⟨e', hs⟩ := rgs_ok w (.lst (L.map eT)) m G s6 s7 s8 s9
    rw [List.nil_append] at em
    dsimp only
    rw [← em]
    simp [h2, hs]
end
end Lw
namespace Lw
open PySem PySem.Spec L2 Mi Vi
theorem co1_ok (z0 z1 z3 z4 z7 : Sl) (cs : List Int) (hl : cs.length ≤ 10000) (r t : Int) : lc_b1 [z0, z1, .ow (.lst (cs.map .int)), z3, z4, .ow (.int r), .ow (.int t), z7] = .nx [z0, z1, .ow (.lst ((cs ++ [r % 1048576]).map .int)), z3, z4, .ow (.int (r / 1048576)), .ow (.int t), z7] := by
  have d : DivOk 1048576 := by decide
  have hz : cs.length < 16777216 := by omega
  simp [lc_b1, d, sizeLine, hz]
theorem co1_loop (z0 z1 z3 z4 z7 z6 : Sl) (cs : List Int) (hl : cs.length ≤ 9000) (hc : ∀ c ∈ cs, 0 ≤ c ∧ c < 1048576) (r : Int) : ∃ (cs' : List Int) (u5 u6 : Sl), cs'.length = cs.length + 4 ∧ (∀ c ∈ cs', 0 ≤ c ∧ c < 1048576) ∧ pFor1 (tdName 6) lc_b1 ((ups 4).map fun t => .v (.int t)) [z0, z1, .ow (.lst (cs.map .int)), z3, z4, .ow (.int r), z6, z7] = .nx [z0, z1, .ow (.lst (cs'.map .int)), z3, z4, u5, u6, z7] := by
  refine for_Q (Q := fun x => ∃ (cs' : List Int) (u5 u6 : Sl), cs'.length = cs.length + 4 ∧ (∀ c ∈ cs', 0 ≤ c ∧ c < 1048576) ∧ x = .nx [z0, z1, .ow (.lst (cs'.map .int)), z3, z4, u5, u6, z7]) (fun t => ItD.v (.int t)) (fun l e => ∃ (cs' : List Int) (r : Int) (u6 : Sl), cs'.length + l.length = cs.length + 4 ∧ (∀ c ∈ cs', 0 ≤ c ∧ c < 1048576) ∧ e = [z0, z1, .ow (.lst (cs'.map .int)), z3, z4, .ow (.int r), u6, z7]) ?_ ?_ ⟨cs, r, z6, by simp [ups], hc, rfl⟩
  · rintro t l e ⟨cs', r, u6, h1, h2, rfl⟩
    simp only [List.length_cons] at h1
    refine ⟨_, rfl, ?_⟩
    show TurnQ _ _ (lc_b1 [z0, z1, .ow (.lst (cs'.map .int)), z3, z4, .ow (.int r), .ow (.int t), z7])
    rw [co1_ok _ _ _ _ _ _ (by omega)]
    refine ⟨cs' ++ [r % 1048576], r / 1048576, .ow (.int t), by simp; omega, fun c hcm => ?_, rfl⟩
    rcases List.mem_append.mp hcm with q | q
    · exact h2 c q
    · rw [List.mem_singleton.mp q]; omega
  · rintro e ⟨cs', r, u6, h1, h2, rfl⟩
    exact ⟨cs', _, _, by simpa using h1, h2, rfl⟩
theorem co2_ok (ns : List Int) (z1 z5 z6 z7 : Sl) (cs : List Int) (hl : cs.length ≤ 9000) (hc : ∀ c ∈ cs, 0 ≤ c ∧ c < 1048576) (mx : Bool) (j : Nat) (hj : j < ns.length) : ∃ (cs' : List Int) (u5 u6 u7 : Sl), cs'.length = cs.length + 4 ∧ (∀ c ∈ cs', 0 ≤ c ∧ c < 1048576) ∧ lc_b2 [.fz (.lst (ns.map .int)), z1, .ow (.lst (cs.map .int)), .ow (.bl mx), .ow (.int j), z5, z6, z7] = .nx [.fz (.lst (ns.map .int)), z1, .ow (.lst (cs'.map .int)), .ow (.bl mx), .ow (.int j), u5, u6, u7] := by
  have hi : ixN ns.length (j : Int) = some j := ixN_nat hj
  have hq := List.getElem?_eq_getElem hj
  generalize ns[j] = x at hq
  have hu : intIts 0 4 = (ups 4).map fun t => .v (.int t) := intIts_ups 4
  have m1 : IntMulOk 977 j := mul_small (by decide)
  have m2 : ∀ y, IntMulOk y 48271 := fun y => mul_smallR (by decide)
  have m3 : ∀ y : Int, IntMulOk (y % 2147483647) (y % 2147483647) := fun y => mul_small (by omega)
  have m4 : ∀ y, IntMulOk y 69621 := fun y => mul_smallR (by decide)
  cases mx with
  | false =>
    obtain ⟨cs', u5, u6, h1, h2, h3⟩ := co1_loop (.fz (.lst (ns.map .int))) z1 (.ow (.bl false)) (.ow (.int j)) z7 z6 cs hl hc x
    exact ⟨cs', u5, u6, z7, h1, h2, by simp [lc_b2, hi, hq, hu, h3]⟩
  | true =>
    generalize hs : (x % 2147483647 + 977 * (j : Int) + 11) * 48271 % 2147483647 = s1
    have hsr : s1 % 2147483647 = s1 := by omega
    have m5 : IntMulOk s1 s1 := by have := m3 s1; rwa [hsr] at this
    have m6 := m3 (s1 * s1)
    obtain ⟨cs', u5, u6, h1, h2, h3⟩ := co1_loop (.fz (.lst (ns.map .int))) z1 (.ow (.bl true)) (.ow (.int j)) (.ow (.int (s1 * s1 % 2147483647))) z6 cs hl hc (s1 * s1 % 2147483647 * (s1 * s1 % 2147483647) * 69621 + s1 * s1 % 2147483647)
    exact ⟨cs', u5, u6, _, h1, h2, by simp [lc_b2, hi, hq, hu, m1, m2, hs, m5, m6, m4, h3]; rfl⟩
theorem codes_ok (ns : List Int) (hl : ns.length ≤ 63) : ∃ cs : List Int, p_law_codes [.lst (ns.map .int), .int 60] = .ok (.lst (cs.map .int)) .fr [.lst (ns.map .int), .int 60] ∧ cs.length ≤ 60 ∧ ∀ c ∈ cs, 0 ≤ c ∧ c < 1048576 := by
  rw [lc_def]
  generalize hmx : (ns.sum % 2 == 1) = mx
  have lp : ∃ (cs : List Int) (u4 u5 u6 u7 : Sl), cs.length ≤ 4 * ns.length ∧ (∀ c ∈ cs, 0 ≤ c ∧ c < 1048576) ∧ pFor1 (tdName 4) lc_b2 ((ups ns.length).map fun t => .v (.int t)) [.fz (.lst (ns.map .int)), .fz (.int 60), .ow (.lst (([] : List Int).map .int)), .ow (.bl mx), .no, .no, .no, .no] = .nx [.fz (.lst (ns.map .int)), .fz (.int 60), .ow (.lst (cs.map .int)), .ow (.bl mx), u4, u5, u6, u7] := by
    refine for_Q (Q := fun x => ∃ (cs : List Int) (u4 u5 u6 u7 : Sl), cs.length ≤ 4 * ns.length ∧ (∀ c ∈ cs, 0 ≤ c ∧ c < 1048576) ∧ x = .nx [.fz (.lst (ns.map .int)), .fz (.int 60), .ow (.lst (cs.map .int)), .ow (.bl mx), u4, u5, u6, u7]) (fun t => ItD.v (.int t)) (fun l e => (∀ t ∈ l, 0 ≤ t ∧ t < (ns.length : Int)) ∧ ∃ (cs : List Int) (u4 u5 u6 u7 : Sl), cs.length + 4 * l.length ≤ 4 * ns.length ∧ (∀ c ∈ cs, 0 ≤ c ∧ c < 1048576) ∧ e = [.fz (.lst (ns.map .int)), .fz (.int 60), .ow (.lst (cs.map .int)), .ow (.bl mx), u4, u5, u6, u7]) ?_ ?_ ⟨fun t ht => ups_mem.mp ht, [], .no, .no, .no, .no, by simp [ups], fun c hc => (by cases hc), rfl⟩
    · rintro t l e ⟨ht, cs, u4, u5, u6, u7, h1, h2, rfl⟩
      simp only [List.length_cons] at h1
      obtain ⟨q1, q2⟩ := ht t List.mem_cons_self
      obtain ⟨j, rfl⟩ : ∃ j : Nat, t = (j : Int) := ⟨t.toNat, by omega⟩
      obtain ⟨cs', v5, v6, v7, g1, g2, g3⟩ := co2_ok ns (.fz (.int 60)) u5 u6 u7 cs (by omega) h2 mx j (by omega)
      refine ⟨_, rfl, ?_⟩
      show TurnQ _ _ (lc_b2 [.fz (.lst (ns.map .int)), .fz (.int 60), .ow (.lst (cs.map .int)), .ow (.bl mx), .ow (.int j), u5, u6, u7])
      rw [g3]
      exact ⟨fun x hx => ht x (List.mem_cons_of_mem _ hx), cs', _, _, _, _, by omega, g2, rfl⟩
    · rintro e ⟨_, cs, u4, u5, u6, u7, h1, h2, rfl⟩
      exact ⟨cs, _, _, _, _, by simpa using h1, h2, rfl⟩
  obtain ⟨cs, u4, u5, u6, u7, h1, h2, h3⟩ := lp
  have hn : ns.length < 1000000 := by omega
  have hu : intIts 0 ns.length = (ups ns.length).map fun t => .v (.int t) := intIts_ups _
  refine ⟨cut cs none (some 60), ?_, cut_to_le cs 60, fun c hc => h2 c (cut_sub _ _ _ c hc)⟩
  simp only [List.map_nil] at h3
  simp [hmx, hn, hu, h3]
end Lw
namespace Lw
open PySem PySem.Spec L2 Mi Vi
theorem dEqD_intsN (a : List Int) : dEqD false (.lst (a.map .int)) (.lst []) = some (.bl (decide (a = []))) := by
  exact dEqD_intsL a []
theorem picked_ok (T : List Int) (n : Int) (hT : T.length ≤ 12) : ∃ o : Option Int, (∀ x, o = some x → x ∈ T) ∧ p_law_picked [.lst (T.map .int), .int n] = .ok (oI o) .fr [.lst (T.map .int), .int n] := by
  rw [lp_def]
  have h1 := dEqD_intsN T
  by_cases hT0 : T = []
  · subst hT0
    exact ⟨none, (fun x h => by cases h), by simp at h1; simp [h1, oI]⟩
  · by_cases hn : n % 4 = 0
    · exact ⟨none, (fun x h => by cases h), by simp [h1, hT0, hn, oI]⟩
    · have hl : 0 < T.length := List.length_pos_iff.mpr hT0
      have d4 : DivOk 4 := by decide
      have dl : DivOk T.length := by unfold DivOk; omega
      have hj : 0 ≤ (n / 4) % (T.length : Int) ∧ (n / 4) % (T.length : Int) < T.length := ⟨Int.emod_nonneg _ (by omega), Int.emod_lt_of_pos _ (by omega)⟩
      generalize hx : (n / 4) % (T.length : Int) = x at hj
      have hxn : x.toNat < T.length := by omega
      have e1 : ixN T.length x = some x.toNat := by
        have := ixN_nat hxn
        rwa [show ((x.toNat : Nat) : Int) = x by omega] at this
      have e2 := List.getElem?_eq_getElem hxn
      have hl0 : (T.length : Int) ≠ 0 := by omega
      refine ⟨some T[x.toNat], (fun y hy => by cases hy; exact List.getElem_mem _), ?_⟩
      generalize T[x.toNat] = y at e2
      simp [h1, hT0, hn, d4, dl, hx, e1, e2, oI, hl0, hl]
theorem vb1_ok (z0 z1 z2 z4 z5 z6 z8 z9 z10 : Sl) (T : List Int) (hT : T.length ≤ 12) (row : List (Option Int)) (hl : row.length ≤ 1000) (c : Int) : ∃ (o : Option Int), (∀ x, o = some x → x ∈ T) ∧ vw_b1 [z0, z1, z2, .ow (.lst (T.map .int)), z4, z5, z6, .ow (.int c), z8, z9, z10, .ow (.lst (row.map oI))] = .nx [z0, z1, z2, .ow (.lst (T.map .int)), z4, z5, z6, .ow (.int (c * 48271 % 2147483647)), z8, z9, z10, .ow (.lst ((row ++ [o]).map oI))] := by
  have m4 : ∀ y, IntMulOk y 48271 := fun y => mul_smallR (by decide)
  obtain ⟨o, h1, h2⟩ := picked_ok T (c * 48271 % 2147483647 / 11) hT
  have hz : row.length < 16777216 := by omega
  have d1 : DivOk 2147483647 := by decide
  have d2 : DivOk 11 := by decide
  exact ⟨o, h1, by simp [vw_b1, m4, d1, d2, h2, sizeLine, hz]⟩
theorem vb3_ok (z0 z1 z2 z4 z5 z6 z9 z10 z11 : Sl) (T : List Int) (hT : T.length ≤ 12) (row : List (Option Int)) (hl : row.length ≤ 1000) (c : Int) : ∃ (o : Option Int), (∀ x, o = some x → x ∈ T) ∧ vw_b3 [z0, z1, z2, .ow (.lst (T.map .int)), z4, z5, z6, .ow (.int c), .ow (.lst (row.map oI)), z9, z10, z11] = .nx [z0, z1, z2, .ow (.lst (T.map .int)), z4, z5, z6, .ow (.int (c * 48271 % 2147483647)), .ow (.lst ((row ++ [o]).map oI)), z9, z10, z11] := by
  have m4 : ∀ y, IntMulOk y 48271 := fun y => mul_smallR (by decide)
  obtain ⟨o, h1, h2⟩ := picked_ok T (c * 48271 % 2147483647 / 11) hT
  have hz : row.length < 16777216 := by omega
  have d1 : DivOk 2147483647 := by decide
  have d2 : DivOk 11 := by decide
  exact ⟨o, h1, by simp [vw_b3, m4, d1, d2, h2, sizeLine, hz]⟩
theorem vb4_ok (z0 z1 z4 z5 z6 z8 z9 z11 : Sl) (T : List Int) (hT : T.length ≤ 12) (hp : 0 < T.length) (row : List Int) (hl : row.length ≤ 1000) (c : Int) : ∃ x ∈ T, vw_b4 [z0, z1, .ow (.int T.length), .ow (.lst (T.map .int)), z4, z5, z6, .ow (.int c), z8, z9, .ow (.lst (row.map .int)), z11] = .nx [z0, z1, .ow (.int T.length), .ow (.lst (T.map .int)), z4, z5, z6, .ow (.int (c * 48271 % 2147483647)), z8, z9, .ow (.lst ((row ++ [x]).map .int)), z11] := by
  have m4 : ∀ y, IntMulOk y 48271 := fun y => mul_smallR (by decide)
  have hz : row.length < 16777216 := by omega
  have d1 : DivOk 2147483647 := by decide
  have d2 : DivOk 11 := by decide
  have dl : DivOk T.length := by unfold DivOk; omega
  have hj : 0 ≤ (c * 48271 % 2147483647 / 11) % (T.length : Int) ∧ (c * 48271 % 2147483647 / 11) % (T.length : Int) < T.length := ⟨Int.emod_nonneg _ (by omega), Int.emod_lt_of_pos _ (by omega)⟩
  generalize hx : (c * 48271 % 2147483647 / 11) % (T.length : Int) = x at hj
  have hxn : x.toNat < T.length := by omega
  have e1 : ixN T.length x = some x.toNat := by
    have := ixN_nat hxn
    rwa [show ((x.toNat : Nat) : Int) = x by omega] at this
  have e2 := List.getElem?_eq_getElem hxn
  have hl0 : (T.length : Int) ≠ 0 := by omega
  refine ⟨T[x.toNat], List.getElem_mem _, ?_⟩
  generalize T[x.toNat] = y at e2
  simp [vw_b4, m4, d1, d2, dl, hx, e1, e2, hl0, sizeLine, hz, hp]
end Lw
namespace Lw
open PySem PySem.Spec L2 Mi Vi
theorem row_loop (z0 z1 z2 z4 z5 z6 z8 z9 z10 : Sl) (T : List Int) (hT : T.length ≤ 12) (c : Int) (n : Nat) (hn : n ≤ 100) : ∃ (row : List (Option Int)) (s7 s9 : Sl), row.length = n ∧ (∀ x, some x ∈ row → x ∈ T) ∧ pFor1 (tdName 9) vw_b1 ((ups n).map fun t => .v (.int t)) [z0, z1, z2, .ow (.lst (T.map .int)), z4, z5, z6, .ow (.int c), z8, z9, z10, .ow (.lst [])] = .nx [z0, z1, z2, .ow (.lst (T.map .int)), z4, z5, z6, s7, z8, s9, z10, .ow (.lst (row.map oI))] := by
  obtain ⟨e', h1, l, row, c', s9, q1, q2, q3, q4⟩ := for_invD (tg := tdName 9) (b := vw_b1) (fun its e => ∃ (l : List Int) (row : List (Option Int)) (c : Int) (s9 : Sl), its = (l.map fun t => ItD.v (.int t)) ∧ row.length + l.length = n ∧ (∀ x, some x ∈ row → x ∈ T) ∧ e = [z0, z1, z2, .ow (.lst (T.map .int)), z4, z5, z6, .ow (.int c), z8, s9, z10, .ow (.lst (row.map oI))]) (fun it r e ⟨l, row, c, s9, q1, q2, q3, q4⟩ => by
    subst q4
    cases l with
    | nil => cases q1
    | cons t l =>
      rw [List.map_cons, List.cons.injEq] at q1
      obtain ⟨rfl, rfl⟩ := q1
      rw [List.length_cons] at q2
      obtain ⟨o, h1, h2⟩ := vb1_ok z0 z1 z2 z4 z5 z6 z8 (.ow (.int t)) z10 T hT row (by omega) c
      exact ⟨_, _, rfl, .inl h2, l, row ++ [o], _, _, rfl, by simp; omega, (fun x hx => by
        rcases List.mem_append.mp hx with q | q
        · exact q3 x q
        · exact h1 x (List.mem_singleton.mp q).symm), rfl⟩) (its := (ups n).map fun t => .v (.int t)) (e := [z0, z1, z2, .ow (.lst (T.map .int)), z4, z5, z6, .ow (.int c), z8, z9, z10, .ow (.lst [])]) ⟨ups n, [], c, z9, rfl, by simp [ups], (fun x hx => by cases hx), rfl⟩
  have hl : l = [] := by cases l with
    | nil => rfl
    | cons _ _ => cases q1
  subst hl
  subst q4
  exact ⟨row, _, _, by simpa using q2, q3, h1⟩
theorem roots_loop (z0 z1 z2 z4 z5 z6 z9 z10 z11 : Sl) (T : List Int) (hT : T.length ≤ 12) (c : Int) (n : Nat) (hn : n ≤ 100) : ∃ (row : List (Option Int)) (s7 s9 : Sl), row.length = n ∧ (∀ x, some x ∈ row → x ∈ T) ∧ pFor1 (tdName 9) vw_b3 ((ups n).map fun t => .v (.int t)) [z0, z1, z2, .ow (.lst (T.map .int)), z4, z5, z6, .ow (.int c), .ow (.lst []), z9, z10, z11] = .nx [z0, z1, z2, .ow (.lst (T.map .int)), z4, z5, z6, s7, .ow (.lst (row.map oI)), s9, z10, z11] := by
  obtain ⟨e', h1, l, row, c', s9, q1, q2, q3, q4⟩ := for_invD (tg := tdName 9) (b := vw_b3) (fun its e => ∃ (l : List Int) (row : List (Option Int)) (c : Int) (s9 : Sl), its = (l.map fun t => ItD.v (.int t)) ∧ row.length + l.length = n ∧ (∀ x, some x ∈ row → x ∈ T) ∧ e = [z0, z1, z2, .ow (.lst (T.map .int)), z4, z5, z6, .ow (.int c), .ow (.lst (row.map oI)), s9, z10, z11]) (fun it r e ⟨l, row, c, s9, q1, q2, q3, q4⟩ => by
    subst q4
    cases l with
    | nil => cases q1
    | cons t l =>
      rw [List.map_cons, List.cons.injEq] at q1
      obtain ⟨rfl, rfl⟩ := q1
      rw [List.length_cons] at q2
      obtain ⟨o, h1, h2⟩ := vb3_ok z0 z1 z2 z4 z5 z6 (.ow (.int t)) z10 z11 T hT row (by omega) c
      exact ⟨_, _, rfl, .inl h2, l, row ++ [o], _, _, rfl, by simp; omega, (fun x hx => by
        rcases List.mem_append.mp hx with q | q
        · exact q3 x q
        · exact h1 x (List.mem_singleton.mp q).symm), rfl⟩) (its := (ups n).map fun t => .v (.int t)) (e := [z0, z1, z2, .ow (.lst (T.map .int)), z4, z5, z6, .ow (.int c), .ow (.lst []), z9, z10, z11]) ⟨ups n, [], c, z9, rfl, by simp [ups], (fun x hx => by cases hx), rfl⟩
  have hl : l = [] := by cases l with
    | nil => rfl
    | cons _ _ => cases q1
  subst hl
  subst q4
  exact ⟨row, _, _, by simpa using q2, q3, h1⟩
theorem back_loop (z0 z1 z4 z5 z6 z8 z9 z11 : Sl) (T : List Int) (hT : T.length ≤ 12) (c : Int) (n : Nat) (hn : n ≤ 100) (h0 : T = [] → n = 0) : ∃ (row : List Int) (s7 s9 : Sl), row.length = n ∧ (∀ x ∈ row, x ∈ T) ∧ pFor1 (tdName 9) vw_b4 ((ups n).map fun t => .v (.int t)) [z0, z1, .ow (.int T.length), .ow (.lst (T.map .int)), z4, z5, z6, .ow (.int c), z8, z9, .ow (.lst []), z11] = .nx [z0, z1, .ow (.int T.length), .ow (.lst (T.map .int)), z4, z5, z6, s7, z8, s9, .ow (.lst (row.map .int)), z11] := by
  obtain ⟨e', h1, l, row, c', s9, q1, q2, q3, q4⟩ := for_invD (tg := tdName 9) (b := vw_b4) (fun its e => ∃ (l : List Int) (row : List Int) (c : Int) (s9 : Sl), its = (l.map fun t => ItD.v (.int t)) ∧ row.length + l.length = n ∧ (∀ x ∈ row, x ∈ T) ∧ e = [z0, z1, .ow (.int T.length), .ow (.lst (T.map .int)), z4, z5, z6, .ow (.int c), z8, s9, .ow (.lst (row.map .int)), z11]) (fun it r e ⟨l, row, c, s9, q1, q2, q3, q4⟩ => by
    subst q4
    cases l with
    | nil => cases q1
    | cons t l =>
      rw [List.map_cons, List.cons.injEq] at q1
      obtain ⟨rfl, rfl⟩ := q1
      rw [List.length_cons] at q2
      obtain ⟨o, h1, h2⟩ := vb4_ok z0 z1 z4 z5 z6 z8 (.ow (.int t)) z11 T hT (List.length_pos_iff.mpr fun h => by have := h0 h; omega) row (by omega) c
      exact ⟨_, _, rfl, .inl h2, l, row ++ [o], _, _, rfl, by simp; omega, (fun x hx => by
        rcases List.mem_append.mp hx with q | q
        · exact q3 x q
        · rw [List.mem_singleton.mp q]; exact h1), rfl⟩) (its := (ups n).map fun t => .v (.int t)) (e := [z0, z1, .ow (.int T.length), .ow (.lst (T.map .int)), z4, z5, z6, .ow (.int c), z8, z9, .ow (.lst []), z11]) ⟨ups n, [], c, z9, rfl, by simp [ups], (fun x hx => by cases hx), rfl⟩
  have hl : l = [] := by cases l with
    | nil => rfl
    | cons _ _ => cases q1
  subst hl
  subst q4
  exact ⟨row, _, _, by simpa using q2, q3, h1⟩
theorem tail_at (R : List Int) (j : Nat) (hj : j < 20) : ∃ v : Int, (R.map D.int ++ List.replicate 20 (D.int 0))[j]? = some (.int v) ∧ ixN (R.length + 20) (j : Int) = some j := by
  refine ⟨(R ++ List.replicate 20 0)[j]'(by simp; omega), ?_, ixN_nat (by omega)⟩
  have : (R.map D.int ++ List.replicate 20 (D.int 0)) = (R ++ List.replicate 20 (0 : Int)).map D.int := by simp
  rw [this, List.getElem?_map, List.getElem?_eq_getElem (by simp; omega)]
  rfl
theorem vb2_ok (z0 z1 z2 s7 z8 s9 z10 s11 : Sl) (T R : List Int) (hT : T.length ≤ 12) (hR : R.length ≤ 1000) (nd : T.Pairwise (· < ·)) (fs : FL) (j : Nat) (hj : j < T.length) (hk : ks fs = T.take j) : ∃ (row : List (Option Int)) (s7' s9' : Sl), row.length ≤ 6 ∧ (∀ x, some x ∈ row → x ∈ T) ∧ vw_b2 [z0, z1, z2, .ow (.lst (T.map .int)), .ow (.lst (R.map .int)), .ow (.dk (kF fs)), .ow (.int j), s7, z8, s9, z10, s11] = .nx [z0, z1, z2, .ow (.lst (T.map .int)), .ow (.lst (R.map .int)), .ow (.dk (kF (fs ++ [(T[j], row)]))), .ow (.int j), s7', z8, s9', z10, .no] := by
  obtain ⟨v, e1, e2⟩ := tail_at R j (by omega)
  obtain ⟨row, s7', s9', h1, h2, h3⟩ := row_loop z0 z1 z2 (.ow (.lst (R.map .int))) (.ow (.dk (kF fs))) (.ow (.int j)) z8 s9 z10 T hT v (v % 7).toNat (by omega)
  have hu : intIts 0 (v % 7).toNat = (ups (v % 7).toNat).map fun t => .v (.int t) := intIts_ups (v % 7).toNat
  simp only [List.replicate] at e1
  have d7 : DivOk 7 := by decide
  have i1 : ixN T.length (j : Int) = some j := ixN_nat hj
  have i2 := List.getElem?_eq_getElem hj
  have hnk : T[j] ∉ ks fs := by
    rw [hk]
    intro h
    obtain ⟨i, hi, e⟩ := List.mem_iff_getElem.mp h
    rw [List.getElem_take] at e
    simp at hi
    have := List.pairwise_iff_getElem.mp nd i j (by omega) hj (by omega)
    omega
  have hp : putD (kF fs) (.inl T[j]) (.lst (row.map oI)) = kF (fs ++ [(T[j], row)]) := by
    rw [putD_new (fo_none hnk), kF_app]
    rfl
  have hnd : ndB (kF fs) = true := ndB_kF (by
    rw [hk]
    exact List.Pairwise.imp (fun h => by omega) (nd.sublist (List.take_sublist _ _)))
  generalize T[j] = t at *
  have hz : (kF fs).length < 16777216 := by
    have : fs.length = (ks fs).length := by simp [ks]
    rw [hk] at this
    simp [kF]
    simp at this
    omega
  refine ⟨row, s7', s9', by omega, h2, ?_⟩
  have hz2 : R.length + 20 ≤ 16777216 := by omega
  have hlt : (v % 7).natAbs < 4611686018427387904 := by omega
  simp [vw_b2, e1, e2, hu, d7, i1, i2, h3, hp, hz, sizeLine, hz2, hlt, hnd]
end Lw
namespace Lw
open PySem PySem.Spec L2 Mi Vi
def vw_e : Vi.PE := (pBinS dMulL (pBin dAdd (pBinS dMulL (pC (.int 3)) (pVar 6)) (pBin dMod (pBin dDiv (pVar 1) (pC (.int 13))) (pC (.int 3)))) (pSel2 dIx (pLst (pCons (pC (.int 1)) (pCons (pC (.int 1)) (pCons (pBin dPow (pC (.int 10)) (pC (.int 50))) (pNil))))) (pBin dMod (pBin dDiv (pVar 1) (pC (.int 39))) (pC (.int 3)))))
theorem thing_ok (h : Int) : ∃ b M : Int, 0 < M ∧ ∀ (z0 z2 z3 z4 z5 z7 z8 z9 z10 z11 : Sl) (j : Int), 0 ≤ j → j < 100 → vw_e [z0, .fz (.int h), z2, z3, z4, z5, .ow (.int j), z7, z8, z9, z10, z11] = .ok (.int ((3 * j + b) * M), .fr) true [z0, .fz (.int h), z2, z3, z4, z5, .ow (.int j), z7, z8, z9, z10, z11] := by
  have d13 : DivOk 13 := by decide
  have d3 : DivOk 3 := by decide
  have d39 : DivOk 39 := by decide
  have m1 : ∀ y : Int, IntMulOk 3 y := fun y => mul_small (by decide)
  have i0 : ixN 3 0 = some 0 := rfl
  have i1 : ixN 3 1 = some 1 := rfl
  have i2 : ixN 3 2 = some 2 := rfl
  generalize hb : h / 13 % 3 = b
  have hb' : 0 ≤ b ∧ b < 3 := by omega
  rcases (by omega : h / 39 % 3 = 0 ∨ h / 39 % 3 = 1 ∨ h / 39 % 3 = 2) with q | q | q
  · exact ⟨b, 1, by decide, fun z0 z2 z3 z4 z5 z7 z8 z9 z10 z11 j hj1 hj2 => by
      have m2 : IntMulOk (3 * j + b) 1 := mul_small (by omega)
      simp [vw_e, d13, d3, d39, m1, m2, hb, q, i0, i1, i2, sizeLine]⟩
  · exact ⟨b, 1, by decide, fun z0 z2 z3 z4 z5 z7 z8 z9 z10 z11 j hj1 hj2 => by
      have m2 : IntMulOk (3 * j + b) 1 := mul_small (by omega)
      simp [vw_e, d13, d3, d39, m1, m2, hb, q, i0, i1, i2, sizeLine]⟩
  · exact ⟨b, 10 ^ 50, by decide, fun z0 z2 z3 z4 z5 z7 z8 z9 z10 z11 j hj1 hj2 => by
      have m2 : IntMulOk (3 * j + b) (10 ^ 50) := mul_small (by omega)
      have e50 : (10 : Int) ^ 50 = 100000000000000000000000000000000000000000000000000 := rfl
      rw [e50] at m2 ⊢
      simp [vw_e, d13, d3, d39, m1, m2, hb, q, i0, i1, i2, sizeLine]⟩
def vw_t3 : Vi.PS := (pSeq (pSet 7 (pSel2 dIx (pBin dAdd (pVar 4) (pBinS dMulL (pLst (pCons (pC (.int 0)) (pNil))) (pC (.int 20)))) (pC (.int 14)))) (pSeq (pSet 10 (pLst (pNil))) (pSeq (pFor (pRange1 (pCons (pBinS dMulL (pBin dMod (pVar 7) (pC (.int 4))) (pCall dInt (pCons (pBin dGt (pVar 2) (pC (.int 0))) (pNil)))) (pNil))) (tdName 9) vw_b4) (pRet (pTup (pCons (pMv 8) (pCons (pMv 5) (pCons (pMv 10) (pNil)))))))))
def vw_t2 : Vi.PS := (pSeq (pSet 7 (pSel2 dIx (pBin dAdd (pVar 4) (pBinS dMulL (pLst (pCons (pC (.int 0)) (pNil))) (pC (.int 20)))) (pC (.int 13)))) (pSeq (pSet 8 (pLst (pNil))) (pSeq (pFor (pRange1 (pCons (pBin dMod (pBin dDiv (pVar 7) (pC (.int 4))) (pC (.int 9))) (pNil))) (tdName 9) vw_b3) vw_t3)))
def vw_t1 : Vi.PS := (pSeq (pSet 5 (pDict0)) (pSeq (pFor (pRange1 (pCons (pVar 2) (pNil))) (tdName 6) vw_b2) vw_t2))
theorem vw_def2 : p_law_view = pFn 12 [false] (pSeq (pSet 1 (pSel2 dIx (pBin dAdd (pVar 0) (pLst (pCons (pC (.int 5)) (pNil)))) (pC (.int 0)))) (pSeq (pSet 2 (pBin dMod (pVar 1) (pC (.int 13)))) (pSeq (pSet 3 (pLc (pRange1 (pCons (pVar 2) (pNil))) [6] (tdName 6) (pYes) vw_e)) (pSeq (pSet 4 (pSl (pVar 0) (pPart (pC (.int 1))) (pNoP))) vw_t1)))) := rfl
theorem vt3_ok (z0 z1 z6 z7 z9 z11 : Sl) (T R : List Int) (hT : T.length ≤ 12) (hR : R.length ≤ 1000) (fs : FL) (rs : List (Option Int)) : ∃ (ns : List Int) (s7 s9 : Sl), ns.length ≤ 3 ∧ (∀ x ∈ ns, x ∈ T) ∧ vw_t3 [z0, z1, .ow (.int T.length), .ow (.lst (T.map .int)), .ow (.lst (R.map .int)), .ow (.dk (kF fs)), z6, z7, .ow (.lst (rs.map oI)), z9, .no, z11] = .rt (.tup [.lst (rs.map oI), .dk (kF fs), .lst (ns.map .int)]) .fr [z0, z1, .ow (.int T.length), .ow (.lst (T.map .int)), .ow (.lst (R.map .int)), .no, z6, s7, .no, s9, .no, z11] := by
  obtain ⟨v, e1, e2⟩ := tail_at R 14 (by omega)
  simp only [List.replicate] at e1
  obtain ⟨hx, e1⟩ := List.getElem?_eq_some_iff.mp e1
  have e2 : ixN (R.length + 20) 14 = some 14 := e2
  have d4 : DivOk 4 := by decide
  have hz2 : R.length + 20 ≤ 16777216 := by omega
  by_cases h0 : T = []
  · obtain ⟨ns, s7, s9, h1, h2, h3⟩ := back_loop z0 z1 (.ow (.lst (R.map .int))) (.ow (.dk (kF fs))) z6 (.ow (.lst (rs.map oI))) z9 z11 T hT v 0 (by omega) (fun _ => rfl)
    subst h0
    have m0 : ∀ y : Int, IntMulOk y 0 := fun y => mul_smallR (by decide)
    have hu : intIts 0 0 = (ups 0).map fun t => .v (.int t) := intIts_ups 0
    simp at h3
    exact ⟨ns, s7, s9, by omega, h2, by simp [vw_t3, e1, e2, d4, m0, hu, h3, sizeLine, hz2]⟩
  · have hl : 0 < T.length := List.length_pos_iff.mpr h0
    obtain ⟨ns, s7, s9, h1, h2, h3⟩ := back_loop z0 z1 (.ow (.lst (R.map .int))) (.ow (.dk (kF fs))) z6 (.ow (.lst (rs.map oI))) z9 z11 T hT v (v % 4).toNat (by omega) (fun h => absurd h h0)
    have m1 : ∀ y : Int, IntMulOk y 1 := fun y => mul_smallR (by decide)
    have hu : intIts 0 (v % 4).toNat = (ups (v % 4).toNat).map fun t => .v (.int t) := intIts_ups _
    have hlt : (v % 4).natAbs < 4611686018427387904 := by omega
    exact ⟨ns, s7, s9, by omega, h2, by simp [vw_t3, e1, e2, d4, m1, hu, h3, sizeLine, hz2, hl, hlt]⟩
theorem vt2_ok (z0 z1 z6 z7 z8 z9 z11 : Sl) (T R : List Int) (hT : T.length ≤ 12) (hR : R.length ≤ 1000) (fs : FL) : ∃ (rs : List (Option Int)) (ns : List Int) (s7 s9 : Sl), rs.length ≤ 8 ∧ (∀ x, some x ∈ rs → x ∈ T) ∧ ns.length ≤ 3 ∧ (∀ x ∈ ns, x ∈ T) ∧ vw_t2 [z0, z1, .ow (.int T.length), .ow (.lst (T.map .int)), .ow (.lst (R.map .int)), .ow (.dk (kF fs)), z6, z7, z8, z9, .no, z11] = .rt (.tup [.lst (rs.map oI), .dk (kF fs), .lst (ns.map .int)]) .fr [z0, z1, .ow (.int T.length), .ow (.lst (T.map .int)), .ow (.lst (R.map .int)), .no, z6, s7, .no, s9, .no, z11] := by
  obtain ⟨v, e1, e2⟩ := tail_at R 13 (by omega)
  simp only [List.replicate] at e1
  obtain ⟨hx, e1⟩ := List.getElem?_eq_some_iff.mp e1
  have e2 : ixN (R.length + 20) 13 = some 13 := e2
  have d4 : DivOk 4 := by decide
  have d9 : DivOk 9 := by decide
  have hz2 : R.length + 20 ≤ 16777216 := by omega
  obtain ⟨rs, s7, s9, h1, h2, h3⟩ := roots_loop z0 z1 (.ow (.int T.length)) (.ow (.lst (R.map .int))) (.ow (.dk (kF fs))) z6 z9 .no z11 T hT v (v / 4 % 9).toNat (by omega)
  have hu : intIts 0 (v / 4 % 9).toNat = (ups (v / 4 % 9).toNat).map fun t => .v (.int t) := intIts_ups _
  have hlt : (v / 4 % 9).natAbs < 4611686018427387904 := by omega
  obtain ⟨ns, s7', s9', g1, g2, g3⟩ := vt3_ok z0 z1 z6 s7 s9 z11 T R hT hR fs rs
  exact ⟨rs, ns, s7', s9', by omega, h2, g1, g2, by simp [vw_t2, e1, e2, d4, d9, hu, h3, g3, sizeLine, hz2, hlt]⟩
end Lw
namespace Lw
open PySem PySem.Spec L2 Mi Vi
theorem cut_le {α : Type} (l : List α) (lo hi : Option Int) : (cut l lo hi).length ≤ l.length := by
  unfold cut
  simp
  omega
theorem vt1_ok (z0 z1 z7 z8 z9 z11 : Sl) (T R : List Int) (hT : T.length ≤ 12) (hR : R.length ≤ 1000) (nd : T.Pairwise (· < ·)) : ∃ (rs : List (Option Int)) (fs : FL) (ns : List Int) (e' : Vi.Env), ks fs = T ∧ (∀ p ∈ fs, p.2.length ≤ 6 ∧ ∀ x, some x ∈ p.2 → x ∈ T) ∧ rs.length ≤ 8 ∧ (∀ x, some x ∈ rs → x ∈ T) ∧ ns.length ≤ 3 ∧ (∀ x ∈ ns, x ∈ T) ∧ vw_t1 [z0, z1, .ow (.int T.length), .ow (.lst (T.map .int)), .ow (.lst (R.map .int)), .no, .no, z7, z8, z9, .no, z11] = .rt (.tup [.lst (rs.map oI), .dk (kF fs), .lst (ns.map .int)]) .fr (z0 :: e') := by
  obtain ⟨e', h1, l, fs, s6, s7, s9, s11, q1, q2, q3, q4, q5⟩ := for_invD (tg := tdName 6) (b := vw_b2) (fun its e => ∃ (l : List Int) (fs : FL) (s6 s7 s9 s11 : Sl), its = (l.map fun t => ItD.v (.int t)) ∧ (∃ k : Nat, l = ((List.range T.length).drop k).map (fun n : Nat => (n : Int)) ∧ k ≤ T.length ∧ ks fs = T.take k) ∧ (∀ p ∈ fs, p.2.length ≤ 6 ∧ ∀ x, some x ∈ p.2 → x ∈ T) ∧ (its = [] → ks fs = T) ∧ e = [z0, z1, .ow (.int T.length), .ow (.lst (T.map .int)), .ow (.lst (R.map .int)), .ow (.dk (kF fs)), s6, s7, z8, s9, .no, s11]) (fun it r e ⟨l, fs, s6, s7, s9, s11, q1, ⟨k, q2, q3, q4⟩, q5, q6, q7⟩ => by
    subst q7
    cases hk : decide (k < T.length) with
    | false =>
      have hk := of_decide_eq_false hk
      have : l = [] := by rw [q2, List.drop_eq_nil_of_le (by simp; omega)]; rfl
      subst this
      cases q1
    | true =>
      have hk := of_decide_eq_true hk
      have e1 : (List.range T.length).drop k = k :: (List.range T.length).drop (k + 1) := by
        rw [List.drop_eq_getElem_cons (by simpa using hk)]
        simp
      rw [q2, e1, List.map_cons, List.map_cons, List.cons.injEq] at q1
      obtain ⟨rfl, rfl⟩ := q1
      obtain ⟨row, t7, t9, h1, h2, h3⟩ := vb2_ok z0 z1 (.ow (.int T.length)) s7 z8 s9 .no s11 T R hT hR nd fs k hk q4
      have hks : ks (fs ++ [(T[k], row)]) = T.take (k + 1) := by
        rw [ks_app, q4, List.take_succ_eq_append_getElem hk]
        rfl
      refine ⟨_, _, rfl, .inl h3, _, fs ++ [(T[k], row)], _, _, _, _, rfl, ⟨k + 1, rfl, by omega, hks⟩, fun p hp => ?_, fun h => ?_, rfl⟩
      · rcases List.mem_append.mp hp with q | q
        · exact q5 p q
        · rw [List.mem_singleton.mp q]; exact ⟨h1, h2⟩
      · rw [hks]
        have := congrArg List.length h
        simp at this
        exact List.take_of_length_le (by omega)) (its := (ups T.length).map fun t => .v (.int t)) (e := [z0, z1, .ow (.int T.length), .ow (.lst (T.map .int)), .ow (.lst (R.map .int)), .ow (.dk (kF [])), .no, z7, z8, z9, .no, z11]) ⟨ups T.length, [], .no, z7, z9, z11, rfl, ⟨0, rfl, by omega, rfl⟩, (fun p hp => by cases hp), (fun h => by
      have := congrArg List.length h
      simp [ups] at this
      subst this
      rfl), rfl⟩
  subst q5
  obtain ⟨rs, ns, t7, t9, g1, g2, g3, g4, g5⟩ := vt2_ok z0 z1 s6 s7 z8 s9 s11 T R hT hR fs
  have hu : intIts 0 T.length = (ups T.length).map fun t => .v (.int t) := intIts_ups _
  have hlt : T.length < 1000000 := by omega
  have h1 : pFor1 (tdName 6) vw_b2 ((ups T.length).map fun t => .v (.int t)) [z0, z1, .ow (.int T.length), .ow (.lst (T.map .int)), .ow (.lst (R.map .int)), .ow (.dk []), .no, z7, z8, z9, .no, z11] = _ := h1
  exact ⟨rs, fs, ns, _, q4 rfl, q3, g1, g2, g3, g4, by simp [vw_t1, hu, hlt, h1, g5]; rfl⟩
theorem things_lt (b M : Int) (hM : 0 < M) (m : Nat) : ((ups m).map fun j => (3 * j + b) * M).Pairwise (· < ·) := by
  unfold ups
  rw [List.map_map, List.pairwise_map]
  refine List.Pairwise.imp (fun {i j} h => ?_) List.pairwise_lt_range
  show (3 * (i : Int) + b) * M < (3 * (j : Int) + b) * M
  exact Int.mul_lt_mul_of_pos_right (by omega) hM
theorem view_made (cs : List Int) (hl : cs.length ≤ 60) : ∃ (rs : List (Option Int)) (fs : FL) (ns : List Int), (ks fs).Pairwise (· < ·) ∧ fs.length ≤ 12 ∧ (∀ p ∈ fs, p.2.length ≤ 6 ∧ ∀ x, some x ∈ p.2 → x ∈ ks fs) ∧ rs.length ≤ 8 ∧ (∀ x, some x ∈ rs → x ∈ ks fs) ∧ ns.length ≤ 3 ∧ (∀ x ∈ ns, x ∈ ks fs) ∧ p_law_view [.lst (cs.map .int)] = .ok (.tup [.lst (rs.map oI), .dk (kF fs), .lst (ns.map .int)]) .fr [.lst (cs.map .int)] := by
  rw [vw_def2]
  obtain ⟨h, hh⟩ : ∃ h : Int, (cs.map D.int ++ [D.int 5])[0]? = some (.int h) := by
    cases cs with
    | nil => exact ⟨5, rfl⟩
    | cons c cs => exact ⟨c, rfl⟩
  obtain ⟨hx, hh⟩ := List.getElem?_eq_some_iff.mp hh
  obtain ⟨b, M, hM, ht⟩ := thing_ok h
  obtain ⟨m, hm⟩ : ∃ m : Nat, h % 13 = (m : Int) := ⟨(h % 13).toNat, by omega⟩
  have hm12 : m ≤ 12 := by omega
  have nd := things_lt b M hM m
  have hTl : ((ups m).map fun j => (3 * j + b) * M).length = m := by simp [ups]
  have hlc : lcGoD (tdName 6) pYes vw_e [.fz (.lst (cs.map .int)), .fz (.int h), .fz (.int m), .no, .no, .no, .no, .no, .no, .no, .no, .no] ((ups m).map fun t => .v (.int t)) [] = some (((ups m).map fun j => (3 * j + b) * M).map .int) := by
    rw [List.map_map]
    exact lc_mapY (fun j : Int => ItD.v (.int j)) (fun j => D.int ((3 * j + b) * M)) (ups m) (by simp [ups, sizeLine]; omega) fun j hj => ⟨_, _, rfl, ht _ _ _ _ _ _ _ _ _ _ j (ups_mem.mp hj).1 (by have := (ups_mem.mp hj).2; omega)⟩
  have hu : intIts 0 m = (ups m).map fun t => .v (.int t) := intIts_ups _
  have hlt : m < 1000000 := by omega
  have hR := cut_le cs (some 1) none
  obtain ⟨rs, fs, ns, e', g1, g2, g3, g4, g5, g6, g7⟩ := vt1_ok (.fz (.lst (cs.map .int))) (.ow (.int h)) .no .no .no .no _ (cut cs (some 1) none) (by rw [hTl]; exact hm12) (by omega) nd
  rw [hTl] at g7
  generalize ((ups m).map fun j => (3 * j + b) * M) = T at *
  subst g1
  have d13 : DivOk 13 := by decide
  have i0 : ixN (cs.length + 1) 0 = some 0 := ixN_nat (n := cs.length + 1) (k := 0) (by omega)
  have hz : cs.length + 1 ≤ 16777216 := by omega
  have hz0 : cs.length < 16777216 := by omega
  refine ⟨rs, fs, ns, nd, by have : (ks fs).length = fs.length := by simp [ks]
                             omega, g2, g3, g4, g5, g6, ?_⟩
  simp [i0, hh, hm, d13, hu, hlt, hlc, g7, sizeLine, hz, hz0]
  done
end Lw
namespace Lw
open PySem PySem.Spec L2 Mi Vi
@[local simp] theorem frzAll_any' (s : Sl) (e : Vi.Env) : frzAll (s :: e) = frz1 s :: frzAll e := rfl
/-- the ends that a row tells -/
def nxt (row : List (Option Int)) (s : Option Int) : List Tr := ((ups row.length).filter fun k => (row.getD k.toNat none).isSome).map fun k => (row.getD k.toNat none, s, some k)
theorem nxt_len (row : List (Option Int)) (s : Option Int) : (nxt row s).length ≤ row.length := by
  have := List.length_filter_le (fun k => (row.getD k.toNat none).isSome) (ups row.length)
  simp [nxt]
  simp [ups] at this ⊢
  exact this
theorem nxt_mem {row : List (Option Int)} {s : Option Int} {p : Tr} (h : p ∈ nxt row s) : ∃ x, p.1 = some x ∧ some x ∈ row := by
  obtain ⟨k, hk, rfl⟩ := List.mem_map.mp h
  obtain ⟨h1, h2⟩ := List.mem_filter.mp hk
  obtain ⟨x, hx⟩ := Option.isSome_iff_exists.mp h2
  refine ⟨x, hx, ?_⟩
  have := ups_mem.mp h1
  rw [← hx, List.getD_eq_getElem?_getD, List.getElem?_eq_getElem (by omega)]
  exact List.getElem_mem _
theorem row_at (row : List (Option Int)) {k : Int} (h : k ∈ ups row.length) : ixN row.length k = some k.toNat ∧ row[k.toNat]? = some (row.getD k.toNat none) := at_last row k (ups_mem.mp h).1 (ups_mem.mp h).2
def wk_b : Vi.PS := (pSeq (pSet 2 (pBin dMod (pBinS dMulL (pVar 2) (pC (.int 48271))) (pC (.int 2147483647)))) (pSeq (pSetT [7, 8, 9] (pBM2 mPop mDPop (plVar 3) (pCons (pBin dMod (pBin dDiv (pVar 2) (pC (.int 7))) (pCall dLen (pCons (pVar 3) (pNil)))) (pNil)))) (pIfS (pB (pBin dNotIn (pVar 7) (pVar 4))) (pSeq (pSetI (plVar 4) (pVar 7) (pC (.bl true))) (pSeq (pExpr (pBM isL mAppend (plVar 5) (pCons (pTup (pCons (pMv 7) (pCons (pMv 8) (pCons (pMv 9) (pNil))))) (pNil)))) (pSeq (pSet 10 (pSel2 dSub2 (pVar 1) (pVar 7))) (pExpr (pBM isL mExtend (plVar 3) (pCons (pLc (pRange1 (pCons (pCall dLen (pCons (pVar 10) (pNil))) (pNil))) [6] (tdName 6) (pB (pBin dIsN (pSel2 dSub2 (pVar 10) (pVar 6)) (pC (.non)))) (pTup (pCons (pSel2 dSub2 (pVar 10) (pVar 6)) (pCons (pVar 7) (pCons (pVar 6) (pNil)))))) (pNil))))))) (pSkip))))
def wk_c : Vi.PT := (pB (pBin dGt (pCall dLen (pCons (pVar 3) (pNil))) (pC (.int 0))))
def wk_l : Vi.PE := (pLc (pRange1 (pCons (pCall dLen (pCons (pVar 0) (pNil))) (pNil))) [6] (tdName 6) (pB (pBin dIsN (pSel2 dSub2 (pVar 0) (pVar 6)) (pC (.non)))) (pTup (pCons (pSel2 dSub2 (pVar 0) (pVar 6)) (pCons (pC (.non)) (pCons (pVar 6) (pNil))))))
theorem wk_def2 : p_law_walk = pFn 11 [false, false, false] (pSeq (pSet 3 wk_l) (pSeq (pSet 4 (pDict0)) (pSeq (pSet 5 (pLst (pNil))) (pSeq (pWhile wk_c wk_b 1000) (pRet (pMv 5)))))) := rfl
theorem lc_nxt0 (A B z3 z4 z5 z7 z8 z9 z10 : Sl) (row : List (Option Int)) (hl : row.length ≤ 1000) : lcGoD (tdName 6) (pB (pBin dIsN (pSel2 dSub2 (pVar 0) (pVar 6)) (pC (.non)))) (pTup (pCons (pSel2 dSub2 (pVar 0) (pVar 6)) (pCons (pC (.non)) (pCons (pVar 6) (pNil))))) [.fz (.lst (row.map oI)), A, B, z3, z4, z5, .no, z7, z8, z9, z10] ((ups row.length).map fun t => .v (.int t)) [] = some ((nxt row none).map eT) := by
  have h := lc_map (td := tdName 6) (c := pB (pBin dIsN (pSel2 dSub2 (pVar 0) (pVar 6)) (pC (.non)))) (p := pTup (pCons (pSel2 dSub2 (pVar 0) (pVar 6)) (pCons (pC (.non)) (pCons (pVar 6) (pNil))))) (e0 := [.fz (.lst (row.map oI)), A, B, z3, z4, z5, .no, z7, z8, z9, z10]) (fun k : Int => ItD.v (.int k)) (fun k => (row.getD k.toNat none).isSome) (fun k => eT (row.getD k.toNat none, none, some k)) (ups row.length) [] (by simp [ups, sizeLine]; omega) fun k hk => by
    obtain ⟨e1, e2⟩ := row_at row hk
    generalize row.getD k.toNat none = y at e2 ⊢
    refine ⟨[.fz (.lst (row.map oI)), A, B, z3, z4, z5, .ow (.int k), z7, z8, z9, z10], rfl, ?_, fun hy => ⟨[.fz (.lst (row.map oI)), A, B, z3, z4, z5, .ow (.int k), z7, z8, z9, z10], ?_⟩⟩
    · cases y <;> simp [e1, e2, oI, dIsN]
    · cases y with
      | none => cases hy
      | some y => simp [e1, e2, eT, oI, sizeLine]
  rw [h]
  simp [nxt, List.map_map, Function.comp_def]
theorem lc_nxt1 (A B C z3 z4 z5 z8 z9 : Sl) (t : Int) (row : List (Option Int)) (hl : row.length ≤ 1000) : lcGoD (tdName 6) (pB (pBin dIsN (pSel2 dSub2 (pVar 10) (pVar 6)) (pC (.non)))) (pTup (pCons (pSel2 dSub2 (pVar 10) (pVar 6)) (pCons (pVar 7) (pCons (pVar 6) (pNil))))) [A, B, C, z3, z4, z5, .no, .fz (.int t), z8, z9, .fz (.lst (row.map oI))] ((ups row.length).map fun t => .v (.int t)) [] = some ((nxt row (some t)).map eT) := by
  have h := lc_map (td := tdName 6) (c := pB (pBin dIsN (pSel2 dSub2 (pVar 10) (pVar 6)) (pC (.non)))) (p := pTup (pCons (pSel2 dSub2 (pVar 10) (pVar 6)) (pCons (pVar 7) (pCons (pVar 6) (pNil))))) (e0 := [A, B, C, z3, z4, z5, .no, .fz (.int t), z8, z9, .fz (.lst (row.map oI))]) (fun k : Int => ItD.v (.int k)) (fun k => (row.getD k.toNat none).isSome) (fun k => eT (row.getD k.toNat none, some t, some k)) (ups row.length) [] (by simp [ups, sizeLine]; omega) fun k hk => by
    obtain ⟨e1, e2⟩ := row_at row hk
    generalize row.getD k.toNat none = y at e2 ⊢
    refine ⟨[A, B, C, z3, z4, z5, .ow (.int k), .fz (.int t), z8, z9, .fz (.lst (row.map oI))], rfl, ?_, fun hy => ⟨[A, B, C, z3, z4, z5, .ow (.int k), .fz (.int t), z8, z9, .fz (.lst (row.map oI))], ?_⟩⟩
    · cases y <;> simp [e1, e2, oI, dIsN]
    · cases y with
      | none => cases hy
      | some y => simp [e1, e2, eT, oI, sizeLine]
  rw [h]
  simp [nxt, List.map_map, Function.comp_def]
end Lw
namespace Lw
open PySem PySem.Spec L2 Mi Vi
@[local simp] theorem frzAll_any2 (s : Sl) (e : Vi.Env) : frzAll (s :: e) = frz1 s :: frzAll e := rfl
theorem erase_map {α β : Type} (f : α → β) : ∀ (l : List α) (i : Nat), (l.map f).eraseIdx i = (l.eraseIdx i).map f
  | [], _ => rfl
  | _ :: _, 0 => rfl
  | a :: l, i + 1 => congrArg (f a :: ·) (erase_map f l i)
structure Wk (fs : FL) (Li : List Tr) (T : List Int) (L : List Tr) : Prop where
  nd : T.Nodup
  sub : ∀ x ∈ T, x ∈ ks fs
  len : L.length = T.length
  li : ∀ p ∈ Li, ∃ x, p.1 = some x ∧ x ∈ ks fs
theorem Wk.le {fs : FL} {Li : List Tr} {T : List Int} {L : List Tr} (w : Wk fs Li T L) : T.length ≤ fs.length := by
  have : T.length ≤ (ks fs).length := List.Nodup.length_le_of_subset w.nd fun x hx => w.sub x hx
  simpa [ks] using this
theorem step_ok (A : D) (fs : FL) (hf : fs.length ≤ 12) (hp : ∀ p ∈ fs, p.2.length ≤ 6 ∧ ∀ x, some x ∈ p.2 → x ∈ ks fs) (n : Int) (Li : List Tr) (T : List Int) (L : List Tr) (w : Wk fs Li T L) (h0 : 0 < Li.length) (hL : Li.length ≤ 1000) (z2 s6 s7 s8 s9 s10 : Sl) (hzz : z2 = .ow (.int n) ∨ z2 = .fz (.int n)) : ∃ (n' : Int) (Li' : List Tr) (T' : List Int) (L' : List Tr) (t6 t7 t8 t9 t10 : Sl), Wk fs Li' T' L' ∧ Li'.length + 6 * (fs.length - T'.length) < Li.length + 6 * (fs.length - T.length) ∧ wk_b [.fz A, .fz (eF fs), z2, .ow (.lst (Li.map eT)), .ow (.dk (gT T)), .ow (.lst (L.map eT)), s6, s7, s8, s9, s10] = .nx [.fz A, .fz (eF fs), .ow (.int n'), .ow (.lst (Li'.map eT)), .ow (.dk (gT T')), .ow (.lst (L'.map eT)), t6, t7, t8, t9, t10] := by
  have hT := w.le
  have m4 : IntMulOk n 48271 := mul_smallR (by decide)
  have d1 : DivOk 2147483647 := by decide
  have d2 : DivOk 7 := by decide
  have dl : DivOk Li.length := by unfold DivOk; omega
  have hj : 0 ≤ (n * 48271 % 2147483647 / 7) % (Li.length : Int) ∧ (n * 48271 % 2147483647 / 7) % (Li.length : Int) < Li.length := ⟨Int.emod_nonneg _ (by omega), Int.emod_lt_of_pos _ (by omega)⟩
  generalize hx : (n * 48271 % 2147483647 / 7) % (Li.length : Int) = q at hj
  obtain ⟨i, rfl⟩ : ∃ i : Nat, q = (i : Int) := ⟨q.toNat, by omega⟩
  have hi : i < Li.length := by omega
  have e1 : seqIndex? (i : Int) Li.length = some i := by simp [seqIndex?]; omega
  have e2 := List.getElem?_eq_getElem hi
  have hl0 : (Li.length : Int) ≠ 0 := by omega
  obtain ⟨x, hx1, hx2⟩ := w.li Li[i] (List.getElem_mem _)
  have hb2 : (i : Int) < 9223372036854775808 := by omega
  have hb : -(2 ^ 63) ≤ (i : Int) ∧ (i : Int) < 2 ^ 63 := by omega
  have hsub : ∀ p ∈ Li.eraseIdx i, ∃ x, p.1 = some x ∧ x ∈ ks fs := fun p hpp => w.li p (List.mem_of_mem_eraseIdx hpp)
  have hel : (Li.eraseIdx i).length = Li.length - 1 := List.length_eraseIdx_of_lt hi
  have emap : (Li.map eT).eraseIdx i = (Li.eraseIdx i).map eT := erase_map _ _ _
  generalize Li.eraseIdx i = Li2 at *
  generalize Li[i] = y at *
  obtain ⟨a, s, p⟩ := y
  dsimp only at hx1
  subst hx1
  have ey : eT (some x, s, p) = .tup [.int x, oI s, oI p] := rfl
  by_cases hm : x ∈ T
  · refine ⟨n * 48271 % 2147483647, Li2, T, L, s6, .ow (.int x), .ow (oI s), .ow (oI p), s10, ⟨w.nd, w.sub, w.len, hsub⟩, by omega, ?_⟩
    rcases hzz with rfl | rfl <;> simp [wk_b, m4, d1, d2, dl, hx, e1, e2, hl0, h0, hb2, hm, ey, emap]
  · have hv := fo_some hx2
    have hrow := hp _ (fo_mem hx2)
    dsimp only at hrow
    generalize fo fs x = row at hv hrow
    have hpt := gT_put T x
    unfold addT at hpt
    rw [if_neg hm] at hpt
    have w2 : Wk fs (Li2 ++ nxt row (some x)) (T ++ [x]) (L ++ [(some x, s, p)]) := ⟨by
      rw [List.nodup_append]
      exact ⟨w.nd, by simp, fun a ha b hb e => by rw [List.mem_singleton.mp hb] at e; exact hm (e ▸ ha)⟩, fun y hy => by
      rcases List.mem_append.mp hy with q | q
      · exact w.sub y q
      · rw [List.mem_singleton.mp q]; exact hx2, by simp [w.len], fun y hy => by
      rcases List.mem_append.mp hy with q | q
      · exact hsub y q
      · obtain ⟨z, h1, h2⟩ := nxt_mem q
        exact ⟨z, h1, hrow.2 z h2⟩⟩
    have hnl := nxt_len row (some x)
    have hTT := w2.le
    rw [List.length_append, List.length_singleton] at hTT
    have hu : intIts 0 row.length = (ups row.length).map fun t => .v (.int t) := intIts_ups _
    have hlt : row.length < 1000000 := by omega
    have hz1 : T.length < 16777216 := by omega
    have hz2 : L.length < 16777216 := by have := w.len; omega
    have hz3 : Li2.length + (nxt row (some x)).length ≤ 16777216 := by omega
    have hlc := lc_nxt1 (.fz A) (.fz (eF fs)) (.fz (.int (n * 48271 % 2147483647))) (.fz (.lst (Li2.map eT))) (.fz (.dk (gT (T ++ [x])))) (.fz (.lst ((L ++ [(some x, s, p)]).map eT))) (.fz (oI s)) (.fz (oI p)) x row (by omega)
    refine ⟨n * 48271 % 2147483647, _, _, _, s6, .ow (.int x), .ow (oI s), .ow (oI p), .fz (.lst (row.map oI)), w2, by simp; omega, ?_⟩
    simp only [List.map_append, List.map_cons, List.map_nil, ey] at hlc
    rcases hzz with rfl | rfl <;> simp [wk_b, m4, d1, d2, dl, hx, e1, e2, hl0, h0, hb2, hm, ey, emap, hpt, hv, hu, hlt, hlc, hz1, hz2, hz3, sizeLine]
end Lw
namespace Lw
open PySem PySem.Spec L2 Mi Vi
@[local simp] theorem frzAll_any3 (s : Sl) (e : Vi.Env) : frzAll (s :: e) = frz1 s :: frzAll e := rfl
theorem wkc_ok (A B z2 : Sl) (Li : List Tr) (hl : Li.length ≤ 1000) (z4 z5 z6 z7 z8 z9 z10 : Sl) : wk_c [A, B, z2, .ow (.lst (Li.map eT)), z4, z5, z6, z7, z8, z9, z10] = .ok (decide (0 < Li.length)) true [A, B, z2, .ow (.lst (Li.map eT)), z4, z5, z6, z7, z8, z9, z10] := by
  simp [wk_c]
theorem wk_loop (A : D) (fs : FL) (hf : fs.length ≤ 12) (hp : ∀ p ∈ fs, p.2.length ≤ 6 ∧ ∀ x, some x ∈ p.2 → x ∈ ks fs) : ∀ (fuel : Nat) (n : Int) (Li : List Tr) (T : List Int) (L : List Tr) (z2 s6 s7 s8 s9 s10 : Sl), (z2 = .ow (.int n) ∨ z2 = .fz (.int n)) → Wk fs Li T L → Li.length + 6 * (fs.length - T.length) < fuel → fuel ≤ 1000 → ∃ (L' : List Tr) (T' : List Int) (e2 e3 e4 e6 e7 e8 e9 e10 : Sl), Wk fs [] T' L' ∧ pWhile wk_c wk_b fuel [.fz A, .fz (eF fs), z2, .ow (.lst (Li.map eT)), .ow (.dk (gT T)), .ow (.lst (L.map eT)), s6, s7, s8, s9, s10] = .nx [.fz A, .fz (eF fs), e2, e3, e4, .ow (.lst (L'.map eT)), e6, e7, e8, e9, e10]
  | 0, n, Li, T, L, z2, s6, s7, s8, s9, s10, hzz, w, h, hz => absurd h (Nat.not_lt_zero _)
  | fuel + 1, n, Li, T, L, z2, s6, s7, s8, s9, s10, hzz, w, h, hz => by
    have hc := wkc_ok (.fz A) (.fz (eF fs)) z2 Li (by omega) (.ow (.dk (gT T))) (.ow (.lst (L.map eT))) s6 s7 s8 s9 s10
    by_cases h0 : 0 < Li.length
    · rw [decide_eq_true h0] at hc
      obtain ⟨n', Li', T', L', t6, t7, t8, t9, t10, w2, h2, h3⟩ := step_ok A fs hf hp n Li T L w h0 (by omega) z2 s6 s7 s8 s9 s10 hzz
      obtain ⟨L3, T3, e2, e3, e4, e6, e7, e8, e9, e10, w3, h4⟩ := wk_loop A fs hf hp fuel n' Li' T' L' _ t6 t7 t8 t9 t10 (.inl rfl) w2 (by omega) (by omega)
      exact ⟨L3, T3, e2, e3, e4, e6, e7, e8, e9, e10, w3, by rw [while_step hc h3]; exact h4⟩
    · rw [decide_eq_false h0] at hc
      exact ⟨L, T, _, _, _, _, _, _, _, _, ⟨w.nd, w.sub, w.len, fun p hp => by cases hp⟩, while_stop hc⟩
theorem walk_ok (W : List (Option Int)) (hW : W.length ≤ 30) (fs : FL) (hf : fs.length ≤ 12) (hp : ∀ p ∈ fs, p.2.length ≤ 6 ∧ ∀ x, some x ∈ p.2 → x ∈ ks fs) (hx : ∀ x, some x ∈ W → x ∈ ks fs) (n : Int) : ∃ L : List Tr, L.length ≤ 12 ∧ p_law_walk [.lst (W.map oI), eF fs, .int n] = .ok (.lst (L.map eT)) .fr [.lst (W.map oI), eF fs, .int n] := by
  rw [wk_def2]
  have hnl := nxt_len W none
  have w0 : Wk fs (nxt W none) [] [] := ⟨.nil, (fun x hx => by cases hx), rfl, fun p hp => by
    obtain ⟨z, h1, h2⟩ := nxt_mem hp
    exact ⟨z, h1, hx z h2⟩⟩
  have hlc := lc_nxt0 (.fz (eF fs)) (.fz (.int n)) .no .no .no .no .no .no .no W (by omega)
  have hu : intIts 0 W.length = (ups W.length).map fun t => .v (.int t) := intIts_ups _
  have hlt : W.length < 1000000 := by omega
  obtain ⟨L', T', e2, e3, e4, e6, e7, e8, e9, e10, w', h'⟩ := wk_loop (.lst (W.map oI)) fs hf hp 1000 n (nxt W none) [] [] (.fz (.int n)) .no .no .no .no .no (.inr rfl) w0 (by simp; omega) (by omega)
  have h' : pWhile wk_c wk_b 1000 [.fz (.lst (W.map oI)), .fz (eF fs), .fz (.int n), .ow (.lst ((nxt W none).map eT)), .ow (.dk []), .ow (.lst []), .no, .no, .no, .no, .no] = _ := h'
  have := w'.le
  have := w'.len
  exact ⟨L', by omega, by simp [wk_l, hu, hlt, hlc, h']⟩
end Lw
namespace Lw
open PySem PySem.Spec L2 Mi Vi
theorem other_ok (c : Int) (fs : FL) (hk : (ks fs).length ≤ 1000) : ∃ o : Option Int, p_law_other [.int c, eF fs] = .ok (oI o) .fr [.int c, eF fs] := by
  rw [lo_def]
  have h3 := dSorted_kF fs (by omega)
  have hlen : (sortI (ks fs)).length ≤ 1000 := by rw [(sortI_perm (ks fs)).length_eq]; exact hk
  generalize sortI (ks fs) = S at h3 hlen
  have dl : DivOk ((S.length : Int) + 1) := by unfold DivOk; omega
  have hj : 0 ≤ c % ((S.length : Int) + 1) ∧ c % ((S.length : Int) + 1) < (S.length : Int) + 1 := ⟨Int.emod_nonneg _ (by omega), Int.emod_lt_of_pos _ (by omega)⟩
  generalize hx : c % ((S.length : Int) + 1) = q at hj
  obtain ⟨i, rfl⟩ : ∃ i : Nat, q = (i : Int) := ⟨q.toNat, by omega⟩
  have e1 : ixN (S.length + 1) (i : Int) = some i := ixN_nat (by omega)
  obtain ⟨v, e2⟩ : ∃ v : Int, (S.map D.int ++ [D.int 4])[i]? = some (.int v) := by
    refine ⟨(S ++ [4])[i]'(by simp; omega), ?_⟩
    have : (S.map D.int ++ [D.int 4]) = (S ++ [4]).map D.int := by simp
    rw [this, List.getElem?_map, List.getElem?_eq_getElem (by simp; omega)]
    rfl
  have d13 : DivOk 13 := by decide
  have d4 : DivOk 4 := by decide
  have i0 : ixN 4 0 = some 0 := rfl
  have i1 : ixN 4 1 = some 1 := rfl
  have i2 : ixN 4 2 = some 2 := rfl
  have i3 : ixN 4 3 = some 3 := rfl
  have hz : S.length < 16777216 := by omega
  have hz1 : S.length + 1 ≤ 16777216 := by omega
  rcases (by omega : c / 13 % 4 = 0 ∨ c / 13 % 4 = 1 ∨ c / 13 % 4 = 2 ∨ c / 13 % 4 = 3) with q | q | q | q
  · exact ⟨none, by simp [h3, dl, hx, e1, e2, d13, d4, q, i0, sizeLine, hz, hz1, oI]⟩
  · exact ⟨some (10 ^ 40), by simp [h3, dl, hx, e1, e2, d13, d4, q, i1, sizeLine, hz, hz1, oI]⟩
  · exact ⟨some (-1), by simp [h3, dl, hx, e1, e2, d13, d4, q, i2, sizeLine, hz, hz1, oI]⟩
  · exact ⟨some v, by simp [h3, dl, hx, e1, e2, d13, d4, q, i3, sizeLine, hz, hz1, oI]⟩
end Lw
namespace Lw
open PySem PySem.Spec L2 Mi Vi
/-- a triple, as a kind of its own -/
structure T3 where
  t : Tr
deriving DecidableEq
instance encT3 : Enc T3 where
  en := fun x => eT x.t
  pd := fun x => .tuple [Enc.pd x.t.1, Enc.pd x.t.2.1, Enc.pd x.t.2.2]
  dp := 1
  rd := fun n x h => by
    obtain ⟨m, rfl⟩ : ∃ m, n = m + 1 := ⟨n - 1, by omega⟩
    exact rdP_three _ _ _ _ _ _ _ (Enc.rd m x.t.1 (Nat.zero_le _)) (Enc.rd m x.t.2.1 (Nat.zero_le _)) (Enc.rd m x.t.2.2 (Nat.zero_le _))
  lay := fun x => by
    show (PyData.canLay0 (Enc.pd x.t.1) && (PyData.canLay0 (Enc.pd x.t.2.1) && (PyData.canLay0 (Enc.pd x.t.2.2) && true))) = true
    rw [Enc.lay, Enc.lay, Enc.lay]; rfl
  dep := fun x => by
    show max (PyData.depth (Enc.pd x.t.1)) (max (PyData.depth (Enc.pd x.t.2.1)) (max (PyData.depth (Enc.pd x.t.2.2)) 0)) + 1 ≤ _
    have h1 : PyData.depth (Enc.pd x.t.1) ≤ 0 := Enc.dep x.t.1
    have h2 : PyData.depth (Enc.pd x.t.2.1) ≤ 0 := Enc.dep x.t.2.1
    have h3 : PyData.depth (Enc.pd x.t.2.2) ≤ 0 := Enc.dep x.t.2.2
    omega
  eq := fun x y => by
    obtain ⟨a, b, c⟩ := x
    obtain ⟨d, e, f⟩ := y
    show (PyData.eqv (Enc.pd a) (Enc.pd d) && (PyData.eqv (Enc.pd b) (Enc.pd e) && (PyData.eqv (Enc.pd c) (Enc.pd f) && true))) = true ↔ _
    rw [Bool.and_true, Bool.and_eq_true, Bool.and_eq_true, Enc.eq, Enc.eq, Enc.eq]
    constructor
    · rintro ⟨rfl, rfl, rfl⟩; rfl
    · intro h; cases h; exact ⟨rfl, rfl, rfl⟩
theorem en_T3 (L : List Tr) : (Enc.en (L.map T3.mk) : D) = .lst (L.map eT) := by
  show D.lst ((L.map T3.mk).map fun x => eT x.t) = _
  rw [List.map_map]
  rfl
theorem dNe_nilT (L : List Tr) : dEqD true (.lst (L.map eT)) (.lst []) = some (.bl (decide (L ≠ []))) := by
  have h := dEqD_enc (α := List T3) true (L.map T3.mk) []
  rw [en_T3] at h
  have e : (true != decide (L.map T3.mk = [])) = decide (L ≠ []) := by cases L <;> simp
  rw [e] at h
  exact h
theorem dNe_paper (L : List Tr) (G : List Int) : dEqD true (.tup [.lst (L.map eT), .lst (G.map .int)]) (.tup [.lst (L.map eT), .lst (G.map .int)]) = some (.bl false) := by
  have h := dEqD_self (α := List T3 × List Int) true (L.map T3.mk, G)
  have e : (Enc.en (L.map T3.mk, G) : D) = .tup [.lst (L.map eT), .lst (G.map .int)] := by
    show D.tup [Enc.en (L.map T3.mk), _] = _
    rw [en_T3]
    rfl
  rw [e] at h
  exact h
theorem dNe_nilI (G : List Int) : dEqD true (.lst (G.map .int)) (.lst []) = some (.bl (decide (G ≠ []))) := by
  have h := dEq_ints true G []
  have e : (true != decide (G = [])) = decide (G ≠ []) := by cases G <;> simp
  rw [e] at h
  exact h
end Lw
namespace Lw
open PySem PySem.Spec L2 Mi Vi
def sp_k1 : Vi.PS := (pIfS (pAnd (pB (pBin dNe (pVar 4) (pLst (pNil)))) (pB (pBin dEq (pVar 6) (pC (.int 1))))) (pExpr (pBM2 mPop mDPop (plVar 4) (pCons (pMv 7) (pNil)))) (pSkip))
def sp_k2 : Vi.PS := (pIfS (pAnd (pB (pBin dNe (pVar 4) (pLst (pNil)))) (pB (pBin dEq (pVar 6) (pC (.int 2))))) (pExpr (pBM isL mInsert (plVar 4) (pCons (pBin dMod (pBin dDiv (pVar 2) (pC (.int 144))) (pBin dAdd (pCall dLen (pCons (pVar 4) (pNil))) (pC (.int 1)))) (pCons (pSel2 dSub2 (pVar 4) (pVar 7)) (pNil))))) (pSkip))
def sp_k3 : Vi.PS := (pIfS (pAnd (pB (pBin dLt (pBin dAdd (pVar 7) (pC (.int 1))) (pCall dLen (pCons (pVar 4) (pNil))))) (pB (pBin dEq (pVar 6) (pC (.int 3))))) (pSeq (pSet 8 (pSel2 dSub2 (pVar 4) (pVar 7))) (pSeq (pSetI (plVar 4) (pVar 7) (pSel2 dSub2 (pVar 4) (pBin dAdd (pVar 7) (pC (.int 1))))) (pSetI (plVar 4) (pBin dAdd (pVar 7) (pC (.int 1))) (pMv 8)))) (pSkip))
def sp_k4 : Vi.PS := (pIfS (pAnd (pB (pBin dNe (pVar 4) (pLst (pNil)))) (pB (pBin dEq (pVar 6) (pC (.int 4))))) (pSetI (plVar 4) (pVar 7) (pTup (pCons (pApp [false, false] p_law_other [.v (pBin dDiv (pVar 2) (pC (.int 144))), .v (pVar 3)]) (pCons (pSel2 dIx (pSel2 dSub2 (pVar 4) (pVar 7)) (pC (.int 1))) (pCons (pSel2 dIx (pSel2 dSub2 (pVar 4) (pVar 7)) (pC (.int 2))) (pNil)))))) (pSkip))
def sp_k5 : Vi.PS := (pIfS (pAnd (pB (pBin dNe (pVar 4) (pLst (pNil)))) (pB (pBin dEq (pVar 6) (pC (.int 5))))) (pSetI (plVar 4) (pVar 7) (pTup (pCons (pSel2 dIx (pSel2 dSub2 (pVar 4) (pVar 7)) (pC (.int 0))) (pCons (pApp [false, false] p_law_other [.v (pBin dDiv (pVar 2) (pC (.int 144))), .v (pVar 3)]) (pCons (pSel2 dIx (pSel2 dSub2 (pVar 4) (pVar 7)) (pC (.int 2))) (pNil)))))) (pSkip))
def sp_k6 : Vi.PS := (pIfS (pAnd (pB (pBin dNe (pVar 4) (pLst (pNil)))) (pB (pBin dEq (pVar 6) (pC (.int 6))))) (pSeq (pSet 9 (pSel2 dIx (pSel2 dSub2 (pVar 4) (pVar 7)) (pC (.int 2)))) (pSeq (pIfS (pB (pBin dIs (pVar 9) (pC (.non)))) (pSet 9 (pC (.int 0))) (pSkip)) (pSetI (plVar 4) (pVar 7) (pTup (pCons (pSel2 dIx (pSel2 dSub2 (pVar 4) (pVar 7)) (pC (.int 0))) (pCons (pSel2 dIx (pSel2 dSub2 (pVar 4) (pVar 7)) (pC (.int 1))) (pCons (pSel2 dIx (pLst (pCons (pC (.non)) (pCons (pUn dNeg (pC (.int 1))) (pCons (pBin dAdd (pVar 9) (pC (.int 1))) (pCons (pBin dMod (pBin dDiv (pVar 2) (pC (.int 576))) (pC (.int 9))) (pNil)))))) (pBin dMod (pBin dDiv (pVar 2) (pC (.int 144))) (pC (.int 4)))) (pNil)))))))) (pSkip))
def sp_k7 : Vi.PS := (pIfS (pAnd (pB (pBin dNe (pVar 5) (pLst (pNil)))) (pB (pBin dEq (pVar 6) (pC (.int 7))))) (pExpr (pBM2 mPop mDPop (plVar 5) (pCons (pBin dMod (pBin dDiv (pVar 2) (pC (.int 12))) (pCall dLen (pCons (pVar 5) (pNil)))) (pNil)))) (pSkip))
def sp_k8 : Vi.PS := (pIfS (pB (pBin dEq (pVar 6) (pC (.int 8)))) (pExpr (pBM isL mInsert (plVar 5) (pCons (pBin dMod (pBin dDiv (pVar 2) (pC (.int 12))) (pBin dAdd (pCall dLen (pCons (pVar 5) (pNil))) (pC (.int 1)))) (pCons (pSel2 dIx (pLst (pCons (pBin dPow (pC (.int 10)) (pC (.int 40))) (pCons (pC (.int 0)) (pCons (pC (.int 3)) (pCons (pUn dNeg (pC (.int 1))) (pNil)))))) (pBin dMod (pBin dDiv (pVar 2) (pC (.int 144))) (pC (.int 4)))) (pNil))))) (pSkip))
def sp_k9 : Vi.PS := (pIfS (pB (pBin dEq (pVar 6) (pC (.int 9)))) (pSet 5 (pUn dRevI (pVar 5))) (pSkip))
theorem sp_def2 : p_law_spoilt = pFn 10 [false, false, false, false] (pSeq (pSet 4 (pCall dList (pCons (pVar 0) (pNil)))) (pSeq (pSet 5 (pCall dList (pCons (pVar 1) (pNil)))) (pSeq (pSet 6 (pBin dMod (pVar 2) (pC (.int 12)))) (pSeq (pSet 7 (pBin dMod (pBin dDiv (pVar 2) (pC (.int 12))) (pCall dMax2 (pCons (pC (.int 1)) (pCons (pCall dLen (pCons (pVar 4) (pNil))) (pNil)))))) (pSeq sp_k1 (pSeq sp_k2 (pSeq sp_k3 (pSeq sp_k4 (pSeq sp_k5 (pSeq sp_k6 (pSeq sp_k7 (pSeq sp_k8 (pSeq sp_k9 (pRet (pTup (pCons (pMv 4) (pCons (pMv 5) (pNil)))))))))))))))))) := rfl
section
variable (z0 z1 z2 z3 t7 t8 t9 : Sl) (L : List Tr) (G : List Int) (w a : Int)
theorem sk1 (h : w ≠ 1) : sp_k1 [z0, z1, z2, z3, .ow (.lst (L.map eT)), .ow (.lst (G.map .int)), .ow (.int w), .ow (.int a), t8, t9] = .nx [z0, z1, z2, z3, .ow (.lst (L.map eT)), .ow (.lst (G.map .int)), .ow (.int w), .ow (.int a), t8, t9] := by
  have h1 := dNe_nilT L
  cases hq : decide (L ≠ []) <;> rw [hq] at h1 <;> simp [sp_k1, h1, h]
theorem sk2 (h : w ≠ 2) : sp_k2 [z0, z1, z2, z3, .ow (.lst (L.map eT)), .ow (.lst (G.map .int)), .ow (.int w), .ow (.int a), t8, t9] = .nx [z0, z1, z2, z3, .ow (.lst (L.map eT)), .ow (.lst (G.map .int)), .ow (.int w), .ow (.int a), t8, t9] := by
  have h1 := dNe_nilT L
  cases hq : decide (L ≠ []) <;> rw [hq] at h1 <;> simp [sp_k2, h1, h]
theorem sk3 (h : w ≠ 3) : sp_k3 [z0, z1, z2, z3, .ow (.lst (L.map eT)), .ow (.lst (G.map .int)), .ow (.int w), .ow (.int a), t8, t9] = .nx [z0, z1, z2, z3, .ow (.lst (L.map eT)), .ow (.lst (G.map .int)), .ow (.int w), .ow (.int a), t8, t9] := by
  by_cases q : a + 1 < (L.length : Int) <;> simp [sp_k3, h, q]
theorem sk4 (h : w ≠ 4) : sp_k4 [z0, z1, z2, z3, .ow (.lst (L.map eT)), .ow (.lst (G.map .int)), .ow (.int w), t7, t8, t9] = .nx [z0, z1, z2, z3, .ow (.lst (L.map eT)), .ow (.lst (G.map .int)), .ow (.int w), t7, t8, t9] := by
  have h1 := dNe_nilT L
  cases hq : decide (L ≠ []) <;> rw [hq] at h1 <;> simp [sp_k4, h1, h]
theorem sk5 (h : w ≠ 5) : sp_k5 [z0, z1, z2, z3, .ow (.lst (L.map eT)), .ow (.lst (G.map .int)), .ow (.int w), t7, t8, t9] = .nx [z0, z1, z2, z3, .ow (.lst (L.map eT)), .ow (.lst (G.map .int)), .ow (.int w), t7, t8, t9] := by
  have h1 := dNe_nilT L
  cases hq : decide (L ≠ []) <;> rw [hq] at h1 <;> simp [sp_k5, h1, h]
theorem sk6 (h : w ≠ 6) : sp_k6 [z0, z1, z2, z3, .ow (.lst (L.map eT)), .ow (.lst (G.map .int)), .ow (.int w), t7, t8, t9] = .nx [z0, z1, z2, z3, .ow (.lst (L.map eT)), .ow (.lst (G.map .int)), .ow (.int w), t7, t8, t9] := by
  have h1 := dNe_nilT L
  cases hq : decide (L ≠ []) <;> rw [hq] at h1 <;> simp [sp_k6, h1, h]
theorem sk7 (h : w ≠ 7) : sp_k7 [z0, z1, z2, z3, .ow (.lst (L.map eT)), .ow (.lst (G.map .int)), .ow (.int w), t7, t8, t9] = .nx [z0, z1, z2, z3, .ow (.lst (L.map eT)), .ow (.lst (G.map .int)), .ow (.int w), t7, t8, t9] := by
  have h1 := dNe_nilI G
  cases hq : decide (G ≠ []) <;> rw [hq] at h1 <;> simp [sp_k7, h1, h]
theorem sk8 (h : w ≠ 8) : sp_k8 [z0, z1, z2, z3, .ow (.lst (L.map eT)), .ow (.lst (G.map .int)), .ow (.int w), t7, t8, t9] = .nx [z0, z1, z2, z3, .ow (.lst (L.map eT)), .ow (.lst (G.map .int)), .ow (.int w), t7, t8, t9] := by
  simp [sp_k8, h]
theorem sk9 (h : w ≠ 9) : sp_k9 [z0, z1, z2, z3, .ow (.lst (L.map eT)), .ow (.lst (G.map .int)), .ow (.int w), t7, t8, t9] = .nx [z0, z1, z2, z3, .ow (.lst (L.map eT)), .ow (.lst (G.map .int)), .ow (.int w), t7, t8, t9] := by
  simp [sp_k9, h]
end
end Lw
namespace Lw
open PySem PySem.Spec L2 Mi Vi
section
variable (z0 z1 t8 t9 : Sl) (L : List Tr) (G : List Int) (c : Int) (fs : FL) (a : Nat)
theorem seq_nat {a n : Nat} (h : a < n) : seqIndex? (a : Int) n = some a := by simp [seqIndex?]; omega
theorem sf1 (hL : L.length ≤ 1000) (ha : L ≠ [] → a < L.length) : ∃ (L' : List Tr) (t7 : Sl), L'.length ≤ L.length + 1 ∧ sp_k1 [z0, z1, .fz (.int c), .fz (eF fs), .ow (.lst (L.map eT)), .ow (.lst (G.map .int)), .ow (.int 1), .ow (.int a), t8, t9] = .nx [z0, z1, .fz (.int c), .fz (eF fs), .ow (.lst (L'.map eT)), .ow (.lst (G.map .int)), .ow (.int 1), .ow (.int a), t8, t9] := by
  have h1 := dNe_nilT L
  by_cases q : L = []
  · refine ⟨L, .no, by omega, ?_⟩
    rw [show decide (L ≠ []) = false by simp [q]] at h1
    simp [sp_k1, h1]
  · have ha := ha q
    rw [show decide (L ≠ []) = true by simp [q]] at h1
    have hb2 : (a : Int) < 9223372036854775808 := by omega
    have e2 := List.getElem?_eq_getElem ha
    have e1 := seq_nat ha
    have em := erase_map eT L a
    refine ⟨L.eraseIdx a, .no, by rw [List.length_eraseIdx_of_lt ha]; omega, ?_⟩
    simp [sp_k1, h1, hb2, e1, e2, em]
theorem sf2 (hL : L.length ≤ 1000) (ha : L ≠ [] → a < L.length) : ∃ (L' : List Tr), L'.length ≤ L.length + 1 ∧ sp_k2 [z0, z1, .fz (.int c), .fz (eF fs), .ow (.lst (L.map eT)), .ow (.lst (G.map .int)), .ow (.int 2), .ow (.int a), t8, t9] = .nx [z0, z1, .fz (.int c), .fz (eF fs), .ow (.lst (L'.map eT)), .ow (.lst (G.map .int)), .ow (.int 2), .ow (.int a), t8, t9] := by
  have h1 := dNe_nilT L
  by_cases q : L = []
  · refine ⟨L, by omega, ?_⟩
    rw [show decide (L ≠ []) = false by simp [q]] at h1
    simp [sp_k2, h1]
  · have ha := ha q
    rw [show decide (L ≠ []) = true by simp [q]] at h1
    have e2 := List.getElem?_eq_getElem ha
    have e1 : ixN L.length (a : Int) = some a := ixN_nat ha
    generalize L[a] = y at e2
    have d144 : DivOk 144 := by decide
    have dl : DivOk ((L.length : Int) + 1) := by unfold DivOk; omega
    have hj : 0 ≤ c / 144 % ((L.length : Int) + 1) ∧ c / 144 % ((L.length : Int) + 1) < (L.length : Int) + 1 := ⟨Int.emod_nonneg _ (by omega), Int.emod_lt_of_pos _ (by omega)⟩
    generalize hx : c / 144 % ((L.length : Int) + 1) = k at hj
    have hz : L.length < 16777216 := by omega
    have hk2 : k < 9223372036854775808 := by omega
    refine ⟨L.take k.toNat ++ [y] ++ L.drop k.toNat, by simp; omega, ?_⟩
    simp [sp_k2, h1, e1, e2, d144, dl, hx, hj, mInsert, sizeLine, hz, hk2, List.map_take, List.map_drop]
theorem sf3 (hL : L.length ≤ 1000) : ∃ (L' : List Tr) (u8 : Sl), L'.length ≤ L.length + 1 ∧ sp_k3 [z0, z1, .fz (.int c), .fz (eF fs), .ow (.lst (L.map eT)), .ow (.lst (G.map .int)), .ow (.int 3), .ow (.int a), t8, t9] = .nx [z0, z1, .fz (.int c), .fz (eF fs), .ow (.lst (L'.map eT)), .ow (.lst (G.map .int)), .ow (.int 3), .ow (.int a), u8, t9] := by
  by_cases q : a + 1 < L.length
  · have q' : (a : Int) + 1 < L.length := by omega
    have e1 : ixN L.length (a : Int) = some a := ixN_nat (by omega)
    have e3 : ixN L.length ((a : Int) + 1) = some (a + 1) := ixN_nat q
    have e2 := List.getElem?_eq_getElem (show a < L.length by omega)
    have e4 := List.getElem?_eq_getElem q
    generalize L[a] = y at e2
    generalize L[a + 1] = z at e4
    refine ⟨(L.set a z).set (a + 1) y, .ow (eT y), by simp, ?_⟩
    simp [sp_k3, q', e1, e2, e3, e4, List.map_set]
  · have q' : ¬ (a : Int) + 1 < L.length := by omega
    exact ⟨L, t8, by omega, by simp [sp_k3, q']⟩
end
end Lw
namespace Lw
open PySem PySem.Spec L2 Mi Vi
section
variable (z0 z1 t8 t9 : Sl) (L : List Tr) (G : List Int) (c : Int) (fs : FL) (a : Nat)
theorem eT_at0 (y : Tr) : dIx (eT y) (.int 0) = some (oI y.1) := rfl
theorem sf4 (hL : L.length ≤ 1000) (ha : L ≠ [] → a < L.length) (hk : (ks fs).length ≤ 1000) : ∃ (L' : List Tr), L'.length ≤ L.length + 1 ∧ sp_k4 [z0, z1, .fz (.int c), .fz (eF fs), .ow (.lst (L.map eT)), .ow (.lst (G.map .int)), .ow (.int 4), .ow (.int a), t8, t9] = .nx [z0, z1, .fz (.int c), .fz (eF fs), .ow (.lst (L'.map eT)), .ow (.lst (G.map .int)), .ow (.int 4), .ow (.int a), t8, t9] := by
  have h1 := dNe_nilT L
  by_cases q : L = []
  · refine ⟨L, by omega, ?_⟩
    rw [show decide (L ≠ []) = false by simp [q]] at h1
    simp [sp_k4, h1]
  · have ha := ha q
    rw [show decide (L ≠ []) = true by simp [q]] at h1
    have e2 := List.getElem?_eq_getElem ha
    have e1 : ixN L.length (a : Int) = some a := ixN_nat ha
    generalize L[a] = y at e2
    have d144 : DivOk 144 := by decide
    obtain ⟨o, ho⟩ := other_ok (c / 144) fs hk
    have em : ∀ p : Tr, eT p = .tup [oI p.1, oI p.2.1, oI p.2.2] := fun _ => rfl
    have i1 : ixN 3 1 = some 1 := rfl
    have i2 : ixN 3 2 = some 2 := rfl
    refine ⟨L.set a (o, y.2.1, y.2.2), by simp, ?_⟩
    have e5 := em y
    have e6 := em (o, y.2.1, y.2.2)
    simp [sp_k4, h1, e1, e2, d144, ho, e5, e6, i1, i2, List.map_set, sizeLine]
theorem sf5 (hL : L.length ≤ 1000) (ha : L ≠ [] → a < L.length) (hk : (ks fs).length ≤ 1000) : ∃ (L' : List Tr), L'.length ≤ L.length + 1 ∧ sp_k5 [z0, z1, .fz (.int c), .fz (eF fs), .ow (.lst (L.map eT)), .ow (.lst (G.map .int)), .ow (.int 5), .ow (.int a), t8, t9] = .nx [z0, z1, .fz (.int c), .fz (eF fs), .ow (.lst (L'.map eT)), .ow (.lst (G.map .int)), .ow (.int 5), .ow (.int a), t8, t9] := by
  have h1 := dNe_nilT L
  by_cases q : L = []
  · refine ⟨L, by omega, ?_⟩
    rw [show decide (L ≠ []) = false by simp [q]] at h1
    simp [sp_k5, h1]
  · have ha := ha q
    rw [show decide (L ≠ []) = true by simp [q]] at h1
    have e2 := List.getElem?_eq_getElem ha
    have e1 : ixN L.length (a : Int) = some a := ixN_nat ha
    generalize L[a] = y at e2
    have d144 : DivOk 144 := by decide
    obtain ⟨o, ho⟩ := other_ok (c / 144) fs hk
    have em : ∀ p : Tr, eT p = .tup [oI p.1, oI p.2.1, oI p.2.2] := fun _ => rfl
    have i0 : ixN 3 0 = some 0 := rfl
    have i2 : ixN 3 2 = some 2 := rfl
    refine ⟨L.set a (y.1, o, y.2.2), by simp, ?_⟩
    have e5 := em y
    have e6 := em (y.1, o, y.2.2)
    simp [sp_k5, h1, e1, e2, d144, ho, e5, e6, i0, i2, List.map_set, sizeLine]
theorem sf6 (hL : L.length ≤ 1000) (ha : L ≠ [] → a < L.length) : ∃ (L' : List Tr) (u9 : Sl), L'.length ≤ L.length + 1 ∧ sp_k6 [z0, z1, .fz (.int c), .fz (eF fs), .ow (.lst (L.map eT)), .ow (.lst (G.map .int)), .ow (.int 6), .ow (.int a), t8, t9] = .nx [z0, z1, .fz (.int c), .fz (eF fs), .ow (.lst (L'.map eT)), .ow (.lst (G.map .int)), .ow (.int 6), .ow (.int a), t8, u9] := by
  have h1 := dNe_nilT L
  by_cases q : L = []
  · refine ⟨L, t9, by omega, ?_⟩
    rw [show decide (L ≠ []) = false by simp [q]] at h1
    simp [sp_k6, h1]
  · have ha := ha q
    rw [show decide (L ≠ []) = true by simp [q]] at h1
    have e2 := List.getElem?_eq_getElem ha
    have e1 : ixN L.length (a : Int) = some a := ixN_nat ha
    generalize L[a] = y at e2
    obtain ⟨y1, y2, y3⟩ := y
    have d144 : DivOk 144 := by decide
    have d576 : DivOk 576 := by decide
    have d4 : DivOk 4 := by decide
    have d9 : DivOk 9 := by decide
    have em : ∀ p : Tr, eT p = .tup [oI p.1, oI p.2.1, oI p.2.2] := fun _ => rfl
    have i0 : ixN 3 0 = some 0 := rfl
    have i1 : ixN 3 1 = some 1 := rfl
    have i2 : ixN 3 2 = some 2 := rfl
    have j0 : ixN 4 0 = some 0 := rfl
    have j1 : ixN 4 1 = some 1 := rfl
    have j2 : ixN 4 2 = some 2 := rfl
    have j3 : ixN 4 3 = some 3 := rfl
    have e5 := em (y1, y2, y3)
    have f : ∀ o : Option Int, ∃ L', L' = L.set a (y1, y2, o) ∧ eT (y1, y2, o) = .tup [oI y1, oI y2, oI o] := fun o => ⟨_, rfl, rfl⟩
    rcases (by omega : c / 144 % 4 = 0 ∨ c / 144 % 4 = 1 ∨ c / 144 % 4 = 2 ∨ c / 144 % 4 = 3) with k | k | k | k
    · have e6 := em (y1, y2, none)
      cases y3 with
      | none => exact ⟨L.set a (y1, y2, none), .ow (.int 0), by simp, by simp [sp_k6, h1, e1, e2, d144, d576, d4, d9, e5, e6, i0, i1, i2, j0, k, List.map_set, sizeLine, oI_n, dIs]⟩
      | some v => exact ⟨L.set a (y1, y2, none), .ow (.int v), by simp, by simp [sp_k6, h1, e1, e2, d144, d576, d4, d9, e5, e6, i0, i1, i2, j0, k, List.map_set, sizeLine, oI_n, oI_s, dIs]⟩
    · have e6 := em (y1, y2, some (-1))
      cases y3 with
      | none => exact ⟨L.set a (y1, y2, some (-1)), .ow (.int 0), by simp, by simp [sp_k6, h1, e1, e2, d144, d576, d4, d9, e5, e6, i0, i1, i2, j1, k, List.map_set, sizeLine, oI_n, oI_s, dIs]⟩
      | some v => exact ⟨L.set a (y1, y2, some (-1)), .ow (.int v), by simp, by simp [sp_k6, h1, e1, e2, d144, d576, d4, d9, e5, e6, i0, i1, i2, j1, k, List.map_set, sizeLine, oI_n, oI_s, dIs]⟩
    · cases y3 with
      | none =>
        have e6 := em (y1, y2, some 1)
        exact ⟨L.set a (y1, y2, some 1), .ow (.int 0), by simp, by simp [sp_k6, h1, e1, e2, d144, d576, d4, d9, e5, e6, i0, i1, i2, j2, k, List.map_set, sizeLine, oI_n, oI_s, dIs]⟩
      | some v =>
        have e6 := em (y1, y2, some (v + 1))
        exact ⟨L.set a (y1, y2, some (v + 1)), .ow (.int v), by simp, by simp [sp_k6, h1, e1, e2, d144, d576, d4, d9, e5, e6, i0, i1, i2, j2, k, List.map_set, sizeLine, oI_n, oI_s, dIs]⟩
    · have e6 := em (y1, y2, some (c / 576 % 9))
      cases y3 with
      | none => exact ⟨L.set a (y1, y2, some (c / 576 % 9)), .ow (.int 0), by simp, by simp [sp_k6, h1, e1, e2, d144, d576, d4, d9, e5, e6, i0, i1, i2, j3, k, List.map_set, sizeLine, oI_n, oI_s, dIs]⟩
      | some v => exact ⟨L.set a (y1, y2, some (c / 576 % 9)), .ow (.int v), by simp, by simp [sp_k6, h1, e1, e2, d144, d576, d4, d9, e5, e6, i0, i1, i2, j3, k, List.map_set, sizeLine, oI_n, oI_s, dIs]⟩
end
end Lw
namespace Lw
open PySem PySem.Spec L2 Mi Vi
section
variable (z0 z1 t7 t8 t9 : Sl) (L : List Tr) (G : List Int) (c : Int) (fs : FL)
theorem sf7 (hG : G.length ≤ 1000) : ∃ (G' : List Int), G'.length ≤ G.length + 1 ∧ sp_k7 [z0, z1, .fz (.int c), .fz (eF fs), .ow (.lst (L.map eT)), .ow (.lst (G.map .int)), .ow (.int 7), t7, t8, t9] = .nx [z0, z1, .fz (.int c), .fz (eF fs), .ow (.lst (L.map eT)), .ow (.lst (G'.map .int)), .ow (.int 7), t7, t8, t9] := by
  have h1 := dNe_nilI G
  by_cases q : G = []
  · refine ⟨G, by omega, ?_⟩
    rw [show decide (G ≠ []) = false by simp [q]] at h1
    simp [sp_k7, h1]
  · have hl : 0 < G.length := List.length_pos_iff.mpr q
    rw [show decide (G ≠ []) = true by simp [q]] at h1
    have d12 : DivOk 12 := by decide
    have dl : DivOk G.length := by unfold DivOk; omega
    have hj : 0 ≤ c / 12 % (G.length : Int) ∧ c / 12 % (G.length : Int) < G.length := ⟨Int.emod_nonneg _ (by omega), Int.emod_lt_of_pos _ (by omega)⟩
    generalize hx : c / 12 % (G.length : Int) = k at hj
    obtain ⟨i, rfl⟩ : ∃ i : Nat, k = (i : Int) := ⟨k.toNat, by omega⟩
    have hi : i < G.length := by omega
    have hb2 : (i : Int) < 9223372036854775808 := by omega
    have e2 := List.getElem?_eq_getElem hi
    have e1 := seq_nat hi
    have em := erase_map D.int G i
    refine ⟨G.eraseIdx i, by rw [List.length_eraseIdx_of_lt hi]; omega, ?_⟩
    simp [sp_k7, h1, hb2, e1, e2, em, d12, dl, hx, hl]
theorem sf8 (hG : G.length ≤ 1000) : ∃ (G' : List Int), G'.length ≤ G.length + 1 ∧ sp_k8 [z0, z1, .fz (.int c), .fz (eF fs), .ow (.lst (L.map eT)), .ow (.lst (G.map .int)), .ow (.int 8), t7, t8, t9] = .nx [z0, z1, .fz (.int c), .fz (eF fs), .ow (.lst (L.map eT)), .ow (.lst (G'.map .int)), .ow (.int 8), t7, t8, t9] := by
  have d12 : DivOk 12 := by decide
  have d144 : DivOk 144 := by decide
  have d4 : DivOk 4 := by decide
  have dl : DivOk ((G.length : Int) + 1) := by unfold DivOk; omega
  have hj : 0 ≤ c / 12 % ((G.length : Int) + 1) ∧ c / 12 % ((G.length : Int) + 1) < (G.length : Int) + 1 := ⟨Int.emod_nonneg _ (by omega), Int.emod_lt_of_pos _ (by omega)⟩
  generalize hx : c / 12 % ((G.length : Int) + 1) = k at hj
  have hz : G.length < 16777216 := by omega
  have hk2 : k < 9223372036854775808 := by omega
  have j0 : ixN 4 0 = some 0 := rfl
  have j1 : ixN 4 1 = some 1 := rfl
  have j2 : ixN 4 2 = some 2 := rfl
  have j3 : ixN 4 3 = some 3 := rfl
  have lenok : ∀ v : Int, (G.take k.toNat ++ [v] ++ G.drop k.toNat).length ≤ G.length + 1 := fun v => by simp; omega
  rcases (by omega : c / 144 % 4 = 0 ∨ c / 144 % 4 = 1 ∨ c / 144 % 4 = 2 ∨ c / 144 % 4 = 3) with q | q | q | q
  · exact ⟨_, lenok (10 ^ 40), by simp [sp_k8, d12, d144, d4, dl, hx, hj, mInsert, sizeLine, hz, hk2, q, j0, List.map_take, List.map_drop]⟩
  · exact ⟨_, lenok 0, by simp [sp_k8, d12, d144, d4, dl, hx, hj, mInsert, sizeLine, hz, hk2, q, j1, List.map_take, List.map_drop]⟩
  · exact ⟨_, lenok 3, by simp [sp_k8, d12, d144, d4, dl, hx, hj, mInsert, sizeLine, hz, hk2, q, j2, List.map_take, List.map_drop]⟩
  · exact ⟨_, lenok (-1), by simp [sp_k8, d12, d144, d4, dl, hx, hj, mInsert, sizeLine, hz, hk2, q, j3, List.map_take, List.map_drop]⟩
theorem sf9 (hG : G.length ≤ 1000) : ∃ (G' : List Int), G'.length ≤ G.length + 1 ∧ sp_k9 [z0, z1, .fz (.int c), .fz (eF fs), .ow (.lst (L.map eT)), .ow (.lst (G.map .int)), .ow (.int 9), t7, t8, t9] = .nx [z0, z1, .fz (.int c), .fz (eF fs), .ow (.lst (L.map eT)), .ow (.lst (G'.map .int)), .ow (.int 9), t7, t8, t9] := by
  refine ⟨G.reverse, by simp, ?_⟩
  simp [sp_k9, dRevI]
end
theorem spoilt_ok (L : List Tr) (G : List Int) (c : Int) (fs : FL) (hL : L.length ≤ 100) (hG : G.length ≤ 100) (hk : (ks fs).length ≤ 1000) : ∃ (L' : List Tr) (G' : List Int), L'.length ≤ L.length + 1 ∧ G'.length ≤ G.length + 1 ∧ p_law_spoilt [.lst (L.map eT), .lst (G.map .int), .int c, eF fs] = .ok (.tup [.lst (L'.map eT), .lst (G'.map .int)]) .fr [.lst (L.map eT), .lst (G.map .int), .int c, eF fs] := by
  rw [sp_def2]
  have d12 : DivOk 12 := by decide
  have hmx : ∃ m : Nat, (if (1 : Int) < (L.length : Int) then (L.length : Int) else 1) = (m : Int) ∧ 0 < m ∧ (L ≠ [] → m = L.length) ∧ m ≤ 100 := by
    refine ⟨max 1 L.length, by split <;> omega, by omega, fun h => ?_, by omega⟩
    have : 0 < L.length := List.length_pos_iff.mpr h
    omega
  obtain ⟨m, hm, hm0, hm1, hm2⟩ := hmx
  have dm : DivOk m := by unfold DivOk; omega
  have hj : 0 ≤ c / 12 % (m : Int) ∧ c / 12 % (m : Int) < m := ⟨Int.emod_nonneg _ (by omega), Int.emod_lt_of_pos _ (by omega)⟩
  generalize hx : c / 12 % (m : Int) = k at hj
  obtain ⟨a, rfl⟩ : ∃ a : Nat, k = (a : Int) := ⟨k.toNat, by omega⟩
  have ha : L ≠ [] → a < L.length := fun h => by have := hm1 h; omega
  have hw : 0 ≤ c % 12 ∧ c % 12 < 12 := by omega
  generalize hwx : c % 12 = w at hw
  have hL' : L.length ≤ 1000 := by omega
  have hG' : G.length ≤ 1000 := by omega
  have hm0' : ((m : Nat) : Int) ≠ 0 := by omega
  rcases (by omega : w = 0 ∨ w = 1 ∨ w = 2 ∨ w = 3 ∨ w = 4 ∨ w = 5 ∨ w = 6 ∨ w = 7 ∨ w = 8 ∨ w = 9 ∨ w = 10 ∨ w = 11) with rfl | rfl | rfl | rfl | rfl | rfl | rfl | rfl | rfl | rfl | rfl | rfl
  · exact ⟨L, G, by omega, by omega, by simp [hwx, hm, d12, dm, hx, hm0', hm0, sizeLine, sk1, sk2, sk3, sk4, sk5, sk6, sk7, sk8, sk9]⟩
  · obtain ⟨L', t7, h1, h2⟩ := sf1 (.fz (.lst (L.map eT))) (.fz (.lst (G.map .int))) .no .no L G c fs a hL' ha
    exact ⟨L', G, h1, by omega, by simp [hwx, hm, d12, dm, hx, hm0', hm0, sizeLine, sk1, sk2, sk3, sk4, sk5, sk6, sk7, sk8, sk9, h2]⟩
  · obtain ⟨L', h1, h2⟩ := sf2 (.fz (.lst (L.map eT))) (.fz (.lst (G.map .int))) .no .no L G c fs a hL' ha
    exact ⟨L', G, h1, by omega, by simp [hwx, hm, d12, dm, hx, hm0', hm0, sizeLine, sk1, sk2, sk3, sk4, sk5, sk6, sk7, sk8, sk9, h2]⟩
  · obtain ⟨L', u8, h1, h2⟩ := sf3 (.fz (.lst (L.map eT))) (.fz (.lst (G.map .int))) .no .no L G c fs a hL'
    exact ⟨L', G, h1, by omega, by simp [hwx, hm, d12, dm, hx, hm0', hm0, sizeLine, sk1, sk2, sk3, sk4, sk5, sk6, sk7, sk8, sk9, h2]⟩
  · obtain ⟨L', h1, h2⟩ := sf4 (.fz (.lst (L.map eT))) (.fz (.lst (G.map .int))) .no .no L G c fs a hL' ha hk
    exact ⟨L', G, h1, by omega, by simp [hwx, hm, d12, dm, hx, hm0', hm0, sizeLine, sk1, sk2, sk3, sk4, sk5, sk6, sk7, sk8, sk9, h2]⟩
  · obtain ⟨L', h1, h2⟩ := sf5 (.fz (.lst (L.map eT))) (.fz (.lst (G.map .int))) .no .no L G c fs a hL' ha hk
    exact ⟨L', G, h1, by omega, by simp [hwx, hm, d12, dm, hx, hm0', hm0, sizeLine, sk1, sk2, sk3, sk4, sk5, sk6, sk7, sk8, sk9, h2]⟩
  · obtain ⟨L', u9, h1, h2⟩ := sf6 (.fz (.lst (L.map eT))) (.fz (.lst (G.map .int))) .no .no L G c fs a hL' ha
    exact ⟨L', G, h1, by omega, by simp [hwx, hm, d12, dm, hx, hm0', hm0, sizeLine, sk1, sk2, sk3, sk4, sk5, sk6, sk7, sk8, sk9, h2]⟩
  · obtain ⟨G', h1, h2⟩ := sf7 (.fz (.lst (L.map eT))) (.fz (.lst (G.map .int))) (.ow (.int a)) .no .no L G c fs hG'
    exact ⟨L, G', by omega, h1, by simp [hwx, hm, d12, dm, hx, hm0', hm0, sizeLine, sk1, sk2, sk3, sk4, sk5, sk6, sk7, sk8, sk9, h2]⟩
  · obtain ⟨G', h1, h2⟩ := sf8 (.fz (.lst (L.map eT))) (.fz (.lst (G.map .int))) (.ow (.int a)) .no .no L G c fs hG'
    exact ⟨L, G', by omega, h1, by simp [hwx, hm, d12, dm, hx, hm0', hm0, sizeLine, sk1, sk2, sk3, sk4, sk5, sk6, sk7, sk8, sk9, h2]⟩
  · obtain ⟨G', h1, h2⟩ := sf9 (.fz (.lst (L.map eT))) (.fz (.lst (G.map .int))) (.ow (.int a)) .no .no L G c fs hG'
    exact ⟨L, G', by omega, h1, by simp [hwx, hm, d12, dm, hx, hm0', hm0, sizeLine, sk1, sk2, sk3, sk4, sk5, sk6, sk7, sk8, sk9, h2]⟩
  · exact ⟨L, G, by omega, by omega, by simp [hwx, hm, d12, dm, hx, hm0', hm0, sizeLine, sk1, sk2, sk3, sk4, sk5, sk6, sk7, sk8, sk9]⟩
  · exact ⟨L, G, by omega, by omega, by simp [hwx, hm, d12, dm, hx, hm0', hm0, sizeLine, sk1, sk2, sk3, sk4, sk5, sk6, sk7, sk8, sk9]⟩
end Lw
namespace Lw
open PySem PySem.Spec L2 Mi Vi
theorem scal_oIs (l : List (Option Int)) : ∃ vs, allSome ((l.map oI).map scal) = some vs :=
  ⟨_, allSome_map oI scal (fun o => match o with
    | none => V.non
    | some x => V.int x) (fun o => by cases o <;> rfl) l⟩
theorem notin_oI (t : Int) (l : List (Option Int)) : ∃ b, dNotIn (.int t) (.lst (l.map oI)) = some (.bl b) := by
  obtain ⟨vs, h⟩ := scal_oIs l
  refine ⟨true != inV (.int t) vs, ?_⟩
  unfold dNotIn dInN
  have : inD (.int t) (.lst (l.map oI)) = some (inV (.int t) vs) := by
    unfold inD
    simp only [scal_int, h]
  rw [this]
  rfl
theorem cut4 (l : List Int) : ∃ x M, cut (l ++ [0, 0, 0, 0]) none (some 4) = x :: M ∧ (x :: M).length ≤ 4 := by
  have h2 := cut_to_le (l ++ [0, 0, 0, 0]) 4
  have h1 : 0 < (cut (l ++ [0, 0, 0, 0]) none (some 4)).length := by
    have h0 : HT.sIx (l.length + 4) 0 none = 0 := rfl
    have h4 : HT.sIx (l.length + 4) (l.length + 4) (some 4) = 4 := by
      unfold HT.sIx
      simp
    unfold cut
    simp [h0]
    try omega
  cases h : cut (l ++ [0, 0, 0, 0]) none (some 4) with
  | nil => rw [h] at h1; cases h1
  | cons x M => exact ⟨x, M, rfl, by rw [← h]; exact h2⟩
def lw_b : Vi.PS := (pSetT [4, 5] (pApp [false, false, false, false] p_law_spoilt [.v (pVar 4), .v (pVar 5), .v (pVar 6), .v (pVar 12)]))
theorem lwb_loop (z0 z1 z2 z3 z7 z8 z9 z10 z11 z13 z14 z15 : Sl) (fs : FL) (hk : (ks fs).length ≤ 1000) : ∀ (K : List Int) (L : List Tr) (G : List Int) (s6 : Sl), L.length + K.length ≤ 50 → G.length + K.length ≤ 50 → ∃ (L' : List Tr) (G' : List Int) (t6 : Sl), L'.length ≤ 50 ∧ G'.length ≤ 50 ∧ pFor1 (tdName 6) lw_b (K.map (ItD.v ∘ D.int)) [z0, z1, z2, z3, .ow (.lst (L.map eT)), .ow (.lst (G.map .int)), s6, z7, z8, z9, z10, z11, .fz (eF fs), z13, z14, z15] = .nx [z0, z1, z2, z3, .ow (.lst (L'.map eT)), .ow (.lst (G'.map .int)), t6, z7, z8, z9, z10, z11, .fz (eF fs), z13, z14, z15]
  | [], L, G, s6, h1, h2 => ⟨L, G, s6, by simpa using h1, by simpa using h2, rfl⟩
  | c :: K, L, G, s6, h1, h2 => by
    rw [List.length_cons] at h1 h2
    obtain ⟨L1, G1, e1, e2, e3⟩ := spoilt_ok L G c fs (by omega) (by omega) hk
    obtain ⟨L2, G2, t6, g1, g2, g3⟩ := lwb_loop z0 z1 z2 z3 z7 z8 z9 z10 z11 z13 z14 z15 fs hk K L1 G1 (.ow (.int c)) (by omega) (by omega)
    have hb : lw_b [z0, z1, z2, z3, .ow (.lst (L.map eT)), .ow (.lst (G.map .int)), .ow (.int c), z7, z8, z9, z10, z11, .fz (eF fs), z13, z14, z15] = .nx [z0, z1, z2, z3, .ow (.lst (L1.map eT)), .ow (.lst (G1.map .int)), .ow (.int c), z7, z8, z9, z10, z11, .fz (eF fs), z13, z14, z15] := by
      simp [lw_b, e3]
    exact ⟨L2, G2, t6, g1, g2, by rw [List.map_cons, for_nx (e1 := [z0, z1, z2, z3, .ow (.lst (L.map eT)), .ow (.lst (G.map .int)), .ow (.int c), z7, z8, z9, z10, z11, .fz (eF fs), z13, z14, z15]) rfl hb]; exact g3⟩
end Lw
namespace Lw
open PySem PySem.Spec L2 Mi Vi
theorem sortU_len (l : List Int) : (sortU l).length ≤ l.length := by
  rw [← srt_dd, (sortI_perm _).length_eq]
  exact dd_len l
theorem wid_wf {rs : List (Option Int)} {fs : FL} {bk : List Int} (nd : (ks fs).Pairwise (· < ·)) (fl : fs.length ≤ 12) (hp : ∀ p ∈ fs, p.2.length ≤ 6 ∧ ∀ x, some x ∈ p.2 → x ∈ ks fs) (hrl : rs.length ≤ 8) (hri : ∀ x, some x ∈ rs → x ∈ ks fs) (hbl : bk.length ≤ 3) (hbi : ∀ x ∈ bk, x ∈ ks fs) : Wf (wid rs bk) fs := by
  have h1 := sortU_len bk
  exact ⟨nd, fl, by unfold wid; simp; omega, fun p h => (hp p h).1, fun x hx => by
    unfold wid at hx
    rcases List.mem_append.mp hx with q | q
    · exact hri x q
    · obtain ⟨y, hy, e⟩ := List.mem_map.mp q
      cases e
      exact hbi _ ((sortU_mem _ _).mp hy), fun p h => (hp p h).2⟩
theorem wid_map (rs : List (Option Int)) (bk : List Int) : (wid rs bk).map oI = rs.map oI ++ (sortU bk).map .int := by
  unfold wid
  rw [List.map_append, List.map_map]
  rfl
/-- the copy's pairs -/
theorem copy_lc (z0 z1 z2 z3 z4 z5 z6 z7 z8 z9 z10 z11 z13 z15 : Sl) (fs : FL) (fl : fs.length ≤ 12) (nd : (ks fs).Nodup) : lcGoD (tdName 14) pYes (pTup (pCons (pVar 14) (pCons (pCall dList (pCons (pSel2 dSub2 (pVar 12) (pVar 14)) (pNil))) (pNil)))) [z0, z1, z2, z3, z4, z5, z6, z7, z8, z9, z10, z11, .fz (eF fs), z13, .no, z15] (fs.map fun p => ItD.v (.int p.1)) [] = some (fs.map fun p => .tup [.int p.1, .lst (p.2.map oI)]) :=
  lc_mapY (fun p : Int × List (Option Int) => ItD.v (.int p.1)) (fun p => D.tup [.int p.1, .lst (p.2.map oI)]) fs (by unfold sizeLine; omega) fun p hp => by
    have hk : p.1 ∈ ks fs := List.mem_map.mpr ⟨_, hp, rfl⟩
    have hv := fo_some hk
    rw [fo_eq nd (show (p.1, p.2) ∈ fs from hp)] at hv
    exact ⟨[z0, z1, z2, z3, z4, z5, z6, z7, z8, z9, z10, z11, .fz (eF fs), z13, .ow (.int p.1), z15], [z0, z1, z2, z3, z4, z5, z6, z7, z8, z9, z10, z11, .fz (eF fs), z13, .ow (.int p.1), z15], rfl, by simp [hv, dList, sizeLine]⟩
theorem copy_pairs (fs : FL) : allSome ((fs.map fun p => D.tup [.int p.1, .lst (p.2.map oI)]).map pairD) = some (kF fs) := allSome_map (fun p : Int × List (Option Int) => D.tup [.int p.1, .lst (p.2.map oI)]) pairD (fun p => ((.inl p.1 : Key), D.lst (p.2.map oI))) (fun p => rfl) fs
/-- those that the paper does not hold -/
theorem gone_lc (z0 z1 z2 z3 z5 z6 z7 z8 z9 z10 z11 z12 z13 : Sl) (L : List Tr) (hL : L.length ≤ 12) (S : List Int) (hS : S.length ≤ 1000) : ∃ G : List Int, G.length ≤ S.length ∧ lcGoD (tdName 14) (pB (pBin dNotIn (pVar 14) (pLc (pWk itemsK (pVar 4)) [15] (tdName 15) (pYes) (pSel2 dIx (pVar 15) (pC (.int 0)))))) (pVar 14) [z0, z1, z2, z3, .fz (.lst (L.map eT)), z5, z6, z7, z8, z9, z10, z11, z12, z13, .no, .no] (S.map (ItD.v ∘ D.int)) [] = some (G.map .int) := by
  have hb : ∀ t : Int, ∃ b, dNotIn (.int t) (.lst ((L.map (·.1)).map oI)) = some (.bl b) := fun t => notin_oI t _
  obtain ⟨f, hf⟩ := Classical.axiomOfChoice hb
  refine ⟨S.filter f, List.length_filter_le _ _, ?_⟩
  have := lc_map (td := tdName 14) (c := pB (pBin dNotIn (pVar 14) (pLc (pWk itemsK (pVar 4)) [15] (tdName 15) (pYes) (pSel2 dIx (pVar 15) (pC (.int 0)))))) (p := pVar 14) (e0 := [z0, z1, z2, z3, .fz (.lst (L.map eT)), z5, z6, z7, z8, z9, z10, z11, z12, z13, .no, .no]) (fun t : Int => ItD.v (.int t)) f (fun t => D.int t) S [] (by simp [sizeLine]; omega) fun t _ => by
    refine ⟨[z0, z1, z2, z3, .fz (.lst (L.map eT)), z5, z6, z7, z8, z9, z10, z11, z12, z13, .ow (.int t), .no], rfl, ?_, fun _ => ⟨[z0, z1, z2, z3, .fz (.lst (L.map eT)), z5, z6, z7, z8, z9, z10, z11, z12, z13, .ow (.int t), .no], by simp⟩⟩
    have h1 : ∀ (y0 y1 y2 y3 y5 y6 y7 y8 y9 y10 y11 y12 y13 y14 : Sl), lcGoD (tdName 15) pYes (pSel2 dIx (pVar 15) (pC (.int 0))) [y0, y1, y2, y3, .fz (.lst (L.map eT)), y5, y6, y7, y8, y9, y10, y11, y12, y13, y14, .no] (L.map (ItD.v ∘ eT)) [] = some (L.map (oI ∘ (·.1))) := fun y0 y1 y2 y3 y5 y6 y7 y8 y9 y10 y11 y12 y13 y14 =>
      lc_mapY (fun p : Tr => ItD.v (eT p)) (fun p => oI p.1) L (by unfold sizeLine; omega) fun p _ => ⟨[y0, y1, y2, y3, .fz (.lst (L.map eT)), y5, y6, y7, y8, y9, y10, y11, y12, y13, y14, .ow (eT p)], [y0, y1, y2, y3, .fz (.lst (L.map eT)), y5, y6, y7, y8, y9, y10, y11, y12, y13, y14, .ow (eT p)], by simp, by
        have := eT_at0 p
        simp [this]⟩
    have h2 := hf t
    rw [List.map_map] at h2
    simp [frzAll_any, h1, h2]
  exact this
end Lw
namespace Lw
open PySem PySem.Spec L2 Mi Vi
theorem neV_self {rs : List (Option Int)} {fs : FL} (h : (ks fs).Nodup) : dNeT (eV rs fs) (eV rs fs) = some (.bl false) := by
  have := eqV_self (rs := rs) h
  unfold dEqT at this
  split at this
  · rename_i q
    exact if_pos q
  · cases this
theorem lw_def3 : p_law = pFn 16 [false] (pSeq (pSet 1 (pApp [false, false] p_law_codes [.v (pVar 0), .v (pC (.int 60))])) (pSeq (pSetT [11, 12, 13] (pApp [false] p_law_view [.v (pVar 1)])) (pFrzR 13 (pFrzR 12 (pFrzR 11 (pSeq (pSet 2 (pBin dAdd (pVar 11) (pUn dSortSet (pVar 13)))) (pSeq (pSet 3 (pSl (pBin dAdd (pSl (pVar 1) (pPart (pC (.int 20))) (pNoP)) (pLst (pCons (pC (.int 0)) (pCons (pC (.int 0)) (pCons (pC (.int 0)) (pCons (pC (.int 0)) (pNil))))))) (pNoP) (pPart (pC (.int 4))))) (pSeq (pSet 4 (pApp [false, false, false] p_law_walk [.v (pVar 2), .v (pVar 12), .v (pBin dAdd (pC (.int 1)) (pSel2 dIx (pVar 3) (pC (.int 0))))])) (pSeq (pSet 5 (pLc (pWalk (pCall dSorted (pCons (pVar 12) (pNil)))) [14] (tdName 14) (pB (pBin dNotIn (pVar 14) (pLc (pWk itemsK (pVar 4)) [15] (tdName 15) (pYes) (pSel2 dIx (pVar 15) (pC (.int 0)))))) (pVar 14))) (pSeq (pFor (pWalk (pSl (pVar 3) (pPart (pC (.int 1))) (pPart (pC (.int 3))))) (tdName 6) lw_b) (pSeq (pSet 7 (pTup (pCons (pCall dList (pCons (pVar 11) (pNil))) (pCons (pDictM (pLc (pWk itemsK (pVar 12)) [14] (tdName 14) (pYes) (pTup (pCons (pVar 14) (pCons (pCall dList (pCons (pSel2 dSub2 (pVar 12) (pVar 14)) (pNil))) (pNil)))))) (pNil))))) (pSeq (pSet 8 (pTup (pCons (pCall dList (pCons (pVar 4) (pNil))) (pCons (pCall dList (pCons (pVar 5) (pNil))) (pNil))))) (pFrzR 5 (pFrzR 4 (pSeq (pSet 9 (pCall dList (pCons (pVar 13) (pNil)))) (pSeq (pSet 10 (pApp [false, false, false] p_round_judged [.v (pVar 7), .v (pVar 9), .v (pVar 8)])) (pSeq (pIfS (pOr (pB (pBin dNeT (pVar 7) (pTupH (pCons (pVar 11) (pCons (pVar 12) (pNil)))))) (pOr (pB (pBin dNe (pVar 8) (pTupH (pCons (pVar 4) (pCons (pVar 5) (pNil)))))) (pOr (pB (pBin dNe (pVar 9) (pVar 13))) (pNot (pB (pUn (dIsi it_bool) (pVar 10))))))) (pRet (pC (.bl false))) (pSkip)) (pRet (pBin dEq (pVar 10) (pApp [false, false, false, false] p_law_right [.v (pVar 2), .v (pVar 12), .v (pVar 4), .v (pVar 5)])))))))))))))))))))) := rfl
theorem frzR_at (i : Nat) (rest : Vi.PS) (e : Vi.Env) : pFrzR i rest e = match e[i]? with
  | some (.ow d) => endK (rest (e.set i (.fz d)))
  | _ => .bad := rfl
theorem law_ok (sc : List Int) (hl : sc.length ≤ 63) : ∃ o outs, p_law [.lst (sc.map .int)] = .ok (.bl true) o outs := by
  rw [lw_def3]
  obtain ⟨cs, hc, hcl, hc0⟩ := codes_ok sc hl
  obtain ⟨rs, fs, bk, nd, fl, hp, hrl, hri, hbl, hbi, hv⟩ := view_made cs hcl
  have w := wid_wf nd fl hp hrl hri hbl hbi
  have hnd : (ks fs).Nodup := nd.imp fun h => Int.ne_of_lt h
  have hul := sortU_len bk
  have hss := sortSet_ok (ns := bk) (by omega) (by omega)
  have hwm := wid_map rs bk
  obtain ⟨x, M, hM, hMl⟩ := cut4 (cut cs (some 20) none)
  have hkl : (ks fs).length ≤ 1000 := by simp [ks]; omega
  obtain ⟨L, hL, hw⟩ := walk_ok (wid rs bk) (by have := w.rl; exact this) fs fl hp w.ri (1 + x)
  have h3 := dSorted_kF fs (by omega)
  have hSl : (sortI (ks fs)).length ≤ 12 := by rw [(sortI_perm (ks fs)).length_eq]; simp [ks]; exact fl
  have hgone := fun z0 z1 z2 z3 z5 z6 z7 z8 z9 z10 z11 z12 z13 => gone_lc z0 z1 z2 z3 z5 z6 z7 z8 z9 z10 z11 z12 z13 L hL (sortI (ks fs)) (by omega)
  obtain ⟨G, hG, hg⟩ := hgone (.fz (.lst (sc.map .int))) (.fz (.lst (cs.map .int))) (.fz (.lst ((wid rs bk).map oI))) (.fz (.lst ((x :: M).map .int))) .no .no .no .no .no .no (.fz (.lst (rs.map oI))) (.fz (eF fs)) (.fz (.lst (bk.map .int)))
  have hKl := cut_le (x :: M) (some 1) (some 3)
  obtain ⟨L', G', t6, hL', hG', hlp⟩ := lwb_loop (.fz (.lst (sc.map .int))) (.ow (.lst (cs.map .int))) (.ow (.lst ((wid rs bk).map oI))) (.ow (.lst ((x :: M).map .int))) .no .no .no .no (.fz (.lst (rs.map oI))) (.fz (.lst (bk.map .int))) .no .no fs hkl (cut (x :: M) (some 1) (some 3)) L G .no (by omega) (by omega)
  have hcp := fun z0 z1 z2 z3 z4 z5 z6 z7 z8 z9 z10 z11 z13 z15 => copy_lc z0 z1 z2 z3 z4 z5 z6 z7 z8 z9 z10 z11 z13 z15 fs fl hnd
  have hcq := copy_pairs fs
  have hcq2 := hcq
  rw [List.map_map] at hcq2
  have hnb := ndB_kF hnd
  have hit := kF_its fs
  have hr := round_ok (rs := rs) (fs := fs) bk w (by omega) (by omega) (by omega) L' G'
  have hg2 := right_ok w L' G'
  have hne := neV_self (rs := rs) hnd
  have hnp := dNe_paper L' G'
  generalize (jd (wid rs bk) fs L' && decide (G' = oth fs (L'.map th))) = B at hr hg2
  generalize hS : sortI (ks fs) = S at h3 hg
  generalize hU : sortU bk = U at hss hwm hul
  generalize hK : cut (x :: M) (some 1) (some 3) = K at hlp
  rw [hwm] at hw hg hlp hg2
  have hzc : (cut cs (some 20) none).length + 4 ≤ 16777216 := by have := cut_le cs (some 20) none; omega
  have hzr : rs.length + U.length ≤ 16777216 := by omega
  simp only [List.map_cons] at hg hlp
  have hK' : cut (x :: M) (some 1) (some 3) = K := hK
  have hsl : dSl (.lst ((cut cs (some 20) none).map D.int ++ [.int 0, .int 0, .int 0, .int 0])) none (some 4) = some (.lst (.int x :: M.map D.int)) := by
    have e : ((cut cs (some 20) none).map D.int ++ [.int 0, .int 0, .int 0, .int 0]) = (cut cs (some 20) none ++ [0, 0, 0, 0]).map D.int := by simp
    have e2 : (D.int x :: M.map D.int) = (x :: M).map D.int := rfl
    rw [e, e2, ← hM]
    exact dSl_ints _ _ _
  have hsk : dSl (.lst (.int x :: M.map D.int)) (some 1) (some 3) = some (.lst (K.map D.int)) := by
    have e2 : (D.int x :: M.map D.int) = (x :: M).map D.int := rfl
    rw [e2, ← hK']
    exact dSl_ints _ _ _
  have i0 : ixN (M.length + 1) 0 = some 0 := ixN_nat (n := M.length + 1) (k := 0) (by omega)
  have hlk : lookT it_bool Tag.bl = some true := rfl
  refine ⟨.fr, [.lst (sc.map .int)], ?_⟩
  simp [hlk, hsl, hsk, i0, pDictM, hcq2, pTupH, hidO, hid1, hc, hv, hss, hM, hw, h3, hg, hlp, hcp, hcq, hnb, hit, hr, hg2, hne, hnp, hzc, hzr, hK', dList, sizeLine, dictM, frzAll_any, frzR_at]
theorem law_true (ns : List Int) (hl : ns.length ≤ 63) (hb : ∀ z ∈ ns, Builtin.Int.intBits z ≤ 1048576) : ∃ S, f_law [.ref 0] [.lck (.lst (ns.map V.int))] = .ok (.bl true) S := run_law j_law (law_ok ns hl)
end Lw
noncomputable section
namespace HeadIn
open PySem PySem.W PySem.Calls PyProof.Rows HeadRun
def nthS : List Stmt → Nat → Stmt
  | [], _ => .Pass ⟨0, 0, 0, 0⟩
  | a :: _, 0 => a
  | _ :: r, n + 1 => nthS r n
abbrev prg : Program := PySem.Challenge.pw_stillheap_k71_papers_judged
def view : Program := { PySem.Challenge.pw_stillheap_k71_papers_judged with main := { (PySem.Challenge.pw_stillheap_k71_papers_judged).main with body := ([0, 2, 3, 5, 6, 7, 9, 10, 11, 13, 14, 15, 17, 18, 19, 20, 21, 22, 23, 24] : List Nat).map (nthS (PySem.Challenge.pw_stillheap_k71_papers_judged).main.body) } }
def lse : List Str := []
def Xs : Shared → Bool := fun s => xlAt view [] s && recOk [] s
abbrev ends (w : World) (os : OsState) : Option SharedT := endF (stepQ (denQ tabQ) prg w) 2204 prg w os
abbrev sq (s : SharedT) := seenQ view lse (importedModules prg.main.body) Xs s.abs
theorem a0 (w : World) (os : OsState) : (ends w os).map (fun s => looksF prg (boot_heap w.params) s.abs) = some true := by kernel_rfl
theorem a1 (w : World) (os : OsState) : (ends w os).map (fun s => (sq s).1) = some (expectedOf view) := by kernel_rfl
theorem a2 (w : World) (os : OsState) : (ends w os).map (fun s => (sq s).2.1) = some (bltViewBooted) := by kernel_rfl
theorem a3 (w : World) (os : OsState) : (ends w os).map (fun s => (sq s).2.2.1) = some (true) := by kernel_rfl
theorem a4 (w : World) (os : OsState) : (ends w os).map (fun s => (sq s).2.2.2.1) = some (true) := by kernel_rfl
theorem a5 (w : World) (os : OsState) : (ends w os).map (fun s => (sq s).2.2.2.2.1) = some (pinGoodD (drecsOf view)) := by kernel_rfl
theorem a6 (w : World) (os : OsState) : (ends w os).map (fun s => (sq s).2.2.2.2.2.1) = some (plainGoodE view (looseW view lse)) := by kernel_rfl
theorem a7 (w : World) (os : OsState) : (ends w os).map (fun s => (sq s).2.2.2.2.2.2.1) = some (plainGoodD view lse) := by kernel_rfl
theorem a8 (w : World) (os : OsState) : (ends w os).map (fun s => (sq s).2.2.2.2.2.2.2.1) = some (wideGood view) := by kernel_rfl
theorem a9 (w : World) (os : OsState) : (ends w os).map (fun s => (sq s).2.2.2.2.2.2.2.2) = some (clsGoodW view lse) := by kernel_rfl
theorem pair_abs {S A B : Type} {R : Option S} {f : S → A × B} {b : A × B} (e1 : R.map (fun s => (f s).1) = some b.1) (e2 : R.map (fun s => (f s).2) = some b.2) : R.map f = some b := by
  cases R with
  | none => cases e1
  | some s => exact congrArg some (Prod.ext (Option.some.inj e1) (Option.some.inj e2))
theorem looks (w : World) (os : OsState) : (ends w os).map (fun s => sq s) = some (openGood view lse) := pair_abs (a1 w os) (pair_abs (a2 w os) (pair_abs (a3 w os) (pair_abs (a4 w os) (pair_abs (a5 w os) (pair_abs (a6 w os) (pair_abs (a7 w os) (pair_abs (a8 w os) (a9 w os))))))))
theorem split_abs {S A B C : Type} {R : Option S} {f : S → A} {g : S → B} {h : S → C} {a : A} {b : B} {c : C} (e1 : R.map f = some a) (e2 : R.map g = some b) (e3 : R.map h = some c) : R.map (fun s => (f s, g s, h s)) = some (a, b, c) := by
  cases R with
  | none => cases e1
  | some s =>
    have e1 := Option.some.inj e1
    have e2 := Option.some.inj e2
    have e3 := Option.some.inj e3
    show some (f s, g s, h s) = _
    rw [e1, e2, e3]
theorem run_split {p q : Program} {M : Nat} {loose mods : List PySem.Str} {Xt : Shared → Bool} {as : List Addr} {V : World → List (Option Obj)} (ep : p = prg) (eM : M = 2204) (em : mods = importedModules prg.main.body) (eq : q = view) (el : loose = lse) (eX : Xt = Xs)
    (h3 : ∀ (w : World) (os : OsState), (endF (stepQ (denQ tabQ) p w) M p w os).map (fun s => as.map (getT s)) = some (V w)) (h4 : True = True) :
    ∀ (w : World) (os : OsState), (endF (stepQ (denQ tabQ) p w) M p w os).map (fun s => (looksF p (boot_heap w.params) s.abs, seenQ q loose mods Xt s.abs, as.map (getT s))) = some (true, openGood q loose, V w) := fun w os => by
  subst ep eM em eq el eX
  exact split_abs (a0 w os) (looks w os) (h3 w os)
end HeadIn
end
open PySem PySem.W PyProof.Rows
section
local macro_rules
  | `(tactic| intro $a:ident $b:ident) => `(tactic| first
    | (with_reducible refine HeadIn.run_split ?e1 ?e2 ?e3 ?e4 ?e5 ?e6 ?h3 ?h4; (case e1 => kernel_rfl); (case e2 => kernel_rfl); (case e3 => kernel_rfl); (case e4 => kernel_rfl); (case e5 => kernel_rfl); (case e6 => kernel_rfl); (case h3 => intro w; intro os; kernel_rfl))
    | (intro $a:ident; intro $b:ident))
set_option maxRecDepth 100000 in
set_option maxHeartbeats 0 in
theorem law_holds_here : PySem.Challenge.rw_stillheap_k71_papers_judged.Holds := by
  w_on; o_law; k_headL; (case hw => w_witness2)
  k_fill
  refine Mi.walk_end (l := PySem.Challenge.rw_stillheap_k71_papers_judged) (k := 5) (x := "script") (T := Lw.T) (f := Lw.f_law) rfl rfl ⟨rfl, by decide, by decide⟩ (fun w h Y => PySem.W.kIn_of Y) ?L ?F Lw.law_true
  case L => intro p; kernel_rfl
  case F =>
    intro w mg fa h KX G hmg
    refine' Lw.all_mk KX G hmg ?ax0 ?ax1 ?zb_all ?zb_len ?zb_dict ?zb_list ?zb_sorted ?zb_sum ?zb_range ?zb_int ?zb_max ?zb_reversed ?zb_set ?zb_isinstance ?zb_bool ?jc1 ?jc2 ?ex0_1 ?ex0_2 ?ex0_3 ?ex0_4 ?ex0_5 ?ex0_6 ?ex1_1 ?ex1_2 ?ex1_3 ?ex1_4 ?ex1_5 ?ex1_6 ?ki_bool_0 ?ki_bool_1 ?kt_bool_NoneType ?kt_bool_bool ?kt_bool_int ?kt_bool_str ?kt_bool_list ?kt_bool_tuple ?kt_bool_dict ?xi_BadView ?xk_BadView ?xt_BadView ?a0 ?l0 ?c0 ?k0 ?a1 ?l1 ?c1 ?k1 ?a2 ?l2 ?c2 ?k2 ?a3 ?l3 ?c3 ?k3 ?a4 ?l4 ?c4 ?k4 ?a5 ?l5 ?c5 ?k5 ?a6 ?l6 ?c6 ?k6 ?a7 ?l7 ?c7 ?k7 ?a8 ?l8 ?c8 ?k8 ?a9 ?l9 ?c9 ?k9 ?a10 ?l10 ?c10 ?k10 ?a11 ?l11 ?c11 ?k11 ?a12 ?l12 ?c12 ?k12 ?a13 ?l13 ?c13 ?k13 ?a14 ?l14 ?c14 ?k14 ?a15 ?l15 ?c15 ?k15 ?a16 ?l16 ?c16 ?k16
    (case ax0 => k_is)
    (case ax1 => k_is)
    (case zb_all => k_is)
    (case zb_len => k_is)
    (case zb_dict => k_is)
    (case zb_list => k_is)
    (case zb_sorted => k_is)
    (case zb_sum => k_is)
    (case zb_range => k_is)
    (case zb_int => k_is)
    (case zb_max => k_is)
    (case zb_reversed => k_is)
    (case zb_set => k_is)
    (case zb_isinstance => k_is)
    (case zb_bool => k_is)
    (case jc1 => k_is)
    (case jc2 => k_is)
    (case ex0_1 => k_is)
    (case ex0_2 => k_is)
    (case ex0_3 => k_is)
    (case ex0_4 => k_is)
    (case ex0_5 => k_is)
    (case ex0_6 => k_is)
    (case ex1_1 => k_is)
    (case ex1_2 => k_is)
    (case ex1_3 => k_is)
    (case ex1_4 => k_is)
    (case ex1_5 => k_is)
    (case ex1_6 => k_is)
    (case ki_bool_0 => kernel_rfl)
    (case ki_bool_1 => kernel_rfl)
    (case kt_bool_NoneType => kernel_rfl)
    (case kt_bool_bool => kernel_rfl)
    (case kt_bool_int => kernel_rfl)
    (case kt_bool_str => kernel_rfl)
    (case kt_bool_list => kernel_rfl)
    (case kt_bool_tuple => kernel_rfl)
    (case kt_bool_dict => kernel_rfl)
    (case xi_BadView => kernel_rfl)
    (case xk_BadView => k_is)
    (case xt_BadView => k_is)
    (case a0 => k_is)
    (case l0 => k_is)
    (case c0 => k_is)
    (case k0 => k_is)
    (case a1 => k_is)
    (case l1 => k_is)
    (case c1 => k_is)
    (case k1 => k_is)
    (case a2 => k_is)
    (case l2 => k_is)
    (case c2 => k_is)
    (case k2 => k_is)
    (case a3 => k_is)
    (case l3 => k_is)
    (case c3 => k_is)
    (case k3 => k_is)
    (case a4 => k_is)
    (case l4 => k_is)
    (case c4 => k_is)
    (case k4 => k_is)
    (case a5 => k_is)
    (case l5 => k_is)
    (case c5 => k_is)
    (case k5 => k_is)
    (case a6 => k_is)
    (case l6 => k_is)
    (case c6 => k_is)
    (case k6 => k_is)
    (case a7 => k_is)
    (case l7 => k_is)
    (case c7 => k_is)
    (case k7 => k_is)
    (case a8 => k_is)
    (case l8 => k_is)
    (case c8 => k_is)
    (case k8 => k_is)
    (case a9 => k_is)
    (case l9 => k_is)
    (case c9 => k_is)
    (case k9 => k_is)
    (case a10 => k_is)
    (case l10 => k_is)
    (case c10 => k_is)
    (case k10 => k_is)
    (case a11 => k_is)
    (case l11 => k_is)
    (case c11 => k_is)
    (case k11 => k_is)
    (case a12 => k_is)
    (case l12 => k_is)
    (case c12 => k_is)
    (case k12 => k_is)
    (case a13 => k_is)
    (case l13 => k_is)
    (case c13 => k_is)
    (case k13 => k_is)
    (case a14 => k_is)
    (case l14 => k_is)
    (case c14 => k_is)
    (case k14 => k_is)
    (case a15 => k_is)
    (case l15 => k_is)
    (case c15 => k_is)
    (case k15 => k_is)
    (case a16 => k_is)
    (case l16 => k_is)
    (case c16 => k_is)
    (case k16 => k_is)
end
theorem PySem.Challenge.cw_stillheap_k71_papers_judged_holds : PySem.Challenge.rw_stillheap_k71_papers_judged.Holds :=
  law_holds_here
